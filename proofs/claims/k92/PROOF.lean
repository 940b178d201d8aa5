import PyProof.Rows.All
import HandS.ForMost
import KE.KMathGC
import KE.DataMinMax
import KE.SortData
import HandS.HeadHook2
import HandS.HeadNt
import HandS.Head3
import HandS.HeadEnd
import PySem.Challenge.RW_nearestword_k92_whole_counts_by_both_roa
import HandS.Gcd
import HandS.IsInst
import HandS.Zip
import HandS.Conv
import HandS.Style
import HandS.Deep
import HandS.Property
import HandS.Rev
import HandS.Defaults
import HandS.CallRecv
import HandS.HeadWalk
set_option Elab.async false
set_option linter.all false
section S_MnCore
/-! A small language over data, its evaluator. -/
namespace MN
open PySem

/-- data -/
inductive D where
  | non
  | bl (b : Bool)
  | int (i : Int)
  | lst (xs : List D)
  | tup (xs : List D)
  | ins (c : Nat) (fs : List D)
  | scr (ns : List Int)
deriving Inhabited

abbrev big : Nat := 16777216

def flat : D → Bool
  | .non => true
  | .bl _ => true
  | .int _ => true
  | _ => false

/-! equality of data without truth values -/
mutual
def eqD : D → D → Bool
  | .non, .non => true
  | .int i, .int j => decide (i = j)
  | .lst xs, .lst ys => eqDs xs ys
  | .tup xs, .tup ys => eqDs xs ys
  | _, _ => false
def eqDs : List D → List D → Bool
  | [], [] => true
  | x :: xs, y :: ys => eqD x y && eqDs xs ys
  | _, _ => false
end
/-- no truth value, no object, so deep at most -/
def okP : Nat → D → Bool
  | _, .non => true
  | _, .int _ => true
  | n + 1, .lst xs => xs.all (okP n)
  | n + 1, .tup xs => xs.all (okP n)
  | _, _ => false

/-! lists of whole numbers -/
def intOf : D → Option Int
  | .int i => some i
  | _ => none
def mapO {α β : Type} (f : α → Option β) : List α → Option (List β)
  | [] => some []
  | x :: xs => (f x).bind fun y => (mapO f xs).bind fun ys => some (y :: ys)
def intsOf (xs : List D) : Option (List Int) := mapO intOf xs
def rowOf : D → Option (List Int)
  | .lst xs => intsOf xs
  | _ => none
def rowsOf (xs : List D) : Option (List (List Int)) := mapO rowOf xs
def dInts (ns : List Int) : D := .lst (ns.map .int)
def minI (x : Int) (xs : List Int) : Int := xs.foldl (fun a y => if y < a then y else a) x
def maxI (x : Int) (xs : List Int) : Int := xs.foldl (fun a y => if a < y then y else a) x
def minR (x : List Int) (xs : List (List Int)) : List Int := xs.foldl (fun a y => if y < a then y else a) x
def combI (a b : Int) : Int := PySem.W.mcComb a b

inductive BOp where
  | add | sub | mul | mod | fdiv | pow
inductive COp where
  | eq | ne | lt | le | gt | ge | is_ | isn | in_ | nin
inductive Bi where
  | len | abs | max2 | min2 | int_ | sum | min1 | max1 | sorted | list_ | comb
deriving DecidableEq

def opD : BOp → D → D → Option D
  | .add, .int i, .int j => some (.int (i + j))
  | .add, .lst xs, .lst ys => if xs.length + ys.length ≤ big then some (.lst (xs ++ ys)) else none
  | .sub, .int i, .int j => some (.int (i - j))
  | .mul, .int i, .int j => if (-(2 ^ 64) < i ∧ i < 2 ^ 64) ∨ (-(2 ^ 64) < j ∧ j < 2 ^ 64) then some (.int (i * j)) else none
  | .mul, .lst xs, .int k => if -(2 ^ 63) ≤ k ∧ k < 2 ^ 63 ∧ xs.length * k.toNat ≤ big then some (.lst (List.replicate k.toNat xs).flatten) else none
  | .mod, .int i, .int j => if 0 < j then some (.int (i % j)) else none
  | .fdiv, .int i, .int j => if 0 < j ∧ j < 1073741824 then some (.int (i / j)) else none
  | .pow, .int i, .int j => if 0 ≤ j ∧ j ≤ 1000000 ∧ i.natAbs < 2 ^ 64 then some (.int (i ^ j.toNat)) else none
  | _, _, _ => none

def isNonD : D → Bool
  | .non => true
  | _ => false

def cmpD : COp → D → D → Option Bool
  | .lt, .int i, .int j => some (decide (i < j))
  | .le, .int i, .int j => some (decide (i ≤ j))
  | .gt, .int i, .int j => some (decide (j < i))
  | .ge, .int i, .int j => some (decide (j ≤ i))
  | .eq, x, y => if okP 4 x && okP 4 y then some (eqD x y) else none
  | .ne, x, y => if okP 4 x && okP 4 y then some (!eqD x y) else none
  | .is_, x, .non => some (isNonD x)
  | .isn, x, .non => some (!isNonD x)
  | .is_, .bl a, .bl b => some (decide (a = b))
  | .isn, .bl a, .bl b => some (!decide (a = b))
  | .in_, x, .lst ys => if okP 4 x && okP 4 (.lst ys) then some (ys.any fun z => eqD z x) else none
  | .nin, x, .lst ys => if okP 4 x && okP 4 (.lst ys) then some (!ys.any fun z => eqD z x) else none
  | _, _, _ => none

def biLen : List D → Option D
  | [.lst xs] => some (.int xs.length)
  | [.tup xs] => some (.int xs.length)
  | _ => none
def biAbs : List D → Option D
  | [.int i] => some (.int (if i < 0 then -i else i))
  | _ => none
def biMax2 : List D → Option D
  | [.int i, .int j] => some (.int (if j > i then j else i))
  | _ => none
def biMin2 : List D → Option D
  | [.int i, .int j] => some (.int (if j < i then j else i))
  | _ => none
def biInt : List D → Option D
  | [.int i] => some (.int i)
  | [.bl b] => some (.int (if b then 1 else 0))
  | _ => none
def biSum : List D → Option D
  | [.lst xs] => (intsOf xs).bind fun ns => some (.int ns.sum)
  | _ => none
def biMin1 : List D → Option D
  | [.lst (.int x :: xs)] => (intsOf xs).bind fun ns => some (.int (minI x ns))
  | [.lst (.lst x :: xs)] => (intsOf x).bind fun n => (rowsOf xs).bind fun ns => if ns.length < big then some (dInts (minR n ns)) else none
  | _ => none
def biMax1 : List D → Option D
  | [.lst (.int x :: xs)] => (intsOf xs).bind fun ns => some (.int (maxI x ns))
  | _ => none
def biSorted : List D → Option D
  | [.lst xs] => (rowsOf xs).bind fun ns => if ns.length ≤ big then some (.lst ((ns.mergeSort fun a b => decide (a ≤ b)).map dInts)) else none
  | _ => none
def biList : List D → Option D
  | [.lst xs] => some (.lst xs)
  | [.tup xs] => some (.lst xs)
  | _ => none
def biComb : List D → Option D
  | [.int a, .int b] => if 0 ≤ a ∧ 0 ≤ b ∧ a ≤ 9000 then some (.int (combI a b)) else none
  | _ => none
def biD : Bi → List D → Option D
  | .len => biLen
  | .abs => biAbs
  | .max2 => biMax2
  | .min2 => biMin2
  | .int_ => biInt
  | .sum => biSum
  | .min1 => biMin1
  | .max1 => biMax1
  | .sorted => biSorted
  | .list_ => biList
  | .comb => biComb

def idxD (x i : D) : Option D := match i with
  | .int k => (match x with
    | .lst xs => L2.atI xs k
    | .tup xs => L2.atI xs k
    | _ => none)
  | _ => none

def cutD {α : Type} (xs : List α) (lo hi : Option Int) : List α := (xs.drop (HT.sIx xs.length 0 lo)).take (HT.sIx xs.length xs.length hi - HT.sIx xs.length 0 lo)

def nodupI : List Int → Bool
  | [] => true
  | x :: xs => !(xs.contains x) && nodupI xs

/-- the first place of an equal one -/
def placeD (y : D) : List D → Nat → Option Nat
  | [], _ => none
  | x :: xs, n => if eqD x y then some n else placeD y xs (n + 1)

/-! syntax -/
inductive Tg where
  | one (i : Nat)
  | two (i j : Nat)
/-- what a loop walks -/
inductive Wk where
  | lst | tup | rg1 | rg2 | rev | zip

inductive ME where
  | nm (i : Nat)
  | glb (g : Nat)
  | int (i : Int)
  | neg (i : Int)
  | bl (b : Bool)
  | non
  | bin (op : BOp) (a b : ME)
  | cmp (op : COp) (a b : ME)
  | chain (op op' : COp) (a b c : ME)
  | and (a b : ME)
  | or (a b : ME)
  | or3 (a b c : ME)
  | not (a : ME)
  | call (f : Nat) (as : ME)
  | mk (c : Nat) (as : ME)
  | meth (f : Nat) (o as : ME)
  | meth0 (f : Nat) (o : ME)
  | prop (f : Nat) (o : ME)
  | bi (b : Bi) (as : ME)
  | isI (a : ME)
  | isB (a : ME)
  | lset (a : ME)
  | lrg (a : ME)
  | idx (a x : ME)
  | fld (c k : Nat) (o : ME)
  | sub (a i : ME)
  | slc (a lo hi : ME)
  | lst (as : ME)
  | tup (as : ME)
  | comp (e : ME) (tg : Tg) (it : Wk) (src cond : ME)
  | nil
  | cons (a as : ME)

inductive MS where
  | set (i : Nat) (e : ME)
  | unp (is : List Nat) (e : ME)
  | sets (x : Nat) (ix e : ME)
  | swp (x : Nat) (i j a b : ME)
  | aug (x : Nat) (ix e : ME)
  | app (x : Nat) (e : ME)
  | ext (x : Nat) (e : ME)
  | pop (x : Nat)
  | exp (e : ME)
  | ite (c : ME) (a b : MS)
  | for_ (tg : Tg) (it : Wk) (src : ME) (body : MS)
  | whl (c : ME) (body : MS)
  | ret (e : ME)
  | nev
  | fset (c k : Nat) (e : ME)
  | nil
  | cons (s ss : MS)

def isNilB : ME → Bool
  | .nil => true
  | _ => false

/-! environments -/
/-- a name's slot: not set; a value; a list of its own; an object that is being made -/
inductive Sl where
  | un
  | sh (d : D)
  | ow (ds : List D)
  | ob (c : Nat) (ds : List D)
deriving Inhabited
abbrev En := List Sl

def Sl.frz : Sl → Sl
  | .ow ds => .sh (.lst ds)
  | .ob _ _ => .un
  | s => s
/-- these names' lists are no longer their own -/
def En.frz (ρ : En) (L : List Nat) : En := ρ.mapIdx fun i s => if L.contains i then s.frz else s

def Tg.put (ρ : En) (d : D) : Tg → Option En
  | .one i => if i < ρ.length then some (ρ.set i (.sh d)) else none
  | .two i j => match d with
    | .tup [x, y] => if i < ρ.length ∧ j < ρ.length ∧ i ≠ j then some ((ρ.set i (.sh x)).set j (.sh y)) else none
    | _ => none
def Tg.slots : Tg → List Nat
  | .one i => [i]
  | .two i j => [i, j]

/-- these names hold no list of their own -/
def Tg.free (tg : Tg) (ρ : En) : Bool := tg.slots.all fun i => match ρ[i]? with
  | some (.ow _) => false
  | some (.ob _ _) => false
  | _ => true

def rgD (lo : Int) (n : Nat) : List D := (List.range n).map fun (i : Nat) => .int (lo + (i : Int))
def okR (i : Int) : Bool := decide (-(2 ^ 62) ≤ i) && decide (i < 2 ^ 62)

def itLst : D → Option (List D)
  | .lst xs => some xs
  | _ => none
def itTup : D → Option (List D)
  | .tup xs => some xs
  | _ => none
def itRg1 : D → Option (List D)
  | .tup [.int j] => if okR j then some (rgD 0 j.toNat) else none
  | _ => none
def itRg2 : D → Option (List D)
  | .tup [.int i, .int j] => if okR i && okR j then some (rgD i (j - i).toNat) else none
  | _ => none
def itRev : D → Option (List D)
  | .tup [.lst xs] => some xs.reverse
  | _ => none
def itZip : D → Option (List D)
  | .tup [.lst xs, .lst ys] => if xs.length = ys.length then some ((xs.zip ys).map fun p => .tup [p.1, p.2]) else none
  | _ => none
/-- the items that a walk yields -/
def itemsD : Wk → D → Option (List D)
  | .lst => itLst
  | .tup => itTup
  | .rg1 => itRg1
  | .rg2 => itRg2
  | .rev => itRev
  | .zip => itZip

/-- a comprehension's elements; keep: some b -/
def compD (g : D → Option (Option D)) : List D → Option (List D)
  | [] => some []
  | x :: xs => (g x).bind fun o => (compD g xs).bind fun ys => some (match o with
    | some y => y :: ys
    | none => ys)

abbrev Res := D × List Nat
/-- a value with no list of its own in it -/
def clean (r : Res) : Option D := match r.2 with
  | [] => some r.1
  | _ => none
def shutD (d : D) (L : List Nat) : Res := if flat d then (d, []) else (d, L)

section
variable (M : Nat → List D → Option D) (G : Nat → Int)
def evE : ME → En → Option Res
  | .nm i, ρ => (match ρ[i]? with
    | some (.sh d) => some (d, [])
    | some (.ow ds) => some (.lst ds, [i])
    | _ => none)
  | .glb g, _ => some (.int (G g), [])
  | .int i, _ => some (.int i, [])
  | .neg i, _ => some (.int (-i), [])
  | .bl b, _ => some (.bl b, [])
  | .non, _ => some (.non, [])
  | .bin op a b, ρ => (evE a ρ).bind fun x => (evE b ρ).bind fun y => (opD op x.1 y.1).bind fun z => some (shutD z (x.2 ++ y.2))
  | .cmp op a b, ρ => (evE a ρ).bind fun x => (evE b ρ).bind fun y => (cmpD op x.1 y.1).bind fun z => some (.bl z, [])
  | .chain op op' a b c, ρ => (evE a ρ).bind fun x => (evE b ρ).bind fun y => (cmpD op x.1 y.1).bind fun z => if z then (evE c ρ).bind fun w => (cmpD op' y.1 w.1).bind fun z' => some (.bl z', []) else some (.bl false, [])
  | .and a b, ρ => (evE a ρ).bind fun x => (match x.1 with
    | .bl true => (evE b ρ).bind fun y => (match y.1 with
      | .bl k => some (.bl k, [])
      | _ => none)
    | .bl false => some (.bl false, [])
    | _ => none)
  | .or a b, ρ => (evE a ρ).bind fun x => (match x.1 with
    | .bl false => (evE b ρ).bind fun y => (match y.1 with
      | .bl k => some (.bl k, [])
      | _ => none)
    | .bl true => some (.bl true, [])
    | _ => none)
  | .or3 a b c, ρ => (evE a ρ).bind fun x => (match x.1 with
    | .bl false => (evE b ρ).bind fun y => (match y.1 with
      | .bl false => (evE c ρ).bind fun z => (match z.1 with
        | .bl k => some (.bl k, [])
        | _ => none)
      | .bl true => some (.bl true, [])
      | _ => none)
    | .bl true => some (.bl true, [])
    | _ => none)
  | .not a, ρ => (evE a ρ).bind fun x => (match x.1 with
    | .bl k => some (.bl (!k), [])
    | _ => none)
  | .call f as, ρ => (evE as ρ).bind fun x => (match x.1 with
    | .tup ds => (M f ds).bind fun d => some (shutD d x.2)
    | _ => none)
  | .mk c as, ρ => (evE as ρ).bind fun x => (match x.1 with
    | .tup ds => (M c ds).bind fun d => some (d, x.2)
    | _ => none)
  | .meth f o as, ρ => (evE o ρ).bind fun x => (evE as ρ).bind fun y => (match y.1 with
    | .tup ds => (M f (x.1 :: ds)).bind fun d => some (shutD d (x.2 ++ y.2))
    | _ => none)
  | .meth0 f o, ρ => (evE o ρ).bind fun x => (M f [x.1]).bind fun d => some (shutD d x.2)
  | .prop f o, ρ => (evE o ρ).bind fun x => (M f [x.1]).bind fun d => some (shutD d x.2)
  | .bi b as, ρ => (evE as ρ).bind fun x => (match x.1 with
    | .tup ds => (biD b ds).bind fun d => some (shutD d x.2)
    | _ => none)
  | .isI a, ρ => (evE a ρ).bind fun x => (match x.1 with
    | .int _ => some (.bl true, [])
    | _ => none)
  | .isB a, ρ => (evE a ρ).bind fun x => (match x.1 with
    | .int _ => some (.bl false, [])
    | _ => none)
  | .lset a, ρ => (evE a ρ).bind fun x => (match x.1 with
    | .lst xs => (intsOf xs).bind fun ns => if nodupI ns && decide (ns.length ≤ 4000) then some (.int ns.length, []) else none
    | _ => none)
  | .lrg a, ρ => (evE a ρ).bind fun x => (match x.1 with
    | .int n => if 0 ≤ n ∧ n ≤ 16777216 then some (.lst (rgD 0 n.toNat), []) else none
    | _ => none)
  | .idx a x, ρ => (evE a ρ).bind fun u => (evE x ρ).bind fun v => (match u.1 with
    | .lst xs => if okP 4 (.lst xs) && okP 4 v.1 then (placeD v.1 xs 0).bind fun n => some (.int n, []) else none
    | _ => none)
  | .fld c k o, ρ => (match o with
    | .nm i => (match ρ[i]? with
      | some (.ob c' ds) => if c = c' then ds[k]?.bind fun d => some (d, []) else none
      | some (.sh (.ins c' ds)) => if c = c' then ds[k]?.bind fun d => some (d, []) else none
      | _ => none)
    | _ => (evE o ρ).bind fun x => (match x.1 with
      | .ins c' ds => if c = c' then ds[k]?.bind fun d => some (shutD d x.2) else none
      | _ => none))
  | .sub a i, ρ => (match a with
    | .nm j => (match ρ[j]? with
      | some (.sh d) => (evE i ρ).bind fun y => (idxD d y.1).bind fun z => some (z, [])
      | some (.ow ds) => (evE i ρ).bind fun y => (idxD (.lst ds) y.1).bind fun z => some (z, [])
      | _ => none)
    | _ => (evE a ρ).bind fun x => (evE i ρ).bind fun y => (idxD x.1 y.1).bind fun z => some (shutD z x.2))
  | .slc a lo hi, ρ => (evE a ρ).bind fun x => (if isNilB lo then some none else (evE lo ρ).bind fun l => (match l.1 with
      | .int i => some (some i)
      | _ => none)).bind fun l => (if isNilB hi then some none else (evE hi ρ).bind fun h => (match h.1 with
      | .int i => some (some i)
      | _ => none)).bind fun h => (match x.1 with
    | .lst xs => some (.lst (cutD xs l h), x.2)
    | .scr ns => some (.lst ((cutD ns l h).map .int), [])
    | _ => none)
  | .lst as, ρ => (evE as ρ).bind fun x => (match x.1 with
    | .tup ds => if ds.length ≤ big then some (.lst ds, x.2) else none
    | _ => none)
  | .tup as, ρ => (evE as ρ).bind fun x => (match x.1 with
    | .tup ds => if ds.length ≤ big then some (.tup ds, x.2) else none
    | _ => none)
  | .comp e tg it src cond, ρ => (evE src ρ).bind fun x => (itemsD it x.1).bind fun its => if !tg.free ρ then none else
    (compD (fun d => (tg.put ((ρ.frz x.2)) d).bind fun ρ' => (evE cond ρ').bind fun c => (match c.1 with
      | .bl false => some none
      | .bl true => (evE e ρ').bind fun y => (clean y).bind fun z => some (some z)
      | .tup [] => (evE e ρ').bind fun y => (clean y).bind fun z => some (some z)
      | _ => none)) its).bind fun ys => if its.length ≤ big then some (.lst ys, x.2) else none
  | .nil, _ => some (.tup [], [])
  | .cons a as, ρ => (evE a ρ).bind fun x => (evE as ρ).bind fun y => (match y.1 with
    | .tup ds => some (.tup (x.1 :: ds), x.2 ++ y.2)
    | _ => none)

/-- what a statement ends in -/
inductive Out where
  | nx (ρ : En)
  | rt (d : D)

/-- e makes a new list of its own at its root -/
def fresh : ME → Bool
  | .lst _ => true
  | .comp .. => true
  | .slc .. => true
  | .lrg _ => true
  | .bi b _ => b == .list_ || b == .sorted
  | .bin .. => true
  | _ => false

def putV (i : Nat) (own : Bool) (r : Res) (ρ : En) : Option En :=
  if i < ρ.length then
    some ((ρ.frz r.2).set i (match own, r.1 with
      | true, .lst ds => .ow ds
      | _, d => .sh d))
  else none

def unpD : List Nat → List D → En → Option En
  | [], [], ρ => some ρ
  | i :: is, d :: ds, ρ => if i < ρ.length then unpD is ds (ρ.set i (.sh d)) else none
  | _, _, _ => none

/-- the name's own list is changed: f of it; r is what goes into it -/
def chg (x : Nat) (L : List Nat) (f : List D → Option (List D)) (ρ : En) : Option En :=
  if L.contains x then none else
  match (ρ.frz L)[x]? with
  | some (.ow ds) => (f ds).bind fun ds' => some ((ρ.frz L).set x (.ow ds'))
  | _ => none

def setIx (i : D) (v : D) (ds : List D) : Option (List D) := match i with
  | .int k => (L2.ixN ds.length k).bind fun j => some (ds.set j v)
  | _ => none

def forD (b : D → En → Option Out) : List D → En → Option Out
  | [], ρ => some (.nx ρ)
  | d :: ds, ρ => (b d ρ).bind fun o => match o with
    | .nx ρ' => forD b ds ρ'
    | .rt v => some (.rt v)
def whlD (c : En → Option Bool) (b : En → Option Out) : Nat → En → Option Out
  | 0, _ => none
  | n + 1, ρ => (c ρ).bind fun k => if k then (b ρ).bind fun o => (match o with
      | .nx ρ' => whlD c b n ρ'
      | .rt v => some (.rt v)) else some (.nx ρ)
def testD (r : Option Res) : Option Bool := r.bind fun x => match x.1 with
  | .bl k => some k
  | _ => none

def evS : MS → En → Option Out
  | .set i e, ρ => (evE M G e ρ).bind fun r => (putV i (fresh e) r ρ).bind fun ρ' => some (.nx ρ')
  | .unp is e, ρ => (evE M G e ρ).bind fun r => (match r.1 with
    | .tup ds => (unpD is ds (ρ.frz r.2)).bind fun ρ' => some (.nx ρ')
    | _ => none)
  | .sets x ix e, ρ => (evE M G e ρ).bind fun r => (evE M G ix ρ).bind fun i => (chg x r.2 (setIx i.1 r.1) ρ).bind fun ρ' => some (.nx ρ')
  | .swp x i j a b, ρ => (evE M G a ρ).bind fun u => (evE M G b ρ).bind fun v => (clean u).bind fun _ => (clean v).bind fun _ => (evE M G i ρ).bind fun p =>
      (chg x [] (setIx p.1 u.1) ρ).bind fun ρ1 => (evE M G j ρ1).bind fun q => (chg x [] (setIx q.1 v.1) ρ1).bind fun ρ2 => some (.nx ρ2)
  | .aug x ix e, ρ => (evE M G ix ρ).bind fun i => (evE M G (.sub (.nm x) ix) ρ).bind fun old => (evE M G e ρ).bind fun r => (match old.1, r.1 with
    | .int p, .int q => (chg x [] (setIx i.1 (.int (p + q))) ρ).bind fun ρ' => some (.nx ρ')
    | _, _ => none)
  | .app x e, ρ => (evE M G e ρ).bind fun r => (chg x r.2 (fun ds => if ds.length < big then some (ds ++ [r.1]) else none) ρ).bind fun ρ' => some (.nx ρ')
  | .ext x e, ρ => (evE M G e ρ).bind fun r => (match r.1 with
    | .lst ys => (chg x r.2 (fun ds => if ds.length + ys.length ≤ big then some (ds ++ ys) else none) ρ).bind fun ρ' => some (.nx ρ')
    | _ => none)
  | .pop x, ρ => (chg x [] (fun ds => if ds.isEmpty then none else some ds.dropLast) ρ).bind fun ρ' => some (.nx ρ')
  | .exp e, ρ => (evE M G e ρ).bind fun _ => some (.nx ρ)
  | .ite c a b, ρ => (testD (evE M G c ρ)).bind fun k => if k then evS a ρ else evS b ρ
  | .for_ tg it src body, ρ => (evE M G src ρ).bind fun x => (itemsD it x.1).bind fun its => forD (fun d ρ' => (tg.put ρ' d).bind fun ρ2 => evS body ρ2) its (ρ.frz x.2)
  | .whl c body, ρ => whlD (fun ρ' => testD (evE M G c ρ')) (fun ρ' => evS body ρ') 5000 ρ
  | .ret e, ρ => (evE M G e ρ).bind fun r => some (.rt r.1)
  | .nev, _ => none
  | .fset c' k e, ρ => (evE M G e ρ).bind fun r => (match ρ[0]? with
    | some (Sl.ob c ds) => if c = c' ∧ ds.length = k ∧ k < 100 ∧ r.2 = [] then some (.nx ((ρ.frz r.2).set 0 (Sl.ob c (ds ++ [r.1])))) else none
    | _ => none)
  | .nil, ρ => some (.nx ρ)
  | .cons s ss, ρ => (evS s ρ).bind fun o => (match o with
    | .nx ρ' => evS ss ρ'
    | .rt d => some (.rt d))
end
end MN
end S_MnCore
section S_MnTb
namespace MN
open PySem PySem.Spec PyProof.Rows L2
/-- the program's names: functions by number (kind 0: a def; 1: a class's __init__; 2: a method; 3: a property), their class, constants -/
structure Tb where
  fnm : Nat → Str
  knd : Nat → Nat
  fcl : Nat → Nat
  cnm : Nat → Str
  cfl : Nat → List Str
  ncl : Nat
  gnm : Nat → Str
  ngl : Nat
end MN
end S_MnTb
section S_MnProg
set_option maxRecDepth 100000
/-! The program's defs in the small language (printed by gen.py). -/
namespace MN
open PySem PySem.Spec PyProof.Rows L2

/-- a def: its text, its names (parameters first), how many parameters, its kind, its class -/
structure DF where
  body : MS
  N : List Str
  ps : Nat
  knd : Nat
  cls : Nat
  nm : Str
  top : Nat
  inn : Nat
  qual : Str
def t_int_power : MS := (.cons (.set 2 (.int 1)) (.cons (.for_ (.one 3) .rg1 (.cons (.nm 1) .nil) (.cons (.set 2 (.bin .mul (.nm 2) (.nm 0))) .nil)) (.cons (.ret (.nm 2)) .nil)))
def d_int_power : DF := ⟨t_int_power, ["base", "exponent", "result", "_"], 2, 0, 0, "int_power", 14, 0, "int_power"⟩
def t_is_prime : MS := (.cons (.ite (.cmp .lt (.nm 0) (.int 2)) (.cons (.ret (.bl false)) .nil) .nil) (.cons (.for_ (.one 1) .rg2 (.cons (.int 2) (.cons (.nm 0) .nil)) (.cons (.ite (.cmp .eq (.bin .mod (.nm 0) (.nm 1)) (.int 0)) (.cons (.ret (.bl false)) .nil) .nil) .nil)) (.cons (.ret (.bl true)) .nil)))
def d_is_prime : DF := ⟨t_is_prime, ["n", "divisor"], 1, 0, 0, "is_prime", 15, 0, "is_prime"⟩
def t_base_digits : MS := (.cons (.set 3 (.lst .nil)) (.cons (.for_ (.one 4) .rg1 (.cons (.nm 2) .nil) (.cons (.app 3 (.bin .mod (.nm 0) (.nm 1))) (.cons (.set 0 (.bin .fdiv (.nm 0) (.nm 1))) .nil))) (.cons (.ret (.nm 3)) .nil)))
def d_base_digits : DF := ⟨t_base_digits, ["n", "base", "size", "digits", "_"], 3, 0, 0, "base_digits", 16, 0, "base_digits"⟩
def t_integer_remainder : MS := (.cons (.set 3 (.bin .sub (.bi .len (.cons (.nm 2) .nil)) (.int 1))) (.cons (.set 4 (.bi .list_ (.cons (.nm 1) .nil))) (.cons (.whl (.cmp .gt (.bi .len (.cons (.nm 4) .nil)) (.nm 3)) (.cons (.set 5 (.sub (.nm 4) (.neg 1))) (.cons (.set 6 (.bin .sub (.bin .sub (.bi .len (.cons (.nm 4) .nil)) (.int 1)) (.nm 3))) (.cons (.for_ (.one 7) .rg1 (.cons (.bin .add (.nm 3) (.int 1)) .nil) (.cons (.sets 4 (.bin .add (.nm 6) (.nm 7)) (.bin .mod (.bin .sub (.sub (.nm 4) (.bin .add (.nm 6) (.nm 7))) (.bin .mul (.nm 5) (.sub (.nm 2) (.nm 7)))) (.nm 0))) .nil)) (.cons (.pop 4) .nil))))) (.cons (.ret (.nm 4)) .nil))))
def d_integer_remainder : DF := ⟨t_integer_remainder, ["prime", "items", "divisor", "size", "rest", "factor", "start", "k"], 3, 0, 0, "integer_remainder", 17, 0, "integer_remainder"⟩
def t_is_irreducible : MS := (.cons (.for_ (.one 2) .rg2 (.cons (.int 1) (.cons (.bin .sub (.bi .len (.cons (.nm 1) .nil)) (.int 1)) .nil)) (.cons (.for_ (.one 3) .rg1 (.cons (.call 0 (.cons (.nm 0) (.cons (.nm 2) .nil))) .nil) (.cons (.set 4 (.bin .add (.call 2 (.cons (.nm 3) (.cons (.nm 0) (.cons (.nm 2) .nil)))) (.lst (.cons (.int 1) .nil)))) (.cons (.set 5 (.call 3 (.cons (.nm 0) (.cons (.nm 1) (.cons (.nm 4) .nil))))) (.cons (.ite (.cmp .eq (.nm 5) (.bin .mul (.lst (.cons (.int 0) .nil)) (.nm 2))) (.cons (.ret (.bl false)) .nil) .nil) .nil)))) .nil)) (.cons (.ret (.bl true)) .nil))
def d_is_irreducible : DF := ⟨t_is_irreducible, ["prime", "modulus", "size", "n", "divisor", "rest"], 2, 0, 0, "is_irreducible", 18, 0, "is_irreducible"⟩
def t_is_modulus : MS := (.cons (.ite (.or3 (.cmp .lt (.bi .len (.cons (.nm 1) .nil)) (.int 2)) (.cmp .gt (.bi .len (.cons (.nm 1) .nil)) (.int 9)) (.cmp .ne (.sub (.nm 1) (.neg 1)) (.int 1))) (.cons (.ret (.bl false)) .nil) .nil) (.cons (.ite (.cmp .gt (.call 0 (.cons (.nm 0) (.cons (.bin .sub (.bi .len (.cons (.nm 1) .nil)) (.int 1)) .nil))) (.glb 1)) (.cons (.ret (.bl false)) .nil) .nil) (.cons (.for_ (.one 2) .tup (.nm 1) (.cons (.ite (.or (.cmp .lt (.nm 2) (.int 0)) (.cmp .ge (.nm 2) (.nm 0))) (.cons (.ret (.bl false)) .nil) .nil) .nil)) (.cons (.ret (.call 4 (.cons (.nm 0) (.cons (.nm 1) .nil)))) .nil))))
def d_is_modulus : DF := ⟨t_is_modulus, ["prime", "modulus", "item"], 2, 0, 0, "is_modulus", 19, 0, "is_modulus"⟩
def t_Field_init : MS := (.cons (.ite (.or (.cmp .gt (.nm 1) (.glb 0)) (.not (.call 1 (.cons (.nm 1) .nil)))) (.cons .nev .nil) .nil) (.cons (.ite (.not (.call 5 (.cons (.nm 1) (.cons (.nm 2) .nil)))) (.cons .nev .nil) .nil) (.cons (.fset 0 0 (.nm 1)) (.cons (.fset 0 1 (.nm 2)) (.cons (.fset 0 2 (.bin .sub (.bi .len (.cons (.nm 2) .nil)) (.int 1))) (.cons (.fset 0 3 (.call 0 (.cons (.nm 1) (.cons (.fld 0 2 (.nm 0)) .nil)))) .nil))))))
def d_Field_init : DF := ⟨t_Field_init, ["self", "prime", "modulus"], 3, 1, 0, "__init__", 20, 0, "Field.__init__"⟩
def t_Field_digits : MS := (.cons (.ret (.call 2 (.cons (.nm 1) (.cons (.fld 0 0 (.nm 0)) (.cons (.fld 0 2 (.nm 0)) .nil))))) .nil)
def d_Field_digits : DF := ⟨t_Field_digits, ["self", "a"], 2, 2, 0, "digits", 20, 1, "Field.digits"⟩
def t_Field_element : MS := (.cons (.set 2 (.int 0)) (.cons (.for_ (.one 3) .rev (.cons (.nm 1) .nil) (.cons (.set 2 (.bin .add (.bin .mul (.nm 2) (.fld 0 0 (.nm 0))) (.nm 3))) .nil)) (.cons (.ret (.nm 2)) .nil)))
def d_Field_element : DF := ⟨t_Field_element, ["self", "digits", "result", "digit"], 2, 2, 0, "element", 20, 2, "Field.element"⟩
def t_Field_plus : MS := (.cons (.ite (.cmp .eq (.fld 0 2 (.nm 0)) (.int 1)) (.cons (.ret (.bin .mod (.bin .add (.nm 1) (.nm 2)) (.fld 0 0 (.nm 0)))) .nil) .nil) (.cons (.set 3 (.meth 7 (.nm 0) (.cons (.nm 1) .nil))) (.cons (.set 4 (.meth 7 (.nm 0) (.cons (.nm 2) .nil))) (.cons (.ret (.meth 8 (.nm 0) (.cons (.comp (.bin .mod (.bin .add (.sub (.nm 3) (.nm 5)) (.sub (.nm 4) (.nm 5))) (.fld 0 0 (.nm 0))) (.one 5) .rg1 (.cons (.fld 0 2 (.nm 0)) .nil) .nil) .nil))) .nil))))
def d_Field_plus : DF := ⟨t_Field_plus, ["self", "a", "b", "first", "second", "k"], 3, 2, 0, "plus", 20, 4, "Field.plus"⟩
def t_Field_negative : MS := (.cons (.ret (.meth 8 (.nm 0) (.cons (.comp (.bin .mod (.bin .sub (.int 0) (.nm 2)) (.fld 0 0 (.nm 0))) (.one 2) .lst (.meth 7 (.nm 0) (.cons (.nm 1) .nil)) .nil) .nil))) .nil)
def d_Field_negative : DF := ⟨t_Field_negative, ["self", "a", "digit"], 2, 2, 0, "negative", 20, 5, "Field.negative"⟩
def t_Field_minus : MS := (.cons (.ret (.meth 9 (.nm 0) (.cons (.nm 1) (.cons (.meth 10 (.nm 0) (.cons (.nm 2) .nil)) .nil)))) .nil)
def d_Field_minus : DF := ⟨t_Field_minus, ["self", "a", "b"], 3, 2, 0, "minus", 20, 6, "Field.minus"⟩
def t_Field_times : MS := (.cons (.ite (.cmp .eq (.fld 0 2 (.nm 0)) (.int 1)) (.cons (.ret (.bin .mod (.bin .mul (.nm 1) (.nm 2)) (.fld 0 0 (.nm 0)))) .nil) .nil) (.cons (.set 3 (.meth 7 (.nm 0) (.cons (.nm 1) .nil))) (.cons (.set 4 (.meth 7 (.nm 0) (.cons (.nm 2) .nil))) (.cons (.set 5 (.bin .mul (.lst (.cons (.int 0) .nil)) (.bin .sub (.bin .mul (.int 2) (.fld 0 2 (.nm 0))) (.int 1)))) (.cons (.for_ (.one 6) .rg1 (.cons (.fld 0 2 (.nm 0)) .nil) (.cons (.for_ (.one 7) .rg1 (.cons (.fld 0 2 (.nm 0)) .nil) (.cons (.sets 5 (.bin .add (.nm 6) (.nm 7)) (.bin .mod (.bin .add (.sub (.nm 5) (.bin .add (.nm 6) (.nm 7))) (.bin .mul (.sub (.nm 3) (.nm 6)) (.sub (.nm 4) (.nm 7)))) (.fld 0 0 (.nm 0)))) .nil)) .nil)) (.cons (.ret (.meth 8 (.nm 0) (.cons (.call 3 (.cons (.fld 0 0 (.nm 0)) (.cons (.nm 5) (.cons (.fld 0 1 (.nm 0)) .nil)))) .nil))) .nil))))))
def d_Field_times : DF := ⟨t_Field_times, ["self", "a", "b", "first", "second", "product", "i", "j"], 3, 2, 0, "times", 20, 7, "Field.times"⟩
def t_Field_inverse : MS := (.cons (.ite (.cmp .eq (.nm 1) (.int 0)) (.cons .nev .nil) .nil) (.cons (.set 2 (.int 1)) (.cons (.whl (.cmp .ne (.meth 12 (.nm 0) (.cons (.nm 1) (.cons (.nm 2) .nil))) (.int 1)) (.cons (.set 2 (.bin .add (.nm 2) (.int 1))) .nil)) (.cons (.ret (.nm 2)) .nil))))
def d_Field_inverse : DF := ⟨t_Field_inverse, ["self", "a", "b"], 2, 2, 0, "inverse", 20, 8, "Field.inverse"⟩
def t_Field_over : MS := (.cons (.ret (.meth 12 (.nm 0) (.cons (.nm 1) (.cons (.meth 13 (.nm 0) (.cons (.nm 2) .nil)) .nil)))) .nil)
def d_Field_over : DF := ⟨t_Field_over, ["self", "a", "b"], 3, 2, 0, "over", 20, 9, "Field.over"⟩
def t_Field_power : MS := (.cons (.set 3 (.int 1)) (.cons (.set 4 (.nm 1)) (.cons (.whl (.cmp .gt (.nm 2) (.int 0)) (.cons (.ite (.cmp .eq (.bin .mod (.nm 2) (.int 2)) (.int 1)) (.cons (.set 3 (.meth 12 (.nm 0) (.cons (.nm 3) (.cons (.nm 4) .nil)))) .nil) .nil) (.cons (.set 4 (.meth 12 (.nm 0) (.cons (.nm 4) (.cons (.nm 4) .nil)))) (.cons (.set 2 (.bin .fdiv (.nm 2) (.int 2))) .nil)))) (.cons (.ret (.nm 3)) .nil))))
def d_Field_power : DF := ⟨t_Field_power, ["self", "a", "exponent", "result", "square"], 3, 2, 0, "power", 20, 10, "Field.power"⟩
def t_Field_same_as : MS := (.cons (.ret (.and (.cmp .eq (.fld 0 0 (.nm 0)) (.fld 0 0 (.nm 1))) (.cmp .eq (.fld 0 1 (.nm 0)) (.fld 0 1 (.nm 1))))) .nil)
def d_Field_same_as : DF := ⟨t_Field_same_as, ["self", "other"], 2, 2, 0, "same_as", 20, 14, "Field.same_as"⟩
def t_check_width : MS := (.cons (.for_ (.one 2) .lst (.nm 0) (.cons (.ite (.cmp .ne (.bi .len (.cons (.nm 2) .nil)) (.nm 1)) (.cons .nev .nil) .nil) .nil)) .nil)
def d_check_width : DF := ⟨t_check_width, ["rows", "width", "row"], 2, 0, 0, "check_width", 22, 0, "check_width"⟩
def t_dot_product : MS := (.cons (.set 3 (.int 0)) (.cons (.for_ (.one 4) .rg1 (.cons (.bi .len (.cons (.nm 1) .nil)) .nil) (.cons (.set 3 (.meth 9 (.nm 0) (.cons (.nm 3) (.cons (.meth 12 (.nm 0) (.cons (.sub (.nm 1) (.nm 4)) (.cons (.sub (.nm 2) (.nm 4)) .nil))) .nil)))) .nil)) (.cons (.ret (.nm 3)) .nil)))
def d_dot_product : DF := ⟨t_dot_product, ["field", "first", "second", "result", "k"], 3, 0, 0, "dot_product", 23, 0, "dot_product"⟩
def t_row_with_pivot : MS := (.cons (.for_ (.one 3) .rg2 (.cons (.nm 1) (.cons (.bi .len (.cons (.nm 0) .nil)) .nil)) (.cons (.ite (.cmp .ne (.sub (.sub (.nm 0) (.nm 3)) (.nm 2)) (.int 0)) (.cons (.ret (.nm 3)) .nil) .nil) .nil)) (.cons (.ret .non) .nil))
def d_row_with_pivot : DF := ⟨t_row_with_pivot, ["rows", "begin", "column", "k"], 3, 0, 0, "row_with_pivot", 24, 0, "row_with_pivot"⟩
def t_without_multiple : MS := (.cons (.ret (.comp (.meth 11 (.nm 0) (.cons (.sub (.nm 1) (.nm 4)) (.cons (.meth 12 (.nm 0) (.cons (.nm 2) (.cons (.sub (.nm 3) (.nm 4)) .nil))) .nil))) (.one 4) .rg1 (.cons (.bi .len (.cons (.nm 1) .nil)) .nil) .nil)) .nil)
def d_without_multiple : DF := ⟨t_without_multiple, ["field", "row", "factor", "other", "k"], 4, 0, 0, "without_multiple", 25, 0, "without_multiple"⟩
def t_reduce_rows : MS := (.cons (.ite (.cmp .eq (.bi .len (.cons (.nm 1) .nil)) (.int 0)) (.cons (.ret (.tup (.cons (.lst .nil) (.cons (.lst .nil) .nil)))) .nil) .nil) (.cons (.set 2 (.bi .len (.cons (.sub (.nm 1) (.int 0)) .nil))) (.cons (.exp (.call 17 (.cons (.nm 1) (.cons (.nm 2) .nil)))) (.cons (.set 3 (.comp (.bi .list_ (.cons (.nm 8) .nil)) (.one 8) .lst (.nm 1) .nil)) (.cons (.set 4 (.lst .nil)) (.cons (.for_ (.one 5) .rg1 (.cons (.nm 2) .nil) (.cons (.set 6 (.bi .len (.cons (.nm 4) .nil))) (.cons (.set 7 (.call 19 (.cons (.nm 3) (.cons (.nm 6) (.cons (.nm 5) .nil))))) (.cons (.ite (.cmp .isn (.nm 7) .non) (.cons (.swp 3 (.nm 6) (.nm 7) (.sub (.nm 3) (.nm 7)) (.sub (.nm 3) (.nm 6))) (.cons (.set 9 (.meth 13 (.nm 0) (.cons (.sub (.sub (.nm 3) (.nm 6)) (.nm 5)) .nil))) (.cons (.sets 3 (.nm 6) (.comp (.meth 12 (.nm 0) (.cons (.nm 11) (.cons (.nm 9) .nil))) (.one 11) .lst (.sub (.nm 3) (.nm 6)) .nil)) (.cons (.for_ (.one 10) .rg1 (.cons (.bi .len (.cons (.nm 3) .nil)) .nil) (.cons (.ite (.and (.cmp .ne (.nm 10) (.nm 6)) (.cmp .ne (.sub (.sub (.nm 3) (.nm 10)) (.nm 5)) (.int 0))) (.cons (.sets 3 (.nm 10) (.call 20 (.cons (.nm 0) (.cons (.sub (.nm 3) (.nm 10)) (.cons (.sub (.sub (.nm 3) (.nm 10)) (.nm 5)) (.cons (.sub (.nm 3) (.nm 6)) .nil)))))) .nil) .nil) .nil)) (.cons (.app 4 (.nm 5)) .nil))))) .nil) .nil)))) (.cons (.ret (.tup (.cons (.slc (.nm 3) .nil (.bi .len (.cons (.nm 4) .nil))) (.cons (.nm 4) .nil)))) .nil)))))))
def d_reduce_rows : DF := ⟨t_reduce_rows, ["field", "rows", "width", "work", "pivots", "column", "place", "found", "row", "factor", "k", "item"], 2, 0, 0, "reduce_rows", 26, 0, "reduce_rows"⟩
def t_rank_of : MS := (.cons (.exp (.call 17 (.cons (.nm 1) (.cons (.nm 2) .nil)))) (.cons (.ret (.bi .len (.cons (.sub (.call 21 (.cons (.nm 0) (.cons (.nm 1) .nil))) (.int 1)) .nil))) .nil))
def d_rank_of : DF := ⟨t_rank_of, ["field", "rows", "width"], 3, 0, 0, "rank_of", 27, 0, "rank_of"⟩
def t_kernel : MS := (.cons (.exp (.call 17 (.cons (.nm 1) (.cons (.nm 2) .nil)))) (.cons (.unp [5, 6] (.call 21 (.cons (.nm 0) (.cons (.nm 1) .nil)))) (.cons (.set 3 (.lst .nil)) (.cons (.for_ (.one 4) .rg1 (.cons (.nm 2) .nil) (.cons (.ite (.cmp .nin (.nm 4) (.nm 6)) (.cons (.set 7 (.bin .mul (.lst (.cons (.int 0) .nil)) (.nm 2))) (.cons (.sets 7 (.nm 4) (.int 1)) (.cons (.for_ (.one 8) .rg1 (.cons (.bi .len (.cons (.nm 6) .nil)) .nil) (.cons (.sets 7 (.sub (.nm 6) (.nm 8)) (.meth 10 (.nm 0) (.cons (.sub (.sub (.nm 5) (.nm 8)) (.nm 4)) .nil))) .nil)) (.cons (.app 3 (.nm 7)) .nil)))) .nil) .nil)) (.cons (.ret (.nm 3)) .nil)))))
def d_kernel : DF := ⟨t_kernel, ["field", "rows", "width", "result", "column", "reduced", "pivots", "vector", "k"], 3, 0, 0, "kernel", 28, 0, "kernel"⟩
def t_multiply_vector : MS := (.cons (.exp (.call 17 (.cons (.nm 1) (.cons (.bi .len (.cons (.nm 2) .nil)) .nil)))) (.cons (.ret (.comp (.call 18 (.cons (.nm 0) (.cons (.nm 3) (.cons (.nm 2) .nil)))) (.one 3) .lst (.nm 1) .nil)) .nil))
def d_multiply_vector : DF := ⟨t_multiply_vector, ["field", "rows", "vector", "row"], 3, 0, 0, "multiply_vector", 29, 0, "multiply_vector"⟩
def t_transpose : MS := (.cons (.exp (.call 17 (.cons (.nm 0) (.cons (.nm 1) .nil)))) (.cons (.ret (.comp (.comp (.sub (.nm 3) (.nm 2)) (.one 3) .lst (.nm 0) .nil) (.one 2) .rg1 (.cons (.nm 1) .nil) .nil)) .nil))
def d_transpose : DF := ⟨t_transpose, ["rows", "width", "column", "row"], 2, 0, 0, "transpose", 30, 0, "transpose"⟩
def t_multiply_matrices : MS := (.cons (.exp (.call 17 (.cons (.nm 1) (.cons (.bi .len (.cons (.nm 2) .nil)) .nil)))) (.cons (.set 4 (.call 25 (.cons (.nm 2) (.cons (.nm 3) .nil)))) (.cons (.ret (.comp (.comp (.call 18 (.cons (.nm 0) (.cons (.nm 5) (.cons (.nm 6) .nil)))) (.one 6) .lst (.nm 4) .nil) (.one 5) .lst (.nm 1) .nil)) .nil)))
def d_multiply_matrices : DF := ⟨t_multiply_matrices, ["field", "first", "second", "width", "columns", "row", "column"], 4, 0, 0, "multiply_matrices", 31, 0, "multiply_matrices"⟩
def t_invert_matrix : MS := (.cons (.set 2 (.bi .len (.cons (.nm 1) .nil))) (.cons (.exp (.call 17 (.cons (.nm 1) (.cons (.nm 2) .nil)))) (.cons (.set 3 (.comp (.bin .add (.sub (.nm 1) (.nm 6)) (.comp (.bi .int_ (.cons (.cmp .eq (.nm 6) (.nm 8)) .nil)) (.one 8) .rg1 (.cons (.nm 2) .nil) .nil)) (.one 6) .rg1 (.cons (.nm 2) .nil) .nil)) (.cons (.unp [4, 5] (.call 21 (.cons (.nm 0) (.cons (.nm 3) .nil)))) (.cons (.ite (.cmp .ne (.nm 5) (.lrg (.nm 2))) (.cons .nev .nil) .nil) (.cons (.ret (.comp (.slc (.nm 7) (.nm 2) .nil) (.one 7) .lst (.nm 4) .nil)) .nil))))))
def d_invert_matrix : DF := ⟨t_invert_matrix, ["field", "rows", "size", "extended", "reduced", "pivots", "k", "row", "j"], 2, 0, 0, "invert_matrix", 32, 0, "invert_matrix"⟩
def t_weight_of : MS := (.cons (.ret (.bi .len (.cons (.call 29 (.cons (.nm 0) .nil)) .nil))) .nil)
def d_weight_of : DF := ⟨t_weight_of, ["word"], 1, 0, 0, "weight_of", 34, 0, "weight_of"⟩
def t_support_of : MS := (.cons (.ret (.comp (.nm 1) (.one 1) .rg1 (.cons (.bi .len (.cons (.nm 0) .nil)) .nil) (.cmp .ne (.sub (.nm 0) (.nm 1)) (.int 0)))) .nil)
def d_support_of : DF := ⟨t_support_of, ["word", "position"], 1, 0, 0, "support_of", 35, 0, "support_of"⟩
def t_check_lengths : MS := (.cons (.ite (.cmp .ne (.bi .len (.cons (.nm 0) .nil)) (.bi .len (.cons (.nm 1) .nil))) (.cons .nev .nil) .nil) .nil)
def d_check_lengths : DF := ⟨t_check_lengths, ["first", "second"], 2, 0, 0, "check_lengths", 36, 0, "check_lengths"⟩
def t_erased_positions : MS := (.cons (.ret (.comp (.nm 1) (.one 1) .rg1 (.cons (.bi .len (.cons (.nm 0) .nil)) .nil) (.cmp .is_ (.sub (.nm 0) (.nm 1)) .non))) .nil)
def d_erased_positions : DF := ⟨t_erased_positions, ["received", "position"], 1, 0, 0, "erased_positions", 37, 0, "erased_positions"⟩
def t_is_word : MS := (.cons (.ret (.and (.call 33 (.cons (.nm 0) (.cons (.nm 1) (.cons (.nm 2) .nil)))) (.cmp .eq (.bi .len (.cons (.call 31 (.cons (.nm 2) .nil)) .nil)) (.int 0)))) .nil)
def d_is_word : DF := ⟨t_is_word, ["field", "length", "word"], 3, 0, 0, "is_word", 38, 0, "is_word"⟩
def t_is_received : MS := (.cons (.ite (.cmp .ne (.bi .len (.cons (.nm 2) .nil)) (.nm 1)) (.cons (.ret (.bl false)) .nil) .nil) (.cons (.for_ (.one 3) .lst (.nm 2) (.cons (.ite (.and (.cmp .isn (.nm 3) .non) (.not (.chain .le .lt (.int 0) (.nm 3) (.fld 0 3 (.nm 0))))) (.cons (.ret (.bl false)) .nil) .nil) .nil)) (.cons (.ret (.bl true)) .nil)))
def d_is_received : DF := ⟨t_is_received, ["field", "length", "received", "item"], 3, 0, 0, "is_received", 39, 0, "is_received"⟩
def t_zero_word : MS := (.cons (.ret (.bin .mul (.lst (.cons (.int 0) .nil)) (.nm 0))) .nil)
def d_zero_word : DF := ⟨t_zero_word, ["length"], 1, 0, 0, "zero_word", 40, 0, "zero_word"⟩
def t_check_words : MS := (.cons (.exp (.call 30 (.cons (.nm 1) (.cons (.nm 2) .nil)))) (.cons (.ite (.or (.not (.call 32 (.cons (.nm 0) (.cons (.bi .len (.cons (.nm 1) .nil)) (.cons (.nm 1) .nil))))) (.not (.call 32 (.cons (.nm 0) (.cons (.bi .len (.cons (.nm 2) .nil)) (.cons (.nm 2) .nil)))))) (.cons .nev .nil) .nil) .nil))
def d_check_words : DF := ⟨t_check_words, ["field", "first", "second"], 3, 0, 0, "check_words", 41, 0, "check_words"⟩
def t_add_words : MS := (.cons (.exp (.call 35 (.cons (.nm 0) (.cons (.nm 1) (.cons (.nm 2) .nil))))) (.cons (.ret (.comp (.meth 9 (.nm 0) (.cons (.nm 3) (.cons (.nm 4) .nil))) (.two 3 4) .zip (.cons (.nm 1) (.cons (.nm 2) .nil)) .nil)) .nil))
def d_add_words : DF := ⟨t_add_words, ["field", "first", "second", "a", "b"], 3, 0, 0, "add_words", 42, 0, "add_words"⟩
def t_scale_word : MS := (.cons (.ite (.or (.not (.call 32 (.cons (.nm 0) (.cons (.int 1) (.cons (.lst (.cons (.nm 1) .nil)) .nil))))) (.not (.call 32 (.cons (.nm 0) (.cons (.bi .len (.cons (.nm 2) .nil)) (.cons (.nm 2) .nil)))))) (.cons .nev .nil) .nil) (.cons (.ret (.comp (.meth 12 (.nm 0) (.cons (.nm 1) (.cons (.nm 3) .nil))) (.one 3) .lst (.nm 2) .nil)) .nil))
def d_scale_word : DF := ⟨t_scale_word, ["field", "factor", "word", "item"], 3, 0, 0, "scale_word", 43, 0, "scale_word"⟩
def t_check_rows : MS := (.cons (.ite (.not (.chain .le .le (.int 1) (.nm 1) (.glb 2))) (.cons .nev .nil) .nil) (.cons (.for_ (.one 3) .lst (.nm 2) (.cons (.ite (.not (.call 32 (.cons (.nm 0) (.cons (.nm 1) (.cons (.nm 3) .nil))))) (.cons .nev .nil) .nil) .nil)) .nil))
def d_check_rows : DF := ⟨t_check_rows, ["field", "length", "rows", "row"], 3, 0, 0, "check_rows", 47, 0, "check_rows"⟩
def t_LinearCode_init : MS := (.cons (.exp (.call 38 (.cons (.nm 1) (.cons (.nm 2) (.cons (.nm 3) .nil))))) (.cons (.unp [4, 5] (.call 21 (.cons (.nm 1) (.cons (.nm 3) .nil)))) (.cons (.fset 1 0 (.nm 1)) (.cons (.fset 1 1 (.nm 2)) (.cons (.fset 1 2 (.bi .len (.cons (.nm 4) .nil))) (.cons (.fset 1 3 (.nm 4)) (.cons (.fset 1 4 (.nm 5)) (.cons (.fset 1 5 (.call 23 (.cons (.nm 1) (.cons (.nm 4) (.cons (.nm 2) .nil))))) (.cons (.fset 1 6 (.call 0 (.cons (.fld 0 3 (.nm 1)) (.cons (.bi .len (.cons (.nm 4) .nil)) .nil)))) .nil)))))))))
def d_LinearCode_init : DF := ⟨t_LinearCode_init, ["self", "field", "length", "rows", "reduced", "pivots"], 4, 1, 1, "__init__", 48, 0, "LinearCode.__init__"⟩
def t_LinearCode_rows : MS := (.cons (.ret (.comp (.bi .list_ (.cons (.nm 1) .nil)) (.one 1) .lst (.fld 1 3 (.nm 0)) .nil)) .nil)
def d_LinearCode_rows : DF := ⟨t_LinearCode_rows, ["self", "row"], 1, 3, 1, "rows", 48, 1, "LinearCode.rows"⟩
def t_LinearCode_pivots : MS := (.cons (.ret (.bi .list_ (.cons (.fld 1 4 (.nm 0)) .nil))) .nil)
def d_LinearCode_pivots : DF := ⟨t_LinearCode_pivots, ["self"], 1, 3, 1, "pivots", 48, 2, "LinearCode.pivots"⟩
def t_LinearCode_checks : MS := (.cons (.ret (.comp (.bi .list_ (.cons (.nm 1) .nil)) (.one 1) .lst (.fld 1 5 (.nm 0)) .nil)) .nil)
def d_LinearCode_checks : DF := ⟨t_LinearCode_checks, ["self", "row"], 1, 3, 1, "checks", 48, 3, "LinearCode.checks"⟩
def t_LinearCode_size : MS := (.cons (.ret (.fld 1 6 (.nm 0))) .nil)
def d_LinearCode_size : DF := ⟨t_LinearCode_size, ["self"], 1, 3, 1, "size", 48, 4, "LinearCode.size"⟩
def t_LinearCode_check_word : MS := (.cons (.ite (.not (.call 32 (.cons (.fld 1 0 (.nm 0)) (.cons (.fld 1 1 (.nm 0)) (.cons (.nm 1) .nil))))) (.cons .nev .nil) .nil) .nil)
def d_LinearCode_check_word : DF := ⟨t_LinearCode_check_word, ["self", "word"], 2, 2, 1, "check_word", 48, 5, "LinearCode.check_word"⟩
def t_LinearCode_syndrome : MS := (.cons (.exp (.meth 44 (.nm 0) (.cons (.nm 1) .nil))) (.cons (.ret (.call 24 (.cons (.fld 1 0 (.nm 0)) (.cons (.fld 1 5 (.nm 0)) (.cons (.nm 1) .nil))))) .nil))
def d_LinearCode_syndrome : DF := ⟨t_LinearCode_syndrome, ["self", "word"], 2, 2, 1, "syndrome", 48, 7, "LinearCode.syndrome"⟩
def t_LinearCode_contains : MS := (.cons (.for_ (.one 2) .lst (.meth 45 (.nm 0) (.cons (.nm 1) .nil)) (.cons (.ite (.cmp .ne (.nm 2) (.int 0)) (.cons (.ret (.bl false)) .nil) .nil) .nil)) (.cons (.ret (.bl true)) .nil))
def d_LinearCode_contains : DF := ⟨t_LinearCode_contains, ["self", "word", "item"], 2, 2, 1, "contains", 48, 8, "LinearCode.contains"⟩
def t_LinearCode_words : MS := (.cons (.ite (.cmp .gt (.fld 1 6 (.nm 0)) (.glb 3)) (.cons .nev .nil) .nil) (.cons (.set 1 (.lst (.cons (.call 34 (.cons (.fld 1 1 (.nm 0)) .nil)) .nil))) (.cons (.for_ (.one 2) .rev (.cons (.fld 1 3 (.nm 0)) .nil) (.cons (.set 3 (.lst .nil)) (.cons (.for_ (.one 4) .rg1 (.cons (.fld 0 3 (.fld 1 0 (.nm 0))) .nil) (.cons (.set 5 (.call 37 (.cons (.fld 1 0 (.nm 0)) (.cons (.nm 4) (.cons (.nm 2) .nil))))) (.cons (.for_ (.one 6) .lst (.nm 1) (.cons (.app 3 (.call 36 (.cons (.fld 1 0 (.nm 0)) (.cons (.nm 5) (.cons (.nm 6) .nil))))) .nil)) .nil))) (.cons (.set 1 (.nm 3)) .nil)))) (.cons (.ret (.nm 1)) .nil))))
def d_LinearCode_words : DF := ⟨t_LinearCode_words, ["self", "words", "row", "longer", "factor", "multiple", "word"], 1, 2, 1, "words", 48, 10, "LinearCode.words"⟩
def t_LinearCode_same_as : MS := (.cons (.ite (.or (.cmp .ne (.fld 1 1 (.nm 0)) (.fld 1 1 (.nm 1))) (.not (.meth 16 (.fld 1 0 (.nm 0)) (.cons (.fld 1 0 (.nm 1)) .nil)))) (.cons (.ret (.bl false)) .nil) .nil) (.cons (.ret (.cmp .eq (.prop 40 (.nm 0)) (.prop 40 (.nm 1)))) .nil))
def d_LinearCode_same_as : DF := ⟨t_LinearCode_same_as, ["self", "other"], 2, 2, 1, "same_as", 48, 11, "LinearCode.same_as"⟩
def t_code_from_checks : MS := (.cons (.exp (.call 38 (.cons (.nm 0) (.cons (.nm 1) (.cons (.nm 2) .nil))))) (.cons (.ret (.mk 39 (.cons (.nm 0) (.cons (.nm 1) (.cons (.call 23 (.cons (.nm 0) (.cons (.nm 2) (.cons (.nm 1) .nil)))) .nil))))) .nil))
def d_code_from_checks : DF := ⟨t_code_from_checks, ["field", "length", "checks"], 3, 0, 0, "code_from_checks", 49, 0, "code_from_checks"⟩
def t_dual : MS := (.cons (.ret (.mk 39 (.cons (.fld 1 0 (.nm 0)) (.cons (.fld 1 1 (.nm 0)) (.cons (.prop 42 (.nm 0)) .nil))))) .nil)
def d_dual : DF := ⟨t_dual, ["code"], 1, 0, 0, "dual", 51, 0, "dual"⟩
def t_kept_positions : MS := (.cons (.set 2 (.comp (.nm 3) (.one 3) .rg1 (.cons (.fld 1 1 (.nm 0)) .nil) (.cmp .nin (.nm 3) (.nm 1)))) (.cons (.ite (.cmp .ne (.bin .add (.bi .len (.cons (.nm 2) .nil)) (.bi .len (.cons (.nm 1) .nil))) (.fld 1 1 (.nm 0))) (.cons .nev .nil) .nil) (.cons (.ite (.cmp .eq (.bi .len (.cons (.nm 2) .nil)) (.int 0)) (.cons .nev .nil) .nil) (.cons (.ret (.nm 2)) .nil))))
def d_kept_positions : DF := ⟨t_kept_positions, ["code", "positions", "kept", "position"], 2, 0, 0, "kept_positions", 52, 0, "kept_positions"⟩
def t_shortened : MS := (.cons (.set 2 (.call 51 (.cons (.nm 0) (.cons (.nm 1) .nil)))) (.cons (.set 3 (.lst .nil)) (.cons (.for_ (.one 4) .lst (.prop 40 (.nm 0)) (.cons (.app 3 (.bin .add (.comp (.sub (.nm 4) (.nm 10)) (.one 10) .lst (.nm 1) .nil) (.comp (.sub (.nm 4) (.nm 10)) (.one 10) .lst (.nm 2) .nil))) .nil)) (.cons (.unp [7, 8] (.call 21 (.cons (.fld 1 0 (.nm 0)) (.cons (.nm 3) .nil)))) (.cons (.set 5 (.bi .len (.cons (.nm 1) .nil))) (.cons (.set 6 (.comp (.slc (.nm 4) (.nm 5) .nil) (.two 4 9) .zip (.cons (.nm 7) (.cons (.nm 8) .nil)) (.cmp .ge (.nm 9) (.nm 5)))) (.cons (.ret (.mk 39 (.cons (.fld 1 0 (.nm 0)) (.cons (.bi .len (.cons (.nm 2) .nil)) (.cons (.nm 6) .nil))))) .nil)))))))
def d_shortened : DF := ⟨t_shortened, ["code", "positions", "kept", "moved", "row", "removed", "rows", "reduced", "pivots", "pivot", "position"], 2, 0, 0, "shortened", 53, 0, "shortened"⟩
def t_punctured : MS := (.cons (.set 2 (.call 51 (.cons (.nm 0) (.cons (.nm 1) .nil)))) (.cons (.set 3 (.comp (.comp (.sub (.nm 4) (.nm 5)) (.one 5) .lst (.nm 2) .nil) (.one 4) .lst (.prop 40 (.nm 0)) .nil)) (.cons (.ret (.mk 39 (.cons (.fld 1 0 (.nm 0)) (.cons (.bi .len (.cons (.nm 2) .nil)) (.cons (.nm 3) .nil))))) .nil)))
def d_punctured : DF := ⟨t_punctured, ["code", "positions", "kept", "rows", "row", "position"], 2, 0, 0, "punctured", 54, 0, "punctured"⟩
def t_extended : MS := (.cons (.set 1 (.lst .nil)) (.cons (.for_ (.one 2) .lst (.prop 40 (.nm 0)) (.cons (.set 3 (.int 0)) (.cons (.for_ (.one 4) .lst (.nm 2) (.cons (.set 3 (.meth 11 (.fld 1 0 (.nm 0)) (.cons (.nm 3) (.cons (.nm 4) .nil)))) .nil)) (.cons (.app 1 (.bin .add (.nm 2) (.lst (.cons (.nm 3) .nil)))) .nil)))) (.cons (.ret (.mk 39 (.cons (.fld 1 0 (.nm 0)) (.cons (.bin .add (.fld 1 1 (.nm 0)) (.int 1)) (.cons (.nm 1) .nil))))) .nil)))
def d_extended : DF := ⟨t_extended, ["code", "rows", "row", "last", "item"], 1, 0, 0, "extended", 55, 0, "extended"⟩
def t_check_fields : MS := (.cons (.ite (.not (.meth 16 (.fld 1 0 (.nm 0)) (.cons (.fld 1 0 (.nm 1)) .nil))) (.cons .nev .nil) .nil) .nil)
def d_check_fields : DF := ⟨t_check_fields, ["first", "second"], 2, 0, 0, "check_fields", 56, 0, "check_fields"⟩
def t_check_alike : MS := (.cons (.exp (.call 55 (.cons (.nm 0) (.cons (.nm 1) .nil)))) (.cons (.ite (.cmp .ne (.fld 1 1 (.nm 0)) (.fld 1 1 (.nm 1))) (.cons .nev .nil) .nil) .nil))
def d_check_alike : DF := ⟨t_check_alike, ["first", "second"], 2, 0, 0, "check_alike", 57, 0, "check_alike"⟩
def t_joined : MS := (.cons (.exp (.call 55 (.cons (.nm 0) (.cons (.nm 1) .nil)))) (.cons (.set 2 (.comp (.bin .add (.nm 3) (.call 34 (.cons (.fld 1 1 (.nm 1)) .nil))) (.one 3) .lst (.prop 40 (.nm 0)) .nil)) (.cons (.for_ (.one 3) .lst (.prop 40 (.nm 1)) (.cons (.app 2 (.bin .add (.call 34 (.cons (.fld 1 1 (.nm 0)) .nil)) (.nm 3))) .nil)) (.cons (.ret (.mk 39 (.cons (.fld 1 0 (.nm 0)) (.cons (.bin .add (.fld 1 1 (.nm 0)) (.fld 1 1 (.nm 1))) (.cons (.nm 2) .nil))))) .nil))))
def d_joined : DF := ⟨t_joined, ["first", "second", "rows", "row"], 2, 0, 0, "joined", 58, 0, "joined"⟩
def t_doubled : MS := (.cons (.exp (.call 56 (.cons (.nm 0) (.cons (.nm 1) .nil)))) (.cons (.set 2 (.comp (.bin .add (.nm 3) (.nm 3)) (.one 3) .lst (.prop 40 (.nm 0)) .nil)) (.cons (.for_ (.one 3) .lst (.prop 40 (.nm 1)) (.cons (.app 2 (.bin .add (.call 34 (.cons (.fld 1 1 (.nm 0)) .nil)) (.nm 3))) .nil)) (.cons (.ret (.mk 39 (.cons (.fld 1 0 (.nm 0)) (.cons (.bin .mul (.int 2) (.fld 1 1 (.nm 0))) (.cons (.nm 2) .nil))))) .nil))))
def d_doubled : DF := ⟨t_doubled, ["first", "second", "rows", "row"], 2, 0, 0, "doubled", 59, 0, "doubled"⟩
def t_span_of : MS := (.cons (.exp (.call 56 (.cons (.nm 0) (.cons (.nm 1) .nil)))) (.cons (.ret (.mk 39 (.cons (.fld 1 0 (.nm 0)) (.cons (.fld 1 1 (.nm 0)) (.cons (.bin .add (.prop 40 (.nm 0)) (.prop 40 (.nm 1))) .nil))))) .nil))
def d_span_of : DF := ⟨t_span_of, ["first", "second"], 2, 0, 0, "span_of", 60, 0, "span_of"⟩
def t_meeting : MS := (.cons (.exp (.call 56 (.cons (.nm 0) (.cons (.nm 1) .nil)))) (.cons (.ret (.call 49 (.cons (.fld 1 0 (.nm 0)) (.cons (.fld 1 1 (.nm 0)) (.cons (.bin .add (.prop 42 (.nm 0)) (.prop 42 (.nm 1))) .nil))))) .nil))
def d_meeting : DF := ⟨t_meeting, ["first", "second"], 2, 0, 0, "meeting", 61, 0, "meeting"⟩
def t_sign_of : MS := (.cons (.ret (.bin .sub (.int 1) (.bin .mul (.int 2) (.bin .mod (.nm 0) (.int 2))))) .nil)
def d_sign_of : DF := ⟨t_sign_of, ["k"], 1, 0, 0, "sign_of", 63, 0, "sign_of"⟩
def t_words_of_weight : MS := (.cons (.ret (.bin .mul (.bi .comb (.cons (.nm 1) (.cons (.nm 2) .nil))) (.call 0 (.cons (.bin .sub (.nm 0) (.int 1)) (.cons (.nm 2) .nil))))) .nil)
def d_words_of_weight : DF := ⟨t_words_of_weight, ["order", "length", "weight"], 3, 0, 0, "words_of_weight", 64, 0, "words_of_weight"⟩
def t_words_within : MS := (.cons (.set 3 (.int 0)) (.cons (.for_ (.one 4) .rg1 (.cons (.bin .add (.bi .min2 (.cons (.nm 2) (.cons (.nm 1) .nil))) (.int 1)) .nil) (.cons (.set 3 (.bin .add (.nm 3) (.call 62 (.cons (.nm 0) (.cons (.nm 1) (.cons (.nm 4) .nil)))))) .nil)) (.cons (.ret (.nm 3)) .nil)))
def d_words_within : DF := ⟨t_words_within, ["order", "length", "radius", "total", "weight"], 3, 0, 0, "words_within", 65, 0, "words_within"⟩
def t_minimum_distance : MS := (.cons (.ite (.cmp .eq (.fld 1 2 (.nm 0)) (.int 0)) (.cons (.ret .non) .nil) .nil) (.cons (.ret (.bi .min1 (.cons (.comp (.call 28 (.cons (.nm 1) .nil)) (.one 1) .lst (.slc (.meth0 47 (.nm 0)) (.int 1) .nil) .nil) .nil))) .nil))
def d_minimum_distance : DF := ⟨t_minimum_distance, ["code", "word"], 1, 0, 0, "minimum_distance", 69, 0, "minimum_distance"⟩
def t_lightest_words : MS := (.cons (.ite (.cmp .eq (.fld 1 2 (.nm 0)) (.int 0)) (.cons (.ret (.lst .nil)) .nil) .nil) (.cons (.set 1 (.call 64 (.cons (.nm 0) .nil))) (.cons (.ret (.comp (.nm 2) (.one 2) .lst (.meth0 47 (.nm 0)) (.cmp .eq (.call 28 (.cons (.nm 2) .nil)) (.nm 1)))) .nil)))
def d_lightest_words : DF := ⟨t_lightest_words, ["code", "least", "word"], 1, 0, 0, "lightest_words", 70, 0, "lightest_words"⟩
def t_items_at : MS := (.cons (.ret (.comp (.comp (.sub (.nm 2) (.nm 3)) (.one 3) .lst (.nm 1) .nil) (.one 2) .lst (.nm 0) .nil)) .nil)
def d_items_at : DF := ⟨t_items_at, ["rows", "positions", "row", "position"], 2, 0, 0, "items_at", 71, 0, "items_at"⟩
def t_longer_sets : MS := (.cons (.set 2 (.lst .nil)) (.cons (.for_ (.one 3) .lst (.nm 0) (.cons (.set 4 (.int 0)) (.cons (.ite (.cmp .gt (.bi .len (.cons (.nm 3) .nil)) (.int 0)) (.cons (.set 4 (.bin .add (.sub (.nm 3) (.neg 1)) (.int 1))) .nil) .nil) (.cons (.for_ (.one 5) .rg2 (.cons (.nm 4) (.cons (.nm 1) .nil)) (.cons (.app 2 (.bin .add (.nm 3) (.lst (.cons (.nm 5) .nil)))) .nil)) .nil)))) (.cons (.ret (.nm 2)) .nil)))
def d_longer_sets : DF := ⟨t_longer_sets, ["sets", "length", "longer", "positions", "begin", "position"], 2, 0, 0, "longer_sets", 72, 0, "longer_sets"⟩
def t_distance_by_columns : MS := (.cons (.ite (.cmp .eq (.fld 1 2 (.nm 0)) (.int 0)) (.cons (.ret .non) .nil) .nil) (.cons (.set 1 (.bin .sub (.fld 1 1 (.nm 0)) (.fld 1 2 (.nm 0)))) (.cons (.ite (.cmp .gt (.call 63 (.cons (.int 2) (.cons (.fld 1 1 (.nm 0)) (.cons (.nm 1) .nil)))) (.glb 4)) (.cons .nev .nil) .nil) (.cons (.set 2 (.prop 42 (.nm 0))) (.cons (.set 3 (.lst (.cons (.lst .nil) .nil))) (.cons (.for_ (.one 4) .rg2 (.cons (.int 1) (.cons (.bin .add (.nm 1) (.int 1)) .nil)) (.cons (.set 3 (.call 67 (.cons (.nm 3) (.cons (.fld 1 1 (.nm 0)) .nil)))) (.cons (.for_ (.one 5) .lst (.nm 3) (.cons (.ite (.cmp .lt (.call 22 (.cons (.fld 1 0 (.nm 0)) (.cons (.call 66 (.cons (.nm 2) (.cons (.nm 5) .nil))) (.cons (.nm 4) .nil)))) (.nm 4)) (.cons (.ret (.nm 4)) .nil) .nil) .nil)) .nil))) (.cons (.ret (.bin .add (.nm 1) (.int 1))) .nil)))))))
def d_distance_by_columns : DF := ⟨t_distance_by_columns, ["code", "redundancy", "checks", "sets", "many", "positions"], 1, 0, 0, "distance_by_columns", 73, 0, "distance_by_columns"⟩
def t_information_sets : MS := (.cons (.set 1 (.lst .nil)) (.cons (.set 2 (.lrg (.fld 1 1 (.nm 0)))) (.cons (.set 3 (.prop 40 (.nm 0))) (.cons (.whl (.cmp .gt (.fld 1 2 (.nm 0)) (.int 0)) (.cons (.set 4 (.sub (.call 21 (.cons (.fld 1 0 (.nm 0)) (.cons (.call 66 (.cons (.nm 3) (.cons (.nm 2) .nil))) .nil))) (.int 1))) (.cons (.ite (.cmp .lt (.bi .len (.cons (.nm 4) .nil)) (.fld 1 2 (.nm 0))) (.cons (.ret (.nm 1)) .nil) .nil) (.cons (.set 5 (.comp (.sub (.nm 2) (.nm 6)) (.one 6) .lst (.nm 4) .nil)) (.cons (.app 1 (.nm 5)) (.cons (.set 2 (.comp (.nm 7) (.one 7) .lst (.nm 2) (.cmp .nin (.nm 7) (.nm 5)))) .nil)))))) (.cons (.ret (.nm 1)) .nil)))))
def d_information_sets : DF := ⟨t_information_sets, ["code", "sets", "left", "rows", "pivots", "found", "pivot", "position"], 1, 0, 0, "information_sets", 74, 0, "information_sets"⟩
def t_is_information_set : MS := (.cons (.ite (.cmp .ne (.bi .len (.cons (.nm 1) .nil)) (.fld 1 2 (.nm 0))) (.cons (.ret (.bl false)) .nil) .nil) (.cons (.for_ (.one 2) .lst (.nm 1) (.cons (.ite (.not (.chain .le .lt (.int 0) (.nm 2) (.fld 1 1 (.nm 0)))) (.cons (.ret (.bl false)) .nil) .nil) .nil)) (.cons (.ret (.cmp .eq (.call 22 (.cons (.fld 1 0 (.nm 0)) (.cons (.call 66 (.cons (.prop 40 (.nm 0)) (.cons (.nm 1) .nil))) (.cons (.fld 1 2 (.nm 0)) .nil)))) (.fld 1 2 (.nm 0)))) .nil)))
def d_is_information_set : DF := ⟨t_is_information_set, ["code", "positions", "position"], 2, 0, 0, "is_information_set", 75, 0, "is_information_set"⟩
def t_are_separate_sets : MS := (.cons (.set 2 (.lst .nil)) (.cons (.for_ (.one 3) .lst (.nm 1) (.cons (.ite (.not (.call 70 (.cons (.nm 0) (.cons (.nm 3) .nil)))) (.cons (.ret (.bl false)) .nil) .nil) (.cons (.ext 2 (.nm 3)) .nil))) (.cons (.ret (.and (.cmp .gt (.bi .len (.cons (.nm 1) .nil)) (.int 0)) (.cmp .eq (.lset (.nm 2)) (.bi .len (.cons (.nm 2) .nil))))) .nil)))
def d_are_separate_sets : DF := ⟨t_are_separate_sets, ["code", "sets", "used", "positions"], 2, 0, 0, "are_separate_sets", 76, 0, "are_separate_sets"⟩
def t_rows_at : MS := (.cons (.set 2 (.prop 40 (.nm 0))) (.cons (.set 3 (.call 27 (.cons (.fld 1 0 (.nm 0)) (.cons (.call 66 (.cons (.nm 2) (.cons (.nm 1) .nil))) .nil)))) (.cons (.ret (.call 26 (.cons (.fld 1 0 (.nm 0)) (.cons (.nm 3) (.cons (.nm 2) (.cons (.fld 1 1 (.nm 0)) .nil)))))) .nil)))
def d_rows_at : DF := ⟨t_rows_at, ["code", "positions", "rows", "inverse"], 2, 0, 0, "rows_at", 77, 0, "rows_at"⟩
def t_sums_of_rows : MS := (.cons (.set 4 (.lst .nil)) (.cons (.set 5 (.lst (.cons (.tup (.cons (.int 0) (.cons (.call 34 (.cons (.nm 2) .nil)) .nil))) .nil))) (.cons (.for_ (.one 6) .rg1 (.cons (.nm 3) .nil) (.cons (.set 7 (.lst .nil)) (.cons (.for_ (.two 8 9) .lst (.nm 5) (.cons (.for_ (.one 10) .rg2 (.cons (.nm 8) (.cons (.bi .len (.cons (.nm 1) .nil)) .nil)) (.cons (.for_ (.one 11) .rg2 (.cons (.int 1) (.cons (.fld 0 3 (.nm 0)) .nil)) (.cons (.app 7 (.tup (.cons (.bin .add (.nm 10) (.int 1)) (.cons (.call 36 (.cons (.nm 0) (.cons (.nm 9) (.cons (.call 37 (.cons (.nm 0) (.cons (.nm 11) (.cons (.sub (.nm 1) (.nm 10)) .nil)))) .nil)))) .nil)))) .nil)) .nil)) .nil)) (.cons (.ext 4 (.comp (.sub (.nm 12) (.int 1)) (.one 12) .lst (.nm 7) .nil)) (.cons (.set 5 (.nm 7)) .nil))))) (.cons (.ret (.nm 4)) .nil))))
def d_sums_of_rows : DF := ⟨t_sums_of_rows, ["field", "rows", "length", "level", "found", "last", "_", "longer", "begin", "word", "k", "factor", "pair"], 4, 0, 0, "sums_of_rows", 78, 0, "sums_of_rows"⟩
def t_seen_words : MS := (.cons (.ite (.cmp .gt (.call 63 (.cons (.fld 0 3 (.fld 1 0 (.nm 0))) (.cons (.fld 1 2 (.nm 0)) (.cons (.nm 2) .nil)))) (.glb 5)) (.cons .nev .nil) .nil) (.cons (.set 3 (.lst .nil)) (.cons (.for_ (.one 4) .lst (.nm 1) (.cons (.ext 3 (.call 73 (.cons (.fld 1 0 (.nm 0)) (.cons (.call 72 (.cons (.nm 0) (.cons (.nm 4) .nil))) (.cons (.fld 1 1 (.nm 0)) (.cons (.nm 2) .nil)))))) .nil)) (.cons (.ret (.nm 3)) .nil))))
def d_seen_words : DF := ⟨t_seen_words, ["code", "sets", "level", "found", "positions"], 3, 0, 0, "seen_words", 79, 0, "seen_words"⟩
def t_is_enough : MS := (.cons (.ret (.or (.cmp .eq (.nm 2) (.fld 1 2 (.nm 0))) (.cmp .ge (.bin .mul (.bi .len (.cons (.nm 1) .nil)) (.bin .add (.nm 2) (.int 1))) (.nm 3)))) .nil)
def d_is_enough : DF := ⟨t_is_enough, ["code", "sets", "level", "least"], 4, 0, 0, "is_enough", 80, 0, "is_enough"⟩
def t_distance_certificate : MS := (.cons (.ite (.cmp .eq (.fld 1 2 (.nm 0)) (.int 0)) (.cons (.ret .non) .nil) .nil) (.cons (.set 1 (.call 69 (.cons (.nm 0) .nil))) (.cons (.set 2 (.int 1)) (.cons (.set 3 (.call 74 (.cons (.nm 0) (.cons (.nm 1) (.cons (.nm 2) .nil))))) (.cons (.set 4 (.bi .min1 (.cons (.comp (.call 28 (.cons (.nm 5) .nil)) (.one 5) .lst (.nm 3) .nil) .nil))) (.cons (.whl (.not (.call 75 (.cons (.nm 0) (.cons (.nm 1) (.cons (.nm 2) (.cons (.nm 4) .nil)))))) (.cons (.set 2 (.bin .add (.nm 2) (.int 1))) (.cons (.set 3 (.call 74 (.cons (.nm 0) (.cons (.nm 1) (.cons (.nm 2) .nil))))) (.cons (.set 4 (.bi .min1 (.cons (.comp (.call 28 (.cons (.nm 5) .nil)) (.one 5) .lst (.nm 3) .nil) .nil))) .nil)))) (.cons (.ret (.tup (.cons (.bi .min1 (.cons (.comp (.nm 5) (.one 5) .lst (.nm 3) (.cmp .eq (.call 28 (.cons (.nm 5) .nil)) (.nm 4))) .nil)) (.cons (.nm 1) (.cons (.nm 2) .nil))))) .nil)))))))
def d_distance_certificate : DF := ⟨t_distance_certificate, ["code", "sets", "level", "words", "least", "word"], 1, 0, 0, "distance_certificate", 81, 0, "distance_certificate"⟩
def t_check_distance : MS := (.cons (.unp [4, 5, 6] (.nm 2)) (.cons (.ite (.or (.not (.call 32 (.cons (.fld 1 0 (.nm 0)) (.cons (.fld 1 1 (.nm 0)) (.cons (.nm 4) .nil))))) (.not (.meth 46 (.nm 0) (.cons (.nm 4) .nil)))) (.cons (.ret (.bl false)) .nil) .nil) (.cons (.ite (.or3 (.cmp .lt (.nm 1) (.int 1)) (.cmp .ne (.call 28 (.cons (.nm 4) .nil)) (.nm 1)) (.not (.call 71 (.cons (.nm 0) (.cons (.nm 5) .nil))))) (.cons (.ret (.bl false)) .nil) .nil) (.cons (.ite (.or (.not (.chain .le .le (.int 1) (.nm 6) (.fld 1 2 (.nm 0)))) (.not (.call 75 (.cons (.nm 0) (.cons (.nm 5) (.cons (.nm 6) (.cons (.nm 1) .nil))))))) (.cons (.ret (.bl false)) .nil) .nil) (.cons (.for_ (.one 3) .lst (.call 74 (.cons (.nm 0) (.cons (.nm 5) (.cons (.nm 6) .nil)))) (.cons (.ite (.cmp .lt (.call 28 (.cons (.nm 3) .nil)) (.nm 1)) (.cons (.ret (.bl false)) .nil) .nil) .nil)) (.cons (.ret (.bl true)) .nil))))))
def d_check_distance : DF := ⟨t_check_distance, ["code", "distance", "certificate", "seen", "word", "sets", "level"], 3, 0, 0, "check_distance", 82, 0, "check_distance"⟩
def t_enumerator : MS := (.cons (.set 1 (.bin .mul (.lst (.cons (.int 0) .nil)) (.bin .add (.fld 1 1 (.nm 0)) (.int 1)))) (.cons (.for_ (.one 2) .lst (.meth0 47 (.nm 0)) (.cons (.aug 1 (.call 28 (.cons (.nm 2) .nil)) (.int 1)) .nil)) (.cons (.ret (.nm 1)) .nil)))
def d_enumerator : DF := ⟨t_enumerator, ["code", "counts", "word"], 1, 0, 0, "enumerator", 84, 0, "enumerator"⟩
def t_krawtchouk : MS := (.cons (.set 4 (.int 0)) (.cons (.for_ (.one 5) .rg1 (.cons (.bin .add (.nm 2) (.int 1)) .nil) (.cons (.set 6 (.bin .mul (.bi .comb (.cons (.nm 3) (.cons (.nm 5) .nil))) (.bi .comb (.cons (.bin .sub (.nm 1) (.nm 3)) (.cons (.bin .sub (.nm 2) (.nm 5)) .nil))))) (.cons (.set 4 (.bin .add (.nm 4) (.bin .mul (.bin .mul (.call 61 (.cons (.nm 5) .nil)) (.nm 6)) (.call 0 (.cons (.bin .sub (.nm 0) (.int 1)) (.cons (.bin .sub (.nm 2) (.nm 5)) .nil)))))) .nil))) (.cons (.ret (.nm 4)) .nil)))
def d_krawtchouk : DF := ⟨t_krawtchouk, ["order", "length", "k", "x", "total", "j", "ways"], 4, 0, 0, "krawtchouk", 85, 0, "krawtchouk"⟩
def t_is_power_of : MS := (.cons (.set 3 (.int 1)) (.cons (.for_ (.one 4) .rg1 (.cons (.nm 1) .nil) (.cons (.ite (.cmp .eq (.nm 3) (.nm 2)) (.cons (.ret (.bl true)) .nil) .nil) (.cons (.set 3 (.bin .mul (.nm 3) (.nm 0))) .nil))) (.cons (.ret (.cmp .eq (.nm 3) (.nm 2))) .nil)))
def d_is_power_of : DF := ⟨t_is_power_of, ["order", "most", "number", "power", "_"], 3, 0, 0, "is_power_of", 86, 0, "is_power_of"⟩
def t_check_usable : MS := (.cons (.ite (.or (.not (.chain .le .le (.int 2) (.nm 0) (.int 256))) (.not (.chain .le .le (.int 2) (.bi .len (.cons (.nm 1) .nil)) (.int 256)))) (.cons .nev .nil) .nil) (.cons (.ite (.or (.cmp .lt (.bi .min1 (.cons (.nm 1) .nil)) (.int 0)) (.cmp .ne (.sub (.nm 1) (.int 0)) (.int 1))) (.cons .nev .nil) .nil) (.cons (.ite (.not (.call 80 (.cons (.nm 0) (.cons (.bin .sub (.bi .len (.cons (.nm 1) .nil)) (.int 1)) (.cons (.bi .sum (.cons (.nm 1) .nil)) .nil))))) (.cons .nev .nil) .nil) .nil)))
def d_check_usable : DF := ⟨t_check_usable, ["order", "counts"], 2, 0, 0, "check_usable", 87, 0, "check_usable"⟩
def t_dual_enumerator : MS := (.cons (.exp (.call 81 (.cons (.nm 0) (.cons (.nm 1) .nil)))) (.cons (.set 2 (.bin .sub (.bi .len (.cons (.nm 1) .nil)) (.int 1))) (.cons (.set 3 (.bi .sum (.cons (.nm 1) .nil))) (.cons (.set 4 (.lst .nil)) (.cons (.for_ (.one 5) .rg1 (.cons (.bin .add (.nm 2) (.int 1)) .nil) (.cons (.set 6 (.int 0)) (.cons (.for_ (.one 7) .rg1 (.cons (.bin .add (.nm 2) (.int 1)) .nil) (.cons (.ite (.cmp .gt (.sub (.nm 1) (.nm 7)) (.int 0)) (.cons (.set 6 (.bin .add (.nm 6) (.bin .mul (.sub (.nm 1) (.nm 7)) (.call 79 (.cons (.nm 0) (.cons (.nm 2) (.cons (.nm 5) (.cons (.nm 7) .nil)))))))) .nil) .nil) .nil)) (.cons (.ite (.or (.cmp .lt (.nm 6) (.int 0)) (.cmp .ne (.bin .mod (.nm 6) (.nm 3)) (.int 0))) (.cons .nev .nil) .nil) (.cons (.app 4 (.bin .fdiv (.nm 6) (.nm 3))) .nil))))) (.cons (.ret (.nm 4)) .nil))))))
def d_dual_enumerator : DF := ⟨t_dual_enumerator, ["order", "counts", "length", "size", "answer", "k", "total", "x"], 2, 0, 0, "dual_enumerator", 88, 0, "dual_enumerator"⟩
def t_enumerator_by_dual : MS := (.cons (.ret (.call 82 (.cons (.fld 0 3 (.fld 1 0 (.nm 0))) (.cons (.call 78 (.cons (.call 50 (.cons (.nm 0) .nil)) .nil)) .nil)))) .nil)
def d_enumerator_by_dual : DF := ⟨t_enumerator_by_dual, ["code"], 1, 0, 0, "enumerator_by_dual", 89, 0, "enumerator_by_dual"⟩
def t_check_counts : MS := (.cons (.ite (.not (.chain .le .le (.int 1) (.bi .len (.cons (.nm 0) .nil)) (.int 256))) (.cons .nev .nil) .nil) (.cons (.ite (.or (.cmp .lt (.bi .min1 (.cons (.nm 0) .nil)) (.int 0)) (.cmp .eq (.bi .max1 (.cons (.nm 0) .nil)) (.int 0))) (.cons .nev .nil) .nil) .nil))
def d_check_counts : DF := ⟨t_check_counts, ["counts"], 1, 0, 0, "check_counts", 90, 0, "check_counts"⟩
def t_binomial_moment : MS := (.cons (.exp (.call 84 (.cons (.nm 0) .nil))) (.cons (.set 2 (.bin .sub (.bi .len (.cons (.nm 0) .nil)) (.int 1))) (.cons (.ite (.not (.chain .le .le (.int 0) (.nm 1) (.nm 2))) (.cons .nev .nil) .nil) (.cons (.set 3 (.int 0)) (.cons (.for_ (.one 4) .rg1 (.cons (.bin .add (.nm 2) (.int 1)) .nil) (.cons (.set 3 (.bin .add (.nm 3) (.bin .mul (.bi .comb (.cons (.bin .sub (.nm 2) (.nm 4)) (.cons (.nm 1) .nil))) (.sub (.nm 0) (.nm 4))))) .nil)) (.cons (.ret (.nm 3)) .nil))))))
def d_binomial_moment : DF := ⟨t_binomial_moment, ["counts", "k", "length", "total", "weight"], 2, 0, 0, "binomial_moment", 91, 0, "binomial_moment"⟩
def t_law_row : MS := (.cons (.set 2 (.lst .nil)) (.cons (.set 3 (.int 0)) (.cons (.ite (.cmp .ge (.bi .abs (.cons (.nm 0) .nil)) (.bin .pow (.int 10) (.int 18))) (.cons (.set 3 (.bi .abs (.cons (.nm 0) .nil))) .nil) .nil) (.cons (.set 4 (.bin .mod (.bi .int_ (.cons (.bi .abs (.cons (.nm 0) .nil)) .nil)) (.int 2147483647))) (.cons (.for_ (.one 5) .rg1 (.cons (.nm 1) .nil) (.cons (.set 4 (.bin .mod (.bi .int_ (.cons (.bin .add (.bin .mul (.bin .add (.nm 4) (.int 1)) (.int 48271)) (.bin .mul (.int 69621) (.nm 5))) .nil)) (.int 2147483647))) (.cons (.ite (.cmp .gt (.nm 3) (.int 0)) (.cons (.app 2 (.bin .mod (.bi .int_ (.cons (.nm 3) .nil)) (.int 1009))) (.cons (.set 3 (.bin .fdiv (.nm 3) (.int 1009))) .nil)) (.cons (.app 2 (.bin .mod (.bi .int_ (.cons (.bin .fdiv (.nm 4) (.int 2048)) .nil)) (.int 1009))) .nil)) .nil))) (.cons (.ret (.nm 2)) .nil))))))
def d_law_row : DF := ⟨t_law_row, ["_law_cell", "_law_many", "_law_row_here", "_law_rest", "_law_state", "_law_k"], 2, 0, 0, "_law_row", 93, 0, "_law_row"⟩
def t_law_numbers : MS := (.cons (.set 2 (.slc (.nm 0) .nil (.int 63))) (.cons (.set 3 (.bin .add (.int 1) (.bin .fdiv (.nm 1) (.bi .max2 (.cons (.int 1) (.cons (.bi .len (.cons (.nm 2) .nil)) .nil)))))) (.cons (.set 4 (.lst .nil)) (.cons (.for_ (.one 5) .lst (.nm 2) (.cons (.for_ (.one 6) .lst (.call 86 (.cons (.nm 5) (.cons (.nm 3) .nil))) (.cons (.app 4 (.nm 6)) .nil)) .nil)) (.cons (.set 4 (.bin .add (.nm 4) (.bin .mul (.lst (.cons (.int 0) .nil)) (.nm 1)))) (.cons (.ret (.slc (.nm 4) .nil (.nm 1))) .nil))))))
def d_law_numbers : DF := ⟨t_law_numbers, ["_law_script", "_law_many", "_law_cells", "_law_each", "_law_numbers_here", "_law_cell", "_law_number"], 2, 0, 0, "_law_numbers", 94, 0, "_law_numbers"⟩
def t_law_field : MS := (.cons (.set 1 (.lst (.cons (.tup (.cons (.int 2) (.cons (.tup (.cons (.int 0) (.cons (.int 1) .nil))) .nil))) (.cons (.tup (.cons (.int 3) (.cons (.tup (.cons (.int 0) (.cons (.int 1) .nil))) .nil))) (.cons (.tup (.cons (.int 2) (.cons (.tup (.cons (.int 1) (.cons (.int 1) (.cons (.int 1) .nil)))) .nil))) (.cons (.tup (.cons (.int 5) (.cons (.tup (.cons (.int 0) (.cons (.int 1) .nil))) .nil))) (.cons (.tup (.cons (.int 2) (.cons (.tup (.cons (.int 1) (.cons (.int 1) (.cons (.int 0) (.cons (.int 1) .nil))))) .nil))) (.cons (.tup (.cons (.int 3) (.cons (.tup (.cons (.int 1) (.cons (.int 0) (.cons (.int 1) .nil)))) .nil))) (.cons (.tup (.cons (.int 7) (.cons (.tup (.cons (.int 0) (.cons (.int 1) .nil))) .nil))) .nil))))))))) (.cons (.set 1 (.bin .add (.nm 1) (.lst (.cons (.tup (.cons (.int 2) (.cons (.tup (.cons (.int 1) (.cons (.int 1) .nil))) .nil))) (.cons (.tup (.cons (.int 3) (.cons (.tup (.cons (.int 2) (.cons (.int 1) .nil))) .nil))) (.cons (.tup (.cons (.int 2) (.cons (.tup (.cons (.int 1) (.cons (.int 0) (.cons (.int 1) (.cons (.int 1) .nil))))) .nil))) (.cons (.tup (.cons (.int 3) (.cons (.tup (.cons (.int 2) (.cons (.int 1) (.cons (.int 1) .nil)))) .nil))) (.cons (.tup (.cons (.int 3) (.cons (.tup (.cons (.int 2) (.cons (.int 2) (.cons (.int 1) .nil)))) .nil))) (.cons (.tup (.cons (.int 11) (.cons (.tup (.cons (.int 0) (.cons (.int 1) .nil))) .nil))) .nil))))))))) (.cons (.set 1 (.bin .add (.nm 1) (.lst (.cons (.tup (.cons (.int 2) (.cons (.tup (.cons (.int 1) (.cons (.int 1) (.cons (.int 0) (.cons (.int 0) (.cons (.int 1) .nil)))))) .nil))) (.cons (.tup (.cons (.int 2) (.cons (.tup (.cons (.int 0) (.cons (.int 1) .nil))) .nil))) (.cons (.tup (.cons (.int 3) (.cons (.tup (.cons (.int 0) (.cons (.int 1) .nil))) .nil))) .nil)))))) (.cons (.ret (.sub (.nm 1) (.bin .mod (.bi .int_ (.cons (.nm 0) .nil)) (.int 16)))) .nil))))
def d_law_field : DF := ⟨t_law_field, ["_law_number", "_law_fields"], 1, 0, 0, "_law_field", 95, 0, "_law_field"⟩
def t_law_digits : MS := (.cons (.set 3 (.lst .nil)) (.cons (.for_ (.one 4) .rg1 (.cons (.nm 2) .nil) (.cons (.app 3 (.bin .mod (.bi .int_ (.cons (.nm 0) .nil)) (.nm 1))) (.cons (.set 0 (.bin .fdiv (.nm 0) (.nm 1))) .nil))) (.cons (.ret (.nm 3)) .nil)))
def d_law_digits : DF := ⟨t_law_digits, ["_law_a", "_law_prime", "_law_size", "_law_digits_here", "_law_k"], 3, 0, 0, "_law_digits", 96, 0, "_law_digits"⟩
def t_law_element : MS := (.cons (.set 2 (.int 0)) (.cons (.for_ (.one 3) .rg1 (.cons (.bi .len (.cons (.nm 0) .nil)) .nil) (.cons (.set 2 (.bin .add (.bin .mul (.nm 2) (.nm 1)) (.sub (.nm 0) (.bin .sub (.bin .sub (.bi .len (.cons (.nm 0) .nil)) (.int 1)) (.nm 3))))) .nil)) (.cons (.ret (.nm 2)) .nil)))
def d_law_element : DF := ⟨t_law_element, ["_law_digits_here", "_law_prime", "_law_number", "_law_k"], 2, 0, 0, "_law_element", 97, 0, "_law_element"⟩
def t_law_order : MS := (.cons (.set 2 (.int 1)) (.cons (.for_ (.one 3) .rg1 (.cons (.bin .sub (.bi .len (.cons (.nm 1) .nil)) (.int 1)) .nil) (.cons (.set 2 (.bin .mul (.nm 2) (.nm 0))) .nil)) (.cons (.ret (.nm 2)) .nil)))
def d_law_order : DF := ⟨t_law_order, ["_law_prime", "_law_modulus", "_law_order_here", "_law_k"], 2, 0, 0, "_law_order", 98, 0, "_law_order"⟩
def t_law_sums : MS := (.cons (.set 2 (.bin .sub (.bi .len (.cons (.nm 1) .nil)) (.int 1))) (.cons (.set 3 (.call 91 (.cons (.nm 0) (.cons (.nm 1) .nil)))) (.cons (.set 4 (.lst .nil)) (.cons (.for_ (.one 5) .rg1 (.cons (.nm 3) .nil) (.cons (.set 6 (.call 89 (.cons (.nm 5) (.cons (.nm 0) (.cons (.nm 2) .nil))))) (.cons (.set 7 (.lst .nil)) (.cons (.for_ (.one 8) .rg1 (.cons (.nm 3) .nil) (.cons (.set 9 (.call 89 (.cons (.nm 8) (.cons (.nm 0) (.cons (.nm 2) .nil))))) (.cons (.app 7 (.call 90 (.cons (.comp (.bin .mod (.bi .int_ (.cons (.bin .add (.sub (.nm 6) (.nm 10)) (.sub (.nm 9) (.nm 10))) .nil)) (.nm 0)) (.one 10) .rg1 (.cons (.nm 2) .nil) .nil) (.cons (.nm 0) .nil)))) .nil))) (.cons (.app 4 (.nm 7)) .nil))))) (.cons (.ret (.nm 4)) .nil)))))
def d_law_sums : DF := ⟨t_law_sums, ["_law_prime", "_law_modulus", "_law_size", "_law_order_here", "_law_table", "_law_a", "_law_first", "_law_row_here", "_law_b", "_law_second", "_law_k"], 2, 0, 0, "_law_sums", 99, 0, "_law_sums"⟩
def t_law_products : MS := (.cons (.set 2 (.bin .sub (.bi .len (.cons (.nm 1) .nil)) (.int 1))) (.cons (.set 3 (.call 91 (.cons (.nm 0) (.cons (.nm 1) .nil)))) (.cons (.set 4 (.lst .nil)) (.cons (.for_ (.one 5) .rg1 (.cons (.nm 3) .nil) (.cons (.set 6 (.lst (.cons (.call 89 (.cons (.nm 5) (.cons (.nm 0) (.cons (.nm 2) .nil)))) .nil))) (.cons (.for_ (.one 7) .rg1 (.cons (.bin .sub (.nm 2) (.int 1)) .nil) (.cons (.set 10 (.sub (.sub (.nm 6) (.nm 7)) (.bin .sub (.nm 2) (.int 1)))) (.cons (.set 11 (.bin .add (.lst (.cons (.int 0) .nil)) (.slc (.sub (.nm 6) (.nm 7)) .nil (.bin .sub (.nm 2) (.int 1))))) (.cons (.app 6 (.comp (.bin .mod (.bi .int_ (.cons (.bin .sub (.sub (.nm 11) (.nm 14)) (.bin .mul (.nm 10) (.sub (.nm 1) (.nm 14)))) .nil)) (.nm 0)) (.one 14) .rg1 (.cons (.nm 2) .nil) .nil)) .nil)))) (.cons (.set 8 (.lst .nil)) (.cons (.for_ (.one 9) .rg1 (.cons (.nm 3) .nil) (.cons (.set 12 (.call 89 (.cons (.nm 9) (.cons (.nm 0) (.cons (.nm 2) .nil))))) (.cons (.set 13 (.bin .mul (.lst (.cons (.int 0) .nil)) (.nm 2))) (.cons (.for_ (.one 7) .rg1 (.cons (.nm 2) .nil) (.cons (.set 13 (.comp (.bin .mod (.bi .int_ (.cons (.bin .add (.sub (.nm 13) (.nm 14)) (.bin .mul (.sub (.nm 12) (.nm 7)) (.sub (.sub (.nm 6) (.nm 7)) (.nm 14)))) .nil)) (.nm 0)) (.one 14) .rg1 (.cons (.nm 2) .nil) .nil)) .nil)) (.cons (.app 8 (.call 90 (.cons (.nm 13) (.cons (.nm 0) .nil)))) .nil))))) (.cons (.app 4 (.nm 8)) .nil)))))) (.cons (.ret (.nm 4)) .nil)))))
def d_law_products : DF := ⟨t_law_products, ["_law_prime", "_law_modulus", "_law_size", "_law_order_here", "_law_table", "_law_a", "_law_shifts", "_law_j", "_law_row_here", "_law_b", "_law_top", "_law_shifted", "_law_second", "_law_total", "_law_k"], 2, 0, 0, "_law_products", 100, 0, "_law_products"⟩
def t_law_most : MS := (.cons (.set 2 (.int 0)) (.cons (.set 3 (.nm 0)) (.cons (.for_ (.one 4) .rg1 (.cons (.int 7) .nil) (.cons (.ite (.cmp .le (.nm 3) (.nm 1)) (.cons (.set 2 (.bin .add (.nm 2) (.int 1))) .nil) .nil) (.cons (.set 3 (.bin .mul (.nm 3) (.nm 0))) .nil))) (.cons (.ret (.nm 2)) .nil))))
def d_law_most : DF := ⟨t_law_most, ["_law_order_here", "_law_limit", "_law_most_here", "_law_size", "_law_k"], 2, 0, 0, "_law_most", 101, 0, "_law_most"⟩
def t_law_rows : MS := (.cons (.set 5 (.lst .nil)) (.cons (.for_ (.one 6) .rg1 (.cons (.nm 4) .nil) (.cons (.app 5 (.comp (.bin .mod (.bi .int_ (.cons (.sub (.nm 0) (.bin .add (.bin .add (.nm 1) (.bin .mul (.nm 6) (.nm 3))) (.nm 7))) .nil)) (.nm 2)) (.one 7) .rg1 (.cons (.nm 3) .nil) .nil)) .nil)) (.cons (.ret (.nm 5)) .nil)))
def d_law_rows : DF := ⟨t_law_rows, ["_law_numbers_here", "_law_at", "_law_order_here", "_law_length", "_law_many", "_law_rows_here", "_law_k", "_law_j"], 5, 0, 0, "_law_rows", 102, 0, "_law_rows"⟩
def t_law_span : MS := (.cons (.set 4 (.lst (.cons (.bin .mul (.lst (.cons (.int 0) .nil)) (.nm 1)) .nil))) (.cons (.for_ (.one 5) .lst (.nm 0) (.cons (.ite (.cmp .nin (.nm 5) (.nm 4)) (.cons (.set 6 (.lst .nil)) (.cons (.for_ (.one 7) .rg1 (.cons (.bi .len (.cons (.nm 2) .nil)) .nil) (.cons (.for_ (.one 8) .lst (.nm 4) (.cons (.app 6 (.comp (.sub (.sub (.nm 2) (.sub (.nm 8) (.nm 9))) (.sub (.sub (.nm 3) (.nm 7)) (.sub (.nm 5) (.nm 9)))) (.one 9) .rg1 (.cons (.nm 1) .nil) .nil)) .nil)) .nil)) (.cons (.set 4 (.nm 6)) .nil))) .nil) .nil)) (.cons (.ret (.bi .sorted (.cons (.nm 4) .nil))) .nil)))
def d_law_span : DF := ⟨t_law_span, ["_law_rows_here", "_law_length", "_law_sums_here", "_law_products_here", "_law_words", "_law_row_here", "_law_longer", "_law_factor", "_law_word", "_law_k"], 4, 0, 0, "_law_span", 103, 0, "_law_span"⟩
def t_law_weight : MS := (.cons (.ret (.bi .len (.cons (.comp (.nm 1) (.one 1) .lst (.nm 0) (.cmp .ne (.nm 1) (.int 0))) .nil))) .nil)
def d_law_weight : DF := ⟨t_law_weight, ["_law_word", "_law_item"], 1, 0, 0, "_law_weight", 104, 0, "_law_weight"⟩
def t_law_identity : MS := (.cons (.ret (.comp (.comp (.bi .int_ (.cons (.cmp .eq (.nm 1) (.nm 2)) .nil)) (.one 2) .rg1 (.cons (.nm 0) .nil) .nil) (.one 1) .rg1 (.cons (.nm 0) .nil) .nil)) .nil)
def d_law_identity : DF := ⟨t_law_identity, ["_law_size", "_law_k", "_law_j"], 1, 0, 0, "_law_identity", 105, 0, "_law_identity"⟩
def t_law_dimension : MS := (.cons (.set 2 (.int 0)) (.cons (.set 3 (.int 1)) (.cons (.for_ (.one 4) .rg1 (.cons (.int 9) .nil) (.cons (.ite (.cmp .lt (.nm 3) (.bi .len (.cons (.nm 0) .nil))) (.cons (.set 3 (.bin .mul (.nm 3) (.nm 1))) (.cons (.set 2 (.bin .add (.nm 2) (.int 1))) .nil)) .nil) .nil)) (.cons (.ret (.nm 2)) .nil))))
def d_law_dimension : DF := ⟨t_law_dimension, ["_law_words", "_law_order_here", "_law_dimension_here", "_law_size", "_law_k"], 2, 0, 0, "_law_dimension", 106, 0, "_law_dimension"⟩
def t_law_is_integer : MS := (.cons (.ret (.and (.isI (.nm 0)) (.not (.isB (.nm 0))))) .nil)
def d_law_is_integer : DF := ⟨t_law_is_integer, ["_law_actual"], 1, 0, 0, "_law_is_integer", 107, 0, "_law_is_integer"⟩
def t_law_orthogonal : MS := (.cons (.set 4 (.lst .nil)) (.cons (.for_ (.one 5) .lst (.call 96 (.cons (.call 98 (.cons (.nm 1) .nil)) (.cons (.nm 1) (.cons (.nm 2) (.cons (.nm 3) .nil))))) (.cons (.set 6 (.bl true)) (.cons (.for_ (.one 7) .lst (.nm 0) (.cons (.ite (.nm 6) (.cons (.set 8 (.int 0)) (.cons (.for_ (.one 9) .rg1 (.cons (.nm 1) .nil) (.cons (.set 8 (.sub (.sub (.nm 2) (.nm 8)) (.sub (.sub (.nm 3) (.sub (.nm 7) (.nm 9))) (.sub (.nm 5) (.nm 9))))) .nil)) (.cons (.set 6 (.cmp .eq (.nm 8) (.int 0))) .nil))) .nil) .nil)) (.cons (.ite (.nm 6) (.cons (.app 4 (.nm 5)) .nil) .nil) .nil)))) (.cons (.ret (.nm 4)) .nil)))
def d_law_orthogonal : DF := ⟨t_law_orthogonal, ["_law_words", "_law_length", "_law_sums_here", "_law_products_here", "_law_found", "_law_word", "_law_good", "_law_other", "_law_total", "_law_k"], 4, 0, 0, "_law_orthogonal", 108, 0, "_law_orthogonal"⟩
def t_law_extended : MS := (.cons (.set 2 (.lst .nil)) (.cons (.for_ (.one 3) .lst (.nm 0) (.cons (.set 4 (.int 0)) (.cons (.for_ (.one 5) .lst (.nm 3) (.cons (.set 4 (.sub (.sub (.nm 1) (.nm 4)) (.nm 5))) .nil)) (.cons (.app 2 (.bin .add (.nm 3) (.lst (.cons (.idx (.sub (.nm 1) (.nm 4)) (.int 0)) .nil)))) .nil)))) (.cons (.ret (.nm 2)) .nil)))
def d_law_extended : DF := ⟨t_law_extended, ["_law_words", "_law_sums_here", "_law_longer", "_law_word", "_law_total", "_law_item"], 2, 0, 0, "_law_extended", 109, 0, "_law_extended"⟩
def t_law_kept : MS := (.cons (.set 3 (.lst .nil)) (.cons (.for_ (.one 4) .lst (.nm 0) (.cons (.set 5 (.comp (.sub (.nm 4) (.nm 7)) (.one 7) .rg1 (.cons (.bi .len (.cons (.nm 4) .nil)) .nil) (.cmp .nin (.nm 7) (.nm 1)))) (.cons (.set 6 (.comp (.sub (.nm 4) (.nm 7)) (.one 7) .lst (.nm 1) (.cmp .ne (.sub (.nm 4) (.nm 7)) (.int 0)))) (.cons (.ite (.and (.cmp .nin (.nm 5) (.nm 3)) (.or (.cmp .eq (.bi .len (.cons (.nm 6) .nil)) (.int 0)) (.not (.nm 2)))) (.cons (.app 3 (.nm 5)) .nil) .nil) .nil)))) (.cons (.ret (.nm 3)) .nil)))
def d_law_kept : DF := ⟨t_law_kept, ["_law_words", "_law_positions", "_law_zero", "_law_found", "_law_word", "_law_rest", "_law_at", "_law_k"], 3, 0, 0, "_law_kept", 110, 0, "_law_kept"⟩
def t_law_pairs : MS := (.cons (.set 4 (.lst .nil)) (.cons (.for_ (.one 5) .lst (.nm 0) (.cons (.for_ (.one 6) .lst (.nm 1) (.cons (.set 7 (.nm 6)) (.cons (.ite (.nm 3) (.cons (.set 7 (.comp (.sub (.sub (.nm 2) (.sub (.nm 5) (.nm 8))) (.sub (.nm 6) (.nm 8))) (.one 8) .rg1 (.cons (.bi .len (.cons (.nm 5) .nil)) .nil) .nil)) .nil) .nil) (.cons (.app 4 (.bin .add (.nm 5) (.nm 7))) .nil)))) .nil)) (.cons (.ret (.nm 4)) .nil)))
def d_law_pairs : DF := ⟨t_law_pairs, ["_law_first", "_law_second", "_law_sums_here", "_law_twice", "_law_found", "_law_word", "_law_other", "_law_last", "_law_k"], 4, 0, 0, "_law_pairs", 111, 0, "_law_pairs"⟩
def t_law_made : MS := (.cons (.set 6 (.bi .len (.cons (.sub (.sub (.nm 2) (.int 0)) (.int 0)) .nil))) (.cons (.ite (.cmp .eq (.nm 0) (.int 1)) (.cons (.ret (.tup (.cons (.call 50 (.cons (.sub (.nm 1) (.int 0)) .nil)) (.cons (.call 101 (.cons (.sub (.nm 2) (.int 0)) (.cons (.nm 6) (.cons (.nm 4) (.cons (.nm 5) .nil))))) .nil)))) .nil) .nil) (.cons (.ite (.cmp .eq (.nm 0) (.int 2)) (.cons (.ret (.tup (.cons (.call 54 (.cons (.sub (.nm 1) (.int 0)) .nil)) (.cons (.call 102 (.cons (.sub (.nm 2) (.int 0)) (.cons (.nm 4) .nil))) .nil)))) .nil) .nil) (.cons (.ite (.and (.cmp .eq (.nm 0) (.int 3)) (.cmp .gt (.nm 6) (.int 1))) (.cons (.ret (.tup (.cons (.call 52 (.cons (.sub (.nm 1) (.int 0)) (.cons (.nm 3) .nil))) (.cons (.call 103 (.cons (.sub (.nm 2) (.int 0)) (.cons (.nm 3) (.cons (.bl true) .nil)))) .nil)))) .nil) .nil) (.cons (.ite (.and (.cmp .eq (.nm 0) (.int 4)) (.cmp .gt (.nm 6) (.int 1))) (.cons (.ret (.tup (.cons (.call 53 (.cons (.sub (.nm 1) (.int 0)) (.cons (.nm 3) .nil))) (.cons (.call 103 (.cons (.sub (.nm 2) (.int 0)) (.cons (.nm 3) (.cons (.bl false) .nil)))) .nil)))) .nil) .nil) (.cons (.ite (.cmp .eq (.nm 0) (.int 5)) (.cons (.ret (.tup (.cons (.call 57 (.cons (.sub (.nm 1) (.int 0)) (.cons (.sub (.nm 1) (.int 1)) .nil))) (.cons (.call 104 (.cons (.sub (.nm 2) (.int 0)) (.cons (.sub (.nm 2) (.int 1)) (.cons (.nm 4) (.cons (.bl false) .nil))))) .nil)))) .nil) .nil) (.cons (.ite (.cmp .eq (.nm 0) (.int 6)) (.cons (.ret (.tup (.cons (.call 58 (.cons (.sub (.nm 1) (.int 0)) (.cons (.sub (.nm 1) (.int 1)) .nil))) (.cons (.call 104 (.cons (.sub (.nm 2) (.int 0)) (.cons (.sub (.nm 2) (.int 1)) (.cons (.nm 4) (.cons (.bl true) .nil))))) .nil)))) .nil) .nil) (.cons (.ite (.cmp .eq (.nm 0) (.int 7)) (.cons (.ret (.tup (.cons (.call 59 (.cons (.sub (.nm 1) (.int 0)) (.cons (.sub (.nm 1) (.int 1)) .nil))) (.cons (.call 96 (.cons (.bin .add (.sub (.nm 2) (.int 0)) (.sub (.nm 2) (.int 1))) (.cons (.nm 6) (.cons (.nm 4) (.cons (.nm 5) .nil))))) .nil)))) .nil) .nil) (.cons (.ite (.cmp .eq (.nm 0) (.int 8)) (.cons (.ret (.tup (.cons (.call 60 (.cons (.sub (.nm 1) (.int 0)) (.cons (.sub (.nm 1) (.int 1)) .nil))) (.cons (.comp (.nm 7) (.one 7) .lst (.sub (.nm 2) (.int 0)) (.cmp .in_ (.nm 7) (.sub (.nm 2) (.int 1)))) .nil)))) .nil) .nil) (.cons (.ret (.tup (.cons (.sub (.nm 1) (.int 0)) (.cons (.sub (.nm 2) (.int 0)) .nil)))) .nil))))))))))
def d_law_made : DF := ⟨t_law_made, ["_law_kind", "_law_codes_here", "_law_words", "_law_positions", "_law_sums_here", "_law_products_here", "_law_length", "_law_word"], 6, 0, 0, "_law_made", 112, 0, "_law_made"⟩
def t_law_choose : MS := (.cons (.set 2 (.int 1)) (.cons (.for_ (.one 3) .rg1 (.cons (.nm 1) .nil) (.cons (.set 2 (.bin .fdiv (.bin .mul (.nm 2) (.bin .sub (.nm 0) (.nm 3))) (.bin .add (.nm 3) (.int 1)))) .nil)) (.cons (.ret (.nm 2)) .nil)))
def d_law_choose : DF := ⟨t_law_choose, ["_law_many", "_law_k", "_law_ways", "_law_j"], 2, 0, 0, "_law_choose", 113, 0, "_law_choose"⟩
def t_law_distances : MS := (.cons (.set 4 (.int 1)) (.cons (.for_ (.one 5) .rg1 (.cons (.nm 3) .nil) (.cons (.ite (.and (.cmp .le (.nm 4) (.nm 3)) (.cmp .eq (.sub (.nm 2) (.nm 4)) (.int 0))) (.cons (.set 4 (.bin .add (.nm 4) (.int 1))) .nil) .nil) .nil)) (.cons (.ite (.cmp .eq (.bi .len (.cons (.nm 1) .nil)) (.int 1)) (.cons (.set 8 (.lst (.cons (.call 64 (.cons (.nm 0) .nil)) (.cons (.call 76 (.cons (.nm 0) .nil)) (.cons (.call 68 (.cons (.nm 0) .nil)) .nil))))) (.cons (.ret (.and (.cmp .eq (.nm 8) (.lst (.cons .non (.cons .non (.cons .non .nil))))) (.cmp .eq (.call 65 (.cons (.nm 0) .nil)) (.lst .nil)))) .nil)) .nil) (.cons (.set 6 (.call 76 (.cons (.nm 0) .nil))) (.cons (.ite (.or3 (.cmp .ne (.call 64 (.cons (.nm 0) .nil)) (.nm 4)) (.cmp .ne (.call 97 (.cons (.sub (.nm 6) (.int 0)) .nil)) (.nm 4)) (.cmp .nin (.sub (.nm 6) (.int 0)) (.nm 1))) (.cons (.ret (.bl false)) .nil) .nil) (.cons (.ite (.and (.cmp .le (.nm 3) (.int 5)) (.cmp .ne (.call 68 (.cons (.nm 0) .nil)) (.nm 4))) (.cons (.ret (.bl false)) .nil) .nil) (.cons (.set 7 (.call 65 (.cons (.nm 0) .nil))) (.cons (.ite (.or (.cmp .ne (.bi .len (.cons (.nm 7) .nil)) (.sub (.nm 2) (.nm 4))) (.cmp .gt (.bi .len (.cons (.comp (.nm 9) (.one 9) .lst (.nm 7) (.cmp .nin (.nm 9) (.nm 1))) .nil)) (.int 0))) (.cons (.ret (.bl false)) .nil) .nil) (.cons (.ite (.cmp .isn (.call 77 (.cons (.nm 0) (.cons (.nm 4) (.cons (.nm 6) .nil)))) (.bl true)) (.cons (.ret (.bl false)) .nil) .nil) (.cons (.ret (.and (.cmp .is_ (.call 77 (.cons (.nm 0) (.cons (.bin .add (.nm 4) (.int 1)) (.cons (.nm 6) .nil)))) (.bl false)) (.cmp .is_ (.call 77 (.cons (.nm 0) (.cons (.bin .sub (.nm 4) (.int 1)) (.cons (.nm 6) .nil)))) (.bl false)))) .nil))))))))))
def d_law_distances : DF := ⟨t_law_distances, ["_law_code", "_law_words", "_law_counts", "_law_length", "_law_least", "_law_k", "_law_paper", "_law_lightest", "_law_none", "_law_word"], 4, 0, 0, "_law_distances", 114, 0, "_law_distances"⟩
def t_law_moments : MS := (.cons (.set 5 (.bi .len (.cons (.nm 3) .nil))) (.cons (.set 6 (.bin .mul (.lst (.cons (.int 0) .nil)) (.bin .add (.nm 2) (.int 1)))) (.cons (.for_ (.one 7) .lst (.call 101 (.cons (.nm 0) (.cons (.nm 2) (.cons (.nm 3) (.cons (.nm 4) .nil))))) (.cons (.sets 6 (.call 97 (.cons (.nm 7) .nil)) (.bin .add (.sub (.nm 6) (.call 97 (.cons (.nm 7) .nil))) (.int 1))) .nil)) (.cons (.set 8 (.int 1)) (.cons (.for_ (.one 9) .rg1 (.cons (.bin .add (.nm 2) (.int 1)) .nil) (.cons (.set 10 (.int 0)) (.cons (.for_ (.one 11) .rg1 (.cons (.bin .add (.nm 9) (.int 1)) .nil) (.cons (.set 10 (.bin .add (.nm 10) (.bin .mul (.call 106 (.cons (.bin .sub (.nm 2) (.nm 11)) (.cons (.bin .sub (.nm 9) (.nm 11)) .nil))) (.sub (.nm 6) (.nm 11))))) .nil)) (.cons (.ite (.cmp .ne (.bin .mul (.nm 8) (.call 85 (.cons (.nm 1) (.cons (.nm 9) .nil)))) (.bin .mul (.bi .len (.cons (.nm 0) .nil)) (.nm 10))) (.cons (.ret (.bl false)) .nil) .nil) (.cons (.set 8 (.bin .mul (.nm 8) (.nm 5))) .nil))))) (.cons (.ret (.bl true)) .nil))))))
def d_law_moments : DF := ⟨t_law_moments, ["_law_words", "_law_counts", "_law_length", "_law_sums_here", "_law_products_here", "_law_order_here", "_law_dual_counts", "_law_word", "_law_power", "_law_k", "_law_total", "_law_weight_here"], 5, 0, 0, "_law_moments", 115, 0, "_law_moments"⟩
def t_law_codes : MS := (.cons (.set 5 (.bi .len (.cons (.nm 3) .nil))) (.cons (.set 6 (.bin .add (.int 1) (.bin .mod (.bi .int_ (.cons (.sub (.nm 0) (.int 1)) .nil)) (.bi .min2 (.cons (.int 4) (.cons (.bi .max2 (.cons (.int 1) (.cons (.call 94 (.cons (.nm 5) (.cons (.int 81) .nil))) .nil))) .nil)))))) (.cons (.set 7 (.call 94 (.cons (.nm 5) (.cons (.int 81) .nil)))) (.cons (.set 8 (.bin .mod (.bi .int_ (.cons (.sub (.nm 0) (.int 2)) .nil)) (.bin .add (.int 1) (.bi .min2 (.cons (.nm 6) (.cons (.nm 7) .nil)))))) (.cons (.set 9 (.bin .mod (.bi .int_ (.cons (.sub (.nm 0) (.int 3)) .nil)) (.bin .add (.int 1) (.bi .max2 (.cons (.int 0) (.cons (.bi .min2 (.cons (.nm 6) (.cons (.bin .sub (.nm 7) (.nm 8)) .nil))) .nil)))))) (.cons (.set 10 (.mk 6 (.cons (.nm 1) (.cons (.nm 2) .nil)))) (.cons (.set 11 (.lst .nil)) (.cons (.set 12 (.lst .nil)) (.cons (.for_ (.one 13) .rg1 (.cons (.int 2) .nil) (.cons (.set 14 (.call 95 (.cons (.nm 0) (.cons (.bin .add (.int 10) (.bin .mul (.int 20) (.nm 13))) (.cons (.nm 5) (.cons (.nm 6) (.cons (.sub (.lst (.cons (.nm 8) (.cons (.nm 9) .nil))) (.nm 13)) .nil))))))) (.cons (.app 11 (.mk 39 (.cons (.nm 10) (.cons (.nm 6) (.cons (.nm 14) .nil))))) (.cons (.app 12 (.call 96 (.cons (.nm 14) (.cons (.nm 6) (.cons (.nm 3) (.cons (.nm 4) .nil)))))) .nil)))) (.cons (.ret (.tup (.cons (.nm 11) (.cons (.nm 12) .nil)))) .nil))))))))))
def d_law_codes : DF := ⟨t_law_codes, ["_law_numbers_here", "_law_prime", "_law_modulus", "_law_sums_here", "_law_products_here", "_law_order_here", "_law_length", "_law_most_here", "_law_first", "_law_second", "_law_field_here", "_law_codes_here", "_law_words", "_law_k", "_law_rows_here"], 5, 0, 0, "_law_codes", 116, 0, "_law_codes"⟩
def t_law : MS := (.cons (.set 1 (.call 87 (.cons (.nm 0) (.cons (.int 60) .nil)))) (.cons (.unp [13, 14] (.call 88 (.cons (.sub (.nm 1) (.int 0)) .nil))) (.cons (.set 2 (.call 92 (.cons (.nm 13) (.cons (.nm 14) .nil)))) (.cons (.set 3 (.call 93 (.cons (.nm 13) (.cons (.nm 14) .nil)))) (.cons (.unp [15, 16] (.call 109 (.cons (.nm 1) (.cons (.nm 13) (.cons (.nm 14) (.cons (.nm 2) (.cons (.nm 3) .nil))))))) (.cons (.set 4 (.bi .len (.cons (.sub (.sub (.nm 16) (.int 0)) (.int 0)) .nil))) (.cons (.set 5 (.lst .nil)) (.cons (.for_ (.one 6) .rg1 (.cons (.bin .mod (.bi .int_ (.cons (.sub (.nm 1) (.int 5)) .nil)) (.nm 4)) .nil) (.cons (.set 17 (.bin .mod (.bi .int_ (.cons (.sub (.nm 1) (.bin .add (.int 6) (.nm 6))) .nil)) (.nm 4))) (.cons (.ite (.cmp .nin (.nm 17) (.nm 5)) (.cons (.app 5 (.nm 17)) .nil) .nil) .nil))) (.cons (.unp [18, 7] (.call 105 (.cons (.bin .mod (.bi .int_ (.cons (.sub (.nm 1) (.int 4)) .nil)) (.int 10)) (.cons (.nm 15) (.cons (.nm 16) (.cons (.nm 5) (.cons (.nm 2) (.cons (.nm 3) .nil)))))))) (.cons (.set 4 (.bi .len (.cons (.sub (.nm 7) (.int 0)) .nil))) (.cons (.set 7 (.bi .sorted (.cons (.nm 7) .nil))) (.cons (.set 8 (.bin .mul (.lst (.cons (.int 0) .nil)) (.bin .add (.nm 4) (.int 1)))) (.cons (.for_ (.one 9) .lst (.nm 7) (.cons (.sets 8 (.call 97 (.cons (.nm 9) .nil)) (.bin .add (.sub (.nm 8) (.call 97 (.cons (.nm 9) .nil))) (.int 1))) .nil)) (.cons (.set 10 (.call 78 (.cons (.nm 18) .nil))) (.cons (.ite (.or3 (.cmp .ne (.fld 1 1 (.nm 18)) (.nm 4)) (.cmp .ne (.meth0 47 (.nm 18)) (.nm 7)) (.cmp .ne (.nm 10) (.nm 8))) (.cons (.ret (.bl false)) .nil) .nil) (.cons (.for_ (.one 11) .lst (.nm 10) (.cons (.ite (.not (.call 100 (.cons (.nm 11) .nil))) (.cons (.ret (.bl false)) .nil) .nil) .nil)) (.cons (.set 12 (.int 1)) (.cons (.for_ (.one 6) .rg1 (.cons (.bin .sub (.nm 4) (.call 99 (.cons (.nm 7) (.cons (.bi .len (.cons (.nm 2) .nil)) .nil)))) .nil) (.cons (.set 12 (.bin .mul (.nm 12) (.bi .len (.cons (.nm 2) .nil)))) .nil)) (.cons (.ite (.and (.cmp .le (.nm 12) (.int 128)) (.cmp .ne (.call 83 (.cons (.nm 18) .nil)) (.nm 8))) (.cons (.ret (.bl false)) .nil) .nil) (.cons (.ite (.not (.call 107 (.cons (.nm 18) (.cons (.nm 7) (.cons (.nm 8) (.cons (.nm 4) .nil)))))) (.cons (.ret (.bl false)) .nil) .nil) (.cons (.ret (.or (.cmp .gt (.bin .mul (.nm 12) (.bi .len (.cons (.nm 7) .nil))) (.int 256)) (.call 108 (.cons (.nm 7) (.cons (.nm 8) (.cons (.nm 4) (.cons (.nm 2) (.cons (.nm 3) .nil)))))))) .nil)))))))))))))))))))))
def d_law : DF := ⟨t_law, ["_law_script", "_law_numbers_here", "_law_sums_here", "_law_products_here", "_law_length", "_law_positions", "_law_k", "_law_words", "_law_counts", "_law_word", "_law_actual", "_law_many", "_law_size", "_law_prime", "_law_modulus", "_law_codes_here", "_law_parts", "_law_position", "_law_code"], 1, 0, 0, "law", 117, 0, "law"⟩
def dfs0 : List DF := [d_int_power, d_is_prime, d_base_digits, d_integer_remainder, d_is_irreducible, d_is_modulus, d_Field_init, d_Field_digits, d_Field_element, d_Field_plus, d_Field_negative, d_Field_minus, d_Field_times, d_Field_inverse, d_Field_over, d_Field_power, d_Field_same_as, d_check_width, d_dot_product, d_row_with_pivot]
def dfs1 : List DF := [d_without_multiple, d_reduce_rows, d_rank_of, d_kernel, d_multiply_vector, d_transpose, d_multiply_matrices, d_invert_matrix, d_weight_of, d_support_of, d_check_lengths, d_erased_positions, d_is_word, d_is_received, d_zero_word, d_check_words, d_add_words, d_scale_word, d_check_rows, d_LinearCode_init]
def dfs2 : List DF := [d_LinearCode_rows, d_LinearCode_pivots, d_LinearCode_checks, d_LinearCode_size, d_LinearCode_check_word, d_LinearCode_syndrome, d_LinearCode_contains, d_LinearCode_words, d_LinearCode_same_as, d_code_from_checks, d_dual, d_kept_positions, d_shortened, d_punctured, d_extended, d_check_fields, d_check_alike, d_joined, d_doubled, d_span_of]
def dfs3 : List DF := [d_meeting, d_sign_of, d_words_of_weight, d_words_within, d_minimum_distance, d_lightest_words, d_items_at, d_longer_sets, d_distance_by_columns, d_information_sets, d_is_information_set, d_are_separate_sets, d_rows_at, d_sums_of_rows, d_seen_words, d_is_enough, d_distance_certificate, d_check_distance, d_enumerator, d_krawtchouk]
def dfs4 : List DF := [d_is_power_of, d_check_usable, d_dual_enumerator, d_enumerator_by_dual, d_check_counts, d_binomial_moment, d_law_row, d_law_numbers, d_law_field, d_law_digits, d_law_element, d_law_order, d_law_sums, d_law_products, d_law_most, d_law_rows, d_law_span, d_law_weight, d_law_identity, d_law_dimension]
def dfs5 : List DF := [d_law_is_integer, d_law_orthogonal, d_law_extended, d_law_kept, d_law_pairs, d_law_made, d_law_choose, d_law_distances, d_law_moments, d_law_codes, d_law]
def dfs : List DF := dfs0 ++ dfs1 ++ dfs2 ++ dfs3 ++ dfs4 ++ dfs5
def noDF : DF := ⟨.nev, [], 0, 9, 0, "", 0, 0, ""⟩
def df (f : Nat) : DF := dfs.getD f noDF
def flds (c : Nat) : List Str := match c with
  | 0 => ["prime", "modulus", "degree", "order"]
  | 1 => ["field", "length", "dimension", "_rows", "_pivots", "_checks", "_size"]
  | _ => []
def clsNm (c : Nat) : Str := match c with
  | 0 => "Field"
  | _ => "LinearCode"
def gnms : List Str := ["LARGEST_PRIME", "LARGEST_ORDER", "MOST_ITEMS", "MOST_WORDS", "MOST_SETS", "MOST_MESSAGES"]
def gvals : List Int := [31, 256, 255, 4096, 4096, 4096]
def GG (g : Nat) : Int := gvals.getD g 0
def TTb : Tb := ⟨fun f => (df f).nm, fun f => (df f).knd, fun f => (df f).cls, clsNm, flds, 2, fun g => gnms.getD g "", 6⟩
abbrev F_int_power : Nat := 0
abbrev F_is_prime : Nat := 1
abbrev F_base_digits : Nat := 2
abbrev F_integer_remainder : Nat := 3
abbrev F_is_irreducible : Nat := 4
abbrev F_is_modulus : Nat := 5
abbrev F_Field_init : Nat := 6
abbrev F_Field_digits : Nat := 7
abbrev F_Field_element : Nat := 8
abbrev F_Field_plus : Nat := 9
abbrev F_Field_negative : Nat := 10
abbrev F_Field_minus : Nat := 11
abbrev F_Field_times : Nat := 12
abbrev F_Field_inverse : Nat := 13
abbrev F_Field_over : Nat := 14
abbrev F_Field_power : Nat := 15
abbrev F_Field_same_as : Nat := 16
abbrev F_check_width : Nat := 17
abbrev F_dot_product : Nat := 18
abbrev F_row_with_pivot : Nat := 19
abbrev F_without_multiple : Nat := 20
abbrev F_reduce_rows : Nat := 21
abbrev F_rank_of : Nat := 22
abbrev F_kernel : Nat := 23
abbrev F_multiply_vector : Nat := 24
abbrev F_transpose : Nat := 25
abbrev F_multiply_matrices : Nat := 26
abbrev F_invert_matrix : Nat := 27
abbrev F_weight_of : Nat := 28
abbrev F_support_of : Nat := 29
abbrev F_check_lengths : Nat := 30
abbrev F_erased_positions : Nat := 31
abbrev F_is_word : Nat := 32
abbrev F_is_received : Nat := 33
abbrev F_zero_word : Nat := 34
abbrev F_check_words : Nat := 35
abbrev F_add_words : Nat := 36
abbrev F_scale_word : Nat := 37
abbrev F_check_rows : Nat := 38
abbrev F_LinearCode_init : Nat := 39
abbrev F_LinearCode_rows : Nat := 40
abbrev F_LinearCode_pivots : Nat := 41
abbrev F_LinearCode_checks : Nat := 42
abbrev F_LinearCode_size : Nat := 43
abbrev F_LinearCode_check_word : Nat := 44
abbrev F_LinearCode_syndrome : Nat := 45
abbrev F_LinearCode_contains : Nat := 46
abbrev F_LinearCode_words : Nat := 47
abbrev F_LinearCode_same_as : Nat := 48
abbrev F_code_from_checks : Nat := 49
abbrev F_dual : Nat := 50
abbrev F_kept_positions : Nat := 51
abbrev F_shortened : Nat := 52
abbrev F_punctured : Nat := 53
abbrev F_extended : Nat := 54
abbrev F_check_fields : Nat := 55
abbrev F_check_alike : Nat := 56
abbrev F_joined : Nat := 57
abbrev F_doubled : Nat := 58
abbrev F_span_of : Nat := 59
abbrev F_meeting : Nat := 60
abbrev F_sign_of : Nat := 61
abbrev F_words_of_weight : Nat := 62
abbrev F_words_within : Nat := 63
abbrev F_minimum_distance : Nat := 64
abbrev F_lightest_words : Nat := 65
abbrev F_items_at : Nat := 66
abbrev F_longer_sets : Nat := 67
abbrev F_distance_by_columns : Nat := 68
abbrev F_information_sets : Nat := 69
abbrev F_is_information_set : Nat := 70
abbrev F_are_separate_sets : Nat := 71
abbrev F_rows_at : Nat := 72
abbrev F_sums_of_rows : Nat := 73
abbrev F_seen_words : Nat := 74
abbrev F_is_enough : Nat := 75
abbrev F_distance_certificate : Nat := 76
abbrev F_check_distance : Nat := 77
abbrev F_enumerator : Nat := 78
abbrev F_krawtchouk : Nat := 79
abbrev F_is_power_of : Nat := 80
abbrev F_check_usable : Nat := 81
abbrev F_dual_enumerator : Nat := 82
abbrev F_enumerator_by_dual : Nat := 83
abbrev F_check_counts : Nat := 84
abbrev F_binomial_moment : Nat := 85
abbrev F_law_row : Nat := 86
abbrev F_law_numbers : Nat := 87
abbrev F_law_field : Nat := 88
abbrev F_law_digits : Nat := 89
abbrev F_law_element : Nat := 90
abbrev F_law_order : Nat := 91
abbrev F_law_sums : Nat := 92
abbrev F_law_products : Nat := 93
abbrev F_law_most : Nat := 94
abbrev F_law_rows : Nat := 95
abbrev F_law_span : Nat := 96
abbrev F_law_weight : Nat := 97
abbrev F_law_identity : Nat := 98
abbrev F_law_dimension : Nat := 99
abbrev F_law_is_integer : Nat := 100
abbrev F_law_orthogonal : Nat := 101
abbrev F_law_extended : Nat := 102
abbrev F_law_kept : Nat := 103
abbrev F_law_pairs : Nat := 104
abbrev F_law_made : Nat := 105
abbrev F_law_choose : Nat := 106
abbrev F_law_distances : Nat := 107
abbrev F_law_moments : Nat := 108
abbrev F_law_codes : Nat := 109
abbrev F_law : Nat := 110
end MN
end S_MnProg
section S_MnHdA
set_option maxRecDepth 100000
set_option maxHeartbeats 0
/-! The head, first half: the runs of the program's top. -/
namespace MN
open PySem PySem.Spec PyProof.Rows L2
abbrev PwH : PySem.Program := PySem.Challenge.pw_nearestword_k92_whole_counts_by_both_roa
abbrev topsH : List Stmt := PwH.main.body
abbrev RwH : PySem.W.OpenRow := PySem.W.OpenLaw.row PySem.Challenge.rw_nearestword_k92_whole_counts_by_both_roa
abbrev qv : PySem.Program := PySem.W.view RwH.prog [0, 117]
def names0 : List PySem.Str := ["_wall", "CodeError", "InvalidField", "ZeroElement", "InvalidMatrix", "SingularMatrix", "InvalidWord", "InvalidCode", "TooLarge", "LARGEST_PRIME", "LARGEST_ORDER", "int_power", "is_prime", "base_digits", "integer_remainder", "is_irreducible", "is_modulus", "Field", "check_width", "dot_product", "row_with_pivot", "without_multiple", "reduce_rows", "rank_of", "kernel", "multiply_vector", "transpose", "multiply_matrices", "invert_matrix", "weight_of"]
def names1 : List PySem.Str := ["support_of", "check_lengths", "erased_positions", "is_word", "is_received", "zero_word", "check_words", "add_words", "scale_word", "MOST_ITEMS", "MOST_WORDS", "check_rows", "LinearCode", "code_from_checks", "dual", "kept_positions", "shortened", "punctured", "extended", "check_fields", "check_alike", "joined", "doubled", "span_of", "meeting", "sign_of", "words_of_weight", "words_within", "MOST_SETS", "MOST_MESSAGES"]
def names2 : List PySem.Str := ["minimum_distance", "lightest_words", "items_at", "longer_sets", "distance_by_columns", "information_sets", "is_information_set", "are_separate_sets", "rows_at", "sums_of_rows", "seen_words", "is_enough", "distance_certificate", "check_distance", "enumerator", "krawtchouk", "is_power_of", "check_usable", "dual_enumerator", "enumerator_by_dual", "check_counts", "binomial_moment", "_law_row", "_law_numbers", "_law_field", "_law_digits", "_law_element", "_law_order", "_law_sums", "_law_products"]
def names3 : List PySem.Str := ["_law_most", "_law_rows", "_law_span", "_law_weight", "_law_identity", "_law_dimension", "_law_is_integer", "_law_orthogonal", "_law_extended", "_law_kept", "_law_pairs", "_law_made", "_law_choose", "_law_distances", "_law_moments", "_law_codes"]
def names : List PySem.Str := names0 ++ names1 ++ names2 ++ names3

def stOf (tops : List Stmt) (d : DF) : Stmt := if d.knd = 0 then tops.getD d.top (.Pass ⟨0, 0, 0, 0⟩) else inClass (tops.getD d.top (.Pass ⟨0, 0, 0, 0⟩)) d.inn
def dflN (d : DF) : Nat := if d.qual = "Field.__init__" then 1 else 0
open He in
def getA (K : PySem.W.Frag) (x m : Str) : Addr := match PySem.W.recIn K (ma K (ga K x) m) "property" with
  | some (.ref g :: _) => g
  | _ => 0
open He in
def dAt (d : DF) (K : PySem.W.Frag) : Addr := match d.knd with
  | 0 => ga K d.nm
  | 3 => getA K (clsNm d.cls) d.nm
  | _ => ma K (ga K (clsNm d.cls)) d.nm
open He in
def dA (d : DF) : He5.DefA := ⟨dAt d, d.nm, d.qual, defArgs (stOf topsH d), defBody (stOf topsH d), defScope (stOf topsH d), (match dflN d with
  | 0 => []
  | _ => [.adr (dflAt ("Field", some "__init__") 0)]), []⟩
open He in
def propB (K : PySem.W.Frag) (x m : Str) : Bool := eqO (PySem.W.findIn K (.ref (ga K x)) m) (some (some (.ref (ma K (ga K x) m)))) && (eqO (PySem.W.specialIn K (.ref (ma K (ga K x) m)) "__get__") (some (some (.builtin "property.__get__"))) &&
  (decide (PySem.W.takesIn K (.ref (ma K (ga K x) m)) = some true) && (match PySem.W.recIn K (ma K (ga K x) m) "property" with
    | some (.ref _ :: _) => true
    | _ => false)))
open He in
def dfB (K : PySem.W.Frag) (d : DF) : Bool := match d.knd with
  | 0 => (Fa.glo d.nm).ok K
  | 1 => (Fa.mkr (clsNm d.cls)).ok K && decide (d.nm = "__init__")
  | 2 => (Fa.meth (clsNm d.cls) d.nm).ok K
  | 3 => propB K (clsNm d.cls) d.nm
  | _ => false
def frees : List Str := ["len", "abs", "max", "min", "int", "sum", "sorted", "list", "range", "reversed", "zip", "set", "isinstance", "bool"]
open He in
def restB (K : PySem.W.Frag) : Bool := ([0, 1].all fun c => (Fa.glo (clsNm c)).ok K && ((Fa.cls (clsNm c)).ok K && (flds c).all fun n => (Fa.noat (clsNm c) n).ok K)) && ((frees.all fun x => (Fa.free x).ok K) &&
  (((List.range TTb.ngl).all fun g => (Fa.int (TTb.gnm g) (GG g)).ok K) && eqO (PySem.W.nsIn K mainGlobals "comb") (some (some (.builtin "math.comb")))))
def vals0 : List He5.FnW := [(dA d_int_power).val, (dA d_is_prime).val, (dA d_base_digits).val, (dA d_integer_remainder).val, (dA d_is_irreducible).val, (dA d_is_modulus).val, (dA d_Field_init).val, (dA d_Field_digits).val, (dA d_Field_element).val, (dA d_Field_plus).val, (dA d_Field_negative).val, (dA d_Field_minus).val, (dA d_Field_times).val, (dA d_Field_inverse).val, (dA d_Field_over).val, (dA d_Field_power).val, (dA d_Field_same_as).val, (dA d_check_width).val, (dA d_dot_product).val, (dA d_row_with_pivot).val]
def vals1 : List He5.FnW := [(dA d_without_multiple).val, (dA d_reduce_rows).val, (dA d_rank_of).val, (dA d_kernel).val, (dA d_multiply_vector).val, (dA d_transpose).val, (dA d_multiply_matrices).val, (dA d_invert_matrix).val, (dA d_weight_of).val, (dA d_support_of).val, (dA d_check_lengths).val, (dA d_erased_positions).val, (dA d_is_word).val, (dA d_is_received).val, (dA d_zero_word).val, (dA d_check_words).val, (dA d_add_words).val, (dA d_scale_word).val, (dA d_check_rows).val, (dA d_LinearCode_init).val]
def vals2 : List He5.FnW := [(dA d_LinearCode_rows).val, (dA d_LinearCode_pivots).val, (dA d_LinearCode_checks).val, (dA d_LinearCode_size).val, (dA d_LinearCode_check_word).val, (dA d_LinearCode_syndrome).val, (dA d_LinearCode_contains).val, (dA d_LinearCode_words).val, (dA d_LinearCode_same_as).val, (dA d_code_from_checks).val, (dA d_dual).val, (dA d_kept_positions).val, (dA d_shortened).val, (dA d_punctured).val, (dA d_extended).val, (dA d_check_fields).val, (dA d_check_alike).val, (dA d_joined).val, (dA d_doubled).val, (dA d_span_of).val]
def vals3 : List He5.FnW := [(dA d_meeting).val, (dA d_sign_of).val, (dA d_words_of_weight).val, (dA d_words_within).val, (dA d_minimum_distance).val, (dA d_lightest_words).val, (dA d_items_at).val, (dA d_longer_sets).val, (dA d_distance_by_columns).val, (dA d_information_sets).val, (dA d_is_information_set).val, (dA d_are_separate_sets).val, (dA d_rows_at).val, (dA d_sums_of_rows).val, (dA d_seen_words).val, (dA d_is_enough).val, (dA d_distance_certificate).val, (dA d_check_distance).val, (dA d_enumerator).val, (dA d_krawtchouk).val]
def vals4 : List He5.FnW := [(dA d_is_power_of).val, (dA d_check_usable).val, (dA d_dual_enumerator).val, (dA d_enumerator_by_dual).val, (dA d_check_counts).val, (dA d_binomial_moment).val, (dA d_law_row).val, (dA d_law_numbers).val, (dA d_law_field).val, (dA d_law_digits).val, (dA d_law_element).val, (dA d_law_order).val, (dA d_law_sums).val, (dA d_law_products).val, (dA d_law_most).val, (dA d_law_rows).val, (dA d_law_span).val, (dA d_law_weight).val, (dA d_law_identity).val, (dA d_law_dimension).val]
def vals5 : List He5.FnW := [(dA d_law_is_integer).val, (dA d_law_orthogonal).val, (dA d_law_extended).val, (dA d_law_kept).val, (dA d_law_pairs).val, (dA d_law_made).val, (dA d_law_choose).val, (dA d_law_distances).val, (dA d_law_moments).val, (dA d_law_codes).val, (dA d_law).val]
def vals : List He5.FnW := vals0 ++ vals1 ++ vals2 ++ vals3 ++ vals4 ++ vals5
def ob1 (K : PySem.W.Frag) : He.AlD := (restB K && (dfs.all fun d => dfB K d), dfs.map fun d => He5.fnA K (dAt d K))
def ob2 (K : PySem.W.Frag) : Bool := dfs.all fun d => (dA d).ok K
def obsM (K : PySem.W.Frag) : He.AlD × Bool := (ob1 K, ob2 K)
def valM : He.AlD × Bool := ((true, vals), true)
theorem vals_eq : vals = dfs.map fun d => (dA d).val := rfl
def forceK {β : Type} : List (Addr × Obj) → (List (Addr × Obj) → β) → β
  | [], k => k []
  | (a, ⟨c, d, dt, sl⟩) :: l, k => HandSHeadRun.frNat a fun a => forceK l fun l => k ((a, ⟨c, d, dt, sl⟩) :: l)
theorem forceK_eq {β : Type} : ∀ (l : List (Addr × Obj)) (k : List (Addr × Obj) → β), forceK l k = k l
  | [], k => rfl
  | (a, ⟨c, d, dt, sl⟩) :: l, k => by
    show HandSHeadRun.frNat a (fun a => forceK l fun l => k ((a, ⟨c, d, dt, sl⟩) :: l)) = _
    rw [HandSHeadRun.frNat_eq, forceK_eq l]
def levH (g : Addr → Option Obj) : Nat → List Addr → List Addr
  | 0, as => as
  | n + 1, as => as ++ levH g n (as.flatMap fun a => match g a with
    | some o => He.refsD o
    | none => [])
def asB (g : Addr → Option Obj) : List Addr := cStatics :: levH g 6 [mainGlobals]
def obsMG (g : Addr → Option Obj) : He.AlD × Bool := obsM (He.frG g (asB g))
def hookM : PySem.W.Hook where
  α := He.AlD × Bool
  obs := fun s => obsMG s.heap.get?
  val := fun _ => valM
  says := fun _ h => ∃ K : PySem.W.Frag, K.In h ∧ obsM K = valM
  of := fun _ _ e => ⟨_, He.frG_in, e⟩
  keeps := fun _ _ _ ⟨K, hK, c⟩ k => ⟨K, PySem.W.Frag.In.keeps hK k, c⟩
def ob (s : PySem.W.SharedT) : He.AlD × Bool := obsMG (HandSHeadRun.getT s)
theorem ob_eq (s : PySem.W.SharedT) : ob s = hookM.obs s.abs := by
  have e : HandSHeadRun.getT s = s.abs.heap.get? := funext (HandSHeadRun.getT_eq s)
  show obsMG (HandSHeadRun.getT s) = obsMG s.abs.heap.get?
  rw [e]
/-! ### the run, three times: each look takes its own check (memory) -/
theorem run2 (w : World) : (HandSHeadRun.wholeF (fun p => HandSHeadRun.stepQ (HandSHeadRun.denQ HandSHeadRun.tabQ) p w) HandSHeadRun.fenceQ 8000 RwH.prog).map (fun x => forceK (He.frG (HandSHeadRun.getT x.2) (asB (HandSHeadRun.getT x.2))) ob2) = some true := by
  kernel_rfl
theorem run0 (w : World) : (HandSHeadRun.wholeF (fun p => HandSHeadRun.stepQ (HandSHeadRun.denQ HandSHeadRun.tabQ) p w) HandSHeadRun.fenceQ 8000 RwH.prog).map (fun x => (HandSHeadRun.looksF RwH.prog x.1.heap x.2.abs, HandSHeadRun.seenQ qv names (importedModules RwH.prog.main.body) (fun s => PySem.W.xlAt qv [] s && PySem.W.recOk RwH.toRowW.records s) x.2.abs)) = some (true, PySem.W.openGood qv names) := by
  kernel_rfl
theorem run1 (w : World) : (HandSHeadRun.wholeF (fun p => HandSHeadRun.stepQ (HandSHeadRun.denQ HandSHeadRun.tabQ) p w) HandSHeadRun.fenceQ 8000 RwH.prog).map (fun x => forceK (He.frG (HandSHeadRun.getT x.2) (asB (HandSHeadRun.getT x.2))) ob1) = some (true, vals) := by
  kernel_rfl
end MN
end S_MnHdA
section S_MnRep
set_option maxRecDepth 100000
/-! What a value stands for in a heap; heaps with hidden objects; environments. -/
namespace MN
open PySem PySem.Spec PyProof.Rows L2

/-- where the classes stand, and their attributes by name, in order -/
structure Wd where
  K : PySem.W.Frag
  cl : Nat → Addr
  fl : Nat → List Str

mutual
inductive Rep (W : Wd) (H : Hp) : V → D → Prop
  | non : Rep W H .non .non
  | bl (b : Bool) : Rep W H (.bl b) (.bl b)
  | int (i : Int) : Rep W H (.int i) (.int i)
  | lst {a : Addr} {xs : List V} {ds : List D} : H a = some (.lst xs) → RepAll W H xs ds → Rep W H (.ref a) (.lst ds)
  | tup {a : Addr} {xs : List V} {ds : List D} : H a = some (.tup xs) → RepAll W H xs ds → Rep W H (.ref a) (.tup ds)
  | ins {a dx : Addr} {c : Nat} {xs : List V} {ds : List D} : H a = some (.ins (W.cl c) dx ((W.fl c).zip xs)) → (W.fl c).length = xs.length → RepAll W H xs ds → Rep W H (.ref a) (.ins c ds)
  | scr {a : Addr} {ns : List Int} : SqL W.K H a (ns.map V.int) → Rep W H (.ref a) (.scr ns)
inductive RepAll (W : Wd) (H : Hp) : List V → List D → Prop
  | nil : RepAll W H [] []
  | cons {v : V} {vs : List V} {d : D} {ds : List D} : Rep W H v d → RepAll W H vs ds → RepAll W H (v :: vs) (d :: ds)
end

section
variable {W : Wd} {H H' : Hp}
mutual
theorem Rep.mono (s : Same H H') : ∀ {v : V} {d : D}, Rep W H v d → Rep W H' v d
  | _, _, .non => .non
  | _, _, .bl b => .bl b
  | _, _, .int i => .int i
  | _, _, .lst h r => .lst (s _ _ h) (RepAll.mono s r)
  | _, _, .tup h r => .tup (s _ _ h) (RepAll.mono s r)
  | _, _, .ins h l r => .ins (s _ _ h) l (RepAll.mono s r)
  | _, _, .scr h => .scr (s.seq h)
theorem RepAll.mono (s : Same H H') : ∀ {vs : List V} {ds : List D}, RepAll W H vs ds → RepAll W H' vs ds
  | _, _, .nil => .nil
  | _, _, .cons h r => .cons (Rep.mono s h) (RepAll.mono s r)
end
theorem Rep.flat {v : V} {d : D} (h : Rep W H v d) (f : flat d = true) (H' : Hp) : Rep W H' v d := by
  cases h with
  | non => exact .non
  | bl b => exact .bl b
  | int i => exact .int i
  | lst _ _ => cases f
  | tup _ _ => cases f
  | ins _ _ _ => cases f
  | scr _ => cases f
theorem RepAll.length : ∀ {vs : List V} {ds : List D}, RepAll W H vs ds → vs.length = ds.length
  | _, _, .nil => rfl
  | _, _, .cons _ r => congrArg (· + 1) r.length
theorem RepAll.get : ∀ {vs : List V} {ds : List D} {i : Nat} {d : D}, RepAll W H vs ds → ds[i]? = some d → ∃ v, vs[i]? = some v ∧ Rep W H v d
  | _, _, 0, _, .cons h _, e => ⟨_, rfl, by cases (show some _ = some _ from e); exact h⟩
  | _, _, i + 1, _, .cons _ r, e => RepAll.get (i := i) r (by simpa using e)
theorem RepAll.getV : ∀ {vs : List V} {ds : List D} {i : Nat} {v : V}, RepAll W H vs ds → vs[i]? = some v → ∃ d, ds[i]? = some d ∧ Rep W H v d
  | _, _, 0, _, .cons h _, e => ⟨_, rfl, by cases (show some _ = some _ from e); exact h⟩
  | _, _, i + 1, _, .cons _ r, e => RepAll.getV (i := i) r (by simpa using e)
theorem RepAll.of_get : ∀ {vs : List V} {ds : List D}, vs.length = ds.length → (∀ (i : Nat) (v : V) (d : D), vs[i]? = some v → ds[i]? = some d → Rep W H v d) → RepAll W H vs ds
  | [], [], _, _ => .nil
  | [], _ :: _, e, _ => by cases e
  | _ :: _, [], e, _ => by cases e
  | v :: vs, d :: ds, e, h => .cons (h 0 v d rfl rfl) (RepAll.of_get (Nat.succ.inj e) fun i v d a b => h (i + 1) v d (by simpa using a) (by simpa using b))
theorem RepAll.append : ∀ {vs ws : List V} {ds es : List D}, RepAll W H vs ds → RepAll W H ws es → RepAll W H (vs ++ ws) (ds ++ es)
  | _, _, _, _, .nil, q => q
  | _, _, _, _, .cons h r, q => .cons h (RepAll.append r q)
theorem RepAll.set {v : V} {d : D} (h : Rep W H v d) : ∀ {vs : List V} {ds : List D} (i : Nat), RepAll W H vs ds → RepAll W H (vs.set i v) (ds.set i d)
  | _, _, _, .nil => .nil
  | _, _, 0, .cons _ r => .cons h r
  | _, _, i + 1, .cons q r => .cons q (RepAll.set h i r)
theorem RepAll.take : ∀ {vs : List V} {ds : List D} (n : Nat), RepAll W H vs ds → RepAll W H (vs.take n) (ds.take n)
  | _, _, 0, _ => by simpa using RepAll.nil
  | _, _, _ + 1, .nil => .nil
  | _, _, n + 1, .cons q r => .cons q (RepAll.take n r)
theorem RepAll.drop : ∀ {vs : List V} {ds : List D} (n : Nat), RepAll W H vs ds → RepAll W H (vs.drop n) (ds.drop n)
  | _, _, 0, r => r
  | _, _, _ + 1, .nil => .nil
  | _, _, n + 1, .cons q r => RepAll.drop n r
theorem RepAll.reverse {vs : List V} {ds : List D} (r : RepAll W H vs ds) : RepAll W H vs.reverse ds.reverse := by
  induction vs generalizing ds with
  | nil => cases r; exact .nil
  | cons v vs ih =>
    cases r with
    | cons h r =>
      rw [List.reverse_cons, List.reverse_cons]
      exact (ih r).append (.cons h .nil)
theorem RepAll.rep {vs : List V} {ds : List D} (r : RepAll W H vs ds) : ∀ k : Nat, RepAll W H (List.replicate k vs).flatten (List.replicate k ds).flatten
  | 0 => .nil
  | k + 1 => by
    rw [List.replicate_succ, List.replicate_succ, List.flatten_cons, List.flatten_cons]
    exact r.append (r.rep k)
theorem RepAll.dropLast {vs : List V} {ds : List D} (r : RepAll W H vs ds) : RepAll W H vs.dropLast ds.dropLast := by
  rw [List.dropLast_eq_take, List.dropLast_eq_take, r.length]
  exact r.take _
theorem RepAll.cut {vs : List V} {ds : List D} (r : RepAll W H vs ds) (lo hi : Option Int) : RepAll W H (cutV vs lo hi) (cutD ds lo hi) := by
  unfold cutV cutD
  rw [r.length]
  exact (r.drop _).take _
theorem repAll_ints : ∀ ns : List Int, RepAll W H (ns.map V.int) (ns.map D.int)
  | [] => .nil
  | n :: ns => .cons (.int n) (repAll_ints ns)
theorem RepAll.intsV : ∀ {vs : List V} {ns : List Int}, RepAll W H vs (ns.map D.int) → vs = ns.map V.int
  | vs, [], r => by cases r; rfl
  | vs, n :: ns, r => by
    cases r with
    | cons h r =>
      cases h
      rw [r.intsV]
      rfl
theorem intsOf_eq : ∀ {ds : List D} {ns : List Int}, intsOf ds = some ns → ds = ns.map D.int
  | [], ns, e => by cases e; rfl
  | d :: ds, ns, e => by
    have e1 : ((intOf d).bind fun y => (mapO intOf ds).bind fun ys => some (y :: ys)) = some ns := e
    cases h : intOf d with
    | none => rw [h] at e1; cases e1
    | some y =>
      rw [h] at e1
      cases h2 : mapO intOf ds with
      | none => simp [h2] at e1
      | some ys =>
        have q := intsOf_eq (ds := ds) (ns := ys) h2
        simp [h2] at e1
        subst e1
        cases d <;> first | (cases h; rw [q]; rfl) | cases h
theorem RepAll.ints {vs : List V} {ds : List D} {ns : List Int} (r : RepAll W H vs ds) (e : intsOf ds = some ns) : vs = ns.map V.int := by
  rw [intsOf_eq e] at r
  exact r.intsV
theorem RepAll.one {vs : List V} {d : D} (r : RepAll W H vs [d]) : ∃ v, vs = [v] ∧ Rep W H v d := by
  cases r with
  | cons h r => cases r; exact ⟨_, rfl, h⟩
theorem RepAll.two {vs : List V} {d e : D} (r : RepAll W H vs [d, e]) : ∃ v w, vs = [v, w] ∧ Rep W H v d ∧ Rep W H w e := by
  cases r with
  | cons h r =>
    obtain ⟨w, rfl, q⟩ := r.one
    exact ⟨_, _, rfl, h, q⟩
end

/-! heaps with hidden objects -/
open Classical in
noncomputable def Hh (S : Addr → Prop) (A : Nat → Option Addr) (H : Hp) : Hp := fun b => if S b ∨ ∃ i, A i = some b then none else H b
def dropA (A : Nat → Option Addr) (L : List Nat) : Nat → Option Addr := fun i => if L.contains i then none else A i
section
variable {S S' : Addr → Prop} {A : Nat → Option Addr} {H H' : Hp}
theorem hh_some {b : Addr} {o : HO} : Hh S A H b = some o ↔ (¬ S b ∧ (∀ i, A i ≠ some b) ∧ H b = some o) := by
  unfold Hh
  by_cases h : S b ∨ ∃ i, A i = some b
  · rw [if_pos h]
    constructor
    · intro e; cases e
    · rintro ⟨h1, h2, _⟩
      rcases h with h | ⟨i, h⟩
      · exact absurd h h1
      · exact absurd h (h2 i)
  · rw [if_neg h]
    constructor
    · intro e
      exact ⟨fun z => h (.inl z), fun i z => h (.inr ⟨i, z⟩), e⟩
    · exact fun e => e.2.2
theorem hh_same : Same (Hh S A H) H := fun b o e => (hh_some.mp e).2.2
theorem hh_mono (s : Same H H') : Same (Hh S A H) (Hh S A H') := fun b o e => by
  obtain ⟨h1, h2, h3⟩ := hh_some.mp e
  exact hh_some.mpr ⟨h1, h2, s _ _ h3⟩
theorem dropA_some {L : List Nat} {i : Nat} {a : Addr} : dropA A L i = some a ↔ i ∉ L ∧ A i = some a := by
  unfold dropA
  by_cases h : L.contains i
  · rw [if_pos h]
    have h' : i ∈ L := by simpa using h
    simp [h']
  · rw [if_neg h]
    have h' : i ∉ L := by simpa using h
    simp [h']
theorem hh_drop {L : List Nat} : Same (Hh S A H) (Hh S (dropA A L) H) := fun b o e => by
  obtain ⟨h1, h2, h3⟩ := hh_some.mp e
  exact hh_some.mpr ⟨h1, fun i z => h2 i (dropA_some.mp z).2, h3⟩
theorem dropA_nil : dropA A [] = A := by
  funext i
  simp [dropA]
theorem dropA_dropA {L L' : List Nat} : dropA (dropA A L) L' = dropA A (L ++ L') := by
  funext i
  simp only [dropA, List.contains_eq_mem, List.mem_append, decide_eq_true_eq]
  by_cases h : i ∈ L <;> by_cases h2 : i ∈ L' <;> simp [h, h2]
theorem hh_sub {L L' : List Nat} (h : ∀ i ∈ L, i ∈ L') : Same (Hh S (dropA A L) H) (Hh S (dropA A L') H) := fun b o e => by
  obtain ⟨h1, h2, h3⟩ := hh_some.mp e
  refine hh_some.mpr ⟨h1, fun i z => ?_, h3⟩
  obtain ⟨z1, z2⟩ := dropA_some.mp z
  exact h2 i (dropA_some.mpr ⟨fun q => z1 (h i q), z2⟩)
theorem hh_upd {i : Nat} {a : Addr} {o : HO} (h : A i = some a) : Hh S A (upd H a o) = Hh S A H := by
  funext b
  unfold Hh
  by_cases e : b = a
  · subst e
    rw [if_pos (.inr ⟨i, h⟩), if_pos (.inr ⟨i, h⟩)]
  · rw [upd_ne e]
theorem same_upd {p : Addr} {o : HO} (h : H p = none) : Same H (upd H p o) := fun b u e => by
  rw [upd_ne (ne_of_none e h)]
  exact e
/-- more is hidden, but nothing that was there -/
theorem hh_ext (s : Same H H') (h : ∀ b, S' b → S b ∨ H b = none) : Same (Hh S A H) (Hh S' A H') := fun b o e => by
  obtain ⟨h1, h2, h3⟩ := hh_some.mp e
  refine hh_some.mpr ⟨fun z => ?_, h2, s _ _ h3⟩
  rcases h b z with q | q
  · exact h1 q
  · rw [h3] at q; cases q
end

/-! environments -/
structure EnvOk (W : Wd) (S : Addr → Prop) (A : Nat → Option Addr) (ρ : En) (σ : L2.St) (H : Hp) : Prop where
  len : σ.length = ρ.length
  sh : ∀ (i : Nat) (d : D), ρ[i]? = some (Sl.sh d) → ∃ v, σ[i]? = some (some v) ∧ Rep W (Hh S A H) v d
  ow : ∀ (i : Nat) (ds : List D), ρ[i]? = some (Sl.ow ds) → ∃ a xs, A i = some a ∧ σ[i]? = some (some (V.ref a)) ∧ H a = some (.lst xs) ∧ RepAll W (Hh S A H) xs ds
  ob : ∀ (i c : Nat) (ds : List D), ρ[i]? = some (Sl.ob c ds) → ∃ a dx xs, A i = some a ∧ σ[i]? = some (some (V.ref a)) ∧ H a = some (.ins (W.cl c) dx ((W.fl c).zip xs)) ∧ xs.length ≤ (W.fl c).length ∧ RepAll W (Hh S A H) xs ds
  dom : ∀ (i : Nat) (a : Addr), A i = some a → H a ≠ none ∧ ¬ S a ∧ ((∃ ds, ρ[i]? = some (Sl.ow ds)) ∨ ∃ c ds, ρ[i]? = some (Sl.ob c ds))
  inj : ∀ (i j : Nat) (a : Addr), A i = some a → A j = some a → i = j
  ext : ∀ a, S a → H a ≠ none

section
variable {W : Wd} {S S' : Addr → Prop} {A : Nat → Option Addr} {ρ : En} {σ : L2.St} {H H' : Hp}
theorem EnvOk.grow (E : EnvOk W S A ρ σ H) (s : Same H H') (h : ∀ b, S' b → S b ∨ H b = none) (hx : ∀ b, S' b → H' b ≠ none) : EnvOk W S' A ρ σ H' := by
  have k : Same (Hh S A H) (Hh S' A H') := hh_ext s h
  have nn : ∀ a, H a ≠ none → H' a ≠ none := fun a z => by
    cases e : H a with
    | none => exact absurd e z
    | some o => rw [s _ _ e]; intro q; cases q
  refine ⟨E.len, fun i d e => ?_, fun i ds e => ?_, fun i c ds e => ?_, fun i a e => ?_, E.inj, hx⟩
  · obtain ⟨v, h1, h2⟩ := E.sh i d e
    exact ⟨v, h1, h2.mono k⟩
  · obtain ⟨a, xs, h1, h2, h3, h4⟩ := E.ow i ds e
    exact ⟨a, xs, h1, h2, s _ _ h3, h4.mono k⟩
  · obtain ⟨a, dx, xs, h1, h2, h3, h4, h5⟩ := E.ob i c ds e
    exact ⟨a, dx, xs, h1, h2, s _ _ h3, h4, h5.mono k⟩
  · obtain ⟨h1, h2, h3⟩ := E.dom i a e
    refine ⟨nn a h1, fun z => ?_, h3⟩
    rcases h a z with q | q
    · exact h2 q
    · exact h1 q
theorem EnvOk.same (E : EnvOk W S A ρ σ H) (s : Same H H') : EnvOk W S A ρ σ H' := E.grow s (fun b z => .inl z) fun b z => by
  have := E.ext b z
  cases e : H b with
  | none => exact absurd e this
  | some o => rw [s _ _ e]; intro q; cases q
theorem frz_get {L : List Nat} {i : Nat} : (En.frz ρ L)[i]? = (ρ[i]?).map fun s => if L.contains i then s.frz else s := by
  unfold En.frz
  rw [List.getElem?_mapIdx]
theorem frz_len {L : List Nat} : (En.frz ρ L).length = ρ.length := by
  unfold En.frz
  rw [List.length_mapIdx]
theorem frz_nil : En.frz ρ [] = ρ := by
  apply List.ext_getElem?
  intro i
  rw [frz_get]
  cases ρ[i]? <;> simp
theorem EnvOk.frz (E : EnvOk W S A ρ σ H) (L : List Nat) : EnvOk W S (dropA A L) (En.frz ρ L) σ H := by
  have k : Same (Hh S A H) (Hh S (dropA A L) H) := hh_drop
  refine ⟨by rw [frz_len]; exact E.len, fun i d e => ?_, fun i ds e => ?_, fun i c ds e => ?_, fun i a e => ?_, fun i j a e1 e2 => ?_, E.ext⟩
  · rw [frz_get] at e
    cases q : ρ[i]? with
    | none => rw [q] at e; cases e
    | some s =>
      rw [q] at e
      have e1 : (if L.contains i then s.frz else s) = Sl.sh d := Option.some.inj e
      by_cases hL : L.contains i = true
      · rw [if_pos hL] at e1
        cases s with
        | un => cases e1
        | sh d' =>
          cases e1
          obtain ⟨v, h1, h2⟩ := E.sh i _ q
          exact ⟨v, h1, h2.mono k⟩
        | ow ds =>
          cases e1
          obtain ⟨a, xs, h1, h2, h3, h4⟩ := E.ow i ds q
          refine ⟨.ref a, h2, .lst (hh_some.mpr ⟨(E.dom i a h1).2.1, fun j z => ?_, h3⟩) (h4.mono k)⟩
          obtain ⟨z1, z2⟩ := dropA_some.mp z
          have := E.inj i j a h1 z2
          subst this
          exact z1 (by simpa using hL)
        | ob c ds => cases e1
      · rw [if_neg hL] at e1
        subst e1
        obtain ⟨v, h1, h2⟩ := E.sh i _ q
        exact ⟨v, h1, h2.mono k⟩
  · rw [frz_get] at e
    cases q : ρ[i]? with
    | none => rw [q] at e; cases e
    | some s =>
      rw [q] at e
      have e1 : (if L.contains i then s.frz else s) = Sl.ow ds := Option.some.inj e
      by_cases hL : L.contains i = true
      · rw [if_pos hL] at e1
        cases s <;> cases e1
      · rw [if_neg hL] at e1
        subst e1
        obtain ⟨a, xs, h1, h2, h3, h4⟩ := E.ow i ds q
        exact ⟨a, xs, dropA_some.mpr ⟨by simpa using hL, h1⟩, h2, h3, h4.mono k⟩
  · rw [frz_get] at e
    cases q : ρ[i]? with
    | none => rw [q] at e; cases e
    | some s =>
      rw [q] at e
      have e1 : (if L.contains i then s.frz else s) = Sl.ob c ds := Option.some.inj e
      by_cases hL : L.contains i = true
      · rw [if_pos hL] at e1
        cases s <;> cases e1
      · rw [if_neg hL] at e1
        subst e1
        obtain ⟨a, dx, xs, h1, h2, h3, h4, h5⟩ := E.ob i c ds q
        exact ⟨a, dx, xs, dropA_some.mpr ⟨by simpa using hL, h1⟩, h2, h3, h4, h5.mono k⟩
  · obtain ⟨z1, z2⟩ := dropA_some.mp e
    obtain ⟨h1, h2, h3⟩ := E.dom i a z2
    have hL : L.contains i = false := by simpa using z1
    refine ⟨h1, h2, ?_⟩
    rcases h3 with ⟨ds, h3⟩ | ⟨c, ds, h3⟩
    · exact .inl ⟨ds, by rw [frz_get, h3]; simp [z1]⟩
    · exact .inr ⟨c, ds, by rw [frz_get, h3]; simp [z1]⟩
  · exact E.inj i j a (dropA_some.mp e1).2 (dropA_some.mp e2).2
/-- a name is given a value -/
theorem EnvOk.put (E : EnvOk W S A ρ σ H) {i : Nat} {v : V} {d : D} (hi : i < ρ.length) (h : Rep W (Hh S A H) v d) : EnvOk W S (dropA A [i]) (ρ.set i (Sl.sh d)) (σ.set i (some v)) H := by
  have k : Same (Hh S A H) (Hh S (dropA A [i]) H) := hh_drop
  have ne : ∀ {j : Nat} {s : Sl}, (ρ.set i (Sl.sh d))[j]? = some s → (j = i ∧ s = Sl.sh d) ∨ (j ≠ i ∧ ρ[j]? = some s) := fun {j s} e => by
    by_cases hj : j = i
    · subst hj
      rw [List.getElem?_set_self hi] at e
      exact .inl ⟨rfl, (Option.some.inj e).symm⟩
    · rw [List.getElem?_set_ne (Ne.symm hj)] at e
      exact .inr ⟨hj, e⟩
  refine ⟨by rw [List.length_set, List.length_set]; exact E.len, fun j d' e => ?_, fun j ds e => ?_, fun j c ds e => ?_, fun j a e => ?_, fun a b c e1 e2 => E.inj a b c (dropA_some.mp e1).2 (dropA_some.mp e2).2, E.ext⟩
  · rcases ne e with ⟨rfl, q⟩ | ⟨hj, q⟩
    · cases q
      exact ⟨v, List.getElem?_set_self (by rw [E.len]; exact hi), h.mono k⟩
    · obtain ⟨v', h1, h2⟩ := E.sh j d' q
      exact ⟨v', by rw [List.getElem?_set_ne (Ne.symm hj)]; exact h1, h2.mono k⟩
  · rcases ne e with ⟨rfl, q⟩ | ⟨hj, q⟩
    · cases q
    · obtain ⟨a, xs, h1, h2, h3, h4⟩ := E.ow j ds q
      exact ⟨a, xs, dropA_some.mpr ⟨by simpa using hj, h1⟩, by rw [List.getElem?_set_ne (Ne.symm hj)]; exact h2, h3, h4.mono k⟩
  · rcases ne e with ⟨rfl, q⟩ | ⟨hj, q⟩
    · cases q
    · obtain ⟨a, dx, xs, h1, h2, h3, h4, h5⟩ := E.ob j c ds q
      exact ⟨a, dx, xs, dropA_some.mpr ⟨by simpa using hj, h1⟩, by rw [List.getElem?_set_ne (Ne.symm hj)]; exact h2, h3, h4, h5.mono k⟩
  · obtain ⟨z1, z2⟩ := dropA_some.mp e
    have hj : j ≠ i := by simpa using z1
    obtain ⟨h1, h2, h3⟩ := E.dom j a z2
    refine ⟨h1, h2, ?_⟩
    rcases h3 with ⟨ds, h3⟩ | ⟨c, ds, h3⟩
    · exact .inl ⟨ds, by rw [List.getElem?_set_ne (Ne.symm hj)]; exact h3⟩
    · exact .inr ⟨c, ds, by rw [List.getElem?_set_ne (Ne.symm hj)]; exact h3⟩
/-- the roots with one more, at i -/
def putA (A : Nat → Option Addr) (i : Nat) (a : Addr) : Nat → Option Addr := fun j => if j = i then some a else A j
theorem putA_some {i j : Nat} {a b : Addr} : putA A i a j = some b ↔ (j = i ∧ b = a) ∨ (j ≠ i ∧ A j = some b) := by
  unfold putA
  by_cases h : j = i
  · rw [if_pos h]
    constructor
    · intro e; exact .inl ⟨h, (Option.some.inj e).symm⟩
    · rintro (⟨_, e⟩ | ⟨n, _⟩)
      · rw [e]
      · exact absurd h n
  · rw [if_neg h]
    constructor
    · exact fun e => .inr ⟨h, e⟩
    · rintro (⟨n, _⟩ | ⟨_, e⟩)
      · exact absurd n h
      · exact e
/-- a name is given a new list of its own -/
theorem EnvOk.putOwn {a : Addr} (E : EnvOk W (fun b => S b ∨ b = a) A ρ σ H) {i : Nat} {xs : List V} {ds : List D} (hi : i < ρ.length) (ha : H a = some (.lst xs)) (hS : ¬ S a) (hr : RepAll W (Hh (fun b => S b ∨ b = a) A H) xs ds) :
    EnvOk W S (putA A i a) (ρ.set i (Sl.ow ds)) (σ.set i (some (.ref a))) H := by
  have hA : ∀ j, A j ≠ some a := fun j z => (E.dom j a z).2.1 (.inr rfl)
  have k : Same (Hh (fun b => S b ∨ b = a) A H) (Hh S (putA A i a) H) := fun b o e => by
    obtain ⟨h1, h2, h3⟩ := hh_some.mp e
    refine hh_some.mpr ⟨fun z => h1 (.inl z), fun j z => ?_, h3⟩
    rcases putA_some.mp z with ⟨_, q⟩ | ⟨_, q⟩
    · exact h1 (.inr q)
    · exact h2 j q
  have ne : ∀ {j : Nat} {s : Sl}, (ρ.set i (Sl.ow ds))[j]? = some s → (j = i ∧ s = Sl.ow ds) ∨ (j ≠ i ∧ ρ[j]? = some s) := fun {j s} e => by
    by_cases hj : j = i
    · subst hj
      rw [List.getElem?_set_self hi] at e
      exact .inl ⟨rfl, (Option.some.inj e).symm⟩
    · rw [List.getElem?_set_ne (Ne.symm hj)] at e
      exact .inr ⟨hj, e⟩
  refine ⟨by rw [List.length_set, List.length_set]; exact E.len, fun j d' e => ?_, fun j ds' e => ?_, fun j c ds' e => ?_, fun j b e => ?_, fun p q b e1 e2 => ?_, fun b z => E.ext b (.inl z)⟩
  · rcases ne e with ⟨rfl, q⟩ | ⟨hj, q⟩
    · cases q
    · obtain ⟨v', h1, h2⟩ := E.sh j d' q
      exact ⟨v', by rw [List.getElem?_set_ne (Ne.symm hj)]; exact h1, h2.mono k⟩
  · rcases ne e with ⟨rfl, q⟩ | ⟨hj, q⟩
    · cases q
      exact ⟨a, xs, putA_some.mpr (.inl ⟨rfl, rfl⟩), List.getElem?_set_self (by rw [E.len]; exact hi), ha, hr.mono k⟩
    · obtain ⟨b, ys, h1, h2, h3, h4⟩ := E.ow j ds' q
      exact ⟨b, ys, putA_some.mpr (.inr ⟨hj, h1⟩), by rw [List.getElem?_set_ne (Ne.symm hj)]; exact h2, h3, h4.mono k⟩
  · rcases ne e with ⟨rfl, q⟩ | ⟨hj, q⟩
    · cases q
    · obtain ⟨b, dx, ys, h1, h2, h3, h4, h5⟩ := E.ob j c ds' q
      exact ⟨b, dx, ys, putA_some.mpr (.inr ⟨hj, h1⟩), by rw [List.getElem?_set_ne (Ne.symm hj)]; exact h2, h3, h4, h5.mono k⟩
  · rcases putA_some.mp e with ⟨rfl, rfl⟩ | ⟨hj, q⟩
    · exact ⟨(by rw [ha]; intro z; cases z), hS, .inl ⟨ds, List.getElem?_set_self hi⟩⟩
    · obtain ⟨h1, h2, h3⟩ := E.dom j b q
      refine ⟨h1, fun z => h2 (.inl z), ?_⟩
      rcases h3 with ⟨ds, h3⟩ | ⟨c, ds, h3⟩
      · exact .inl ⟨ds, by rw [List.getElem?_set_ne (Ne.symm hj)]; exact h3⟩
      · exact .inr ⟨c, ds, by rw [List.getElem?_set_ne (Ne.symm hj)]; exact h3⟩
  · rcases putA_some.mp e1 with ⟨h1, h2⟩ | ⟨h1, h2⟩ <;> rcases putA_some.mp e2 with ⟨h3, h4⟩ | ⟨h3, h4⟩
    · rw [h1, h3]
    · rw [h2] at h4; exact absurd h4 (hA q)
    · rw [h4] at h2; exact absurd h2 (hA p)
    · exact E.inj p q b h2 h4
/-- a name's own list is changed -/
theorem EnvOk.upd (E : EnvOk W S A ρ σ H) {i : Nat} {a : Addr} {xs : List V} {ds : List D} (hi : i < ρ.length) (ha : A i = some a) (hr : RepAll W (Hh S A H) xs ds) :
    EnvOk W S A (ρ.set i (Sl.ow ds)) σ (L2.upd H a (.lst xs)) := by
  have hs : σ[i]? = some (some (V.ref a)) := by
    obtain ⟨_, _, h3⟩ := E.dom i a ha
    rcases h3 with ⟨es, h3⟩ | ⟨c, es, h3⟩
    · obtain ⟨b, ys, h1, h2, _⟩ := E.ow i es h3
      rw [ha] at h1; cases h1; exact h2
    · obtain ⟨b, dx, ys, h1, h2, _⟩ := E.ob i c es h3
      rw [ha] at h1; cases h1; exact h2
  have he : Hh S A (L2.upd H a (.lst xs)) = Hh S A H := hh_upd ha
  have ne : ∀ {j : Nat} {s : Sl}, (ρ.set i (Sl.ow ds))[j]? = some s → (j = i ∧ s = Sl.ow ds) ∨ (j ≠ i ∧ ρ[j]? = some s) := fun {j s} e => by
    by_cases hj : j = i
    · subst hj
      rw [List.getElem?_set_self hi] at e
      exact .inl ⟨rfl, (Option.some.inj e).symm⟩
    · rw [List.getElem?_set_ne (Ne.symm hj)] at e
      exact .inr ⟨hj, e⟩
  have nn : ∀ b, H b ≠ none → L2.upd H a (.lst xs) b ≠ none := fun b z => by
    by_cases e : b = a
    · subst e; rw [upd_same]; intro q; cases q
    · rw [upd_ne e]; exact z
  refine ⟨by rw [List.length_set]; exact E.len, fun j d' e => ?_, fun j ds' e => ?_, fun j c ds' e => ?_, fun j b e => ?_, E.inj, fun b z => nn b (E.ext b z)⟩
  · rcases ne e with ⟨rfl, q⟩ | ⟨hj, q⟩
    · cases q
    · rw [he]; exact E.sh j d' q
  · rw [he]
    rcases ne e with ⟨rfl, q⟩ | ⟨hj, q⟩
    · cases q
      exact ⟨a, xs, ha, hs, upd_same, hr⟩
    · obtain ⟨b, ys, h1, h2, h3, h4⟩ := E.ow j ds' q
      exact ⟨b, ys, h1, h2, by rw [upd_ne (fun z => hj (E.inj j i b h1 (by rw [z]; exact ha)))]; exact h3, h4⟩
  · rw [he]
    rcases ne e with ⟨rfl, q⟩ | ⟨hj, q⟩
    · cases q
    · obtain ⟨b, dx, ys, h1, h2, h3, h4, h5⟩ := E.ob j c ds' q
      exact ⟨b, dx, ys, h1, h2, by rw [upd_ne (fun z => hj (E.inj j i b h1 (by rw [z]; exact ha)))]; exact h3, h4, h5⟩
  · obtain ⟨h1, h2, h3⟩ := E.dom j b e
    refine ⟨nn b h1, h2, ?_⟩
    by_cases hj : j = i
    · subst hj
      exact .inl ⟨ds, List.getElem?_set_self hi⟩
    · rcases h3 with ⟨ds, h3⟩ | ⟨c, ds, h3⟩
      · exact .inl ⟨ds, by rw [List.getElem?_set_ne (Ne.symm hj)]; exact h3⟩
      · exact .inr ⟨c, ds, by rw [List.getElem?_set_ne (Ne.symm hj)]; exact h3⟩
/-- the object that is being made gets one more attribute -/
theorem EnvOk.updOb (E : EnvOk W S A ρ σ H) {i c : Nat} {a dx : Addr} {xs : List V} {ds : List D} (hi : i < ρ.length) (ha : A i = some a) (hx : xs.length ≤ (W.fl c).length) (hr : RepAll W (Hh S A H) xs ds) :
    EnvOk W S A (ρ.set i (Sl.ob c ds)) σ (L2.upd H a (.ins (W.cl c) dx ((W.fl c).zip xs))) := by
  have hs : σ[i]? = some (some (V.ref a)) := by
    obtain ⟨_, _, h3⟩ := E.dom i a ha
    rcases h3 with ⟨es, h3⟩ | ⟨c, es, h3⟩
    · obtain ⟨b, ys, h1, h2, _⟩ := E.ow i es h3
      rw [ha] at h1; cases h1; exact h2
    · obtain ⟨b, dx, ys, h1, h2, _⟩ := E.ob i c es h3
      rw [ha] at h1; cases h1; exact h2
  have he : Hh S A (L2.upd H a (.ins (W.cl c) dx ((W.fl c).zip xs))) = Hh S A H := hh_upd ha
  have ne : ∀ {j : Nat} {s : Sl}, (ρ.set i (Sl.ob c ds))[j]? = some s → (j = i ∧ s = Sl.ob c ds) ∨ (j ≠ i ∧ ρ[j]? = some s) := fun {j s} e => by
    by_cases hj : j = i
    · subst hj
      rw [List.getElem?_set_self hi] at e
      exact .inl ⟨rfl, (Option.some.inj e).symm⟩
    · rw [List.getElem?_set_ne (Ne.symm hj)] at e
      exact .inr ⟨hj, e⟩
  have nn : ∀ b, H b ≠ none → L2.upd H a (.ins (W.cl c) dx ((W.fl c).zip xs)) b ≠ none := fun b z => by
    by_cases e : b = a
    · subst e; rw [upd_same]; intro q; cases q
    · rw [upd_ne e]; exact z
  refine ⟨by rw [List.length_set]; exact E.len, fun j d' e => ?_, fun j ds' e => ?_, fun j c' ds' e => ?_, fun j b e => ?_, E.inj, fun b z => nn b (E.ext b z)⟩
  · rcases ne e with ⟨rfl, q⟩ | ⟨hj, q⟩
    · cases q
    · rw [he]; exact E.sh j d' q
  · rw [he]
    rcases ne e with ⟨rfl, q⟩ | ⟨hj, q⟩
    · cases q
    · obtain ⟨b, ys, h1, h2, h3, h4⟩ := E.ow j ds' q
      exact ⟨b, ys, h1, h2, by rw [upd_ne (fun z => hj (E.inj j i b h1 (by rw [z]; exact ha)))]; exact h3, h4⟩
  · rw [he]
    rcases ne e with ⟨rfl, q⟩ | ⟨hj, q⟩
    · cases q
      exact ⟨a, dx, xs, ha, hs, upd_same, hx, hr⟩
    · obtain ⟨b, dx', ys, h1, h2, h3, h4, h5⟩ := E.ob j c' ds' q
      exact ⟨b, dx', ys, h1, h2, by rw [upd_ne (fun z => hj (E.inj j i b h1 (by rw [z]; exact ha)))]; exact h3, h4, h5⟩
  · obtain ⟨h1, h2, h3⟩ := E.dom j b e
    refine ⟨nn b h1, h2, ?_⟩
    by_cases hj : j = i
    · subst hj
      exact .inr ⟨c, ds, List.getElem?_set_self hi⟩
    · rcases h3 with ⟨ds, h3⟩ | ⟨c, ds, h3⟩
      · exact .inl ⟨ds, by rw [List.getElem?_set_ne (Ne.symm hj)]; exact h3⟩
      · exact .inr ⟨c, ds, by rw [List.getElem?_set_ne (Ne.symm hj)]; exact h3⟩
/-- names forgotten (a comprehension's own) -/
theorem EnvOk.wiped (E : EnvOk W S A ρ σ H) (i : Nat) : EnvOk W S (dropA A [i]) (ρ.set i Sl.un) (σ.set i none) H := by
  have k : Same (Hh S A H) (Hh S (dropA A [i]) H) := hh_drop
  have ne : ∀ {j : Nat} {s : Sl}, (ρ.set i Sl.un)[j]? = some s → (s = Sl.un) ∨ (j ≠ i ∧ ρ[j]? = some s) := fun {j s} e => by
    by_cases hj : j = i
    · subst hj
      by_cases hl : j < ρ.length
      · rw [List.getElem?_set_self hl] at e
        exact .inl (Option.some.inj e).symm
      · rw [List.getElem?_eq_none (by rw [List.length_set]; omega)] at e
        cases e
    · rw [List.getElem?_set_ne (Ne.symm hj)] at e
      exact .inr ⟨hj, e⟩
  refine ⟨by rw [List.length_set, List.length_set]; exact E.len, fun j d' e => ?_, fun j ds e => ?_, fun j c ds e => ?_, fun j a e => ?_, fun a b c e1 e2 => E.inj a b c (dropA_some.mp e1).2 (dropA_some.mp e2).2, E.ext⟩
  · rcases ne e with q | ⟨hj, q⟩
    · cases q
    · obtain ⟨v', h1, h2⟩ := E.sh j d' q
      exact ⟨v', by rw [List.getElem?_set_ne (Ne.symm hj)]; exact h1, h2.mono k⟩
  · rcases ne e with q | ⟨hj, q⟩
    · cases q
    · obtain ⟨a, xs, h1, h2, h3, h4⟩ := E.ow j ds q
      exact ⟨a, xs, dropA_some.mpr ⟨by simpa using hj, h1⟩, by rw [List.getElem?_set_ne (Ne.symm hj)]; exact h2, h3, h4.mono k⟩
  · rcases ne e with q | ⟨hj, q⟩
    · cases q
    · obtain ⟨a, dx, xs, h1, h2, h3, h4, h5⟩ := E.ob j c ds q
      exact ⟨a, dx, xs, dropA_some.mpr ⟨by simpa using hj, h1⟩, by rw [List.getElem?_set_ne (Ne.symm hj)]; exact h2, h3, h4, h5.mono k⟩
  · obtain ⟨z1, z2⟩ := dropA_some.mp e
    have hj : j ≠ i := by simpa using z1
    obtain ⟨h1, h2, h3⟩ := E.dom j a z2
    refine ⟨h1, h2, ?_⟩
    rcases h3 with ⟨ds, h3⟩ | ⟨c, ds, h3⟩
    · exact .inl ⟨ds, by rw [List.getElem?_set_ne (Ne.symm hj)]; exact h3⟩
    · exact .inr ⟨c, ds, by rw [List.getElem?_set_ne (Ne.symm hj)]; exact h3⟩
end
end MN
end S_MnRep
section S_MnBi
set_option maxRecDepth 100000
/-! The built-in functions over what values stand for. -/
namespace MN
open PySem PySem.Spec PyProof.Rows L2

section
variable {W : Wd} {S : Addr → Prop} {A : Nat → Option Addr} {H H' : Hp} {X : Cx}

/-- a value and the heap behind: nothing that was there is changed; the value stands for d; own: it is a new list -/
def Res3 (W : Wd) (S : Addr → Prop) (A : Nat → Option Addr) (H : Hp) (own : Bool) (d : D) (v : V) (H' : Hp) : Prop :=
  Same H H' ∧ Rep W (Hh S A H') v d ∧ (own = true → ∀ ds, d = .lst ds → ∃ a xs, v = .ref a ∧ H a = none ∧ H' a = some (.lst xs) ∧ RepAll W (Hh (fun b => S b ∨ b = a) A H') xs ds)
/-- the hidden objects are there -/
structure Trk (S : Addr → Prop) (A : Nat → Option Addr) (H : Hp) : Prop where
  s : ∀ b, S b → H b ≠ none
  a : ∀ i b, A i = some b → H b ≠ none
theorem EnvOk.trk {ρ : En} {σ : L2.St} (E : EnvOk W S A ρ σ H) : Trk S A H := ⟨E.ext, fun i a e => (E.dom i a e).1⟩
theorem Trk.drop (t : Trk S A H) (L : List Nat) : Trk S (dropA A L) H := ⟨t.s, fun i b e => t.a i b (dropA_some.mp e).2⟩
theorem nn_same (s : Same H H') {b : Addr} (h : H b ≠ none) : H' b ≠ none := by
  cases e : H b with
  | none => exact absurd e h
  | some o => rw [s _ _ e]; intro q; cases q
theorem Trk.same (t : Trk S A H) (s : Same H H') : Trk S A H' := ⟨fun b z => nn_same s (t.s b z), fun i b z => nn_same s (t.a i b z)⟩
theorem hh_new (t : Trk S A H) {p : Addr} {o : HO} (hp : H p = none) : Hh S A (upd H p o) p = some o :=
  hh_some.mpr ⟨fun z => t.s p z hp, fun i z => t.a i p z hp, upd_same⟩
theorem Res3.flat {d : D} {v : V} {own : Bool} (h : Rep W (Hh S A H) v d) (f : flat d = true) : Res3 W S A H own d v H :=
  ⟨Same.refl _, h, fun _ ds e => by subst e; cases f⟩
theorem Res3.newList (t : Trk S A H) {p : Addr} {xs : List V} {ds : List D} (hp : H p = none) (r : RepAll W (Hh S A H) xs ds) {own : Bool} : Res3 W S A H own (.lst ds) (.ref p) (upd H p (.lst xs)) := by
  refine ⟨same_upd hp, .lst (hh_new t hp) (r.mono (hh_mono (same_upd hp))), fun _ es e => ?_⟩
  cases e
  refine ⟨p, xs, rfl, hp, upd_same, r.mono (hh_ext (same_upd hp) fun b z => ?_)⟩
  rcases z with z | z
  · exact .inl z
  · exact .inr (by rw [z]; exact hp)
theorem Res3.newTup (t : Trk S A H) {p : Addr} {xs : List V} {ds : List D} (hp : H p = none) (r : RepAll W (Hh S A H) xs ds) {own : Bool} : Res3 W S A H own (.tup ds) (.ref p) (upd H p (.tup xs)) :=
  ⟨same_upd hp, .tup (hh_new t hp) (r.mono (hh_mono (same_upd hp))), fun _ es e => by cases e⟩
theorem rep_lst {v : V} {ds : List D} (h : Rep W (Hh S A H) v (.lst ds)) : ∃ a xs, v = .ref a ∧ H a = some (.lst xs) ∧ RepAll W (Hh S A H) xs ds := by
  cases h with
  | lst e r => exact ⟨_, _, rfl, hh_same _ _ e, r⟩
theorem rep_tup {v : V} {ds : List D} (h : Rep W (Hh S A H) v (.tup ds)) : ∃ a xs, v = .ref a ∧ H a = some (.tup xs) ∧ RepAll W (Hh S A H) xs ds := by
  cases h with
  | tup e r => exact ⟨_, _, rfl, hh_same _ _ e, r⟩

/-! ### data as the library's -/
mutual
def toP : D → PyData
  | .non => .none
  | .bl b => .bool b
  | .int i => .int i
  | .lst xs => .list (toPs xs)
  | .tup xs => .tuple (toPs xs)
  | .ins _ _ => .none
  | .scr _ => .none
def toPs : List D → List PyData
  | [] => []
  | x :: xs => toP x :: toPs xs
end
theorem toPs_map : ∀ xs : List D, toPs xs = xs.map toP
  | [] => rfl
  | x :: xs => by rw [toPs, toPs_map xs]; rfl
theorem okP_lst {n : Nat} {xs : List D} : okP (n + 1) (.lst xs) = xs.all (okP n) := rfl
theorem okP_tup {n : Nat} {xs : List D} : okP (n + 1) (.tup xs) = xs.all (okP n) := rfl
mutual
theorem okP_dp {K : PySem.W.Frag} (hK : W.K = K) : ∀ (n : Nat) (d : D) (v : V), okP n d = true → Rep W H v d → Dp K H v (toP d)
  | _, .non, _, _, h => by cases h; exact .non
  | _, .int i, _, _, h => by cases h; exact .int i
  | n + 1, .lst xs, _, o, h => by
    cases h with
    | lst e r =>
      rw [toP]
      exact .lst (SqL.of e) (okP_dps hK n xs _ o r)
  | n + 1, .tup xs, _, o, h => by
    cases h with
    | tup e r =>
      rw [toP]
      exact .tup (SqT.of e) (okP_dps hK n xs _ o r)
  | 0, .lst xs, _, o, h => by cases o
  | 0, .tup xs, _, o, h => by cases o
  | n, .bl b, _, o, h => by cases n <;> cases o
  | n, .ins _ _, _, o, h => by cases n <;> cases o
  | n, .scr _, _, o, h => by cases n <;> cases o
theorem okP_dps {K : PySem.W.Frag} (hK : W.K = K) : ∀ (n : Nat) (ds : List D) (vs : List V), ds.all (okP n) = true → RepAll W H vs ds → DpAll K H vs (toPs ds)
  | _, [], _, _, h => by cases h; exact .nil
  | n, d :: ds, _, o, h => by
    cases h with
    | cons h r =>
      rw [List.all_cons, Bool.and_eq_true] at o
      rw [toPs]
      exact .cons (okP_dp hK n d _ o.1 h) (okP_dps hK n ds _ o.2 r)
end
mutual
theorem okP_lay : ∀ (n : Nat) (d : D), okP n d = true → (toP d).canLay0 = true ∧ (toP d).depth ≤ n
  | _, .non, _ => by simp [toP, PyData.canLay0, PyData.depth]
  | _, .int i, _ => by simp [toP, PyData.canLay0, PyData.depth]
  | n + 1, .lst xs, o => by
    obtain ⟨h1, h2⟩ := okP_lays n xs o
    simp only [toP, PyData.canLay0, PyData.depth]
    exact ⟨h1, by omega⟩
  | n + 1, .tup xs, o => by
    obtain ⟨h1, h2⟩ := okP_lays n xs o
    simp only [toP, PyData.canLay0, PyData.depth]
    exact ⟨h1, by omega⟩
  | 0, .lst xs, o => by cases o
  | 0, .tup xs, o => by cases o
  | n, .bl b, o => by cases n <;> cases o
  | n, .ins _ _, o => by cases n <;> cases o
  | n, .scr _, o => by cases n <;> cases o
theorem okP_lays : ∀ (n : Nat) (ds : List D), ds.all (okP n) = true → PyData.canLayAll0 (toPs ds) = true ∧ PyData.depthAll (toPs ds) ≤ n
  | _, [], _ => by simp [toPs, PyData.canLayAll0, PyData.depthAll]
  | n, d :: ds, o => by
    rw [List.all_cons, Bool.and_eq_true] at o
    obtain ⟨h1, h2⟩ := okP_lay n d o.1
    obtain ⟨h3, h4⟩ := okP_lays n ds o.2
    simp only [toPs, PyData.canLayAll0, PyData.depthAll, Bool.and_eq_true]
    exact ⟨⟨h1, h3⟩, by omega⟩
end
theorem okP_shaped {n : Nat} {d : D} (hn : n ≤ 64) (o : okP n d = true) : SeqAt.shaped (toP d) = true := by
  obtain ⟨h1, h2⟩ := okP_lay n d o
  unfold SeqAt.shaped
  rw [h1, Bool.true_and, decide_eq_true_eq]
  omega
mutual
theorem okP_eqv : ∀ (n m : Nat) (d e : D), okP n d = true → okP m e = true → PyData.eqv (toP d) (toP e) = eqD d e
  | n, m, .non, e, o, o' => by
    cases e <;> first
      | (cases m <;> cases o'; done)
      | (cases m <;> simp only [toP, eqD, PyData.eqv]; done)
      | simp [toP, eqD, PyData.eqv]
  | n, m, .int i, e, o, o' => by
    cases e <;> first
      | (cases m <;> cases o'; done)
      | (simp [toP, eqD, PyData.eqv, Bool.beq_eq_decide_eq]; done)
  | n + 1, m, .lst xs, e, o, o' => by
    cases e with
    | lst ys =>
      cases m with
      | zero => cases o'
      | succ m =>
        simp only [toP, eqD, PyData.eqv]
        exact okP_eqvs n m xs ys o o'
    | bl b => cases m <;> cases o'
    | ins _ _ => cases m <;> cases o'
    | scr _ => cases m <;> cases o'
    | non => simp [toP, eqD, PyData.eqv]
    | int _ => simp [toP, eqD, PyData.eqv]
    | tup _ => simp [toP, eqD, PyData.eqv]
  | n + 1, m, .tup xs, e, o, o' => by
    cases e with
    | tup ys =>
      cases m with
      | zero => cases o'
      | succ m =>
        simp only [toP, eqD, PyData.eqv]
        exact okP_eqvs n m xs ys o o'
    | bl b => cases m <;> cases o'
    | ins _ _ => cases m <;> cases o'
    | scr _ => cases m <;> cases o'
    | non => simp [toP, eqD, PyData.eqv]
    | int _ => simp [toP, eqD, PyData.eqv]
    | lst _ => simp [toP, eqD, PyData.eqv]
  | 0, _, .lst xs, _, o, _ => by cases o
  | 0, _, .tup xs, _, o, _ => by cases o
  | n, _, .bl b, _, o, _ => by cases n <;> cases o
  | n, _, .ins _ _, _, o, _ => by cases n <;> cases o
  | n, _, .scr _, _, o, _ => by cases n <;> cases o
theorem okP_eqvs : ∀ (n m : Nat) (ds es : List D), ds.all (okP n) = true → es.all (okP m) = true → PyData.eqvAll (toPs ds) (toPs es) = eqDs ds es
  | n, m, [], [], _, _ => by simp [toPs, eqDs, PyData.eqvAll]
  | n, m, [], _ :: _, _, _ => by simp [toPs, eqDs, PyData.eqvAll]
  | n, m, _ :: _, [], _, _ => by simp [toPs, eqDs, PyData.eqvAll]
  | n, m, d :: ds, e :: es, o, o' => by
    rw [List.all_cons, Bool.and_eq_true] at o o'
    simp only [toPs, eqDs, PyData.eqvAll, okP_eqv n m d e o.1 o'.1, okP_eqvs n m ds es o.2 o'.2]
end
theorem any_eqv {n m : Nat} {d : D} (o : okP n d = true) : ∀ {es : List D}, es.all (okP m) = true → ((toPs es).any fun z => PyData.eqv z (toP d)) = es.any fun z => eqD z d
  | [], _ => rfl
  | e :: es, o' => by
    rw [List.all_cons, Bool.and_eq_true] at o'
    rw [toPs, List.any_cons, List.any_cons, okP_eqv m n e d o'.1 o, any_eqv o o'.2]

/-! ### lists of rows: sorted, min -/
theorem each_of {Pr : V → List Int → Prop} : ∀ {xs : List V} {us : List Value} {ns : List (List Int)}, Vals xs us → Paired Pr xs ns → PySem.W.EachIs (fun u r => ∃ x, RelV x u ∧ Pr x r) us ns
  | _, _, _, .nil, .nil => .nil
  | _, _, _, .cons r rr, .cons p pp => .cons ⟨_, r, p⟩ (each_of rr pp)
theorem of_each {Pr : V → List Int → Prop} : ∀ {us : List Value} {ns : List (List Int)}, PySem.W.EachIs (fun u r => ∃ x, RelV x u ∧ Pr x r) us ns → ∃ xs, Vals xs us ∧ Paired Pr xs ns
  | _, _, .nil => ⟨[], .nil, .nil⟩
  | _, _, .cons ⟨x, r, p⟩ e => by
    obtain ⟨xs, h1, h2⟩ := of_each e
    exact ⟨x :: xs, .cons r h1, .cons p h2⟩
def encR (r : List Int) : PyData := .list (r.map .int)
theorem toP_ints (r : List Int) : toP (dInts r) = encR r := by
  unfold dInts encR
  rw [toP, toPs_map, List.map_map]
  congr 1
theorem alikeR (r q : List Int) : PySem.W.alike (encR r) (encR q) = true := by
  unfold encR
  rw [PySem.W.alike]
  exact PySem.W.alike_ints r q
theorem depthR (r : List Int) : (encR r).depth = 1 := by
  unfold encR
  rw [PyData.depth, PySem.W.depth_ints]
theorem encR_inj {r q : List Int} (h : encR r = encR q) : r = q := by
  unfold encR at h
  injection h with h
  exact List.map_inj_right (fun a b e => by cases e; rfl) |>.mp h
theorem dataLtR (r q : List Int) : PySem.W.dataLt (encR r) (encR q) = decide (r < q) := by
  unfold encR
  rw [PySem.W.dataLt_list]
  exact PySem.W.dataLt_ints r q
theorem minD_rows (x : List Int) : ∀ xs : List (List Int), PySem.W.minD (encR x) (xs.map encR) = encR (minR x xs) := by
  intro xs
  unfold PySem.W.minD minR
  induction xs generalizing x with
  | nil => rfl
  | cons y ys ih =>
    rw [List.map_cons, List.foldl_cons, List.foldl_cons, dataLtR]
    by_cases h : y < x
    · rw [if_pos h, if_pos (decide_eq_true h)]; exact ih y
    · rw [if_neg h, if_neg (by simp [h])]; exact ih x
/-- rows are paired with what they stand for -/
def rRows (K : PySem.W.Frag) (Pr : V → List Int → Prop) (H : Hp) (a : Addr) (xs : List V) (ns : List (List Int)) : Prop :=
  SqL K H a xs ∧ Paired Pr xs ns ∧ (∀ x r, Pr x r → Dp K H x (encR r)) ∧ ns.length ≤ sizeLine
def rSortR (K : PySem.W.Frag) : List V → Hp → VK → Prop := fun vs H Q => ∃ (a : Addr) (xs : List V) (ns : List (List Int)) (Pr : V → List Int → Prop), vs = [V.ref a] ∧ rRows K Pr H a xs ns ∧
  ∀ out, Paired Pr out (ns.mergeSort fun a b => decide (a ≤ b)) → ∀ p, H p = none → Q (.ref p) (upd H p (.lst out))
theorem reads_of {pins : List (Addr × Obj)} {σ : L2.St} {H : Hp} {s : Shared} (I : Inv X pins σ H s) {Pr : V → List Int → Prop} (h : ∀ x r, Pr x r → Dp X.K H x (encR r)) :
    ∀ {us : List Value} {ns : List (List Int)}, PySem.W.EachIs (fun u r => ∃ x, RelV x u ∧ Pr x r) us ns → PySem.W.EachIs (fun u r => ∃ as, Reads s.heap u (encR r) as) us ns
  | _, _, .nil => .nil
  | _, _, .cons ⟨x, r, p⟩ e => .cons (Dp.reads I _ x _ (h x _ p) r) (reads_of I h e)
theorem paired_length {α β : Type} {F : α → β → Prop} : ∀ {l₁ : List α} {l₂ : List β}, Paired F l₁ l₂ → l₁.length = l₂.length
  | _, _, .nil => rfl
  | _, _, .cons _ r => congrArg (· + 1) (paired_length r)
theorem cr_sortR (hu : X.A.units + 10 < cLine) : CallR X (.builtin "sorted") (rSortR X.K) := by
  intro pins s σ H vs us Q I r h
  obtain ⟨a, xs, ns, Pr, rfl, ⟨hs, hp, hd, hz⟩, q⟩ := h
  obtain ⟨its, rv, hl, _⟩ := I.list hs
  rw [Vals.ref1 r]
  have e := each_of rv hp
  have er := reads_of I hd e
  refine PySem.W.sorted_data (enc := encR) hl.isList e er (PySem.W.AllAlike.of alikeR) (PySem.W.Sortable.others fun b => ⟨(fun z => nomatch z), (fun xs z => nomatch z)⟩) hz (fun b _ => by rw [depthR]; omega) fun out hlen ho => ?_
  have e2 : (PySem.W.dataLe false encR) = fun a b => decide (a ≤ b) := PySem.W.dataLe_rows (fun b => b)
  rw [e2] at ho
  obtain ⟨ys, v1, p1⟩ := of_each ho
  obtain ⟨ep, he'⟩ := PyProof.Rows.sortedAll_at s.heap its out.toArray
  have hl2 : ys.length ≤ sizeLine := by rw [v1.length, hlen]; exact hz
  exact ⟨.ref _, upd H (s.heap.objs.size + 1) (.lst ys), I.laid (t' := s.toks) (fun _ _ => PyProof.Rows.sortedAll_old) (Nat.le_succ _) ⟨hl2, out, ep, v1, he'⟩, rfl, q _ p1 _ (I.hok.fresh (Nat.le_succ _))⟩
def rMinR (K : PySem.W.Frag) : List V → Hp → VK → Prop := fun vs H Q => ∃ (a : Addr) (xs : List V) (n : List Int) (ns : List (List Int)) (Pr : V → List Int → Prop), vs = [V.ref a] ∧ rRows K Pr H a xs (n :: ns) ∧
  ∀ x, Pr x (minR n ns) → Q x H
theorem cr_minR (hc : X.calm = true) (hu : X.A.units + 10 < cLine) : CallR X (.builtin "min") (rMinR X.K) := by
  intro pins s σ H vs us Q I r h
  obtain ⟨a, xs, n, ns, Pr, rfl, ⟨hs, hp, hd, hz⟩, q⟩ := h
  obtain ⟨its, rv, hl, hz2⟩ := I.list hs
  rw [Vals.ref1 r]
  have e := each_of rv hp
  have er := reads_of I hd e
  obtain ⟨as, ra⟩ := PySem.W.each_readsAll encR er
  have hdep : ∀ l : List (List Int), PyData.depthAll (l.map encR) ≤ 1 := by
    intro l
    induction l with
    | nil => simp [PyData.depthAll]
    | cons y ys ih => rw [List.map_cons, PyData.depthAll, depthR]; omega
  refine PySem.W.min_list_data (x := encR n) (xs := ns.map encR) (as := as) (I.ok.hd hc) hl.isList ra ⟨?_, ?_⟩ ?_ fun i v h' tk bs hv hr hk => ?_
  · intro x hx y hy
    obtain ⟨b, _, rfl⟩ := List.mem_map.mp (show x ∈ (n :: ns).map encR from hx)
    obtain ⟨c, _, rfl⟩ := List.mem_map.mp (show y ∈ (n :: ns).map encR from hy)
    exact alikeR b c
  · intro x hx z
    obtain ⟨b, _, rfl⟩ := List.mem_map.mp (show x ∈ (n :: ns).map encR from hx)
    cases z
  · have := hdep (n :: ns)
    rw [List.map_cons] at this
    omega
  · rw [minD_rows] at hr
    have hv' : its[i]? = some v := by simpa using hv
    have hx : ∃ x r', RelV x v ∧ Pr x r' ∧ (∃ as, Reads s.heap v (encR r') as) := by
      clear ra as q hs hl hz hz2
      generalize n :: ns = l at hp e er
      induction rv generalizing i l with
      | nil => simp at hv'
      | cons r1 r2 ih =>
        cases hp with
        | cons p1 p2 =>
          cases e with
          | cons e1 e2 =>
            cases er with
            | cons er1 er2 =>
              cases i with
              | zero =>
                cases (show some _ = some _ from hv')
                exact ⟨_, _, r1, p1, er1⟩
              | succ i => exact ih i (by simpa using hv) (by simpa using hv') _ p2 e2 er2
    obtain ⟨x, r', rx, px, as', rr⟩ := hx
    have e1 : encR r' = encR (minR n ns) := PySem.W.alike_unique (h := h') _ _ v _ _ (alikeR _ _) (PySem.W.reads_keeps hk rr) hr
    rw [encR_inj e1] at px
    exact ⟨x, H, I.kept (t' := tk) hk, rx, q x px⟩
theorem minI_mem (x : Int) : ∀ xs : List Int, minI x xs ∈ x :: xs ∧ ∀ y ∈ x :: xs, minI x xs ≤ y := by
  intro xs
  unfold minI
  induction xs generalizing x with
  | nil => simp
  | cons y ys ih =>
    rw [List.foldl_cons]
    by_cases h : y < x
    · rw [if_pos h]
      obtain ⟨h1, h2⟩ := ih y
      refine ⟨List.mem_cons_of_mem _ h1, fun z hz => ?_⟩
      rcases List.mem_cons.mp hz with hz | hz
      · have := h2 y (List.mem_cons_self ..)
        omega
      · exact h2 z hz
    · rw [if_neg h]
      obtain ⟨h1, h2⟩ := ih x
      refine ⟨?_, fun z hz => ?_⟩
      · rcases List.mem_cons.mp h1 with e | e
        · rw [e]; exact List.mem_cons_self ..
        · exact List.mem_cons_of_mem _ (List.mem_cons_of_mem _ e)
      · have hx := h2 x (List.mem_cons_self ..)
        rcases List.mem_cons.mp hz with hz | hz
        · omega
        · rcases List.mem_cons.mp hz with hz | hz
          · omega
          · exact h2 z (List.mem_cons_of_mem _ hz)
theorem maxI_mem (x : Int) : ∀ xs : List Int, maxI x xs ∈ x :: xs ∧ ∀ y ∈ x :: xs, y ≤ maxI x xs := by
  intro xs
  unfold maxI
  induction xs generalizing x with
  | nil => simp
  | cons y ys ih =>
    rw [List.foldl_cons]
    by_cases h : x < y
    · rw [if_pos h]
      obtain ⟨h1, h2⟩ := ih y
      refine ⟨List.mem_cons_of_mem _ h1, fun z hz => ?_⟩
      rcases List.mem_cons.mp hz with hz | hz
      · have := h2 y (List.mem_cons_self ..)
        omega
      · exact h2 z hz
    · rw [if_neg h]
      obtain ⟨h1, h2⟩ := ih x
      refine ⟨?_, fun z hz => ?_⟩
      · rcases List.mem_cons.mp h1 with e | e
        · rw [e]; exact List.mem_cons_self ..
        · exact List.mem_cons_of_mem _ (List.mem_cons_of_mem _ e)
      · have hx := h2 x (List.mem_cons_self ..)
        rcases List.mem_cons.mp hz with hz | hz
        · omega
        · rcases List.mem_cons.mp hz with hz | hz
          · omega
          · exact h2 z (List.mem_cons_of_mem _ hz)
theorem cr_comb : CallR X (.builtin "math.comb") (fun vs H Q => ∃ a b : Int, vs = [.int a, .int b] ∧ 0 ≤ a ∧ 0 ≤ b ∧ a ≤ 9000 ∧ Q (.int (combI a b)) H) := by
  intro pins s σ H vs us Q I r h
  obtain ⟨a, b, rfl, h1, h2, h3, q⟩ := h
  obtain ⟨t, u, rfl⟩ := Vals.int2 r
  exact PySem.W.mc_comb h1 h2 (by omega) (.inr (by omega)) fun _ => ⟨.int _, H, I.tok _, ⟨_, rfl⟩, q⟩

theorem rowsOf_paired : ∀ {ds : List D} {vs : List V} {ns : List (List Int)}, rowsOf ds = some ns → RepAll W H vs ds → Paired (fun x r => Rep W H x (dInts r)) vs ns ∧ ds = ns.map dInts
  | [], vs, ns, e, r => by
    cases e; cases r
    exact ⟨.nil, rfl⟩
  | d :: ds, vs, ns, e, r => by
    have e1 : ((rowOf d).bind fun y => (mapO rowOf ds).bind fun ys => some (y :: ys)) = some ns := e
    cases h : rowOf d with
    | none => rw [h] at e1; cases e1
    | some y =>
      rw [h] at e1
      cases h2 : mapO rowOf ds with
      | none => simp [h2] at e1
      | some ys =>
        simp [h2] at e1
        subst e1
        cases r with
        | cons r1 r2 =>
          obtain ⟨p1, p2⟩ := rowsOf_paired (ds := ds) (ns := ys) h2 r2
          have ed : d = dInts y := by
            cases d <;> first | (cases h; done) | skip
            rename_i xs
            unfold dInts
            rw [intsOf_eq (show intsOf xs = some y from h)]
          subst ed
          exact ⟨.cons r1 p1, by rw [List.map_cons, ← p2]⟩
theorem paired_rep : ∀ {vs : List V} {ns : List (List Int)}, Paired (fun x r => Rep W H x (dInts r)) vs ns → RepAll W H vs (ns.map dInts)
  | _, _, .nil => .nil
  | _, _, .cons h r => .cons h (paired_rep r)
theorem rep_dpR {K : PySem.W.Frag} (hK : W.K = K) {x : V} {r : List Int} (h : Rep W H x (dInts r)) : Dp K H x (encR r) := by
  rw [← toP_ints]
  refine okP_dp hK 1 _ _ ?_ h
  show (r.map D.int).all (okP 0) = true
  rw [List.all_eq_true]
  intro d hd
  obtain ⟨i, _, rfl⟩ := List.mem_map.mp hd
  rfl

/-! ### all of them -/
def biId : Bi → Value
  | .len => .builtin "len"
  | .abs => .builtin "abs"
  | .max2 => .builtin "max"
  | .min2 => .builtin "min"
  | .int_ => .type "int"
  | .sum => .builtin "sum"
  | .min1 => .builtin "min"
  | .max1 => .builtin "max"
  | .sorted => .builtin "sorted"
  | .list_ => .type "list"
  | .comb => .builtin "math.comb"
def biOwn (b : Bi) : Bool := b == .list_ || b == .sorted
theorem Rep.full {v : V} {d : D} (h : Rep W (Hh S A H) v d) : Rep W H v d := h.mono hh_same
theorem RepAll.full {v : List V} {d : List D} (h : RepAll W (Hh S A H) v d) : RepAll W H v d := h.mono hh_same
theorem sqI {a : Addr} {xs : List V} {ds : List D} {ns : List Int} {K : PySem.W.Frag} (h : H a = some (.lst xs)) (r : RepAll W (Hh S A H) xs ds) (e : intsOf ds = some ns) : SqL K H a (ns.map V.int) := by
  rw [← r.ints e]
  exact SqL.of h
theorem bi_ok (W : Wd) (b : Bi) : ∃ r, (∀ X : Cx, X.calm = true → X.A.units + 10 < cLine → X.K = W.K → CallR X (biId b) r) ∧
    ∀ (S : Addr → Prop) (A : Nat → Option Addr) (vs : List V) (H : Hp) (ds : List D) (d : D), Trk S A H → RepAll W (Hh S A H) vs ds → biD b ds = some d → ∀ Q : VK, (∀ v H', Res3 W S A H (biOwn b) d v H' → Q v H') → r vs H Q := by
  cases b with
  | len =>
    refine ⟨fun xs H Q => ∃ p ys, xs = [V.ref p] ∧ (SqL W.K H p ys ∨ SqT W.K H p ys) ∧ Q (.int ys.length) H, fun X hc hu hK => by rw [← hK]; exact call_len_seq, fun S A vs H ds d T r e Q q => ?_⟩
    have e : biLen ds = some d := e
    unfold biLen at e
    split at e <;> cases e
    · obtain ⟨v, rfl, h⟩ := r.one
      obtain ⟨a, xs, rfl, h1, h2⟩ := rep_lst h
      exact ⟨a, xs, rfl, .inl (SqL.of h1), q _ _ (by rw [h2.length]; exact Res3.flat (.int _) rfl)⟩
    · obtain ⟨v, rfl, h⟩ := r.one
      obtain ⟨a, xs, rfl, h1, h2⟩ := rep_tup h
      exact ⟨a, xs, rfl, .inr (SqT.of h1), q _ _ (by rw [h2.length]; exact Res3.flat (.int _) rfl)⟩
  | abs =>
    refine ⟨_, fun X hc hu hK => call_abs, fun S A vs H ds d T r e Q q => ?_⟩
    have e : biAbs ds = some d := e
    unfold biAbs at e
    split at e <;> cases e
    obtain ⟨v, rfl, h⟩ := r.one
    cases h
    exact ⟨_, rfl, q _ _ (Res3.flat (.int _) rfl)⟩
  | max2 =>
    refine ⟨_, fun X hc hu hK => call_max2 hc, fun S A vs H ds d T r e Q q => ?_⟩
    have e : biMax2 ds = some d := e
    unfold biMax2 at e
    split at e <;> cases e
    obtain ⟨v, w, rfl, h, h2⟩ := r.two
    cases h; cases h2
    exact ⟨_, _, rfl, q _ _ (Res3.flat (.int _) rfl)⟩
  | min2 =>
    refine ⟨_, fun X hc hu hK => call_min2 hc, fun S A vs H ds d T r e Q q => ?_⟩
    have e : biMin2 ds = some d := e
    unfold biMin2 at e
    split at e <;> cases e
    obtain ⟨v, w, rfl, h, h2⟩ := r.two
    cases h; cases h2
    exact ⟨_, _, rfl, q _ _ (Res3.flat (.int _) rfl)⟩
  | int_ =>
    refine ⟨_, fun X hc hu hK => call_int1, fun S A vs H ds d T r e Q q => ?_⟩
    have e : biInt ds = some d := e
    unfold biInt at e
    split at e <;> cases e
    · obtain ⟨v, rfl, h⟩ := r.one
      cases h
      exact .inl ⟨_, rfl, q _ _ (Res3.flat (.int _) rfl)⟩
    · obtain ⟨v, rfl, h⟩ := r.one
      cases h
      exact .inr ⟨_, rfl, q _ _ (Res3.flat (.int _) rfl)⟩
  | sum =>
    refine ⟨rSum W.K, fun X hc hu hK => by rw [← hK]; exact cr_sum hc, fun S A vs H ds d T r e Q q => ?_⟩
    have e : biSum ds = some d := e
    unfold biSum at e
    split at e <;> try (cases e; done)
    rename_i xs' h'
    obtain ⟨ns, e1, e2⟩ := Option.bind_eq_some_iff.mp e
    cases e2
    obtain ⟨v, rfl, h⟩ := r.one
    obtain ⟨a, xs, rfl, h1, h2⟩ := rep_lst h
    exact ⟨a, ns, rfl, sqI h1 h2 e1, q _ _ (Res3.flat (.int _) rfl)⟩
  | min1 =>
    refine ⟨fun xs H Q => rMin W.K xs H Q ∨ rMinR W.K xs H Q, fun X hc hu hK => by rw [← hK]; exact CallR.or (cr_min hc) (cr_minR hc hu), fun S A vs H ds d T r e Q q => ?_⟩
    have e : biMin1 ds = some d := e
    unfold biMin1 at e
    split at e <;> try (cases e; done)
    · obtain ⟨ns, e1, e2⟩ := Option.bind_eq_some_iff.mp e
      cases e2
      obtain ⟨v, rfl, h⟩ := r.one
      obtain ⟨a, xs, rfl, h1, h2⟩ := rep_lst h
      rename_i x xs0 _
      have e3 : intsOf (.int x :: xs0) = some (x :: ns) := by
        unfold intsOf at e1 ⊢
        simp [mapO, intOf, e1]
      obtain ⟨m1, m2⟩ := minI_mem x ns
      refine .inl ⟨a, x :: ns, rfl, sqI h1 h2 e3, by simp, fun m hm hle => ?_⟩
      have : m = minI x ns := by
        have a1 := hle _ m1
        have a2 := m2 _ hm
        omega
      rw [this]
      exact q _ _ (Res3.flat (.int _) rfl)
    · obtain ⟨n, e1, e2⟩ := Option.bind_eq_some_iff.mp e
      obtain ⟨ns, e3, e4⟩ := Option.bind_eq_some_iff.mp e2
      split at e4
      · rename_i hlen
        cases e4
        obtain ⟨v, rfl, h⟩ := r.one
        obtain ⟨a, xs, rfl, h1, h2⟩ := rep_lst h
        rename_i x xs0 _
        have e5 : rowsOf (.lst x :: xs0) = some (n :: ns) := by
          unfold rowsOf at e3 ⊢
          simp [mapO, rowOf, e1, e3]
        obtain ⟨p1, p2⟩ := rowsOf_paired e5 h2
        refine .inr ⟨a, xs, n, ns, fun x r => Rep W (Hh S A H) x (dInts r), rfl, ⟨SqL.of h1, p1, fun x r h => rep_dpR rfl h.full, ?_⟩, fun x hx => q _ _ ⟨Same.refl _, hx, fun z => by cases z⟩⟩
        rw [List.length_cons]
        have : sizeLine = 16777216 := sizeLine_eq
        unfold big at hlen
        omega
      · cases e4
  | max1 =>
    refine ⟨rMax W.K, fun X hc hu hK => by rw [← hK]; exact cr_max hc, fun S A vs H ds d T r e Q q => ?_⟩
    have e : biMax1 ds = some d := e
    unfold biMax1 at e
    split at e <;> try (cases e; done)
    obtain ⟨ns, e1, e2⟩ := Option.bind_eq_some_iff.mp e
    cases e2
    obtain ⟨v, rfl, h⟩ := r.one
    obtain ⟨a, xs, rfl, h1, h2⟩ := rep_lst h
    rename_i x xs0 _
    have e3 : intsOf (.int x :: xs0) = some (x :: ns) := by
      unfold intsOf at e1 ⊢
      simp [mapO, intOf, e1]
    obtain ⟨m1, m2⟩ := maxI_mem x ns
    refine ⟨a, x :: ns, rfl, sqI h1 h2 e3, by simp, fun m hm hle => ?_⟩
    have : m = maxI x ns := by
      have a1 := hle _ m1
      have a2 := m2 _ hm
      omega
    rw [this]
    exact q _ _ (Res3.flat (.int _) rfl)
  | sorted =>
    refine ⟨rSortR W.K, fun X hc hu hK => by rw [← hK]; exact cr_sortR hu, fun S A vs H ds d T r e Q q => ?_⟩
    have e : biSorted ds = some d := e
    unfold biSorted at e
    split at e <;> try (cases e; done)
    obtain ⟨ns, e1, e2⟩ := Option.bind_eq_some_iff.mp e
    split at e2
    · rename_i hlen
      cases e2
      obtain ⟨v, rfl, h⟩ := r.one
      obtain ⟨a, xs, rfl, h1, h2⟩ := rep_lst h
      obtain ⟨p1, p2⟩ := rowsOf_paired e1 h2
      refine ⟨a, xs, ns, fun x r => Rep W (Hh S A H) x (dInts r), rfl, ⟨SqL.of h1, p1, fun x r h => rep_dpR rfl h.full, ?_⟩, fun out ho p hp => q _ _ (Res3.newList T hp (paired_rep ho))⟩
      have : sizeLine = 16777216 := sizeLine_eq
      unfold big at hlen
      omega
    · cases e2
  | list_ =>
    refine ⟨fun xs H Q => ∃ p ys, xs = [V.ref p] ∧ (SqL W.K H p ys ∨ SqT W.K H p ys) ∧ ∀ l, H l = none → Q (.ref l) (upd H l (.lst ys)), fun X hc hu hK => by rw [← hK]; exact call_list_of, fun S A vs H ds d T r e Q q => ?_⟩
    have e : biList ds = some d := e
    unfold biList at e
    split at e <;> cases e
    · obtain ⟨v, rfl, h⟩ := r.one
      obtain ⟨a, xs, rfl, h1, h2⟩ := rep_lst h
      exact ⟨a, xs, rfl, .inl (SqL.of h1), fun p hp => q _ _ (Res3.newList T hp h2)⟩
    · obtain ⟨v, rfl, h⟩ := r.one
      obtain ⟨a, xs, rfl, h1, h2⟩ := rep_tup h
      exact ⟨a, xs, rfl, .inr (SqT.of h1), fun p hp => q _ _ (Res3.newList T hp h2)⟩
  | comb =>
    refine ⟨_, fun X hc hu hK => cr_comb, fun S A vs H ds d T r e Q q => ?_⟩
    have e : biComb ds = some d := e
    unfold biComb at e
    split at e <;> try (cases e; done)
    split at e
    · rename_i hh
      cases e
      obtain ⟨v, w, rfl, h, h2⟩ := r.two
      cases h; cases h2
      exact ⟨_, _, rfl, hh.1, hh.2.1, hh.2.2, q _ _ (Res3.flat (.int _) rfl)⟩
    · cases e
end
end MN
end S_MnBi
section S_MnChkB
set_option maxRecDepth 100000
/-! The check that a text of the small language is a def's body; promises; operators. -/
namespace MN
open PySem PySem.Spec PyProof.Rows L2

def visB (sc : Scope) (x : Str) : Bool := match sc.names.lookup x with
  | some .local => true
  | some .cell => true
  | some .free => true
  | _ => false
def locB (sc : Scope) (x : Str) : Bool := match sc.names.lookup x with
  | some .local => true
  | some .cell => true
  | _ => false
def isLoc (sc : Scope) (x : Str) : Bool := match sc.names.lookup x with
  | some .local => true
  | _ => false
def isCell (sc : Scope) (x : Str) : Bool := match sc.names.lookup x with
  | some .cell => true
  | _ => false
def glB (sc : Scope) (x : Str) : Bool := match sc.names.lookup x with
  | some .globalImplicit => true
  | _ => false
def dbg (x : Str) : Bool := !(x == ("__debug__" : Str)) && !(x == ("__classdict__" : Str))
def starB : Expr → Bool
  | .Starred .. => true
  | _ => false
def notComp : Expr → Bool
  | .ListComp .. => false
  | .SetComp .. => false
  | .DictComp .. => false
  | _ => true
def notTup : Expr → Bool
  | .Tuple .. => false
  | _ => true
def notSet : Expr → Bool
  | .Set .. => false
  | _ => true
def notSlice : Expr → Bool
  | .Slice .. => false
  | _ => true
/-- attributeBase is nothing -/
def baseB : Expr → Bool
  | .Call (.Name ..) [] [] _ => false
  | _ => true
def plainT : Expr → Bool
  | .UnaryOp .. => false
  | .BoolOp .. => false
  | .IfExp .. => false
  | .Compare .. => false
  | _ => true
/-- an expression of truth -/
def boolF : ME → Bool
  | .cmp .. => true
  | .chain .. => true
  | .and .. => true
  | .or .. => true
  | .or3 .. => true
  | .not .. => true
  | _ => false
def opO : BOp → Operator
  | .add => .Add
  | .sub => .Sub
  | .mul => .Mult
  | .mod => .Mod
  | .fdiv => .FloorDiv
  | .pow => .Pow
def opB (o : BOp) (p : Operator) : Bool := match o, p with
  | .add, .Add => true
  | .sub, .Sub => true
  | .mul, .Mult => true
  | .mod, .Mod => true
  | .fdiv, .FloorDiv => true
  | .pow, .Pow => true
  | _, _ => false
theorem opB_eq {o : BOp} {p : Operator} (h : opB o p = true) : p = opO o := by
  cases o <;> cases p <;> first | rfl | cases h
def copO : COp → CmpOp
  | .eq => .Eq
  | .ne => .NotEq
  | .lt => .Lt
  | .le => .LtE
  | .gt => .Gt
  | .ge => .GtE
  | .is_ => .Is
  | .isn => .IsNot
  | .in_ => .In
  | .nin => .NotIn
def copB (o : COp) (p : CmpOp) : Bool := match o, p with
  | .eq, .Eq => true
  | .ne, .NotEq => true
  | .lt, .Lt => true
  | .le, .LtE => true
  | .gt, .Gt => true
  | .ge, .GtE => true
  | .is_, .Is => true
  | .isn, .IsNot => true
  | .in_, .In => true
  | .nin, .NotIn => true
  | _, _ => false
theorem copB_eq {o : COp} {p : CmpOp} (h : copB o p = true) : p = copO o := by
  cases o <;> cases p <;> first | rfl | cases h
def biNm : Bi → Str
  | .len => "len"
  | .abs => "abs"
  | .max2 => "max"
  | .min2 => "min"
  | .int_ => "int"
  | .sum => "sum"
  | .min1 => "min"
  | .max1 => "max"
  | .sorted => "sorted"
  | .list_ => "list"
  | .comb => "comb"
def ownOf : Tg → Expr → List (Str × Nat)
  | .one i, .Name x _ => [(x, i)]
  | .two i j, .Tuple [.Name x _, .Name y _] _ _ => [(x, i), (y, j)]
  | _, _ => []

def chkG (N : List Str) (sc : Scope) (fnb : Str → Bool) : Tg → Expr → Bool
  | .one i, .Name x _ => decide (N[i]? = some x) && (locB sc x && (fnb x || isLoc sc x))
  | .two i j, .Tuple [.Name x _, .Name y _] _ _ => decide (N[i]? = some x) && (locB sc x && (fnb x || isLoc sc x)) && (decide (N[j]? = some y) && (locB sc y && (fnb y || isLoc sc y)))
  | _, _ => false
def isRg : Expr → Bool
  | .Call (.Name x _) _ _ _ => x == ("range" : Str)
  | _ => false

section
variable (T : Tb)
mutual
def chkE (N : List Str) : ME → Scope → (Str → Bool) → Expr → Bool
  | .nm i => fun sc fnb e => match e with
    | .Name x _ => decide (N[i]? = some x) && (visB sc x && dbg x)
    | _ => false
  | .glb g => fun sc fnb e => match e with
    | .Name x _ => decide (x = T.gnm g) && (glB sc x && (dbg x && decide (g < T.ngl)))
    | _ => false
  | .int i => fun sc fnb e => match e with
    | .Constant (.int j) _ _ => decide (i = j)
    | _ => false
  | .neg i => fun sc fnb e => match e with
    | .UnaryOp .USub (.Constant (.int j) _ _) _ => decide (i = j)
    | _ => false
  | .bl b => fun sc fnb e => match e with
    | .Constant (.bool c) _ _ => decide (b = c)
    | _ => false
  | .non => fun sc fnb e => match e with
    | .Constant .none _ _ => true
    | _ => false
  | .bin op a b => fun sc fnb e => match e with
    | .BinOp x o y _ => opB op o && (chkE N a sc fnb x && chkE N b sc fnb y)
    | _ => false
  | .cmp op a b => fun sc fnb e => match e with
    | .Compare x [o] [y] _ => copB op o && (chkE N a sc fnb x && (chkE N b sc fnb y && !behindInMarks o y))
    | _ => false
  | .chain op op' a b c => fun sc fnb e => match e with
    | .Compare x [o, o'] [y, z] _ => copB op o && (copB op' o' && (chkE N a sc fnb x && (chkE N b sc fnb y && (chkE N c sc fnb z && (!behindInMarks o y && !behindInMarks o' z)))))
    | _ => false
  | .and a b => fun sc fnb e => match e with
    | .BoolOp .And [x, y] _ => chkE N a sc fnb x && (chkE N b sc fnb y && ((boolF a || plainT x) && (boolF b || plainT y)))
    | _ => false
  | .or a b => fun sc fnb e => match e with
    | .BoolOp .Or [x, y] _ => chkE N a sc fnb x && (chkE N b sc fnb y && ((boolF a || plainT x) && (boolF b || plainT y)))
    | _ => false
  | .or3 a b c => fun sc fnb e => match e with
    | .BoolOp .Or [x, y, z] _ => chkE N a sc fnb x && (chkE N b sc fnb y && (chkE N c sc fnb z && ((boolF a || plainT x) && ((boolF b || plainT y) && (boolF c || plainT z)))))
    | _ => false
  | .not a => fun sc fnb e => match e with
    | .UnaryOp .Not x _ => chkE N a sc fnb x && (boolF a || plainT x)
    | _ => false
  | .call f as => fun sc fnb e => match e with
    | .Call (.Name x _) (y :: ys) [] _ => decide (x = T.fnm f) && (decide (T.knd f = 0) && (glB sc x && (dbg x && chkA N as sc fnb (y :: ys))))
    | _ => false
  | .mk f as => fun sc fnb e => match e with
    | .Call (.Name x _) (y :: ys) [] _ => decide (x = T.cnm (T.fcl f)) && (decide (T.knd f = 1) && (glB sc x && (dbg x && chkA N as sc fnb (y :: ys))))
    | _ => false
  | .meth f o as => fun sc fnb e => match e with
    | .Call (.Attribute oe m apos) (y :: ys) [] pos => decide (m = T.fnm f) && (decide (T.knd f = 2) && (chkE N o sc fnb oe && (baseB oe && ((apos.endLine == pos.line) && (decide ((y :: ys).length < 20) && (!(T.cfl (T.fcl f)).contains m && chkA N as sc fnb (y :: ys)))))))
    | _ => false
  | .meth0 f o => fun sc fnb e => match e with
    | .Call (.Attribute oe m apos) [] [] pos => decide (m = T.fnm f) && (decide (T.knd f = 2) && (chkE N o sc fnb oe && (baseB oe && ((apos.endLine == pos.line) && !(T.cfl (T.fcl f)).contains m))))
    | _ => false
  | .prop f o => fun sc fnb e => match e with
    | .Attribute oe m _ => decide (m = T.fnm f) && (decide (T.knd f = 3) && (chkE N o sc fnb oe && baseB oe))
    | _ => false
  | .bi b as => fun sc fnb e => match e with
    | .Call (.Name x _) (y :: ys) [] _ => decide (x = biNm b) && (glB sc x && chkA N as sc fnb (y :: ys))
    | _ => false
  | .isI a => fun sc fnb e => match e with
    | .Call (.Name x _) [y, .Name z _] [] _ => decide (x = "isinstance") && (decide (z = "int") && (glB sc x && (glB sc z && (chkE N a sc fnb y && !starB y))))
    | _ => false
  | .isB a => fun sc fnb e => match e with
    | .Call (.Name x _) [y, .Name z _] [] _ => decide (x = "isinstance") && (decide (z = "bool") && (glB sc x && (glB sc z && (chkE N a sc fnb y && !starB y))))
    | _ => false
  | .lset a => fun sc fnb e => match e with
    | .Call (.Name x _) [.Call (.Name z _) [y] [] _] [] _ => decide (x = "len") && (decide (z = "set") && (glB sc x && (glB sc z && (chkE N a sc fnb y && !starB y))))
    | _ => false
  | .lrg a => fun sc fnb e => match e with
    | .Call (.Name x _) [.Call (.Name z _) [y] [] _] [] _ => decide (x = "list") && (decide (z = "range") && (glB sc x && (glB sc z && (chkE N a sc fnb y && !starB y))))
    | _ => false
  | .idx a x => fun sc fnb e => match e with
    | .Call (.Attribute oe m apos) [y] [] pos => decide (m = "index") && (chkE N a sc fnb oe && (baseB oe && ((apos.endLine == pos.line) && (chkE N x sc fnb y && !starB y))))
    | _ => false
  | .fld c k o => fun sc fnb e => match e with
    | .Attribute oe m _ => decide ((T.cfl c)[k]? = some m) && (decide (c < T.ncl) && (chkE N o sc fnb oe && baseB oe))
    | _ => false
  | .sub a i => fun sc fnb e => match e with
    | .Subscript x y _ => chkE N a sc fnb x && (chkE N i sc fnb y && notSlice y)
    | _ => false
  | .slc a lo hi => fun sc fnb e => match e with
    | .Subscript x (.Slice l h none _) _ => chkE N a sc fnb x && ((match l with
      | some le => chkE N lo sc fnb le
      | none => isNilB lo) && (match h with
      | some he => chkE N hi sc fnb he
      | none => isNilB hi))
    | _ => false
  | .lst as => fun sc fnb e => match e with
    | .List es _ => chkA N as sc fnb es
    | _ => false
  | .tup as => fun sc fnb e => match e with
    | .Tuple es _ _ => chkA N as sc fnb es
    | _ => false
  | .comp el tg it src cond => fun sc fnb e => match e with
    | .ListComp elt [⟨te, iter, ifs, 0⟩] scope _ => (match it, iter with
        | .lst, _ => chkE N src sc fnb iter
        | .tup, _ => chkE N src sc fnb iter
        | .rg1, .Call (.Name x _) [y] [] _ => decide (x = "range") && (glB sc x && chkA N src sc fnb [y])
        | .rg2, .Call (.Name x _) [y, z] [] _ => decide (x = "range") && (glB sc x && chkA N src sc fnb [y, z])
        | .rev, .Call (.Name x _) [y] [] _ => decide (x = "reversed") && (glB sc x && chkA N src sc fnb [y])
        | .zip, .Call (.Name x _) [y, z] [] _ => decide (x = "zip") && (glB sc x && (chkA N src sc fnb [y, z] && !notTup te))
        | _, _ => false) && (notSet iter && (blkC N sc scope (ownOf tg te) && (chkG N (relS scope sc) (isCell scope) tg te && (chkE N el (relS scope sc) (isCell scope) elt && (match ifs with
          | [] => isNilB cond
          | [ie] => chkE N cond (relS scope sc) (isCell scope) ie && boolF cond
          | _ => false)))))
    | _ => false
  | .nil => fun _ _ _ => false
  | .cons _ _ => fun _ _ _ => false
def chkA (N : List Str) : ME → Scope → (Str → Bool) → List Expr → Bool
  | .nil => fun sc fnb es => match es with
    | [] => true
    | _ => false
  | .cons a as => fun sc fnb es => match es with
    | y :: ys => chkE N a sc fnb y && (!starB y && chkA N as sc fnb ys)
    | _ => false
  | _ => fun _ _ _ => false
end
end
end MN
end S_MnChkB
section S_MnSnd
set_option maxRecDepth 100000
/-! Expressions: the check is sound. -/
namespace MN
open PySem PySem.Spec PyProof.Rows L2

/-! ### promises -/
/-- a def: its arguments are read in a part Hb of the heap; the answer is read in that part and what is new -/
def spF (W : Wd) (m : List D → Option D) : Sp := fun vs H Q _ => ∃ (ds : List D) (d : D) (Hb : Hp), Same Hb H ∧ RepAll W Hb vs ds ∧ m ds = some d ∧
  ∀ (v : V) (H' Hb' : Hp), Same H H' → Same Hb Hb' → Same Hb' H' → (∀ b o, Hb' b = some o → Hb b = some o ∨ H b = none) → Rep W Hb' v d → Q v H'
/-- a class's __init__ -/
def spI (W : Wd) (c : Nat) (m : List D → Option D) : Sp := fun vs H Q _ => ∃ (p dx : Addr) (us : List V) (ds fs : List D) (Hb : Hp), vs = .ref p :: us ∧ H p = some (.ins (W.cl c) dx []) ∧ Hb p = none ∧ Same Hb H ∧ RepAll W Hb us ds ∧ m ds = some (.ins c fs) ∧
  ∀ (H' Hb' : Hp), (∀ b o, b ≠ p → H b = some o → H' b = some o) → Same Hb Hb' → Same Hb' H' → (∀ b o, Hb' b = some o → Hb b = some o ∨ H b = none ∨ b = p) → Rep W Hb' (.ref p) (.ins c fs) → Q .non H'

structure ProgOk (W : Wd) (T : Tb) (M : Nat → List D → Option D) (G : Nat → Int) (k : Nat) (P : Program) (w : World) (mg : Str → Option Value) (base : Heap) : Prop where
  fn : ∀ f, T.knd f = 0 → ∃ a fd ps, mg (T.fnm f) = some (.ref a) ∧ PySem.W.keepIn W.K (.ref a) = true ∧ Binds W.K fd ps [] ∧ FnOk P w W.K mg base CX0 k a fd ps (spF W (M f))
  mkr : ∀ f, T.knd f = 1 → ∃ a fd ps, mg (T.cnm (T.fcl f)) = some (.ref (W.cl (T.fcl f))) ∧ Mk W.K (W.cl (T.fcl f)) a ∧ Binds W.K fd ps [] ∧ FnOk P w W.K mg base CX0 k a fd ps (spI W (T.fcl f) (M f))
  me : ∀ f, T.knd f = 2 → ∃ a fd ps, Cls W.K (W.cl (T.fcl f)) ∧ Meth W.K (W.cl (T.fcl f)) (T.fnm f) a ∧ Binds W.K fd ps [] ∧ FnOk P w W.K mg base CX0 k a fd ps (spF W (M f))
  pr : ∀ f, T.knd f = 3 → ∃ p a fd ps, Cls W.K (W.cl (T.fcl f)) ∧ PropOf W.K (W.cl (T.fcl f)) (T.fnm f) p a ∧ Binds W.K fd ps [] ∧ FnOk P w W.K mg base CX0 k a fd ps (spF W (M f))
  glb : ∀ g, g < T.ngl → ∃ t, mg (T.gnm g) = some (.int (G g) t)
  blt : ∀ x ∈ (["len", "abs", "max", "min", "int", "sum", "sorted", "list", "range", "reversed", "zip", "set", "isinstance", "bool"] : List Str), mg x = none
  comb : mg "comb" = some (.builtin "math.comb")

/-- of the functions' values, the classes -/
structure MOk (W : Wd) (T : Tb) (M : Nat → List D → Option D) : Prop where
  mkr : ∀ f, T.knd f = 1 → ∀ ds d, M f ds = some d → ∃ fs, d = .ins (T.fcl f) fs
  me : ∀ f, T.knd f = 2 → ∀ ds d, M f ds = some d → ∃ fs r, ds = .ins (T.fcl f) fs :: r
  pr : ∀ f, T.knd f = 3 → ∀ ds d, M f ds = some d → ∃ fs r, ds = .ins (T.fcl f) fs :: r
  cls : ∀ c, c < T.ncl → Cls W.K (W.cl c) ∧ (∀ n ∈ T.cfl c, NoAttr W.K (W.cl c) n)
  fl : ∀ c, W.fl c = T.cfl c
  nd : ∀ c, (T.cfl c).Nodup

structure XOk (W : Wd) (T : Tb) (M : Nat → List D → Option D) (G : Nat → Int) (k : Nat) (N : List Str) (sc : Scope) (fnb : Str → Bool) (X : Cx) : Prop where
  n : X.N = N
  nd : N.Nodup
  sc : X.env.scope = sc
  calm : X.calm = true
  xe : X.xe = fun _ _ => False
  K : X.K = W.K
  hr : Room (k + 1) X.A
  fb : ∀ x, fnb x = true → X.fn x = true
  pg : ProgOk W T M G k X.prog X.w X.mg X.base

section
variable (W : Wd) (M : Nat → List D → Option D) (G : Nat → Int)
def SemE (m : ME) (t : TE) : Prop := ∀ (S : Addr → Prop) (A : Nat → Option Addr) (ρ : En) (σ : L2.St) (H : Hp) (r : Res), EnvOk W S A ρ σ H → evE M G m ρ = some r → ∀ Q : VK, (∀ v H', Res3 W S (dropA A r.2) H (fresh m) r.1 v H' → Q v H') → t σ H Q
def SemT (m : ME) (t : TT) : Prop := ∀ (S : Addr → Prop) (A : Nat → Option Addr) (ρ : En) (σ : L2.St) (H : Hp) (r : Res) (k : Bool), EnvOk W S A ρ σ H → evE M G m ρ = some r → r.1 = .bl k → ∀ Q : Bool → Hp → Prop, (∀ H', Same H H' → Q k H') → t σ H Q
def SemA (m : ME) (t : TA) : Prop := ∀ (S : Addr → Prop) (A : Nat → Option Addr) (ρ : En) (σ : L2.St) (H : Hp) (r : Res), EnvOk W S A ρ σ H → evE M G m ρ = some r → ∃ ds, r.1 = .tup ds ∧ ∀ Q : List V → Hp → Prop, (∀ vs H', Same H H' → RepAll W (Hh S (dropA A r.2) H') vs ds → Q vs H') → t σ H Q
end

/-! ### side conditions -/
section
variable {X : Cx} {W : Wd} {T : Tb} {M : Nat → List D → Option D} {G : Nat → Int} {k : Nat} {N : List Str} {sc : Scope} {fnb : Str → Bool}
theorem vis_of (x : Str) (h : XOk W T M G k N sc fnb X) (v : visB sc x = true) : Vis X.env.scope x := by
  rw [h.sc]
  unfold visB at v
  unfold Vis
  split at v <;> first | (rename_i e; rw [e]; simp; done) | cases v
theorem loc_of (x : Str) (h : XOk W T M G k N sc fnb X) (v : locB sc x = true) : L2.Loc X.env.scope x := by
  rw [h.sc]
  unfold locB at v
  unfold L2.Loc
  split at v <;> first | (rename_i e; rw [e]; simp; done) | cases v
theorem gl_of (x : Str) (h : XOk W T M G k N sc fnb X) (v : glB sc x = true) : Gl X x := by
  unfold Gl Env.kindOf
  rw [h.sc]
  unfold glB at v
  split at v <;> first | assumption | cases v
theorem isLoc_eq {x : Str} (v : isLoc sc x = true) : sc.names.lookup x = some .local := by
  unfold isLoc at v
  split at v <;> first | assumption | cases v
theorem isCell_eq {x : Str} (v : isCell sc x = true) : sc.names.lookup x = some .cell := by
  unfold isCell at v
  split at v <;> first | assumption | cases v
theorem fn_of (x : Str) (h : XOk W T M G k N sc fnb X) (v : (fnb x || isLoc sc x) = true) : X.fn x = true ∨ X.env.scope.names.lookup x = some .local := by
  rcases Bool.or_eq_true_iff.mp v with q | q
  · exact .inl (h.fb x q)
  · exact .inr (by rw [h.sc]; exact isLoc_eq q)
theorem dbg_of {x : Str} (h : dbg x = true) : (x == ("__debug__" : Str)) = false ∧ (x == ("__classdict__" : Str)) = false := by
  unfold dbg at h
  simpa using h
theorem star_cons {e : Expr} {es : List Expr} {env : Env} (h : starB e = false) : starEach (e :: es) env = (false, eval e env) :: starEach es env := by
  cases e <;> first | rfl | cases h
theorem star_any {pos : Pos} {env : Env} : ∀ {es : List Expr}, (∀ e ∈ es, starB e = false) → (backTo pos (starEach es env)).any (·.1) = false
  | [], _ => rfl
  | e :: es, h => by
    rw [star_cons (h e (List.mem_cons_self ..))]
    show (false || (backTo pos (starEach es env)).any (·.1)) = false
    rw [star_any fun z hz => h z (List.mem_cons_of_mem _ hz)]
    rfl
theorem chkA_star {m : ME} : ∀ {es : List Expr}, chkA T N m sc fnb es = true → ∀ e ∈ es, starB e = false := by
  induction m with
  | cons a as _ ih =>
    intro es h
    cases es with
    | nil => cases h
    | cons y ys =>
      unfold chkA at h
      simp only [Bool.and_eq_true, Bool.not_eq_true'] at h
      intro e he
      rcases List.mem_cons.mp he with rfl | he
      · exact h.2.1
      · exact ih h.2.2 e he
  | nil =>
    intro es h
    cases es with
    | nil => intro e he; cases he
    | cons _ _ => cases h
  | _ => intro es h; cases h
theorem base_of {o : Expr} {m : Str} {env : Env} (h : baseB o = true) (whole : Sem Value) : attributeBase o m env whole = whole := by
  unfold attributeBase
  cases o with
  | Call f args kws pos =>
    cases f with
    | Name id p =>
      cases args with
      | nil =>
        cases kws with
        | nil => cases h
        | cons _ _ => rfl
      | cons _ _ => rfl
    | _ => rfl
  | _ => rfl
theorem plain_true {e : Expr} {env : Env} (h : plainT e = true) (whole : Sem Value) : isTrue e env whole = (do let v ← whole; standAt e.pos; holding [v] (truthy v)) := by
  cases e <;> first | rfl | cases h
theorem set_of {e : Expr} {env : Env} (h : notSet e = true) (x : Value) : foldedSetIterable e env x = pure x := by
  cases e <;> first | rfl | cases h
theorem slice_of {e : Expr} (h : notSlice e = true) : PlainIx e := by
  intro o i
  cases e <;> first | rfl | cases h
end

/-! ### from one heap to the next -/
section
variable {W : Wd} {S : Addr → Prop} {A : Nat → Option Addr} {ρ : En} {σ : L2.St} {H H1 H2 : Hp}
theorem Res3.same {own : Bool} {d : D} {v : V} (r : Res3 W S A H own d v H1) : Same H H1 := r.1
theorem Res3.rep {own : Bool} {d : D} {v : V} (r : Res3 W S A H own d v H1) : Rep W (Hh S A H1) v d := r.2.1
theorem Res3.off {d : D} {v : V} {own : Bool} (r : Res3 W S A H own d v H1) : Res3 W S A H false d v H1 := ⟨r.1, r.2.1, fun z => by cases z⟩
/-- ahead of it the heap had grown -/
theorem Res3.after {own : Bool} {d : D} {v : V} (s : Same H H1) (r : Res3 W S A H1 own d v H2) : Res3 W S A H own d v H2 := by
  refine ⟨s.trans r.1, r.2.1, fun z ds e => ?_⟩
  obtain ⟨a, xs, h1, h2, h3, h4⟩ := r.2.2 z ds e
  exact ⟨a, xs, h1, s.free h2, h3, h4⟩
theorem Res3.wide {own : Bool} {d : D} {v : V} {L L' : List Nat} (h : ∀ i ∈ L, i ∈ L') (r : Res3 W S (dropA A L) H own d v H1) : Res3 W S (dropA A L') H own d v H1 := by
  refine ⟨r.1, r.2.1.mono (hh_sub h), fun z ds e => ?_⟩
  obtain ⟨a, xs, h1, h2, h3, h4⟩ := r.2.2 z ds e
  exact ⟨a, xs, h1, h2, h3, h4.mono (hh_sub h)⟩
theorem Res3.shut {own : Bool} {d : D} {v : V} {L : List Nat} (r : Res3 W S (dropA A L) H own d v H1) : Res3 W S (dropA A (shutD d L).2) H own (shutD d L).1 v H1 := by
  unfold shutD
  split
  · rename_i f
    exact ⟨r.1, r.2.1.flat f _, fun z ds e => by
      have e : d = .lst ds := e
      subst e; cases f⟩
  · exact r
theorem rep_later {v : V} {d : D} {L L' : List Nat} (r : Rep W (Hh S (dropA A L) H1) v d) (s : Same H1 H2) (h : ∀ i ∈ L, i ∈ L') : Rep W (Hh S (dropA A L') H2) v d := (r.mono (hh_mono s)).mono (hh_sub h)
theorem repAll_later {v : List V} {d : List D} {L L' : List Nat} (r : RepAll W (Hh S (dropA A L) H1) v d) (s : Same H1 H2) (h : ∀ i ∈ L, i ∈ L') : RepAll W (Hh S (dropA A L') H2) v d := (r.mono (hh_mono s)).mono (hh_sub h)
theorem sub_l {L L' : List Nat} : ∀ i ∈ L, i ∈ L ++ L' := fun i h => List.mem_append_left _ h
theorem sub_r {L L' : List Nat} : ∀ i ∈ L', i ∈ L ++ L' := fun i h => List.mem_append_right _ h
theorem sub_0 {L : List Nat} : ∀ i ∈ ([] : List Nat), i ∈ L := fun i h => by cases h
theorem Res3.flat2 {d : D} {v : V} {own : Bool} (s : Same H H1) (h : Rep W H1 v d) (f : MN.flat d = true) : Res3 W S A H own d v H1 :=
  ⟨s, h.flat f _, fun _ ds e => by subst e; cases f⟩
/-- behind a call -/
theorem Res3.call {v : V} {d : D} {Hb' : Hp} (t : Trk S A H1) (s : Same H H1) (s2 : Same H1 H2) (s3 : Same Hb' H2) (hn : ∀ b o, Hb' b = some o → Hh S A H1 b = some o ∨ H1 b = none) (r : Rep W Hb' v d) : Res3 W S A H false d v H2 := by
  refine ⟨s.trans s2, r.mono fun b o e => ?_, fun z => by cases z⟩
  rcases hn b o e with q | q
  · exact hh_mono s2 _ _ q
  · exact hh_some.mpr ⟨fun z => t.s b z q, fun i z => t.a i b z q, s3 _ _ e⟩
end

/-! ### operators -/
theorem op_ok (W : Wd) (o : BOp) : ∃ r : R2, (∀ X : Cx, X.K = W.K → OpR X (binaryOp (opO o)) r) ∧
    ∀ (S : Addr → Prop) (A : Nat → Option Addr) (x y : V) (H : Hp) (d e z : D), Trk S A H → Rep W (Hh S A H) x d → Rep W (Hh S A H) y e → opD o d e = some z → ∀ Q : VK, (∀ v H', Res3 W S A H true z v H' → Q v H') → r x y H Q := by
  cases o with
  | add =>
    refine ⟨_, fun X _ => OpR.or op_add op_cat, fun S A x y H d e z t rx ry h Q q => ?_⟩
    cases d <;> cases e <;> try (cases h; done)
    · cases rx; cases ry; cases h
      exact .inl ⟨_, _, rfl, rfl, q _ _ (Res3.flat (.int _) rfl)⟩
    · rename_i xs ys
      have h : (if xs.length + ys.length ≤ big then some (D.lst (xs ++ ys)) else none) = some z := h
      split at h
      · rename_i hl
        cases h
        obtain ⟨a, us, rfl, h1, h2⟩ := rep_lst rx
        obtain ⟨b, vs, rfl, h3, h4⟩ := rep_lst ry
        refine .inr ⟨a, b, us, vs, rfl, rfl, h1, h3, ?_, fun p hp => q _ _ (Res3.newList t hp (h2.append h4))⟩
        rw [h2.length, h4.length, sizeLine_eq]
        exact hl
      · cases h
  | sub =>
    refine ⟨_, fun X _ => op_sub, fun S A x y H d e z t rx ry h Q q => ?_⟩
    cases d <;> cases e <;> try (cases h; done)
    cases rx; cases ry; cases h
    exact ⟨_, _, rfl, rfl, q _ _ (Res3.flat (.int _) rfl)⟩
  | mul =>
    refine ⟨_, fun X _ => OpR.or op_mul op_rep, fun S A x y H d e z t rx ry h Q q => ?_⟩
    cases d <;> cases e <;> try (cases h; done)
    · rename_i i j
      have h : (if (-(2 ^ 64) < i ∧ i < 2 ^ 64) ∨ (-(2 ^ 64) < j ∧ j < 2 ^ 64) then some (D.int (i * j)) else none) = some z := h
      split at h
      · rename_i hl
        cases rx; cases ry; cases h
        exact .inl ⟨_, _, rfl, rfl, hl, q _ _ (Res3.flat (.int _) rfl)⟩
      · cases h
    · rename_i xs k
      have h : (if -(2 ^ 63) ≤ k ∧ k < 2 ^ 63 ∧ xs.length * k.toNat ≤ big then some (D.lst (List.replicate k.toNat xs).flatten) else none) = some z := h
      split at h
      · rename_i hl
        cases h; cases ry
        obtain ⟨a, us, rfl, h1, h2⟩ := rep_lst rx
        refine .inr ⟨a, k, us, rfl, rfl, h1, hl.1, hl.2.1, ?_, fun p hp => q _ _ (Res3.newList t hp (h2.rep _))⟩
        rw [h2.length, sizeLine_eq]
        exact hl.2.2
      · cases h
  | mod =>
    refine ⟨_, fun X _ => op_mod, fun S A x y H d e z t rx ry h Q q => ?_⟩
    cases d <;> cases e <;> try (cases h; done)
    rename_i i j
    have h : (if 0 < j then some (D.int (i % j)) else none) = some z := h
    split at h
    · rename_i hl
      cases rx; cases ry; cases h
      exact ⟨_, _, rfl, rfl, hl, q _ _ (Res3.flat (.int _) rfl)⟩
    · cases h
  | fdiv =>
    refine ⟨_, fun X _ => op_fdiv, fun S A x y H d e z t rx ry h Q q => ?_⟩
    cases d <;> cases e <;> try (cases h; done)
    rename_i i j
    have h : (if 0 < j ∧ j < 1073741824 then some (D.int (i / j)) else none) = some z := h
    split at h
    · rename_i hl
      cases rx; cases ry; cases h
      exact ⟨_, _, rfl, rfl, hl, q _ _ (Res3.flat (.int _) rfl)⟩
    · cases h
  | pow =>
    refine ⟨_, fun X _ => op_pow, fun S A x y H d e z t rx ry h Q q => ?_⟩
    cases d <;> cases e <;> try (cases h; done)
    rename_i i j
    have h : (if 0 ≤ j ∧ j ≤ 1000000 ∧ i.natAbs < 2 ^ 64 then some (D.int (i ^ j.toNat)) else none) = some z := h
    split at h
    · rename_i hl
      cases rx; cases ry; cases h
      exact ⟨_, _, rfl, rfl, hl, q _ _ (Res3.flat (.int _) rfl)⟩
    · cases h

theorem nonD {W : Wd} {H : Hp} {x : V} {d : D} (h : Rep W H x d) : decide (x = V.non) = isNonD d := by
  cases h <;> simp [isNonD]
theorem cop_ok (W : Wd) (o : COp) : ∃ r : R2, (∀ X : Cx, X.K = W.K → X.A.units + 70 < cLine → OpR X (compareOp (copO o)) r) ∧
    ∀ (x y : V) (H : Hp) (d e : D) (z : Bool), Rep W H x d → Rep W H y e → cmpD o d e = some z → ∀ Q : VK, Q (.bl z) H → r x y H Q := by
  cases o with
  | lt =>
    refine ⟨_, fun X _ _ => op_lt, fun x y H d e z rx ry h Q q => ?_⟩
    cases d <;> cases e <;> try (cases h; done)
    cases rx; cases ry; cases h
    exact ⟨_, _, rfl, rfl, q⟩
  | le =>
    refine ⟨_, fun X _ _ => op_le, fun x y H d e z rx ry h Q q => ?_⟩
    cases d <;> cases e <;> try (cases h; done)
    cases rx; cases ry; cases h
    exact ⟨_, _, rfl, rfl, q⟩
  | gt =>
    refine ⟨_, fun X _ _ => op_gt, fun x y H d e z rx ry h Q q => ?_⟩
    cases d <;> cases e <;> try (cases h; done)
    cases rx; cases ry; cases h
    exact ⟨_, _, rfl, rfl, q⟩
  | ge =>
    refine ⟨_, fun X _ _ => op_ge, fun x y H d e z rx ry h Q q => ?_⟩
    cases d <;> cases e <;> try (cases h; done)
    cases rx; cases ry; cases h
    exact ⟨_, _, rfl, rfl, q⟩
  | eq =>
    refine ⟨rEqD W.K, fun X hK hu => by rw [← hK]; exact op_eqD (by omega), fun x y H d e z rx ry h Q q => ?_⟩
    have h : (if okP 4 d && okP 4 e then some (eqD d e) else none) = some z := h
    split at h
    · rename_i hl
      obtain ⟨h1, h2⟩ := Bool.and_eq_true_iff.mp hl
      cases h
      refine ⟨toP d, toP e, okP_dp rfl 4 d x h1 rx, okP_dp rfl 4 e y h2 ry, okP_shaped (by decide) h1, okP_shaped (by decide) h2, ?_⟩
      rw [okP_eqv 4 4 d e h1 h2]
      exact q
    · cases h
  | ne =>
    refine ⟨rNeD W.K, fun X hK hu => by rw [← hK]; exact op_neD (by omega), fun x y H d e z rx ry h Q q => ?_⟩
    have h : (if okP 4 d && okP 4 e then some (!eqD d e) else none) = some z := h
    split at h
    · rename_i hl
      obtain ⟨h1, h2⟩ := Bool.and_eq_true_iff.mp hl
      cases h
      refine ⟨toP d, toP e, okP_dp rfl 4 d x h1 rx, okP_dp rfl 4 e y h2 ry, okP_shaped (by decide) h1, okP_shaped (by decide) h2, ?_⟩
      rw [okP_eqv 4 4 d e h1 h2]
      exact q
    · cases h
  | is_ =>
    refine ⟨_, fun X _ _ => OpR.or op_isN op_isBl, fun x y H d e z rx ry h Q q => ?_⟩
    cases e with
    | non =>
      cases ry
      have h : some (isNonD d) = some z := by cases d <;> exact h
      cases h
      exact .inl ⟨rfl, by rw [nonD rx]; exact q⟩
    | bl b =>
      cases d <;> try (cases h; done)
      cases rx; cases ry; cases h
      exact .inr ⟨_, _, rfl, rfl, q⟩
    | _ => cases d <;> cases h
  | isn =>
    refine ⟨_, fun X _ _ => OpR.or op_notN op_notBl, fun x y H d e z rx ry h Q q => ?_⟩
    cases e with
    | non =>
      cases ry
      have h : some (!isNonD d) = some z := by cases d <;> exact h
      cases h
      exact .inl ⟨rfl, by rw [nonD rx]; exact q⟩
    | bl b =>
      cases d <;> try (cases h; done)
      cases rx; cases ry; cases h
      exact .inr ⟨_, _, rfl, rfl, q⟩
    | _ => cases d <;> cases h
  | in_ =>
    refine ⟨rInD W.K, fun X hK hu => by rw [← hK]; exact op_inD (by omega), fun x y H d e z rx ry h Q q => ?_⟩
    cases e with
    | lst ys =>
      have h : (if okP 4 d && okP 4 (.lst ys) then some (ys.any fun z => eqD z d) else none) = some z := by cases d <;> exact h
      split at h
      · rename_i hl
        obtain ⟨h1, h2⟩ := Bool.and_eq_true_iff.mp hl
        cases h
        have e2 : toP (.lst ys) = .list (toPs ys) := by rw [toP]
        refine ⟨toP d, toPs ys, okP_dp rfl 4 d x h1 rx, by rw [← e2]; exact okP_dp rfl 4 _ y h2 ry, okP_shaped (by decide) h1, by rw [← e2]; exact okP_shaped (by decide) h2, ?_⟩
        rw [any_eqv (m := 3) h1 (by rw [okP_lst] at h2; exact h2)]
        exact q
      · cases h
    | _ => cases d <;> cases h
  | nin =>
    refine ⟨rNotInD W.K, fun X hK hu => by rw [← hK]; exact op_notInD (by omega), fun x y H d e z rx ry h Q q => ?_⟩
    cases e with
    | lst ys =>
      have h : (if okP 4 d && okP 4 (.lst ys) then some (!ys.any fun z => eqD z d) else none) = some z := by cases d <;> exact h
      split at h
      · rename_i hl
        obtain ⟨h1, h2⟩ := Bool.and_eq_true_iff.mp hl
        cases h
        have e2 : toP (.lst ys) = .list (toPs ys) := by rw [toP]
        refine ⟨toP d, toPs ys, okP_dp rfl 4 d x h1 rx, by rw [← e2]; exact okP_dp rfl 4 _ y h2 ry, okP_shaped (by decide) h1, by rw [← e2]; exact okP_shaped (by decide) h2, ?_⟩
        rw [any_eqv (m := 3) h1 (by rw [okP_lst] at h2; exact h2)]
        exact q
      · cases h
    | _ => cases d <;> cases h
end MN
end S_MnSnd
section S_MnExp
set_option maxRecDepth 100000
/-! Expressions, case by case. -/
namespace MN
open PySem PySem.Spec PyProof.Rows L2

section
variable (W : Wd) (T : Tb) (M : Nat → List D → Option D) (G : Nat → Int) (k : Nat) (N : List Str) (sc : Scope) (fnb : Str → Bool)
abbrev PEs (m : ME) (e : Expr) : Prop := ∃ t, (∀ X, XOk W T M G k N sc fnb X → PE X e t) ∧ SemE W M G m t
abbrev PTs_ (m : ME) (e : Expr) : Prop := ∃ t, (∀ X, XOk W T M G k N sc fnb X → PT X e t) ∧ SemT W M G m t
abbrev PAs (m : ME) (es : List Expr) : Prop := ∃ t, (∀ X, XOk W T M G k N sc fnb X → PA X es t) ∧ SemA W M G m t
end

section
variable {W : Wd} {T : Tb} {M : Nat → List D → Option D} {G : Nat → Int} {k : Nat} {N : List Str} {sc : Scope} {fnb : Str → Bool}

/-- a value of truth as a test -/
theorem test_of {m : ME} {e : Expr} (h : PEs W T M G k N sc fnb m e) (p : plainT e = true) : PTs_ W T M G k N sc fnb m e := by
  obtain ⟨t, h1, h2⟩ := h
  refine ⟨tB t, fun X hX => pt_val (h1 X hX) (plain_true p), fun S A ρ σ H r c E hr hc Q q => ?_⟩
  refine h2 S A ρ σ H r E hr _ fun v H' R => ?_
  have := R.rep
  rw [hc] at this
  cases this
  exact ⟨c, rfl, q H' R.same⟩

theorem snd_nm {i : Nat} {e : Expr} (h : chkE T N (.nm i) sc fnb e = true) : PEs W T M G k N sc fnb (.nm i) e := by
  unfold chkE at h
  split at h
  · rename_i x pos
    simp only [Bool.and_eq_true, decide_eq_true_eq] at h
    obtain ⟨h1, h2, h3⟩ := h
    refine ⟨tVar i, fun X hX => pe_var (by rw [hX.n]; exact h1) (vis_of x hX h2) (dbg_of h3).1 (dbg_of h3).2, fun S A ρ σ H r E hr Q q => ?_⟩
    unfold evE at hr
    split at hr
    · rename_i d e1
      cases hr
      obtain ⟨v, s1, s2⟩ := E.sh i d e1
      exact ⟨v, s1, q v H ⟨Same.refl _, by rw [dropA_nil]; exact s2, fun z => by cases z⟩⟩
    · rename_i ds e1
      cases hr
      obtain ⟨a, xs, s1, s2, s3, s4⟩ := E.ow i ds e1
      refine ⟨_, s2, q _ H ⟨Same.refl _, .lst (hh_some.mpr ⟨(E.dom i a s1).2.1, fun j z => ?_, s3⟩) (s4.mono hh_drop), fun z => by cases z⟩⟩
      obtain ⟨z1, z2⟩ := dropA_some.mp z
      exact z1 (by rw [E.inj i j a s1 z2]; simp)
    · cases hr
  · cases h

theorem snd_glb {g : Nat} {e : Expr} (h : chkE T N (.glb g) sc fnb e = true) : PEs W T M G k N sc fnb (.glb g) e := by
  unfold chkE at h
  split at h
  · rename_i x pos
    simp only [Bool.and_eq_true, decide_eq_true_eq] at h
    obtain ⟨h1, h2, h3, h4⟩ := h
    refine ⟨tC (.int (G g)), fun X hX => ?_, fun S A ρ σ H r E hr Q q => ?_⟩
    · obtain ⟨t, ht⟩ := hX.pg.glb g h4
      subst h1
      exact pe_glob (gl_of _ hX h2) ht ⟨t, rfl⟩ (dbg_of h3).1
    · cases hr
      exact q _ H (Res3.flat (.int _) rfl)
  · cases h
theorem snd_int {i : Int} {e : Expr} (h : chkE T N (.int i) sc fnb e = true) : PEs W T M G k N sc fnb (.int i) e := by
  unfold chkE at h
  split at h
  · rename_i j n pos
    have h1 := of_decide_eq_true h
    subst h1
    exact ⟨_, fun X hX => pe_int, fun S A ρ σ H r E hr Q q => by cases hr; exact q _ H (Res3.flat (.int _) rfl)⟩
  · cases h
theorem snd_neg {i : Int} {e : Expr} (h : chkE T N (.neg i) sc fnb e = true) : PEs W T M G k N sc fnb (.neg i) e := by
  unfold chkE at h
  split at h
  · rename_i j n pos
    have h1 := of_decide_eq_true h
    subst h1
    exact ⟨_, fun X hX => pe_un un_neg pe_int, fun S A ρ σ H r E hr Q q => by cases hr; exact ⟨_, rfl, q _ H (Res3.flat (.int _) rfl)⟩⟩
  · cases h
theorem snd_bl {b : Bool} {e : Expr} (h : chkE T N (.bl b) sc fnb e = true) : PEs W T M G k N sc fnb (.bl b) e := by
  unfold chkE at h
  split at h
  · have h1 := of_decide_eq_true h
    subst h1
    exact ⟨_, fun X hX => pe_bl, fun S A ρ σ H r E hr Q q => by cases hr; exact q _ H (Res3.flat (.bl _) rfl)⟩
  · cases h
theorem snd_non {e : Expr} (h : chkE T N .non sc fnb e = true) : PEs W T M G k N sc fnb .non e := by
  unfold chkE at h
  split at h
  · exact ⟨_, fun X hX => pe_non, fun S A ρ σ H r E hr Q q => by cases hr; exact q _ H (Res3.flat .non rfl)⟩
  · cases h

theorem snd_bin {op : BOp} {a b : ME} {x y : Expr} {pos : Pos} (ha : PEs W T M G k N sc fnb a x) (hb : PEs W T M G k N sc fnb b y) : PEs W T M G k N sc fnb (.bin op a b) (.BinOp x (opO op) y pos) := by
  obtain ⟨ta, a1, a2⟩ := ha
  obtain ⟨tb, b1, b2⟩ := hb
  obtain ⟨r, r1, r2⟩ := op_ok W op
  refine ⟨tOp r ta tb, fun X hX => pe_op (r1 X hX.K) (a1 X hX) (b1 X hX), fun S A ρ σ H rr E hr Q q => ?_⟩
  unfold evE at hr
  obtain ⟨u, e1, hr⟩ := Option.bind_eq_some_iff.mp hr
  obtain ⟨w, e2, hr⟩ := Option.bind_eq_some_iff.mp hr
  obtain ⟨z, e3, hr⟩ := Option.bind_eq_some_iff.mp hr
  cases hr
  refine a2 S A ρ σ H u E e1 _ fun v H1 R1 => ?_
  refine b2 S A ρ σ H1 w (E.same R1.same) e2 _ fun v2 H2 R2 => ?_
  have E2 := (E.same R1.same).same R2.same
  refine r2 S (dropA A (u.2 ++ w.2)) v v2 H2 u.1 w.1 z (E2.trk.drop _) (rep_later R1.rep R2.same sub_l) (R2.rep.mono (hh_sub sub_r)) e3 Q fun v3 H3 R3 => ?_
  exact q v3 H3 ((R3.after (R1.same.trans R2.same)).shut)

theorem unitsK {X : Cx} (hX : XOk W T M G k N sc fnb X) : X.A.units + 70 < cLine := by
  have := hX.hr.un
  omega
theorem snd_cmp {op : COp} {a b : ME} {x y : Expr} {pos : Pos} (ha : PEs W T M G k N sc fnb a x) (hb : PEs W T M G k N sc fnb b y) (hm : behindInMarks (copO op) y = false) :
    PEs W T M G k N sc fnb (.cmp op a b) (.Compare x [copO op] [y] pos) ∧ PTs_ W T M G k N sc fnb (.cmp op a b) (.Compare x [copO op] [y] pos) := by
  obtain ⟨ta, a1, a2⟩ := ha
  obtain ⟨tb, b1, b2⟩ := hb
  obtain ⟨r, r1, r2⟩ := cop_ok W op
  have main : ∀ (S : Addr → Prop) (A : Nat → Option Addr) (ρ : En) (σ : L2.St) (H : Hp) (rr : Res), EnvOk W S A ρ σ H → evE M G (.cmp op a b) ρ = some rr → ∃ z, rr = (.bl z, []) ∧ ∀ Q : VK, (∀ H', Same H H' → Q (.bl z) H') → tOp r ta tb σ H Q := by
    intro S A ρ σ H rr E hr
    unfold evE at hr
    obtain ⟨u, e1, hr⟩ := Option.bind_eq_some_iff.mp hr
    obtain ⟨w, e2, hr⟩ := Option.bind_eq_some_iff.mp hr
    obtain ⟨z, e3, hr⟩ := Option.bind_eq_some_iff.mp hr
    cases hr
    refine ⟨z, rfl, fun Q q => ?_⟩
    refine a2 S A ρ σ H u E e1 _ fun v H1 R1 => ?_
    refine b2 S A ρ σ H1 w (E.same R1.same) e2 _ fun v2 H2 R2 => ?_
    exact r2 v v2 H2 u.1 w.1 z (R1.rep.full.mono R2.same) R2.rep.full e3 Q (q H2 (R1.same.trans R2.same))
  refine ⟨⟨tOp r ta tb, fun X hX => pe_cmpR (r1 X hX.K (unitsK hX)) (a1 X hX) (b1 X hX) hm, fun S A ρ σ H rr E hr Q q => ?_⟩,
    ⟨tTest (tOp r ta tb), fun X hX => pt_cmpR (r1 X hX.K (unitsK hX)) (a1 X hX) (b1 X hX) hm, fun S A ρ σ H rr c E hr hc Q q => ?_⟩⟩
  · obtain ⟨z, rfl, hz⟩ := main S A ρ σ H rr E hr
    exact hz Q fun H' s => q _ _ (Res3.flat2 s (.bl _) rfl)
  · obtain ⟨z, rfl, hz⟩ := main S A ρ σ H rr E hr
    cases hc
    exact hz _ fun H' s => ⟨_, rfl, q H' s⟩
theorem snd_chain {op op' : COp} {a b c : ME} {x y w : Expr} {pos : Pos} (ha : PEs W T M G k N sc fnb a x) (hb : PEs W T M G k N sc fnb b y) (hc : PEs W T M G k N sc fnb c w)
    (hm : behindInMarks (copO op) y = false) (hm' : behindInMarks (copO op') w = false) :
    PEs W T M G k N sc fnb (.chain op op' a b c) (.Compare x [copO op, copO op'] [y, w] pos) ∧ PTs_ W T M G k N sc fnb (.chain op op' a b c) (.Compare x [copO op, copO op'] [y, w] pos) := by
  obtain ⟨ta, a1, a2⟩ := ha
  obtain ⟨tb, b1, b2⟩ := hb
  obtain ⟨tc, c1, c2⟩ := hc
  obtain ⟨r, r1, r2⟩ := cop_ok W op
  obtain ⟨r', r1', r2'⟩ := cop_ok W op'
  have main : ∀ (S : Addr → Prop) (A : Nat → Option Addr) (ρ : En) (σ : L2.St) (H : Hp) (rr : Res), EnvOk W S A ρ σ H → evE M G (.chain op op' a b c) ρ = some rr → ∃ z, rr = (.bl z, []) ∧ ∀ Q : VK, (∀ H', Same H H' → Q (.bl z) H') → tChain r r' ta tb tc σ H Q := by
    intro S A ρ σ H rr E hr
    unfold evE at hr
    obtain ⟨u, e1, hr⟩ := Option.bind_eq_some_iff.mp hr
    obtain ⟨u2, e2, hr⟩ := Option.bind_eq_some_iff.mp hr
    obtain ⟨z, e3, hr⟩ := Option.bind_eq_some_iff.mp hr

    cases z with
    | false =>
      cases hr
      refine ⟨false, rfl, fun Q q => ?_⟩
      refine a2 S A ρ σ H u E e1 _ fun v H1 R1 => ?_
      refine b2 S A ρ σ H1 u2 (E.same R1.same) e2 _ fun v2 H2 R2 => ?_
      exact r2 v v2 H2 u.1 u2.1 false (R1.rep.full.mono R2.same) R2.rep.full e3 _ ⟨false, rfl, q H2 (R1.same.trans R2.same)⟩
    | true =>
      have hr : ((evE M G c ρ).bind fun w => (cmpD op' u2.1 w.1).bind fun z' => some (D.bl z', ([] : List Nat))) = some rr := hr
      obtain ⟨u3, e4, hr⟩ := Option.bind_eq_some_iff.mp hr
      obtain ⟨z', e5, hr⟩ := Option.bind_eq_some_iff.mp hr
      cases hr
      refine ⟨z', rfl, fun Q q => ?_⟩
      refine a2 S A ρ σ H u E e1 _ fun v H1 R1 => ?_
      refine b2 S A ρ σ H1 u2 (E.same R1.same) e2 _ fun v2 H2 R2 => ?_
      refine r2 v v2 H2 u.1 u2.1 true (R1.rep.full.mono R2.same) R2.rep.full e3 _ ⟨true, rfl, ?_⟩
      refine c2 S A ρ σ H2 u3 ((E.same R1.same).same R2.same) e4 _ fun v3 H3 R3 => ?_
      exact r2' v2 v3 H3 u2.1 u3.1 z' (R2.rep.full.mono R3.same) R3.rep.full e5 _ (q H3 ((R1.same.trans R2.same).trans R3.same))
  refine ⟨⟨tChain r r' ta tb tc, fun X hX => pe_chain (r1 X hX.K (unitsK hX)) (r1' X hX.K (unitsK hX)) (a1 X hX) (b1 X hX) (c1 X hX) hm', fun S A ρ σ H rr E hr Q q => ?_⟩,
    ⟨tTest (tChain r r' ta tb tc), fun X hX => pt_chain (r1 X hX.K (unitsK hX)) (r1' X hX.K (unitsK hX)) (a1 X hX) (b1 X hX) (c1 X hX) hm', fun S A ρ σ H rr c E hr hc Q q => ?_⟩⟩
  · obtain ⟨z, rfl, hz⟩ := main S A ρ σ H rr E hr
    exact hz Q fun H' s => q _ _ (Res3.flat2 s (.bl _) rfl)
  · obtain ⟨z, rfl, hz⟩ := main S A ρ σ H rr E hr
    cases hc
    exact hz _ fun H' s => ⟨_, rfl, q H' s⟩
end
end MN
end S_MnExp
section S_MnExp2
set_option maxRecDepth 100000
/-! Expressions, case by case: truth, calls. -/
namespace MN
open PySem PySem.Spec PyProof.Rows L2
section
variable {W : Wd} {T : Tb} {M : Nat → List D → Option D} {G : Nat → Int} {k : Nat} {N : List Str} {sc : Scope} {fnb : Str → Bool}

theorem rep_bl {W : Wd} {H : Hp} {v : V} {b : Bool} (h : Rep W H v (.bl b)) : v = .bl b := by cases h; rfl
theorem evAnd {a b : ME} {ρ : En} {r : Res} (h : evE M G (.and a b) ρ = some r) : ∃ x, evE M G a ρ = some x ∧ ((x.1 = .bl false ∧ r = (.bl false, [])) ∨ (x.1 = .bl true ∧ ∃ y k, evE M G b ρ = some y ∧ y.1 = .bl k ∧ r = (.bl k, []))) := by
  unfold evE at h
  obtain ⟨x, e1, h⟩ := Option.bind_eq_some_iff.mp h
  refine ⟨x, e1, ?_⟩
  split at h
  · rename_i e
    obtain ⟨y, e2, h⟩ := Option.bind_eq_some_iff.mp h
    split at h
    · rename_i k e3
      cases h
      exact .inr ⟨e, y, k, e2, e3, rfl⟩
    · cases h
  · rename_i e
    cases h
    exact .inl ⟨e, rfl⟩
  · cases h
theorem evOr {a b : ME} {ρ : En} {r : Res} (h : evE M G (.or a b) ρ = some r) : ∃ x, evE M G a ρ = some x ∧ ((x.1 = .bl true ∧ r = (.bl true, [])) ∨ (x.1 = .bl false ∧ ∃ y k, evE M G b ρ = some y ∧ y.1 = .bl k ∧ r = (.bl k, []))) := by
  unfold evE at h
  obtain ⟨x, e1, h⟩ := Option.bind_eq_some_iff.mp h
  refine ⟨x, e1, ?_⟩
  split at h
  · rename_i e
    obtain ⟨y, e2, h⟩ := Option.bind_eq_some_iff.mp h
    split at h
    · rename_i k e3
      cases h
      exact .inr ⟨e, y, k, e2, e3, rfl⟩
    · cases h
  · rename_i e
    cases h
    exact .inl ⟨e, rfl⟩
  · cases h
theorem evOr3 {a b c : ME} {ρ : En} {r : Res} (h : evE M G (.or3 a b c) ρ = some r) : evE M G (.or a (.or b c)) ρ = some r := by
  unfold evE at h ⊢
  obtain ⟨x, e1, h⟩ := Option.bind_eq_some_iff.mp h
  rw [e1]
  show (match x.1 with
    | .bl false => (evE M G (.or b c) ρ).bind fun y => (match y.1 with
      | .bl k => some (D.bl k, ([] : List Nat))
      | _ => none)
    | .bl true => some (.bl true, [])
    | _ => none) = some r
  split at h
  · rename_i e
    try rw [e]
    obtain ⟨y, e2, h⟩ := Option.bind_eq_some_iff.mp h
    show ((evE M G (.or b c) ρ).bind fun y => (match y.1 with
      | .bl k => some (D.bl k, ([] : List Nat))
      | _ => none)) = some r
    unfold evE
    rw [e2]
    show ((match y.1 with
      | .bl false => (evE M G c ρ).bind fun y => (match y.1 with
        | .bl k => some (D.bl k, ([] : List Nat))
        | _ => none)
      | .bl true => some (.bl true, [])
      | _ => none).bind fun y => (match y.1 with
      | .bl k => some (D.bl k, ([] : List Nat))
      | _ => none)) = some r
    split at h
    · rename_i e3
      try rw [e3]
      obtain ⟨z, e4, h⟩ := Option.bind_eq_some_iff.mp h
      simp only [e4, Option.bind_some]
      split at h
      · rename_i e5
        try rw [e5]
        exact h
      · cases h
    · rename_i e3
      try rw [e3]
      exact h
    · cases h
  · rename_i e
    try rw [e]
    exact h
  · cases h

theorem snd_and {a b : ME} {x y : Expr} {pos : Pos} (ha : PEs W T M G k N sc fnb a x) (hb : PEs W T M G k N sc fnb b y) : PEs W T M G k N sc fnb (.and a b) (.BoolOp .And [x, y] pos) := by
  obtain ⟨ta, a1, a2⟩ := ha
  obtain ⟨tb, b1, b2⟩ := hb
  refine ⟨tAndV ta tb, fun X hX => pe_and (a1 X hX) (pe_one (b1 X hX)), fun S A ρ σ H r E hr Q q => ?_⟩
  obtain ⟨u, e1, hr⟩ := evAnd hr
  refine a2 S A ρ σ H u E e1 _ fun v H1 R1 => ?_
  have r1 := R1.rep
  rcases hr with ⟨e2, rfl⟩ | ⟨e2, w, c, e3, e4, rfl⟩
  · rw [e2] at r1
    exact ⟨false, rep_bl r1, by rw [if_neg (by simp)]; exact q _ _ (Res3.flat2 R1.same (.bl _) rfl)⟩
  · rw [e2] at r1
    refine ⟨true, rep_bl r1, ?_⟩
    rw [if_pos rfl]
    refine b2 S A ρ σ H1 w (E.same R1.same) e3 _ fun v2 H2 R2 => ?_
    have r2 := R2.rep
    rw [e4] at r2
    rw [rep_bl r2]
    exact q _ _ (Res3.flat2 (R1.same.trans R2.same) (.bl _) rfl)
theorem snd_andT {a b : ME} {x y : Expr} {pos : Pos} (ha : PTs_ W T M G k N sc fnb a x) (hb : PTs_ W T M G k N sc fnb b y) : PTs_ W T M G k N sc fnb (.and a b) (.BoolOp .And [x, y] pos) := by
  obtain ⟨ta, a1, a2⟩ := ha
  obtain ⟨tb, b1, b2⟩ := hb
  refine ⟨tAnd ta tb, fun X hX => PW.pt (pw_and (a1 X hX) (pw_and1 (b1 X hX))), fun S A ρ σ H r c E hr hc Q q => ?_⟩
  obtain ⟨u, e1, hr⟩ := evAnd hr
  rcases hr with ⟨e2, rfl⟩ | ⟨e2, w, c', e3, e4, rfl⟩
  · cases hc
    refine a2 S A ρ σ H u false E e1 e2 _ fun H1 s1 => ?_
    rw [if_neg (by simp)]
    exact q H1 s1
  · cases hc
    refine a2 S A ρ σ H u true E e1 e2 _ fun H1 s1 => ?_
    rw [if_pos rfl]
    exact b2 S A ρ σ H1 w _ (E.same s1) e3 e4 _ fun H2 s2 => q H2 (s1.trans s2)
theorem snd_or {a b : ME} {x y : Expr} {pos : Pos} (ha : PEs W T M G k N sc fnb a x) (hb : PEs W T M G k N sc fnb b y) : PEs W T M G k N sc fnb (.or a b) (.BoolOp .Or [x, y] pos) := by
  obtain ⟨ta, a1, a2⟩ := ha
  obtain ⟨tb, b1, b2⟩ := hb
  refine ⟨tOrV ta tb, fun X hX => pe_or (a1 X hX) (pe_one (b1 X hX)), fun S A ρ σ H r E hr Q q => ?_⟩
  obtain ⟨u, e1, hr⟩ := evOr hr
  refine a2 S A ρ σ H u E e1 _ fun v H1 R1 => ?_
  have r1 := R1.rep
  rcases hr with ⟨e2, rfl⟩ | ⟨e2, w, c, e3, e4, rfl⟩
  · rw [e2] at r1
    exact ⟨true, rep_bl r1, by rw [if_pos rfl]; exact q _ _ (Res3.flat2 R1.same (.bl _) rfl)⟩
  · rw [e2] at r1
    refine ⟨false, rep_bl r1, ?_⟩
    rw [if_neg (by simp)]
    refine b2 S A ρ σ H1 w (E.same R1.same) e3 _ fun v2 H2 R2 => ?_
    have r2 := R2.rep
    rw [e4] at r2
    rw [rep_bl r2]
    exact q _ _ (Res3.flat2 (R1.same.trans R2.same) (.bl _) rfl)
theorem snd_orT {a b : ME} {x y : Expr} {pos : Pos} (ha : PTs_ W T M G k N sc fnb a x) (hb : PTs_ W T M G k N sc fnb b y) : PTs_ W T M G k N sc fnb (.or a b) (.BoolOp .Or [x, y] pos) := by
  obtain ⟨ta, a1, a2⟩ := ha
  obtain ⟨tb, b1, b2⟩ := hb
  refine ⟨tOr ta tb, fun X hX => PW.pt (pw_or (a1 X hX) (pw_or1 (b1 X hX))), fun S A ρ σ H r c E hr hc Q q => ?_⟩
  obtain ⟨u, e1, hr⟩ := evOr hr
  rcases hr with ⟨e2, rfl⟩ | ⟨e2, w, c', e3, e4, rfl⟩
  · cases hc
    refine a2 S A ρ σ H u true E e1 e2 _ fun H1 s1 => ?_
    rw [if_pos rfl]
    exact q H1 s1
  · cases hc
    refine a2 S A ρ σ H u false E e1 e2 _ fun H1 s1 => ?_
    rw [if_neg (by simp)]
    exact b2 S A ρ σ H1 w _ (E.same s1) e3 e4 _ fun H2 s2 => q H2 (s1.trans s2)
theorem snd_or3 {a b c : ME} {x y z : Expr} {pos : Pos} (ha : PEs W T M G k N sc fnb a x) (hb : PEs W T M G k N sc fnb b y) (hc : PEs W T M G k N sc fnb c z) : PEs W T M G k N sc fnb (.or3 a b c) (.BoolOp .Or [x, y, z] pos) := by
  obtain ⟨tb, b1, b2⟩ := snd_or (pos := pos) hb hc
  obtain ⟨ta, a1, a2⟩ := ha
  refine ⟨tOrV ta tb, fun X hX => pe_or (a1 X hX) (b1 X hX), fun S A ρ σ H r E hr Q q => ?_⟩
  obtain ⟨u, e1, hr⟩ := evOr (evOr3 hr)
  refine a2 S A ρ σ H u E e1 _ fun v H1 R1 => ?_
  have r1 := R1.rep
  rcases hr with ⟨e2, rfl⟩ | ⟨e2, w, c, e3, e4, rfl⟩
  · rw [e2] at r1
    exact ⟨true, rep_bl r1, by rw [if_pos rfl]; exact q _ _ (Res3.flat2 R1.same (.bl _) rfl)⟩
  · rw [e2] at r1
    refine ⟨false, rep_bl r1, ?_⟩
    rw [if_neg (by simp)]
    refine b2 S A ρ σ H1 w (E.same R1.same) e3 _ fun v2 H2 R2 => ?_
    have r2 := R2.rep
    rw [e4] at r2
    rw [rep_bl r2]
    exact q _ _ (Res3.flat2 (R1.same.trans R2.same) (.bl _) rfl)
theorem snd_or3T {a b c : ME} {x y z : Expr} {pos : Pos} (ha : PTs_ W T M G k N sc fnb a x) (hb : PTs_ W T M G k N sc fnb b y) (hc : PTs_ W T M G k N sc fnb c z) : PTs_ W T M G k N sc fnb (.or3 a b c) (.BoolOp .Or [x, y, z] pos) := by
  obtain ⟨ta, a1, a2⟩ := ha
  obtain ⟨tb, b1, b2⟩ := hb
  obtain ⟨tc, c1, c2⟩ := hc
  refine ⟨tOr ta (tOr tb tc), fun X hX => PW.pt (pw_or (a1 X hX) (pw_or (b1 X hX) (pw_or1 (c1 X hX)))), fun S A ρ σ H r c E hr hc Q q => ?_⟩
  obtain ⟨u, e1, hr⟩ := evOr (evOr3 hr)
  rcases hr with ⟨e2, rfl⟩ | ⟨e2, w, c', e3, e4, rfl⟩
  · cases hc
    refine a2 S A ρ σ H u true E e1 e2 _ fun H1 s1 => ?_
    rw [if_pos rfl]
    exact q H1 s1
  · cases hc
    refine a2 S A ρ σ H u false E e1 e2 _ fun H1 s1 => ?_
    rw [if_neg (by simp)]
    obtain ⟨u2, f1, hr⟩ := evOr e3
    rcases hr with ⟨f2, rfl⟩ | ⟨f2, w2, c2', f3, f4, rfl⟩
    · cases e4
      refine b2 S A ρ σ H1 u2 true (E.same s1) f1 f2 _ fun H2 s2 => ?_
      rw [if_pos rfl]
      exact q H2 (s1.trans s2)
    · cases e4
      refine b2 S A ρ σ H1 u2 false (E.same s1) f1 f2 _ fun H2 s2 => ?_
      rw [if_neg (by simp)]
      exact c2 S A ρ σ H2 w2 _ ((E.same s1).same s2) f3 f4 _ fun H3 s3 => q H3 ((s1.trans s2).trans s3)
theorem evNot {a : ME} {ρ : En} {r : Res} (h : evE M G (.not a) ρ = some r) : ∃ x k, evE M G a ρ = some x ∧ x.1 = .bl k ∧ r = (.bl (!k), []) := by
  unfold evE at h
  obtain ⟨x, e1, h⟩ := Option.bind_eq_some_iff.mp h
  split at h
  · rename_i k e
    cases h
    exact ⟨x, k, e1, e, rfl⟩
  · cases h
theorem snd_not {a : ME} {x : Expr} {pos : Pos} (ha : PEs W T M G k N sc fnb a x) : PEs W T M G k N sc fnb (.not a) (.UnaryOp .Not x pos) := by
  obtain ⟨ta, a1, a2⟩ := ha
  refine ⟨tNotV ta, fun X hX => pe_not (a1 X hX), fun S A ρ σ H r E hr Q q => ?_⟩
  obtain ⟨u, c, e1, e2, rfl⟩ := evNot hr
  refine a2 S A ρ σ H u E e1 _ fun v H1 R1 => ?_
  have r1 := R1.rep
  rw [e2] at r1
  exact ⟨c, rep_bl r1, q _ _ (Res3.flat2 R1.same (.bl _) rfl)⟩
theorem snd_notT {a : ME} {x : Expr} {pos : Pos} (ha : PTs_ W T M G k N sc fnb a x) : PTs_ W T M G k N sc fnb (.not a) (.UnaryOp .Not x pos) := by
  obtain ⟨ta, a1, a2⟩ := ha
  refine ⟨tNot ta, fun X hX => pt_not (a1 X hX), fun S A ρ σ H r c E hr hc Q q => ?_⟩
  obtain ⟨u, c', e1, e2, rfl⟩ := evNot hr
  cases hc
  exact a2 S A ρ σ H u c' E e1 e2 _ fun H1 s1 => q H1 s1

/-! ### arguments -/
theorem sndA_nil : PAs W T M G k N sc fnb .nil [] := by
  refine ⟨tNil, fun X hX => pa_nil, fun S A ρ σ H r E hr => ?_⟩
  cases hr
  exact ⟨[], rfl, fun Q q => q [] H (Same.refl _) .nil⟩
theorem sndA_cons {a as : ME} {y : Expr} {ys : List Expr} (ha : PEs W T M G k N sc fnb a y) (hs : starB y = false) (h : PAs W T M G k N sc fnb as ys) : PAs W T M G k N sc fnb (.cons a as) (y :: ys) := by
  obtain ⟨ta, a1, a2⟩ := ha
  obtain ⟨tb, b1, b2⟩ := h
  refine ⟨tCons ta tb, fun X hX => pa_cons (a1 X hX) (b1 X hX) (star_cons hs), fun S A ρ σ H r E hr => ?_⟩
  unfold evE at hr
  obtain ⟨u, e1, hr⟩ := Option.bind_eq_some_iff.mp hr
  obtain ⟨w, e2, hr⟩ := Option.bind_eq_some_iff.mp hr
  split at hr
  · rename_i ds e3
    cases hr
    refine ⟨u.1 :: ds, rfl, fun Q q => ?_⟩
    refine a2 S A ρ σ H u E e1 _ fun v H1 R1 => ?_
    obtain ⟨ds', e4, hb⟩ := b2 S A ρ σ H1 w (E.same R1.same) e2
    rw [e3] at e4
    cases e4
    refine hb _ fun vs H2 s2 r2 => q (v :: vs) H2 (R1.same.trans s2) (.cons (rep_later R1.rep s2 sub_l) (r2.mono (hh_sub sub_r)))
  · cases hr

/-! ### calls -/
theorem E0w {X : Cx} : Passes CX0 X E0 := pass0
theorem evCall {f : Nat} {as : ME} {ρ : En} {r : Res} {c : ME} (hc : c = .call f as) (h : evE M G c ρ = some r) : ∃ x ds d, evE M G as ρ = some x ∧ x.1 = .tup ds ∧ M f ds = some d ∧ r = shutD d x.2 := by
  subst hc
  unfold evE at h
  obtain ⟨x, e1, h⟩ := Option.bind_eq_some_iff.mp h
  split at h
  · rename_i ds e
    obtain ⟨d, e2, h⟩ := Option.bind_eq_some_iff.mp h
    cases h
    exact ⟨x, ds, d, e1, e, e2, rfl⟩
  · cases h
theorem snd_call {f : Nat} {as : ME} {y : Expr} {ys : List Expr} {p pos : Pos} (hk : T.knd f = 0) (hg : glB sc (T.fnm f) = true) (hd : dbg (T.fnm f) = true) (hst : ∀ e ∈ y :: ys, starB e = false)
    (h : PAs W T M G k N sc fnb as (y :: ys)) : PEs W T M G k N sc fnb (.call f as) (.Call (.Name (T.fnm f) p) (y :: ys) [] pos) := by
  obtain ⟨ta, a1, a2⟩ := h
  refine ⟨tCall (spF W (M f)) [] E0 ta, fun X hX => ?_, fun S A ρ σ H r E hr Q q => ?_⟩
  · obtain ⟨a, fd, ps, h1, h2, h3, h4⟩ := hX.pg.fn f hk
    rw [← hX.K] at h2 h3 h4
    exact pe_call h4 (hX.hr.mono (Nat.le_succ _)) (gl_of _ hX hg) h1 h2 h3 .nil E0w (a1 X hX) (dbg_of hd).1 (star_cons (hst y (List.mem_cons_self ..))) (star_any fun z hz => hst z (List.mem_cons_of_mem _ hz))
  · obtain ⟨u, ds, d, e1, e2, e3, rfl⟩ := evCall rfl hr
    obtain ⟨ds', e4, hA⟩ := a2 S A ρ σ H u E e1
    rw [e2] at e4
    cases e4
    refine hA _ fun vs H1 s1 r1 => ?_
    rw [List.append_nil]
    refine ⟨ds, d, Hh S (dropA A u.2) H1, hh_same, r1, e3, fun v H' Hb' s2 s3 s4 hn rv => q v H' ?_⟩
    exact (Res3.call ((E.same s1).trk.drop _) s1 s2 s4 hn rv).shut
theorem lookup_zip_none {α : Type} {m : Str} : ∀ {ns : List Str} {xs : List α}, m ∉ ns → (ns.zip xs).lookup m = none
  | [], _, _ => rfl
  | n :: ns, [], _ => rfl
  | n :: ns, x :: xs, h => by
    rw [List.zip_cons_cons, List.lookup_cons]
    have : (m == n) = false := by
      rw [beq_eq_false_iff_ne]
      intro e
      exact h (by rw [e]; exact List.mem_cons_self ..)
    rw [this]
    exact lookup_zip_none fun z => h (List.mem_cons_of_mem _ z)
theorem lookup_zip_some {α : Type} {m : Str} : ∀ {ns : List Str} {xs : List α} {i : Nat} {x : α}, ns.Nodup → ns[i]? = some m → xs[i]? = some x → (ns.zip xs).lookup m = some x
  | [], _, i, _, _, h, _ => by simp at h
  | n :: ns, [], i, _, _, _, h => by simp at h
  | n :: ns, y :: xs, 0, x, _, h1, h2 => by
    simp at h1 h2
    subst h1 h2
    rw [List.zip_cons_cons, List.lookup_cons]
    simp
  | n :: ns, y :: xs, i + 1, x, hN, h1, h2 => by
    simp at h1 h2
    obtain ⟨hn, hN⟩ := List.nodup_cons.mp hN
    rw [List.zip_cons_cons, List.lookup_cons]
    have : (m == n) = false := by
      rw [beq_eq_false_iff_ne]
      intro e
      exact hn (by rw [← e]; exact List.mem_of_getElem? h1)
    rw [this]
    exact lookup_zip_some hN h1 h2
theorem rep_ins {W : Wd} {H : Hp} {v : V} {c : Nat} {ds : List D} (h : Rep W H v (.ins c ds)) : ∃ a dx xs, v = .ref a ∧ H a = some (.ins (W.cl c) dx ((W.fl c).zip xs)) ∧ (W.fl c).length = xs.length ∧ RepAll W H xs ds := by
  cases h with
  | ins h1 h2 h3 => exact ⟨_, _, _, rfl, h1, h2, h3⟩

theorem few_of {env : Env} {y : Expr} {ys : List Expr} {pos : Pos} (hl : (y :: ys).length < 20) (hst : ∀ e ∈ y :: ys, starB e = false) :
    methodCallForm ((y :: ys).length + ([] : List Keyword).length) (backTo pos (starEach (y :: ys) env)) (backToKw pos (keywordEach [] env)) = true := by
  have h1 : (backTo pos (starEach (y :: ys) env)).all (!·.1) = true := by
    have : ∀ {es : List Expr}, (∀ e ∈ es, starB e = false) → (backTo pos (starEach es env)).all (!·.1) = true := by
      intro es
      induction es with
      | nil => intro _; rfl
      | cons e es ih =>
        intro h
        rw [star_cons (h e (List.mem_cons_self ..))]
        show (!false && (backTo pos (starEach es env)).all (!·.1)) = true
        rw [ih fun z hz => h z (List.mem_cons_of_mem _ hz)]
        rfl
    exact this hst
  unfold methodCallForm
  rw [h1]
  show (true && true && decide ((y :: ys).length + 0 + 0 < 30)) = true
  simp only [Bool.true_and, decide_eq_true_eq]
  omega
theorem evMeth {f : Nat} {o as : ME} {ρ : En} {r : Res} (h : evE M G (.meth f o as) ρ = some r) : ∃ x y ds d, evE M G o ρ = some x ∧ evE M G as ρ = some y ∧ y.1 = .tup ds ∧ M f (x.1 :: ds) = some d ∧ r = shutD d (x.2 ++ y.2) := by
  unfold evE at h
  obtain ⟨x, e1, h⟩ := Option.bind_eq_some_iff.mp h
  obtain ⟨y, e2, h⟩ := Option.bind_eq_some_iff.mp h
  split at h
  · rename_i ds e
    obtain ⟨d, e3, h⟩ := Option.bind_eq_some_iff.mp h
    cases h
    exact ⟨x, y, ds, d, e1, e2, e, e3, rfl⟩
  · cases h
theorem snd_meth (HM : MOk W T M) {f : Nat} {o as : ME} {oe y : Expr} {ys : List Expr} {apos pos : Pos} (hk : T.knd f = 2) (hb : baseB oe = true) (hl : (apos.endLine == pos.line) = true) (hn : (y :: ys).length < 20)
    (hf : (T.cfl (T.fcl f)).contains (T.fnm f) = false) (hst : ∀ e ∈ y :: ys, starB e = false) (ho : PEs W T M G k N sc fnb o oe) (h : PAs W T M G k N sc fnb as (y :: ys)) :
    PEs W T M G k N sc fnb (.meth f o as) (.Call (.Attribute oe (T.fnm f) apos) (y :: ys) [] pos) := by
  obtain ⟨to, o1, o2⟩ := ho
  obtain ⟨ta, a1, a2⟩ := h
  refine ⟨tMeth (W.cl (T.fcl f)) (T.fnm f) (spF W (M f)) [] E0 to ta, fun X hX => ?_, fun S A ρ σ H r E hr Q q => ?_⟩
  · obtain ⟨a, fd, ps, h0, h1, h3, h4⟩ := hX.pg.me f hk
    rw [← hX.K] at h0 h1 h3 h4
    refine pe_meth (pl := plainOf oe X.env) (o1 X hX) h0 h1 h4 (hX.hr.mono (Nat.le_succ _)) h3 .nil E0w (a1 X hX) (star_cons (hst y (List.mem_cons_self ..))) (star_any fun z hz => hst z (List.mem_cons_of_mem _ hz)) ?_
    exact mcall_of (base_of hb _) fun ov => mcall_line (few_of hn hst) hl
  · obtain ⟨u, w, ds, d, e1, e2, e3, e4, rfl⟩ := evMeth hr
    obtain ⟨fs, rr, e5⟩ := HM.me f hk _ _ e4
    have e6 : u.1 = .ins (T.fcl f) fs := by injection e5
    refine o2 S A ρ σ H u E e1 _ fun v H1 R1 => ?_
    have r1 := R1.rep
    have r1' := r1
    rw [e6] at r1'
    obtain ⟨a, dx, xs, rfl, h1, h2, h3⟩ := rep_ins r1'
    have hm : T.fnm f ∉ W.fl (T.fcl f) := by
      rw [HM.fl]
      intro z
      rw [List.contains_eq_mem] at hf
      simp [z] at hf
    refine ⟨a, dx, _, rfl, hh_same _ _ h1, lookup_zip_none hm, ?_⟩
    obtain ⟨ds', e7, hA⟩ := a2 S A ρ σ H1 w (E.same R1.same) e2
    rw [e3] at e7
    cases e7
    refine hA _ fun vs H2 s2 r2 => ?_
    rw [List.append_nil]
    have E2 := (E.same R1.same).same s2
    refine ⟨u.1 :: ds, d, Hh S (dropA A (u.2 ++ w.2)) H2, hh_same, .cons (rep_later r1 s2 sub_l) (r2.mono (hh_sub sub_r)), e4, fun v H' Hb' s3 s4 s5 hn rv => q v H' ?_⟩
    exact (Res3.call (E2.trk.drop _) (R1.same.trans s2) s3 s5 hn rv).shut
theorem evMeth0 {f : Nat} {o : ME} {ρ : En} {r : Res} (h : evE M G (.meth0 f o) ρ = some r) : ∃ x d, evE M G o ρ = some x ∧ M f [x.1] = some d ∧ r = shutD d x.2 := by
  unfold evE at h
  obtain ⟨x, e1, h⟩ := Option.bind_eq_some_iff.mp h
  obtain ⟨d, e2, h⟩ := Option.bind_eq_some_iff.mp h
  cases h
  exact ⟨x, d, e1, e2, rfl⟩
theorem snd_meth0 (HM : MOk W T M) {f : Nat} {o : ME} {oe : Expr} {apos pos : Pos} (hk : T.knd f = 2) (hb : baseB oe = true) (hl : (apos.endLine == pos.line) = true)
    (hf : (T.cfl (T.fcl f)).contains (T.fnm f) = false) (ho : PEs W T M G k N sc fnb o oe) : PEs W T M G k N sc fnb (.meth0 f o) (.Call (.Attribute oe (T.fnm f) apos) [] [] pos) := by
  obtain ⟨to, o1, o2⟩ := ho
  refine ⟨tMeth (W.cl (T.fcl f)) (T.fnm f) (spF W (M f)) [] E0 to tNil, fun X hX => ?_, fun S A ρ σ H r E hr Q q => ?_⟩
  · obtain ⟨a, fd, ps, h0, h1, h3, h4⟩ := hX.pg.me f hk
    rw [← hX.K] at h0 h1 h3 h4
    refine pe_meth0 (pl := plainOf oe X.env) (o1 X hX) h0 h1 h4 (hX.hr.mono (Nat.le_succ _)) h3 .nil E0w ?_
    exact mcall_of (base_of hb _) fun ov => mcall_line rfl hl
  · obtain ⟨u, d, e1, e4, rfl⟩ := evMeth0 hr
    obtain ⟨fs, rr, e5⟩ := HM.me f hk _ _ e4
    have e6 : u.1 = .ins (T.fcl f) fs := by injection e5
    refine o2 S A ρ σ H u E e1 _ fun v H1 R1 => ?_
    have r1 := R1.rep
    have r1' := r1
    rw [e6] at r1'
    obtain ⟨a, dx, xs, rfl, h1, h2, h3⟩ := rep_ins r1'
    have hm : T.fnm f ∉ W.fl (T.fcl f) := by
      rw [HM.fl]
      intro z
      rw [List.contains_eq_mem] at hf
      simp [z] at hf
    refine ⟨a, dx, _, rfl, hh_same _ _ h1, lookup_zip_none hm, ?_⟩
    refine ⟨[u.1], d, Hh S (dropA A u.2) H1, hh_same, .cons r1 .nil, e4, fun v H' Hb' s3 s4 s5 hn rv => q v H' ?_⟩
    exact (Res3.call ((E.same R1.same).trk.drop _) R1.same s3 s5 hn rv).shut
theorem evProp {f : Nat} {o : ME} {ρ : En} {r : Res} (h : evE M G (.prop f o) ρ = some r) : ∃ x d, evE M G o ρ = some x ∧ M f [x.1] = some d ∧ r = shutD d x.2 := by
  unfold evE at h
  obtain ⟨x, e1, h⟩ := Option.bind_eq_some_iff.mp h
  obtain ⟨d, e2, h⟩ := Option.bind_eq_some_iff.mp h
  cases h
  exact ⟨x, d, e1, e2, rfl⟩
theorem snd_prop (HM : MOk W T M) {f : Nat} {o : ME} {oe : Expr} {pos : Pos} (hk : T.knd f = 3) (hb : baseB oe = true) (ho : PEs W T M G k N sc fnb o oe) : PEs W T M G k N sc fnb (.prop f o) (.Attribute oe (T.fnm f) pos) := by
  obtain ⟨to, o1, o2⟩ := ho
  refine ⟨tProp (W.cl (T.fcl f)) (spF W (M f)) [] E0 to, fun X hX => ?_, fun S A ρ σ H r E hr Q q => ?_⟩
  · obtain ⟨p, a, fd, ps, h0, h1, h3, h4⟩ := hX.pg.pr f hk
    rw [← hX.K] at h0 h1 h3 h4
    exact pe_prop (o1 X hX) h0 h1 h4 hX.hr h3 .nil E0w (base_of hb _)
  · obtain ⟨u, d, e1, e4, rfl⟩ := evProp hr
    obtain ⟨fs, rr, e5⟩ := HM.pr f hk _ _ e4
    have e6 : u.1 = .ins (T.fcl f) fs := by injection e5
    refine o2 S A ρ σ H u E e1 _ fun v H1 R1 => ?_
    have r1 := R1.rep
    have r1' := r1
    rw [e6] at r1'
    obtain ⟨a, dx, xs, rfl, h1, h2, h3⟩ := rep_ins r1'
    refine ⟨a, dx, _, rfl, hh_same _ _ h1, ?_⟩
    refine ⟨[u.1], d, Hh S (dropA A u.2) H1, hh_same, .cons r1 .nil, e4, fun v H' Hb' s3 s4 s5 hn rv => q v H' ?_⟩
    exact (Res3.call ((E.same R1.same).trk.drop _) R1.same s3 s5 hn rv).shut
theorem evMk {f : Nat} {as : ME} {ρ : En} {r : Res} (h : evE M G (.mk f as) ρ = some r) : ∃ x ds d, evE M G as ρ = some x ∧ x.1 = .tup ds ∧ M f ds = some d ∧ r = (d, x.2) := by
  unfold evE at h
  obtain ⟨x, e1, h⟩ := Option.bind_eq_some_iff.mp h
  split at h
  · rename_i ds e
    obtain ⟨d, e2, h⟩ := Option.bind_eq_some_iff.mp h
    cases h
    exact ⟨x, ds, d, e1, e, e2, rfl⟩
  · cases h
theorem snd_mk (HM : MOk W T M) {f : Nat} {as : ME} {y : Expr} {ys : List Expr} {p pos : Pos} (hk : T.knd f = 1) (hg : glB sc (T.cnm (T.fcl f)) = true) (hd : dbg (T.cnm (T.fcl f)) = true) (hst : ∀ e ∈ y :: ys, starB e = false)
    (h : PAs W T M G k N sc fnb as (y :: ys)) : PEs W T M G k N sc fnb (.mk f as) (.Call (.Name (T.cnm (T.fcl f)) p) (y :: ys) [] pos) := by
  obtain ⟨ta, a1, a2⟩ := h
  refine ⟨tMake (W.cl (T.fcl f)) (spI W (T.fcl f) (M f)) [] E0 ta, fun X hX => ?_, fun S A ρ σ H r E hr Q q => ?_⟩
  · obtain ⟨a, fd, ps, h1, h2, h3, h4⟩ := hX.pg.mkr f hk
    rw [← hX.K] at h2 h3 h4
    exact pe_make h2 h4 hX.hr (gl_of _ hX hg) h1 h3 .nil E0w (a1 X hX) (dbg_of hd).1 (star_cons (hst y (List.mem_cons_self ..))) (star_any fun z hz => hst z (List.mem_cons_of_mem _ hz))
  · obtain ⟨u, ds, d, e1, e2, e3, rfl⟩ := evMk hr
    obtain ⟨fs, rfl⟩ := HM.mkr f hk _ _ e3
    obtain ⟨ds', e4, hA⟩ := a2 S A ρ σ H u E e1
    rw [e2] at e4
    cases e4
    refine hA _ fun vs H1 s1 r1 => ?_
    intro x dx hx hdx hne
    rw [List.append_nil]
    have t1 := (E.same s1).trk
    have sN : Same H1 (upd (upd H1 dx (.own x)) x (.ins (W.cl (T.fcl f)) dx [])) := fun b o e => by
      rw [upd_ne (ne_of_none e hx), upd_ne (ne_of_none e hdx)]
      exact e
    refine ⟨x, dx, vs, ds, fs, Hh S (dropA A u.2) H1, rfl, upd_same, ?_, hh_same.trans sN, r1, e3, fun H' Hb' s2 s3 s4 hn rv => ⟨rfl, q _ H' ?_⟩⟩
    · cases e : Hh S (dropA A u.2) H1 x with
      | none => rfl
      | some o => rw [hh_same _ _ e] at hx; cases hx
    · have sT : Same H1 H' := fun b o e => s2 b o (ne_of_none e hx) (sN b o e)
      refine ⟨s1.trans sT, rv.mono fun b o e => ?_, fun z => by cases z⟩
      have back : H1 b = none → Hh S (dropA A u.2) H' b = some o := fun hb => hh_some.mpr ⟨fun z => t1.s b z hb, fun i z => t1.a i b (dropA_some.mp z).2 hb, s4 _ _ e⟩
      rcases hn b o e with z | z | z
      · exact hh_mono sT _ _ z
      · refine back ?_
        cases e2 : H1 b with
        | none => rfl
        | some o' => rw [sN _ _ e2] at z; cases z
      · exact back (by rw [z]; exact hx)
end
end MN
end S_MnExp2
section S_MnExp3
set_option maxRecDepth 100000
/-! Expressions, case by case: built-ins, subscripts, attributes, displays. -/
namespace MN
open PySem PySem.Spec PyProof.Rows L2
section
variable {W : Wd} {T : Tb} {M : Nat → List D → Option D} {G : Nat → Int} {k : Nat} {N : List Str} {sc : Scope} {fnb : Str → Bool}

theorem blt_of {X : Cx} (hX : XOk W T M G k N sc fnb X) (x : Str) (h : x ∈ (["len", "abs", "max", "min", "int", "sum", "sorted", "list", "range", "reversed", "zip", "set", "isinstance", "bool"] : List Str)) : X.mg x = none := hX.pg.blt x h
theorem bv_len : bootBuiltins ("len" : Str) = some (.builtin "len") := by decide +kernel
theorem bv_abs : bootBuiltins ("abs" : Str) = some (.builtin "abs") := by decide +kernel
theorem bv_max : bootBuiltins ("max" : Str) = some (.builtin "max") := by decide +kernel
theorem bv_min : bootBuiltins ("min" : Str) = some (.builtin "min") := by decide +kernel
theorem bv_int : bootBuiltins ("int" : Str) = some (.type "int") := by decide +kernel
theorem bv_bool : bootBuiltins ("bool" : Str) = some (.type "bool") := by decide +kernel
theorem bv_sum : bootBuiltins ("sum" : Str) = some (.builtin "sum") := by decide +kernel
theorem bv_sorted : bootBuiltins ("sorted" : Str) = some (.builtin "sorted") := by decide +kernel
theorem bv_list : bootBuiltins ("list" : Str) = some (.type "list") := by decide +kernel
theorem bv_isinstance : bootBuiltins ("isinstance" : Str) = some (.builtin "isinstance") := by decide +kernel

theorem evBi {b : Bi} {as : ME} {ρ : En} {r : Res} (h : evE M G (.bi b as) ρ = some r) : ∃ x ds d, evE M G as ρ = some x ∧ x.1 = .tup ds ∧ biD b ds = some d ∧ r = shutD d x.2 := by
  unfold evE at h
  obtain ⟨x, e1, h⟩ := Option.bind_eq_some_iff.mp h
  split at h
  · rename_i ds e
    obtain ⟨d, e2, h⟩ := Option.bind_eq_some_iff.mp h
    cases h
    exact ⟨x, ds, d, e1, e, e2, rfl⟩
  · cases h
theorem snd_bi {b : Bi} {as : ME} {y : Expr} {ys : List Expr} {p pos : Pos} (hg : glB sc (biNm b) = true) (hst : ∀ e ∈ y :: ys, starB e = false) (h : PAs W T M G k N sc fnb as (y :: ys)) :
    PEs W T M G k N sc fnb (.bi b as) (.Call (.Name (biNm b) p) (y :: ys) [] pos) := by
  obtain ⟨ta, a1, a2⟩ := h
  obtain ⟨r, r1, r2⟩ := bi_ok W b
  refine ⟨tCB r ta, fun X hX => ?_, fun S A ρ σ H rr E hr Q q => ?_⟩
  · have hc := hX.calm
    have hu : X.A.units + 10 < cLine := by have := unitsK hX; omega
    have hr := r1 X hc hu hX.K
    have h1 := star_cons (env := X.env) (es := ys) (hst y (List.mem_cons_self ..))
    have h2 := star_any (pos := pos) (env := X.env) fun z hz => hst z (List.mem_cons_of_mem y hz)
    have hG := gl_of _ hX hg
    cases b with
    | len => exact pe_callB hr hG (blt_of hX _ (by simp [biNm])) bv_len (a1 X hX) (by decide) (by decide) h1 h2
    | abs => exact pe_callB hr hG (blt_of hX _ (by simp [biNm])) bv_abs (a1 X hX) (by decide) (by decide) h1 h2
    | max2 => exact pe_callB hr hG (blt_of hX _ (by simp [biNm])) bv_max (a1 X hX) (by decide) (by decide) h1 h2
    | min2 => exact pe_callB hr hG (blt_of hX _ (by simp [biNm])) bv_min (a1 X hX) (by decide) (by decide) h1 h2
    | int_ => exact pe_callTy hr hG (blt_of hX _ (by simp [biNm])) bv_int (a1 X hX) (by decide) (by decide) h1 h2
    | sum => exact pe_callB hr hG (blt_of hX _ (by simp [biNm])) bv_sum (a1 X hX) (by decide) (by decide) h1 h2
    | min1 => exact pe_callB hr hG (blt_of hX _ (by simp [biNm])) bv_min (a1 X hX) (by decide) (by decide) h1 h2
    | max1 => exact pe_callB hr hG (blt_of hX _ (by simp [biNm])) bv_max (a1 X hX) (by decide) (by decide) h1 h2
    | sorted => exact pe_callB hr hG (blt_of hX _ (by simp [biNm])) bv_sorted (a1 X hX) (by decide) (by decide) h1 h2
    | list_ => exact pe_callTy hr hG (blt_of hX _ (by simp [biNm])) bv_list (a1 X hX) (by decide) (by decide) h1 h2
    | comb => exact pe_callBfun hr hG hX.pg.comb (a1 X hX) (by decide) h1 h2
  · obtain ⟨u, ds, d, e1, e2, e3, rfl⟩ := evBi hr
    obtain ⟨ds', e4, hA⟩ := a2 S A ρ σ H u E e1
    rw [e2] at e4
    cases e4
    refine hA _ fun vs H1 s1 r1 => ?_
    exact r2 S (dropA A u.2) vs H1 ds d ((E.same s1).trk.drop _) r1 e3 Q fun v H' R => q v H' (R.after s1).shut

theorem evIs {a c : ME} {ρ : En} {r : Res} {b : Bool} (hc : (c = .isI a ∧ b = true) ∨ (c = .isB a ∧ b = false)) (h : evE M G c ρ = some r) : ∃ x i, evE M G a ρ = some x ∧ x.1 = .int i ∧ r = (.bl b, []) := by
  rcases hc with ⟨rfl, rfl⟩ | ⟨rfl, rfl⟩
  all_goals
    unfold evE at h
    obtain ⟨x, e1, h⟩ := Option.bind_eq_some_iff.mp h
    split at h
    · rename_i i e
      cases h
      exact ⟨x, i, e1, e, rfl⟩
    · cases h
theorem snd_is {a c : ME} {b : Bool} {n : String} {y : Expr} {p p2 pos : Pos} (hc : (c = .isI a ∧ b = true ∧ n = "int") ∨ (c = .isB a ∧ b = false ∧ n = "bool")) (hg : glB sc "isinstance" = true) (hg2 : glB sc (Str.ofString n) = true) (hs : starB y = false)
    (h : PEs W T M G k N sc fnb a y) : PEs W T M G k N sc fnb c (.Call (.Name "isinstance" p) [y, .Name (Str.ofString n) p2] [] pos) := by
  obtain ⟨ta, a1, a2⟩ := h
  have hf : fresh c = false := by rcases hc with ⟨rfl, _⟩ | ⟨rfl, _⟩ <;> rfl
  refine ⟨tCB (rIsi W.K) (tCons ta (tCons (tC (.ty n)) tNil)), fun X hX => ?_, fun S A ρ σ H rr E hr Q q => ?_⟩
  · have h1 := star_cons (env := X.env) (es := [.Name (Str.ofString n) p2]) hs
    have hr : CallR X (.builtin "isinstance") (rIsi W.K) := by rw [← hX.K]; exact call_isi
    refine pe_callB hr (gl_of _ hX hg) (blt_of hX _ (by simp)) bv_isinstance (pa_cons (a1 X hX) (pa_cons ?_ pa_nil) h1) (by decide) (by decide) h1 rfl
    rcases hc with ⟨_, _, rfl⟩ | ⟨_, _, rfl⟩
    · exact pe_bltn (gl_of _ hX hg2) (blt_of hX "int" (by simp)) bv_int rfl (by decide) (by decide)
    · exact pe_bltn (gl_of _ hX hg2) (blt_of hX "bool" (by simp)) bv_bool rfl (by decide) (by decide)
  · obtain ⟨u, i, e1, e2, rfl⟩ := evIs (b := b) (by rcases hc with ⟨h1, h2, _⟩ | ⟨h1, h2, _⟩; exact .inl ⟨h1, h2⟩; exact .inr ⟨h1, h2⟩) hr
    refine a2 S A ρ σ H u E e1 _ fun v H1 R1 => ?_
    have r1 := R1.rep
    rw [e2] at r1
    cases r1
    refine ⟨.int i, .ty n, .type "int", .type n, b, rfl, .ty n, .base (.int i), ?_, q _ _ (Res3.flat2 R1.same (.bl _) rfl)⟩
    rcases hc with ⟨_, rfl, rfl⟩ | ⟨_, rfl, rfl⟩
    · exact kit_ty (by decide +kernel)
    · exact kit_ty (by decide +kernel)

theorem nodup_of : ∀ {ns : List Int}, nodupI ns = true → ns.Nodup
  | [], _ => List.nodup_nil
  | n :: ns, h => by
    unfold nodupI at h
    simp only [Bool.and_eq_true, Bool.not_eq_true'] at h
    refine List.nodup_cons.mpr ⟨fun z => ?_, nodup_of h.2⟩
    have := h.1
    rw [List.contains_eq_mem] at this
    simp [z] at this
theorem snd_lset {a : ME} {y : Expr} {p p2 q1 pos : Pos} (hg : glB sc "len" = true) (hg2 : glB sc "set" = true) (hs : starB y = false) (h : PEs W T M G k N sc fnb a y) :
    PEs W T M G k N sc fnb (.lset a) (.Call (.Name "len" p) [.Call (.Name "set" p2) [y] [] q1] [] pos) := by
  obtain ⟨ta, a1, a2⟩ := h
  refine ⟨RZ.tLenSetI W.K ta, fun X hX => ?_, fun S A ρ σ H rr E hr Q q => ?_⟩
  · rw [← hX.K]
    exact RZ.pe_lenSetI (gl_of _ hX hg) (blt_of hX _ (by simp)) (gl_of _ hX hg2) (blt_of hX _ (by simp)) (a1 X hX) hX.calm (star_cons hs)
  · unfold evE at hr
    obtain ⟨u, e1, hr⟩ := Option.bind_eq_some_iff.mp hr
    split at hr
    · rename_i xs e2
      obtain ⟨ns, e3, hr⟩ := Option.bind_eq_some_iff.mp hr
      split at hr
      · rename_i e4
        cases hr
        simp only [Bool.and_eq_true, decide_eq_true_eq] at e4
        refine a2 S A ρ σ H u E e1 _ fun v H1 R1 => ?_
        have r1 := R1.rep
        rw [e2] at r1
        obtain ⟨b, vs, rfl, h1, h2⟩ := rep_lst r1
        exact ⟨b, ns, rfl, sqI h1 h2 e3, nodup_of e4.1, e4.2, q _ _ (Res3.flat2 R1.same (.int _) rfl)⟩
      · cases hr
    · cases hr
theorem rep_rg {W : Wd} {H : Hp} (a : Int) : ∀ (l : List Nat), RepAll W H (l.map fun i => V.int (a + (i : Nat))) (l.map fun (i : Nat) => D.int (a + (i : Int)))
  | [] => .nil
  | n :: l => .cons (.int _) (rep_rg a l)
theorem snd_lrg {a : ME} {y : Expr} {p p2 q1 pos : Pos} (hg : glB sc "list" = true) (hg2 : glB sc "range" = true) (hs : starB y = false) (h : PEs W T M G k N sc fnb a y) :
    PEs W T M G k N sc fnb (.lrg a) (.Call (.Name "list" p) [.Call (.Name "range" p2) [y] [] q1] [] pos) := by
  obtain ⟨ta, a1, a2⟩ := h
  refine ⟨tLstRg (tRg1 ta), fun X hX => ?_, fun S A ρ σ H rr E hr Q q => ?_⟩
  · exact pe_listRg hX.calm (gl_of _ hX hg) (blt_of hX _ (by simp)) (prg_1 (gl_of _ hX hg2) (blt_of hX _ (by simp)) (a1 X hX) (star_cons hs)) rfl
  · unfold evE at hr
    obtain ⟨u, e1, hr⟩ := Option.bind_eq_some_iff.mp hr
    split at hr
    · rename_i n e2
      split at hr
      · rename_i e3
        cases hr
        refine a2 S A ρ σ H u E e1 _ fun v H1 R1 => ?_
        have r1 := R1.rep
        rw [e2] at r1
        cases r1
        refine ⟨n, rfl, RgOk.of_le (by omega) e3.2 (by omega) e3.1, fun p hp => q _ _ ?_⟩
        refine (Res3.newList ((E.same R1.same).trk.drop _) hp ?_).after R1.same
        unfold rgV rgD
        rw [Int.sub_zero]
        exact rep_rg 0 _
      · cases hr
    · cases hr

theorem place_of {d : D} : ∀ {xs : List D} {n m : Nat}, placeD d xs n = some m → ∃ j z, m = n + j ∧ xs[j]? = some z ∧ eqD z d = true ∧ ∀ (i : Nat) (z' : D), i < j → xs[i]? = some z' → eqD z' d = false
  | [], n, m, h => by cases h
  | x :: xs, n, m, h => by
    unfold placeD at h
    split at h
    · rename_i e
      cases h
      exact ⟨0, x, rfl, rfl, e, fun i z' hi => absurd hi (Nat.not_lt_zero _)⟩
    · rename_i e
      obtain ⟨j, z, h1, h2, h3, h4⟩ := place_of h
      refine ⟨j + 1, z, by omega, by simpa using h2, h3, fun i z' hi hz => ?_⟩
      cases i with
      | zero =>
        simp at hz
        subst hz
        simpa using e
      | succ i => exact h4 i z' (by omega) (by simpa using hz)
theorem toPs_get {xs : List D} {j : Nat} {z : D} (h : xs[j]? = some z) : (toPs xs)[j]? = some (toP z) := by
  rw [toPs_map, List.getElem?_map, h]
  rfl
theorem okAll_get {n : Nat} {xs : List D} {j : Nat} {z : D} (o : xs.all (okP n) = true) (h : xs[j]? = some z) : okP n z = true := List.all_eq_true.mp o z (List.mem_of_getElem? h)
theorem snd_idx {a x : ME} {oe y : Expr} {apos pos : Pos} (hb : baseB oe = true) (hl : (apos.endLine == pos.line) = true) (hs : starB y = false) (ho : PEs W T M G k N sc fnb a oe) (hx : PEs W T M G k N sc fnb x y) :
    PEs W T M G k N sc fnb (.idx a x) (.Call (.Attribute oe "index" apos) [y] [] pos) := by
  obtain ⟨to, o1, o2⟩ := ho
  obtain ⟨tx, x1, x2⟩ := hx
  refine ⟨tBM W.K "list" (rIndexD W.K) to (tCons tx tNil), fun X hX => ?_, fun S A ρ σ H rr E hr Q q => ?_⟩
  · have hm : MtR X "list.index" (rIndexD W.K) := by
      rw [← hX.K]
      have := unitsK hX
      exact mt_indexD (by omega)
    rw [← hX.K] at hm ⊢
    have h1 := star_cons (env := X.env) (es := []) hs
    exact pe_bm PySem.F.plainAttrs_list PySem.F.slot_list_index PySem.F.type_list_index hm (o1 X hX) (pa_cons (x1 X hX) pa_nil h1) (base_of hb _) (few_of (by simp) (fun e he => by simp at he; rw [he]; exact hs)) hl h1 rfl
  · unfold evE at hr
    obtain ⟨u, e1, hr⟩ := Option.bind_eq_some_iff.mp hr
    obtain ⟨w, e2, hr⟩ := Option.bind_eq_some_iff.mp hr
    split at hr
    · rename_i xs e3
      split at hr
      · rename_i e4
        obtain ⟨n, e5, hr⟩ := Option.bind_eq_some_iff.mp hr
        cases hr
        obtain ⟨o4, o5⟩ := Bool.and_eq_true_iff.mp e4
        refine o2 S A ρ σ H u E e1 _ fun v H1 R1 => ?_
        have r1 := R1.rep
        rw [e3] at r1
        obtain ⟨b, vs, rfl, h1, h2⟩ := rep_lst r1
        refine ⟨.inl ⟨rfl, vs, SqL.of h1⟩, ?_⟩
        refine x2 S A ρ σ H1 w (E.same R1.same) e2 _ fun v2 H2 R2 => ?_
        obtain ⟨j, z, f1, f2, f3, f4⟩ := place_of e5
        have ex : toP (.lst xs) = .list (toPs xs) := by rw [toP]
        rw [okP_lst] at o4
        have s4 := okP_shaped (n := 4) (d := .lst xs) (by decide) (by rw [okP_lst]; exact o4)
        rw [ex] at s4
        have d4 := okP_dp (W := W) (K := W.K) rfl 4 (.lst xs) _ (by rw [okP_lst]; exact o4) (r1.full.mono R2.same)
        rw [ex] at d4
        refine ⟨b, v2, toP w.1, toPs xs, j, toP z, rfl, rfl, d4, okP_dp rfl 4 _ _ o5 R2.rep.full, s4, okP_shaped (by decide) o5, toPs_get f2, ?_, fun m z' hm hz => ?_, ?_⟩
        · rw [okP_eqv 3 4 z w.1 (okAll_get o4 f2) o5]
          exact f3
        · rw [toPs_map, List.getElem?_map] at hz
          cases hq : xs[m]? with
          | none => rw [hq] at hz; cases hz
          | some d =>
            rw [hq] at hz
            cases hz
            rw [okP_eqv 3 4 d w.1 (okAll_get o4 hq) o5]
            exact f4 m d hm hq
        · have : j = n := by omega
          rw [this]
          exact q _ _ (Res3.flat2 (R1.same.trans R2.same) (.int _) rfl)
      · cases hr
    · cases hr

/-! ### attributes, subscripts -/
theorem evFld {c kk : Nat} {o : ME} {ρ : En} {r : Res} (h : evE M G (.fld c kk o) ρ = some r) :
    (∃ i, o = .nm i ∧ ∃ ds d, (ρ[i]? = some (Sl.ob c ds) ∨ ρ[i]? = some (Sl.sh (.ins c ds))) ∧ ds[kk]? = some d ∧ r = (d, [])) ∨ ((∀ i, o ≠ .nm i) ∧ ∃ x ds d, evE M G o ρ = some x ∧ x.1 = .ins c ds ∧ ds[kk]? = some d ∧ r = shutD d x.2) := by
  unfold evE at h
  split at h
  · rename_i i
    refine .inl ⟨i, rfl, ?_⟩
    split at h
    · rename_i c' ds e
      split at h
      · rename_i ec
        subst ec
        obtain ⟨d, e2, h⟩ := Option.bind_eq_some_iff.mp h
        cases h
        exact ⟨ds, d, .inl e, e2, rfl⟩
      · cases h
    · rename_i c' ds e
      split at h
      · rename_i ec
        subst ec
        obtain ⟨d, e2, h⟩ := Option.bind_eq_some_iff.mp h
        cases h
        exact ⟨ds, d, .inr e, e2, rfl⟩
      · cases h
    · cases h
  · rename_i hne
    refine .inr ⟨fun i e => hne i e, ?_⟩
    obtain ⟨x, e1, h⟩ := Option.bind_eq_some_iff.mp h
    split at h
    · rename_i c' ds e
      split at h
      · rename_i ec
        subst ec
        obtain ⟨d, e2, h⟩ := Option.bind_eq_some_iff.mp h
        cases h
        exact ⟨x, ds, d, e1, e, e2, rfl⟩
      · cases h
    · cases h
theorem fld_some (HM : MOk W T M) {c kk : Nat} {m : Str} (hm : (T.cfl c)[kk]? = some m) {H : Hp} {xs : List V} {ds : List D} {d : D} (h : RepAll W H xs ds) (e : ds[kk]? = some d) : ∃ v, ((W.fl c).zip xs).lookup m = some v ∧ Rep W H v d := by
  obtain ⟨v, h1, h2⟩ := h.get e
  exact ⟨v, lookup_zip_some (by rw [HM.fl]; exact HM.nd c) (by rw [HM.fl]; exact hm) h1, h2⟩
theorem snd_fld (HM : MOk W T M) {c kk : Nat} {o : ME} {oe : Expr} {m : Str} {pos : Pos} (hm : (T.cfl c)[kk]? = some m) (hc : c < T.ncl) (hb : baseB oe = true) (hch : chkE T N o sc fnb oe = true) (ho : PEs W T M G k N sc fnb o oe) :
    PEs W T M G k N sc fnb (.fld c kk o) (.Attribute oe m pos) := by
  obtain ⟨hC, hA⟩ := HM.cls c hc
  have hN := hA m (List.mem_of_getElem? hm)
  by_cases hi : ∃ i, o = .nm i
  · obtain ⟨i, rfl⟩ := hi
    have hp : ∀ X, XOk W T M G k N sc fnb X → PE X oe (tVar i) := by
      unfold chkE at hch
      split at hch
      · rename_i x pos
        simp only [Bool.and_eq_true, decide_eq_true_eq] at hch
        obtain ⟨h1, h2, h3⟩ := hch
        exact fun X hX => pe_var (by rw [hX.n]; exact h1) (vis_of x hX h2) (dbg_of h3).1 (dbg_of h3).2
      · cases hch
    refine ⟨tFld W.K (tVar i) m, fun X hX => by rw [← hX.K]; exact pe_fld (hp X hX) (base_of hb _), fun S A ρ σ H rr E hr Q q => ?_⟩
    rcases evFld hr with ⟨j, ej, ds, d, e1, e2, rfl⟩ | ⟨hne, _⟩
    · injection ej with ej
      subst ej
      rcases e1 with e1 | e1
      · obtain ⟨a, dx, xs, s1, s2, s3, s4, s5⟩ := E.ob i c ds e1
        obtain ⟨v, h1, h2⟩ := fld_some HM hm s5 e2
        exact ⟨_, s2, a, W.cl c, dx, _, v, rfl, s3, hC, hN, h1, q v H ⟨Same.refl _, by rw [dropA_nil]; exact h2, fun z => by cases z⟩⟩
      · obtain ⟨v0, s1, s2⟩ := E.sh i _ e1
        obtain ⟨a, dx, xs, rfl, h1, h2, h3⟩ := rep_ins s2
        obtain ⟨v, h4, h5⟩ := fld_some HM hm h3 e2
        exact ⟨_, s1, a, W.cl c, dx, _, v, rfl, hh_same _ _ h1, hC, hN, h4, q v H ⟨Same.refl _, by rw [dropA_nil]; exact h5, fun z => by cases z⟩⟩
    · exact absurd rfl (hne i)
  · obtain ⟨to, o1, o2⟩ := ho
    refine ⟨tFld W.K to m, fun X hX => by rw [← hX.K]; exact pe_fld (o1 X hX) (base_of hb _), fun S A ρ σ H rr E hr Q q => ?_⟩
    rcases evFld hr with ⟨j, ej, _⟩ | ⟨_, x, ds, d, e1, e2, e3, rfl⟩
    · exact absurd ⟨j, ej⟩ hi
    · refine o2 S A ρ σ H x E e1 _ fun v H1 R1 => ?_
      have r1 := R1.rep
      rw [e2] at r1
      obtain ⟨a, dx, xs, rfl, h1, h2, h3⟩ := rep_ins r1
      obtain ⟨v, h4, h5⟩ := fld_some HM hm h3 e3
      have R : Res3 W S (dropA A x.2) H false d v H1 := ⟨R1.same, h5, fun z => by cases z⟩
      exact ⟨a, W.cl c, dx, _, v, rfl, hh_same _ _ h1, hC, hN, h4, q v H1 R.shut⟩

theorem atI_rep {W : Wd} {H : Hp} {xs : List V} {ds : List D} {i : Int} {d : D} (h : RepAll W H xs ds) (e : atI ds i = some d) : ∃ v, atI xs i = some v ∧ Rep W H v d := by
  unfold atI at e ⊢
  rw [h.length]
  obtain ⟨j, h1, h2⟩ := Option.bind_eq_some_iff.mp e
  obtain ⟨v, h3, h4⟩ := h.get h2
  exact ⟨v, by rw [h1]; exact h3, h4⟩
theorem idx_ix {W : Wd} {Hb H : Hp} {S : Addr → Prop} {A : Nat → Option Addr} {x y : V} {d i z : D} (rx : (∃ a xs ds, x = .ref a ∧ (d = .lst ds ∧ H a = some (.lst xs) ∨ d = .tup ds ∧ H a = some (.tup xs)) ∧ RepAll W Hb xs ds)) (ry : Rep W H y i) (e : idxD d i = some z) (Q : VK)
    (q : ∀ v, Rep W Hb v z → Q v H) : rIx W.K x y H Q := by
  unfold idxD at e
  cases i with
  | int n =>
    cases ry
    obtain ⟨a, xs, ds, rfl, h, hr⟩ := rx
    rcases h with ⟨rfl, h⟩ | ⟨rfl, h⟩
    · obtain ⟨v, h3, h4⟩ := atI_rep hr e
      exact .inl ⟨a, xs, n, v, rfl, rfl, SqL.of h, h3, q v h4⟩
    · obtain ⟨v, h3, h4⟩ := atI_rep hr e
      exact .inr (.inl ⟨a, xs, n, v, rfl, rfl, SqT.of h, h3, q v h4⟩)
  | _ => cases e
theorem idx_form {d i z : D} (e : idxD d i = some z) : (∃ ds, d = .lst ds) ∨ ∃ ds, d = .tup ds := by
  unfold idxD at e
  cases i with
  | int n =>
    cases d with
    | lst ds => exact .inl ⟨ds, rfl⟩
    | tup ds => exact .inr ⟨ds, rfl⟩
    | _ => cases e
  | _ => cases e
theorem rep_ixform {W : Wd} {S : Addr → Prop} {A : Nat → Option Addr} {H1 H2 : Hp} {x : V} {d i z : D} (h : Rep W (Hh S A H1) x d) (s : Same H1 H2) (e : idxD d i = some z) :
    ∃ a xs ds, x = .ref a ∧ (d = .lst ds ∧ H2 a = some (.lst xs) ∨ d = .tup ds ∧ H2 a = some (.tup xs)) ∧ RepAll W (Hh S A H2) xs ds := by
  rcases idx_form e with ⟨ds, rfl⟩ | ⟨ds, rfl⟩
  · obtain ⟨a, xs, rfl, h1, h2⟩ := rep_lst h
    exact ⟨a, xs, ds, rfl, .inl ⟨rfl, s _ _ h1⟩, h2.mono (hh_mono s)⟩
  · obtain ⟨a, xs, rfl, h1, h2⟩ := rep_tup h
    exact ⟨a, xs, ds, rfl, .inr ⟨rfl, s _ _ h1⟩, h2.mono (hh_mono s)⟩
theorem ixK {X : Cx} (hK : X.K = W.K) : IxR X (rIx W.K) := by rw [← hK]; exact ix_seq
theorem evSub {a i : ME} {ρ : En} {r : Res} (h : evE M G (.sub a i) ρ = some r) :
    (∃ j, a = .nm j ∧ ∃ d y z, (ρ[j]? = some (Sl.sh d) ∨ ∃ ds, d = .lst ds ∧ ρ[j]? = some (Sl.ow ds)) ∧ evE M G i ρ = some y ∧ idxD d y.1 = some z ∧ r = (z, [])) ∨
    ((∀ j, a ≠ .nm j) ∧ ∃ x y z, evE M G a ρ = some x ∧ evE M G i ρ = some y ∧ idxD x.1 y.1 = some z ∧ r = shutD z x.2) := by
  unfold evE at h
  split at h
  · rename_i j
    refine .inl ⟨j, rfl, ?_⟩
    split at h
    · rename_i d e
      obtain ⟨y, e1, h⟩ := Option.bind_eq_some_iff.mp h
      obtain ⟨z, e2, h⟩ := Option.bind_eq_some_iff.mp h
      cases h
      exact ⟨d, y, z, .inl e, e1, e2, rfl⟩
    · rename_i ds e
      obtain ⟨y, e1, h⟩ := Option.bind_eq_some_iff.mp h
      obtain ⟨z, e2, h⟩ := Option.bind_eq_some_iff.mp h
      cases h
      exact ⟨.lst ds, y, z, .inr ⟨ds, rfl, e⟩, e1, e2, rfl⟩
    · cases h
  · rename_i hne
    refine .inr ⟨fun j e => hne j e, ?_⟩
    obtain ⟨x, e0, h⟩ := Option.bind_eq_some_iff.mp h
    obtain ⟨y, e1, h⟩ := Option.bind_eq_some_iff.mp h
    obtain ⟨z, e2, h⟩ := Option.bind_eq_some_iff.mp h
    cases h
    exact ⟨x, y, z, e0, e1, e2, rfl⟩
theorem snd_sub {a i : ME} {x y : Expr} {pos : Pos} (hn : notSlice y = true) (hch : chkE T N a sc fnb x = true) (ha : PEs W T M G k N sc fnb a x) (hi : PEs W T M G k N sc fnb i y) : PEs W T M G k N sc fnb (.sub a i) (.Subscript x y pos) := by
  obtain ⟨ti, i1, i2⟩ := hi
  by_cases hj : ∃ j, a = .nm j
  · obtain ⟨j, rfl⟩ := hj
    have hp : ∀ X, XOk W T M G k N sc fnb X → PE X x (tVar j) := by
      unfold chkE at hch
      split at hch
      · rename_i z pos
        simp only [Bool.and_eq_true, decide_eq_true_eq] at hch
        obtain ⟨h1, h2, h3⟩ := hch
        exact fun X hX => pe_var (by rw [hX.n]; exact h1) (vis_of z hX h2) (dbg_of h3).1 (dbg_of h3).2
      · cases hch
    refine ⟨tOp (rIx W.K) (tVar j) ti, fun X hX => pe_ix (ixK hX.K) (hp X hX) (i1 X hX) (slice_of hn), fun S A ρ σ H rr E hr Q q => ?_⟩
    rcases evSub hr with ⟨j', ej, d, w, z, e1, e2, e3, rfl⟩ | ⟨hne, _⟩
    · injection ej with ej
      subst ej
      rcases e1 with e1 | ⟨ds, rfl, e1⟩
      · obtain ⟨v, s1, s2⟩ := E.sh j d e1
        refine ⟨v, s1, ?_⟩
        refine i2 S A ρ σ H w E e2 _ fun v2 H2 R2 => ?_
        exact idx_ix (S := S) (A := A) (rep_ixform s2 R2.same e3) R2.rep.full e3 Q fun v3 r3 => q v3 H2 ⟨R2.same, by rw [dropA_nil]; exact r3, fun z => by cases z⟩
      · obtain ⟨b, xs, s1, s2, s3, s4⟩ := E.ow j ds e1
        refine ⟨_, s2, ?_⟩
        refine i2 S A ρ σ H w E e2 _ fun v2 H2 R2 => ?_
        exact idx_ix (S := S) (A := A) ⟨b, xs, ds, rfl, .inl ⟨rfl, R2.same _ _ s3⟩, s4.mono (hh_mono R2.same)⟩ R2.rep.full e3 Q fun v3 r3 => q v3 H2 ⟨R2.same, by rw [dropA_nil]; exact r3, fun z => by cases z⟩
    · exact absurd rfl (hne j)
  · obtain ⟨ta, a1, a2⟩ := ha
    refine ⟨tOp (rIx W.K) ta ti, fun X hX => pe_ix (ixK hX.K) (a1 X hX) (i1 X hX) (slice_of hn), fun S A ρ σ H rr E hr Q q => ?_⟩
    rcases evSub hr with ⟨j', ej, _⟩ | ⟨_, u, w, z, e1, e2, e3, rfl⟩
    · exact absurd ⟨j', ej⟩ hj
    · refine a2 S A ρ σ H u E e1 _ fun v H1 R1 => ?_
      refine i2 S A ρ σ H1 w (E.same R1.same) e2 _ fun v2 H2 R2 => ?_
      refine idx_ix (S := S) (A := dropA A u.2) (rep_ixform R1.rep R2.same e3) R2.rep.full e3 Q fun v3 r3 => q v3 H2 ?_
      have R : Res3 W S (dropA A u.2) H false z v3 H2 := ⟨R1.same.trans R2.same, r3, fun z => by cases z⟩
      exact R.shut

/-! ### slices -/
def partD (M : Nat → List D → Option D) (G : Nat → Int) (m : ME) (ρ : En) : Option (Option Int) := if isNilB m then some none else (evE M G m ρ).bind fun l => (match l.1 with
      | .int i => some (some i)
      | _ => none)
def SemO (W : Wd) (M : Nat → List D → Option D) (G : Nat → Int) (m : ME) (t : TO) : Prop := ∀ (S : Addr → Prop) (A : Nat → Option Addr) (ρ : En) (σ : L2.St) (H : Hp) (o : Option Int), EnvOk W S A ρ σ H → partD M G m ρ = some o →
  ∀ Q : Option Int → Hp → Prop, (∀ H', Same H H' → Q o H') → t σ H Q
theorem part_of {m : ME} {e : Option Expr} (h : (e = none ∧ isNilB m = true) ∨ ∃ x, e = some x ∧ isNilB m = false ∧ PEs W T M G k N sc fnb m x) : ∃ t, (∀ X, XOk W T M G k N sc fnb X → PO X e t) ∧ SemO W M G m t := by
  rcases h with ⟨rfl, h⟩ | ⟨x, rfl, hn, t, h1, h2⟩
  · refine ⟨tNoPart, fun X _ => po_none, fun S A ρ σ H o E hr Q q => ?_⟩
    unfold partD at hr
    rw [if_pos h] at hr
    cases hr
    exact q H (Same.refl _)
  · refine ⟨tPart t, fun X hX => po_some (h1 X hX), fun S A ρ σ H o E hr Q q => ?_⟩
    unfold partD at hr
    rw [if_neg (by rw [hn]; simp)] at hr
    obtain ⟨r, e1, hr⟩ := Option.bind_eq_some_iff.mp hr
    split at hr
    · rename_i i e2
      cases hr
      refine h2 S A ρ σ H r E e1 _ fun v H1 R1 => ?_
      have r1 := R1.rep
      rw [e2] at r1
      cases r1
      exact ⟨i, rfl, q H1 R1.same⟩
    · cases hr
theorem evSlc {a lo hi : ME} {ρ : En} {r : Res} (h : evE M G (.slc a lo hi) ρ = some r) : ∃ x l u, evE M G a ρ = some x ∧ partD M G lo ρ = some l ∧ partD M G hi ρ = some u ∧
    ((∃ xs, x.1 = .lst xs ∧ r = (.lst (cutD xs l u), x.2)) ∨ ∃ ns, x.1 = .scr ns ∧ r = (.lst ((cutD ns l u).map .int), [])) := by
  unfold evE at h
  obtain ⟨x, e1, h⟩ := Option.bind_eq_some_iff.mp h
  obtain ⟨l, e2, h⟩ := Option.bind_eq_some_iff.mp h
  obtain ⟨u, e3, h⟩ := Option.bind_eq_some_iff.mp h
  refine ⟨x, l, u, e1, e2, e3, ?_⟩
  split at h
  · rename_i xs e
    cases h
    exact .inl ⟨xs, e, rfl⟩
  · rename_i ns e
    cases h
    exact .inr ⟨ns, e, rfl⟩
  · cases h
theorem rep_scr {W : Wd} {H : Hp} {v : V} {ns : List Int} (h : Rep W H v (.scr ns)) : ∃ a, v = .ref a ∧ SqL W.K H a (ns.map V.int) := by
  cases h with
  | scr h => exact ⟨_, rfl, h⟩
theorem cut_ints (ns : List Int) (l u : Option Int) : cutV (ns.map V.int) l u = (cutD ns l u).map V.int := by
  unfold cutV cutD
  rw [List.length_map, ← List.map_drop, ← List.map_take]
theorem snd_slc {a lo hi : ME} {x : Expr} {l u : Option Expr} {p2 pos : Pos} (ha : PEs W T M G k N sc fnb a x) (hl : (l = none ∧ isNilB lo = true) ∨ ∃ x, l = some x ∧ isNilB lo = false ∧ PEs W T M G k N sc fnb lo x)
    (hu : (u = none ∧ isNilB hi = true) ∨ ∃ x, u = some x ∧ isNilB hi = false ∧ PEs W T M G k N sc fnb hi x) : PEs W T M G k N sc fnb (.slc a lo hi) (.Subscript x (.Slice l u none p2) pos) := by
  obtain ⟨ta, a1, a2⟩ := ha
  obtain ⟨tl, l1, l2⟩ := part_of hl
  obtain ⟨tu, u1, u2⟩ := part_of hu
  refine ⟨tSl (rSlL W.K) ta tl tu, fun X hX => pe_slice (by rw [← hX.K]; exact sl_list) (a1 X hX) (l1 X hX) (u1 X hX), fun S A ρ σ H rr E hr Q q => ?_⟩
  obtain ⟨y, o, o', e1, e2, e3, hr⟩ := evSlc hr
  refine a2 S A ρ σ H y E e1 _ fun v H1 R1 => ?_
  refine l2 S A ρ σ H1 o (E.same R1.same) e2 _ fun H2 s2 => ?_
  refine u2 S A ρ σ H2 o' ((E.same R1.same).same s2) e3 _ fun H3 s3 => ?_
  have E3 := ((E.same R1.same).same s2).same s3
  have r1 := R1.rep
  rcases hr with ⟨xs, e4, rfl⟩ | ⟨ns, e4, rfl⟩
  · rw [e4] at r1
    obtain ⟨b, vs, rfl, h1, h2⟩ := rep_lst r1
    refine ⟨b, vs, rfl, SqL.of (s3 _ _ (s2 _ _ h1)), fun p hp => q _ _ ?_⟩
    exact (Res3.newList (E3.trk.drop _) hp ((h2.mono (hh_mono (s2.trans s3))).cut o o')).after ((R1.same.trans s2).trans s3)
  · rw [e4] at r1
    obtain ⟨b, rfl, h1⟩ := rep_scr r1
    refine ⟨b, ns.map V.int, rfl, s3.seq (s2.seq (hh_same.seq h1)), fun p hp => q _ _ ?_⟩
    rw [cut_ints]
    exact (Res3.newList (E3.trk.drop _) hp (repAll_ints _)).after ((R1.same.trans s2).trans s3)

/-! ### displays -/
theorem snd_lst {as : ME} {es : List Expr} {pos : Pos} (h : PAs W T M G k N sc fnb as es) : PEs W T M G k N sc fnb (.lst as) (.List es pos) := by
  obtain ⟨ta, a1, a2⟩ := h
  refine ⟨tLst ta, fun X hX => pe_lst (a1 X hX), fun S A ρ σ H rr E hr Q q => ?_⟩
  unfold evE at hr
  obtain ⟨u, e1, hr⟩ := Option.bind_eq_some_iff.mp hr
  split at hr
  · rename_i ds e2
    split at hr
    · rename_i hl
      cases hr
      obtain ⟨ds', e3, hA⟩ := a2 S A ρ σ H u E e1
      rw [e2] at e3
      cases e3
      refine hA _ fun vs H1 s1 r1 => ⟨by rw [r1.length, sizeLine_eq]; exact hl, fun p hp => q _ _ ?_⟩
      exact (Res3.newList ((E.same s1).trk.drop _) hp r1).after s1
    · cases hr
  · cases hr
theorem snd_tup {as : ME} {es : List Expr} {n : Nat} {pos : Pos} (h : PAs W T M G k N sc fnb as es) {x1} : PEs W T M G k N sc fnb (.tup as) (.Tuple es x1 pos) := by
  obtain ⟨ta, a1, a2⟩ := h
  refine ⟨tTup ta, fun X hX => pe_tup (a1 X hX), fun S A ρ σ H rr E hr Q q => ?_⟩
  unfold evE at hr
  obtain ⟨u, e1, hr⟩ := Option.bind_eq_some_iff.mp hr
  split at hr
  · rename_i ds e2
    split at hr
    · rename_i hl
      cases hr
      obtain ⟨ds', e3, hA⟩ := a2 S A ρ σ H u E e1
      rw [e2] at e3
      cases e3
      refine hA _ fun vs H1 s1 r1 => ⟨by rw [r1.length, sizeLine_eq]; exact hl, fun p hp => q _ _ ?_⟩
      exact (Res3.newTup ((E.same s1).trk.drop _) hp r1).after s1
    · cases hr
  · cases hr
end
end MN
end S_MnExp3
section S_MnComp
set_option maxRecDepth 100000
/-! Targets, what is walked, comprehensions. -/
namespace MN
open PySem PySem.Spec PyProof.Rows L2
section
variable {W : Wd} {T : Tb} {M : Nat → List D → Option D} {G : Nat → Int} {k : Nat} {N : List Str} {sc : Scope} {fnb : Str → Bool}

/-! ### targets -/
def SemG (W : Wd) (tg : Tg) (g : TG) : Prop := ∀ (S : Addr → Prop) (A : Nat → Option Addr) (ρ : En) (σ : L2.St) (H : Hp) (v : V) (d : D) (ρ' : En), EnvOk W S A ρ σ H → Rep W (Hh S A H) v d → tg.put ρ d = some ρ' →
  ∀ Q : L2.St → Hp → Prop, (∀ σ', EnvOk W S (dropA A tg.slots) ρ' σ' H → wipe σ' tg.slots = wipe σ tg.slots → Q σ' H) → g v σ H Q
theorem wipe2 {σ : L2.St} {i j : Nat} {a b : Option V} : wipe ((σ.set i a).set j b) [i, j] = wipe σ [i, j] := by
  show (((σ.set i a).set j b).set j none).set i none = (σ.set j none).set i none
  rw [List.set_set]
  by_cases h : i = j
  · subst h
    rw [List.set_set, List.set_set, List.set_set]
  · rw [List.set_comm _ _ h, List.set_set]
theorem tgt_of {tg : Tg} {te : Expr} (h : chkG N sc fnb tg te = true) : ∃ g, (∀ X, XOk W T M G k N sc fnb X → PG X te g) ∧ SemG W tg g ∧ (ownOf tg te).map (·.2) = tg.slots := by
  unfold chkG at h
  split at h
  · rename_i i x pos
    simp only [Bool.and_eq_true, decide_eq_true_eq] at h
    obtain ⟨h1, h2, h3⟩ := h
    refine ⟨gName i, fun X hX => pg_name (by rw [hX.n]; exact hX.nd) (by rw [hX.n]; exact h1) (loc_of x hX h2) (fn_of x hX h3), fun S A ρ σ H v d ρ' E r hp Q q => ?_, rfl⟩
    have hp : (if i < ρ.length then some (ρ.set i (.sh d)) else none) = some ρ' := hp
    split at hp
    · rename_i hi
      cases hp
      refine q _ (E.put hi r) ?_
      show (σ.set i (some v)).set i none = σ.set i none
      rw [List.set_set]
    · cases hp
  · rename_i i j x px y py kk pos
    simp only [Bool.and_eq_true, decide_eq_true_eq] at h
    obtain ⟨⟨h1, h2, h3⟩, h4, h5, h6⟩ := h
    refine ⟨gTup W.K 2 (gCons (gName i) (gCons (gName j) gNil)), fun X hX => ?_, fun S A ρ σ H v d ρ' E r hp Q q => ?_, rfl⟩
    · rw [← hX.K]
      have nd : X.N.Nodup := by rw [hX.n]; exact hX.nd
      exact pg_tup hX.calm (pgs_cons (pg_name nd (by rw [hX.n]; exact h1) (loc_of x hX h2) (fn_of x hX h3)) (pgs_cons (pg_name nd (by rw [hX.n]; exact h4) (loc_of y hX h5) (fn_of y hX h6)) pgs_nil))
    · unfold Tg.put at hp
      simp only at hp
      split at hp
      · rename_i e
        split at hp
        · rename_i hij
          cases hp
          obtain ⟨a, xs, rfl, t1, t2⟩ := rep_tup r
          obtain ⟨u, w, rfl, r1, r2⟩ := t2.two
          refine ⟨a, [u, w], rfl, SqT.of t1, rfl, u, [w], rfl, w, [], rfl, rfl, ?_⟩
          have E1 := E.put hij.1 r1
          have E2 := E1.put (i := j) (by rw [List.length_set]; exact hij.2.1) (r2.mono hh_drop)
          rw [dropA_dropA] at E2
          exact q _ E2 wipe2
        · cases hp
      · cases hp
  · cases h
def wipeE (ρ : En) : List Nat → En
  | [] => ρ
  | v :: vs => (wipeE ρ vs).set v Sl.un
theorem EnvOk.wipes {S : Addr → Prop} {A : Nat → Option Addr} {ρ : En} {σ : L2.St} {H : Hp} (E : EnvOk W S A ρ σ H) : ∀ vs : List Nat, EnvOk W S (dropA A vs) (wipeE ρ vs) (wipe σ vs) H
  | [] => by rw [dropA_nil]; exact E
  | v :: vs => by
    have h := (E.wipes vs).wiped v
    rw [dropA_dropA] at h
    have e : dropA A (vs ++ [v]) = dropA A (v :: vs) := by
      funext i
      simp only [dropA, List.contains_eq_mem, List.mem_append, List.mem_cons, decide_eq_true_eq, List.not_mem_nil, or_false]
      by_cases h1 : i ∈ vs <;> by_cases h2 : i = v <;> simp [h1, h2]
    rw [e] at h
    exact h
theorem put_wiped {tg : Tg} {ρ : En} {d : D} : tg.put (wipeE ρ tg.slots) d = tg.put ρ d := by
  cases tg with
  | one i =>
    show (if i < (ρ.set i Sl.un).length then some ((ρ.set i Sl.un).set i (.sh d)) else none) = if i < ρ.length then some (ρ.set i (.sh d)) else none
    rw [List.length_set, List.set_set]
  | two i j =>
    unfold Tg.put
    simp only [Tg.slots, wipeE, List.length_set]
    split
    · split
      · rename_i h
        rw [List.set_set, List.set_comm _ _ h.2.2, List.set_set, List.set_comm _ _ (Ne.symm h.2.2)]
      · rfl
    · rfl
theorem free_drop {S : Addr → Prop} {A : Nat → Option Addr} {ρ : En} {σ : L2.St} {H : Hp} {tg : Tg} (E : EnvOk W S A ρ σ H) (h : tg.free ρ = true) : dropA A tg.slots = A := by
  funext i
  unfold dropA
  split
  · rename_i hi
    have hi' : i ∈ tg.slots := by simpa using hi
    have := List.all_eq_true.mp h i hi'
    cases e : A i with
    | none => rfl
    | some a =>
      obtain ⟨_, _, h3⟩ := E.dom i a e
      rcases h3 with ⟨ds, h3⟩ | ⟨c, ds, h3⟩
      · rw [h3] at this; cases this
      · rw [h3] at this; cases this
  · rfl

/-! ### what is walked -/
def YOk (W : Wd) (B H' : Hp) (x : V) (H'' : Hp) (d : D) : Prop := (H'' = H' ∧ Rep W B x d) ∨ ∃ p x1 x2 d1 d2, x = .ref p ∧ H' p = none ∧ H'' = upd H' p (.tup [x1, x2]) ∧ d = .tup [d1, d2] ∧ Rep W B x1 d1 ∧ Rep W B x2 d2
def ItOk (W : Wd) (B : Hp) (J : L2.It) (its : List D) : Prop := ∀ H', Same B H' → (∀ (i : Nat) (d : D), its[i]? = some d → J.go i H' ∧ ∀ x H'', J.yld i H' x H'' → YOk W B H' x H'' d) ∧ J.stop its.length H'
theorem YOk.rep {B H' H'' : Hp} {x : V} {d : D} {S : Addr → Prop} {A : Nat → Option Addr} (y : YOk W B H' x H'' d) (t : Trk S A H') (s : Same B (Hh S A H')) : Same H' H'' ∧ Rep W (Hh S A H'') x d := by
  rcases y with ⟨rfl, r⟩ | ⟨p, x1, x2, d1, d2, rfl, hp, rfl, rfl, r1, r2⟩
  · exact ⟨Same.refl _, r.mono s⟩
  · have sp := same_upd (o := .tup [x1, x2]) hp
    exact ⟨sp, .tup (hh_new t hp) (.cons ((r1.mono s).mono (hh_mono sp)) (.cons ((r2.mono s).mono (hh_mono sp)) .nil))⟩
def SemI (W : Wd) (M : Nat → List D → Option D) (G : Nat → Int) (it : Wk) (src : ME) (wi : TI) : Prop := ∀ (S : Addr → Prop) (A : Nat → Option Addr) (ρ : En) (σ : L2.St) (H : Hp) (r : Res) (its : List D), EnvOk W S A ρ σ H → evE M G src ρ = some r → itemsD it r.1 = some its →
  ∀ R : L2.It → Hp → Prop, (∀ J H1, Same H H1 → ItOk W (Hh S (dropA A r.2) H1) J its → R J H1) → wi σ H R
abbrev PIs (W : Wd) (T : Tb) (M : Nat → List D → Option D) (G : Nat → Int) (k : Nat) (N : List Str) (sc : Scope) (fnb : Str → Bool) (it : Wk) (src : ME) (te iter : Expr) : Prop := ∃ wi, (∀ X, XOk W T M G k N sc fnb X → PI X te iter wi) ∧ SemI W M G it src wi
theorem getE {α : Type} {xs : List α} {i : Nat} {x y : α} (h : xs[i]? = some x) (h' : xs[i]? = some y) : x = y := Option.some.inj (h.symm.trans h')

theorem it_lst {src : ME} {te iter : Expr} (h : PEs W T M G k N sc fnb src iter) : PIs W T M G k N sc fnb .lst src te iter := by
  obtain ⟨t, h1, h2⟩ := h
  refine ⟨iList W.K t, fun X hX => by rw [← hX.K]; exact pi_list (h1 X hX), fun S A ρ σ H r its E hr hi R q => ?_⟩
  refine h2 S A ρ σ H r E hr _ fun v H1 R1 => ?_
  have r1 := R1.rep
  obtain ⟨d, L⟩ := r
  cases d <;> try (cases hi; done)
  cases hi
  cases r1 with
  | lst e r1 =>
    rename_i a xs
    refine ⟨a, rfl, ⟨xs, SqL.of (hh_same _ _ e)⟩, q _ H1 R1.same fun H' s => ⟨fun i d hd => ?_, xs, SqL.of (s _ _ e), by rw [r1.length]; exact Nat.le_refl _⟩⟩
    obtain ⟨x, e1, e2⟩ := r1.get hd
    refine ⟨⟨xs, x, SqL.of (s _ _ e), e1⟩, fun y H'' ⟨z1, z2⟩ => .inl ⟨z1, ?_⟩⟩
    rw [getE (z2 xs (SqL.of (s _ _ e))) e1]
    exact e2
theorem it_tup {src : ME} {te iter : Expr} (h : PEs W T M G k N sc fnb src iter) : PIs W T M G k N sc fnb .tup src te iter := by
  obtain ⟨t, h1, h2⟩ := h
  refine ⟨iTup W.K t, fun X hX => by rw [← hX.K]; exact pi_tup (h1 X hX), fun S A ρ σ H r its E hr hi R q => ?_⟩
  refine h2 S A ρ σ H r E hr _ fun v H1 R1 => ?_
  have r1 := R1.rep
  obtain ⟨d, L⟩ := r
  cases d <;> try (cases hi; done)
  cases hi
  cases r1 with
  | tup e r1 =>
    rename_i a xs
    refine ⟨a, rfl, ⟨xs, SqT.of (hh_same _ _ e)⟩, q _ H1 R1.same fun H' s => ⟨fun i d hd => ?_, xs, SqT.of (s _ _ e), by rw [r1.length]; exact Nat.le_refl _⟩⟩
    obtain ⟨x, e1, e2⟩ := r1.get hd
    refine ⟨⟨xs, x, SqT.of (s _ _ e), e1⟩, fun y H'' ⟨z1, z2⟩ => .inl ⟨z1, ?_⟩⟩
    rw [getE (z2 xs (SqT.of (s _ _ e))) e1]
    exact e2
theorem rg_get {lo : Int} {n i : Nat} {d : D} (h : (rgD lo n)[i]? = some d) : i < n ∧ d = .int (lo + (i : Int)) := by
  unfold rgD at h
  rw [List.getElem?_map] at h
  by_cases hi : i < n
  · rw [List.getElem?_range hi] at h
    cases h
    exact ⟨hi, rfl⟩
  · rw [List.getElem?_eq_none (by rw [List.length_range]; omega)] at h
    cases h
theorem rg_len {lo : Int} {n : Nat} : (rgD lo n).length = n := by
  unfold rgD
  rw [List.length_map, List.length_range]
theorem rg_it {B : Hp} {lo : Int} {n : Nat} : ItOk W B (Itr lo n) (rgD lo n) := fun H' s => by
  refine ⟨fun i d hd => ?_, ?_⟩
  · obtain ⟨h1, rfl⟩ := rg_get hd
    refine ⟨h1, fun x H'' ⟨z1, z2⟩ => .inl ⟨z1, ?_⟩⟩
    rw [z2]
    exact .int _
  · show n ≤ (rgD lo n).length
    rw [rg_len]
    exact Nat.le_refl _
theorem okR_of {i : Int} (h : okR i = true) : -(2 ^ 62) ≤ i ∧ i < 2 ^ 62 := by
  unfold okR at h
  simpa only [Bool.and_eq_true, decide_eq_true_eq] using h
theorem star1 {y : Expr} {env : Env} (h : starB y = false) : starEach [y] env = [(false, eval y env)] := star_cons (es := []) h
theorem star2 {y z : Expr} {env : Env} (h : starB y = false) (h2 : starB z = false) : starEach [y, z] env = [(false, eval y env), (false, eval z env)] := by
  rw [star_cons (es := [z]) h, star1 h2]
theorem it_rg1 {src : ME} {te y : Expr} {p pos : Pos} (hg : glB sc "range" = true) (hs : starB y = false) (h : PAs W T M G k N sc fnb src [y]) : PIs W T M G k N sc fnb .rg1 src te (.Call (.Name "range" p) [y] [] pos) := by
  obtain ⟨t, h1, h2⟩ := h
  refine ⟨iRng1 t, fun X hX => pi_range1 (gl_of _ hX hg) (blt_of hX _ (by simp)) (h1 X hX) (star1 hs), fun S A ρ σ H r its E hr hi R q => ?_⟩
  obtain ⟨ds, e1, hA⟩ := h2 S A ρ σ H r E hr
  refine hA _ fun vs H1 s1 r1 => ?_
  rw [e1] at hi
  replace hi : itRg1 (.tup ds) = some its := hi
  unfold itRg1 at hi
  split at hi <;> try (cases hi; done)
  · rename_i j e
    cases e
    split at hi
    · rename_i ho
      cases hi
      obtain ⟨v, rfl, r2⟩ := r1.one
      cases r2
      obtain ⟨o1, o2⟩ := okR_of ho
      exact ⟨j, rfl, o1, o2, q _ H1 s1 rg_it⟩
    · cases hi
theorem it_rg2 {src : ME} {te y z : Expr} {p pos : Pos} (hg : glB sc "range" = true) (hs : starB y = false) (hs2 : starB z = false) (h : PAs W T M G k N sc fnb src [y, z]) : PIs W T M G k N sc fnb .rg2 src te (.Call (.Name "range" p) [y, z] [] pos) := by
  obtain ⟨t, h1, h2⟩ := h
  refine ⟨iRng2 t, fun X hX => pi_range2 (gl_of _ hX hg) (blt_of hX _ (by simp)) (h1 X hX) (star2 hs hs2) (star1 hs2), fun S A ρ σ H r its E hr hi R q => ?_⟩
  obtain ⟨ds, e1, hA⟩ := h2 S A ρ σ H r E hr
  refine hA _ fun vs H1 s1 r1 => ?_
  rw [e1] at hi
  replace hi : itRg2 (.tup ds) = some its := hi
  unfold itRg2 at hi
  split at hi <;> try (cases hi; done)
  rename_i i j e
  cases e
  split at hi
  · rename_i ho
    cases hi
    obtain ⟨v, w, rfl, r2, r3⟩ := r1.two
    cases r2; cases r3
    obtain ⟨o1, o2⟩ := Bool.and_eq_true_iff.mp ho
    exact ⟨i, j, rfl, ⟨(okR_of o1).1, (okR_of o1).2, (okR_of o2).1, (okR_of o2).2⟩, q _ H1 s1 rg_it⟩
  · cases hi
theorem it_rev {src : ME} {te y : Expr} {p pos : Pos} (hg : glB sc "reversed" = true) (hs : starB y = false) (h : PAs W T M G k N sc fnb src [y]) : PIs W T M G k N sc fnb .rev src te (.Call (.Name "reversed" p) [y] [] pos) := by
  obtain ⟨t, h1, h2⟩ := h
  refine ⟨iRev W.K t, fun X hX => by rw [← hX.K]; exact pi_reversed (gl_of _ hX hg) (blt_of hX _ (by simp)) (h1 X hX) (star1 hs), fun S A ρ σ H r its E hr hi R q => ?_⟩
  obtain ⟨ds, e1, hA⟩ := h2 S A ρ σ H r E hr
  refine hA _ fun vs H1 s1 r1 => ?_
  rw [e1] at hi
  replace hi : itRev (.tup ds) = some its := hi
  unfold itRev at hi
  split at hi <;> try (cases hi; done)
  rename_i e
  cases e
  cases hi
  obtain ⟨v, rfl, r2⟩ := r1.one
  cases r2 with
  | lst e r2 =>
    rename_i zs a xs
    refine ⟨a, xs, rfl, SqL.of (hh_same _ _ e), q _ H1 s1 fun H' s => ⟨fun i d hd => ?_, ?_⟩⟩
    · have hi : i < zs.length := by
        have := (List.getElem?_eq_some_iff.mp hd).1
        rwa [List.length_reverse] at this
      rw [List.getElem?_reverse hi] at hd
      obtain ⟨x, e1, e2⟩ := r2.get hd
      have hl := r2.length
      rw [← hl] at e1
      refine ⟨⟨by rw [hl]; exact hi, xs, x, SqL.of (s _ _ e), e1⟩, fun y H'' ⟨z1, z2⟩ => .inl ⟨z1, ?_⟩⟩
      rw [getE (z2 xs (SqL.of (s _ _ e))) e1]
      exact e2
    · show xs.length ≤ zs.reverse.length
      rw [List.length_reverse, r2.length]
      exact Nat.le_refl _
theorem it_zip {src : ME} {y z : Expr} {p pos tpos : Pos} {elts : List Expr} {kk} (hg : glB sc "zip" = true) (hs : starB y = false) (hs2 : starB z = false) (h : PAs W T M G k N sc fnb src [y, z]) :
    PIs W T M G k N sc fnb .zip src (.Tuple elts kk tpos) (.Call (.Name "zip" p) [y, z] [] pos) := by
  obtain ⟨t, h1, h2⟩ := h
  refine ⟨iZip W.K t, fun X hX => by rw [← hX.K]; exact pi_zip (gl_of _ hX hg) (blt_of hX _ (by simp)) (h1 X hX) (star_cons hs) (by rw [star1 hs2]; rfl), fun S A ρ σ H r its E hr hi R q => ?_⟩
  obtain ⟨ds, e1, hA⟩ := h2 S A ρ σ H r E hr
  refine hA _ fun vs H1 s1 r1 => ?_
  rw [e1] at hi
  replace hi : itZip (.tup ds) = some its := hi
  unfold itZip at hi
  split at hi <;> try (cases hi; done)
  rename_i e
  cases e
  split at hi
  · rename_i us ws hl
    cases hi
    obtain ⟨v, w, rfl, r2, r3⟩ := r1.two
    cases r2 with
    | lst ea ra =>
      rename_i a xs
      cases r3 with
      | lst eb rb =>
        rename_i b ys
        refine ⟨a, b, xs, ys, rfl, SqL.of (hh_same _ _ ea), SqL.of (hh_same _ _ eb), q _ H1 s1 fun H' s => ⟨fun i d hd => ?_, xs, ys, SqL.of (s _ _ ea), SqL.of (s _ _ eb), .inl ?_⟩⟩
        · rw [List.getElem?_map] at hd
          cases hz : (us.zip ws)[i]? with
          | none => rw [hz] at hd; cases hd
          | some pr =>
            rw [hz] at hd
            cases hd
            obtain ⟨d1, d2⟩ := pr
            rw [List.getElem?_zip_eq_some] at hz
            obtain ⟨x, f1, f2⟩ := ra.get hz.1
            obtain ⟨y', g1, g2⟩ := rb.get hz.2
            refine ⟨⟨xs, ys, x, y', SqL.of (s _ _ ea), SqL.of (s _ _ eb), f1, g1⟩, fun u H'' ⟨p, x1, y1, z1, z2, z3, z4, z5⟩ => .inr ⟨p, x1, y1, d1, d2, z1, z2, z3, rfl, ?_, ?_⟩⟩
            · rw [getE (z4 xs (SqL.of (s _ _ ea))) f1]; exact f2
            · rw [getE (z5 ys (SqL.of (s _ _ eb))) g1]; exact g2
        · rw [List.length_map, List.length_zip, ra.length]
          omega
  · cases hi
end
end MN
end S_MnComp
section S_MnComp2
set_option maxRecDepth 100000
/-! A comprehension; all expressions. -/
namespace MN
open PySem PySem.Spec PyProof.Rows L2
section
variable {W : Wd} {T : Tb} {M : Nat → List D → Option D} {G : Nat → Int} {k : Nat} {N : List Str} {sc : Scope} {fnb : Str → Bool}

theorem xok_blk {X : Cx} (hX : XOk W T M G k N sc fnb X) (scope : Scope) (s : Shared) (H : Hp) (C : Addr) (cl : List (Str × Addr)) (fp : List Addr) :
    XOk W T M G k N (relS scope sc) (isCell scope) (X.blk s H scope (compEnvC scope cl C X.env) fp) where
  n := hX.n
  nd := hX.nd
  sc := by
    show relabel scope X.env = _
    rw [← hX.sc]
    rfl
  calm := hX.calm
  xe := rfl
  K := hX.K
  hr := hX.hr
  fb := fun x h => by
    show (scope.names.lookup x == some .cell) = true
    rw [isCell_eq h]
    rfl
  pg := hX.pg

/-- one item of a comprehension -/
def itemF (M : Nat → List D → Option D) (G : Nat → Int) (tg : Tg) (el cond : ME) (ρ : En) : D → Option (Option D) := fun d => (tg.put ρ d).bind fun ρ' => (evE M G cond ρ').bind fun c => (match c.1 with
      | .bl false => some none
      | .bl true => (evE M G el ρ').bind fun y => (clean y).bind fun z => some (some z)
      | .tup [] => (evE M G el ρ').bind fun y => (clean y).bind fun z => some (some z)
      | _ => none)
theorem evComp {e : ME} {tg : Tg} {it : Wk} {src cond : ME} {ρ : En} {r : Res} (h : evE M G (.comp e tg it src cond) ρ = some r) : ∃ x its ys, evE M G src ρ = some x ∧ itemsD it x.1 = some its ∧ tg.free ρ = true ∧
    compD (itemF M G tg e cond (ρ.frz x.2)) its = some ys ∧ its.length ≤ big ∧ r = (.lst ys, x.2) := by
  unfold evE at h
  obtain ⟨x, e1, h⟩ := Option.bind_eq_some_iff.mp h
  obtain ⟨its, e2, h⟩ := Option.bind_eq_some_iff.mp h
  split at h
  · cases h
  · rename_i hf
    obtain ⟨ys, e3, h⟩ := Option.bind_eq_some_iff.mp h
    split at h
    · rename_i hl
      cases h
      exact ⟨x, its, ys, e1, e2, by simpa using hf, e3, hl, rfl⟩
    · cases h
/-- the condition as a test -/
def SemC (W : Wd) (M : Nat → List D → Option D) (G : Nat → Int) (cond : ME) (tt : TT) : Prop := ∀ (S : Addr → Prop) (A : Nat → Option Addr) (ρ : En) (σ : L2.St) (H : Hp) (c : Res) (b : Bool), EnvOk W S A ρ σ H → evE M G cond ρ = some c → (c.1 = .bl b ∨ (c.1 = .tup [] ∧ b = true)) →
  ∀ Q : Bool → Hp → Prop, (∀ H', Same H H' → Q b H') → tt σ H Q
theorem itemF_some {tg : Tg} {el cond : ME} {ρ : En} {d : D} {o : Option D} (h : itemF M G tg el cond ρ d = some o) : ∃ ρ' c, tg.put ρ d = some ρ' ∧ evE M G cond ρ' = some c ∧
    ((o = none ∧ c.1 = .bl false) ∨ ∃ z, o = some z ∧ (c.1 = .bl true ∨ (c.1 = .tup [] ∧ true = true)) ∧ evE M G el ρ' = some (z, [])) := by
  unfold itemF at h
  obtain ⟨ρ', e1, h⟩ := Option.bind_eq_some_iff.mp h
  obtain ⟨c, e2, h⟩ := Option.bind_eq_some_iff.mp h
  refine ⟨ρ', c, e1, e2, ?_⟩
  have el_ : ∀ {o}, ((evE M G el ρ').bind fun y => (clean y).bind fun z => some (some z)) = some o → ∃ z, o = some z ∧ evE M G el ρ' = some (z, []) := by
    intro o h
    obtain ⟨y, e3, h⟩ := Option.bind_eq_some_iff.mp h
    obtain ⟨z, e4, h⟩ := Option.bind_eq_some_iff.mp h
    cases h
    refine ⟨z, rfl, ?_⟩
    unfold clean at e4
    obtain ⟨y1, y2⟩ := y
    cases y2 with
    | nil => cases e4; exact e3
    | cons _ _ => cases e4
  split at h
  · rename_i e
    cases h
    exact .inl ⟨rfl, e⟩
  · rename_i e
    obtain ⟨z, h1, h2⟩ := el_ h
    exact .inr ⟨z, h1, .inl e, h2⟩
  · rename_i e
    obtain ⟨z, h1, h2⟩ := el_ h
    exact .inr ⟨z, h1, .inr ⟨e, rfl⟩, h2⟩
  · cases h
theorem hh_updS {S : Addr → Prop} {A : Nat → Option Addr} {H : Hp} {a : Addr} {o : HO} (h : S a) : Hh S A (upd H a o) = Hh S A H := by
  funext b
  unfold Hh
  by_cases e : b = a
  · subst e
    rw [if_pos (.inl h), if_pos (.inl h)]
  · rw [upd_ne e]
theorem wipe_idem {σ : L2.St} : ∀ {vs : List Nat}, wipe (wipe σ vs) vs = wipe σ vs := by
  intro vs
  apply List.ext_getElem?
  intro i
  have key : ∀ (us : List Nat) (τ : L2.St) (i : Nat), (wipe τ us)[i]? = if i ∈ us ∧ i < τ.length then some none else τ[i]? := by
    intro us
    induction us with
    | nil => intro τ i; simp [wipe]
    | cons v us ih =>
      intro τ i
      show ((wipe τ us).set v none)[i]? = _
      by_cases hv : v = i
      · subst hv
        by_cases hl : v < τ.length
        · rw [List.getElem?_set_self (by rw [wipe_length]; exact hl), if_pos ⟨List.mem_cons_self .., hl⟩]
        · rw [List.getElem?_eq_none (by rw [List.length_set, wipe_length]; omega), if_neg (fun z => hl z.2), List.getElem?_eq_none (by omega)]
      · rw [List.getElem?_set_ne hv, ih]
        have : (i ∈ v :: us ∧ i < τ.length) ↔ (i ∈ us ∧ i < τ.length) := by
          simp only [List.mem_cons]
          constructor
          · rintro ⟨h1 | h1, h2⟩
            · exact absurd h1.symm hv
            · exact ⟨h1, h2⟩
          · rintro ⟨h1, h2⟩
            exact ⟨.inr h1, h2⟩
        simp only [this]
  rw [key vs (wipe σ vs) i, wipe_length]
  by_cases h : i ∈ vs ∧ i < σ.length
  · rw [if_pos h, key vs σ i, if_pos h]
  · rw [if_neg h]
theorem compD_drop {f : D → Option (Option D)} {its : List D} {i : Nat} {d : D} {zs : List D} (hd : its[i]? = some d) (h : compD f (its.drop i) = some zs) : ∃ o zs', f d = some o ∧ compD f (its.drop (i + 1)) = some zs' ∧ zs = (match o with
    | some y => y :: zs'
    | none => zs') := by
  obtain ⟨hi, e⟩ := List.getElem?_eq_some_iff.mp hd
  rw [List.drop_eq_getElem_cons hi, e] at h
  unfold compD at h
  obtain ⟨o, e1, h⟩ := Option.bind_eq_some_iff.mp h
  obtain ⟨zs', e2, h⟩ := Option.bind_eq_some_iff.mp h
  cases h
  exact ⟨o, zs', e1, e2, rfl⟩

theorem sem_comp {el : ME} {tg : Tg} {it : Wk} {src cond : ME} {wi : TI} {g : TG} {tt : TT} {te : TE} (hi : SemI W M G it src wi) (hg : SemG W tg g) (hc : SemC W M G cond tt) (he : SemE W M G el te) :
    SemE W M G (.comp el tg it src cond) (tLc wi g tt te tg.slots) := by
  intro S A ρ σ H0 r E hr Q q
  obtain ⟨x, its, ys, e1, e2, hfree, e3, hlen, rfl⟩ := evComp hr
  refine hi S A ρ σ H0 x its E e1 e2 _ fun J H1 s1 hJ => ?_
  have E1 := (E.same s1).frz x.2
  have hfree1 : tg.free (ρ.frz x.2) = true := by
    unfold Tg.free at hfree ⊢
    rw [List.all_eq_true] at hfree ⊢
    intro i hi'
    have := hfree i hi'
    rw [frz_get]
    cases hq : ρ[i]? with
    | none => rfl
    | some sl =>
      rw [hq] at this
      cases sl with
      | un => by_cases h : i ∈ x.2 <;> simp [h, Sl.frz]
      | sh d => by_cases h : i ∈ x.2 <;> simp [h, Sl.frz]
      | ow ds => cases this
      | ob c ds => cases this
  intro D hD
  let S' : Addr → Prop := fun b => S b ∨ b = D
  have t1 := E1.trk
  have hSD : ¬ S D := fun z => t1.s D z hD
  have sExt : ∀ {H : Hp}, Same H1 H → Same (Hh S (dropA A x.2) H1) (Hh S' (dropA A x.2) H) := fun {H} s => hh_ext s fun b z => by
    rcases z with z | z
    · exact .inl z
    · exact .inr (by rw [z]; exact hD)
  refine ⟨fun i m H => m = its.length - i ∧ i ≤ its.length ∧ ∃ acc zs zs2, H D = some (.lst acc) ∧ Same H1 H ∧ RepAll W (Hh S' (dropA A x.2) H) acc zs ∧ compD (itemF M G tg el cond (ρ.frz x.2)) (its.drop i) = some zs2 ∧ ys = zs ++ zs2 ∧ zs.length ≤ i, ⟨its.length, ?_⟩, ?_⟩
  · exact ⟨by simp, Nat.zero_le _, [], [], ys, upd_same, same_upd hD, .nil, by simpa using e3, by simp, Nat.le_refl _⟩
  · rintro i m H ⟨rfl, hil, acc, zs, zs2, hHD, sH, hacc, hcomp, hys, hzl⟩
    obtain ⟨hgo, hstop⟩ := hJ H (hh_same.trans sH)
    by_cases hlt : i < its.length
    · have hd : its[i]? = some its[i] := by simp [hlt]
      obtain ⟨go, yl⟩ := hgo i _ hd
      obtain ⟨o, zs', f1, f2, f3⟩ := compD_drop hd hcomp
      refine .inr ⟨go, fun H' => i + 1 ≤ its.length ∧ ∃ acc zs zs2, H' D = some (.lst acc) ∧ Same H1 H' ∧ RepAll W (Hh S' (dropA A x.2) H') acc zs ∧ compD (itemF M G tg el cond (ρ.frz x.2)) (its.drop (i + 1)) = some zs2 ∧ ys = zs ++ zs2 ∧ zs.length ≤ i + 1,
        fun H' h => ⟨its.length - (i + 1), by omega, rfl, h.1, h.2⟩, fun v H' hy => ?_⟩
      have E2 : EnvOk W S' (dropA A x.2) (ρ.frz x.2) σ H := E1.grow sH (fun b z => by
        rcases z with z | z
        · exact .inl z
        · exact .inr (by rw [z]; exact hD)) (fun b z => by
        rcases z with z | z
        · exact nn_same sH (t1.s b z)
        · rw [z, hHD]; intro q; cases q)
      obtain ⟨sy, ry⟩ := (yl v H' hy).rep E2.trk (sExt sH)
      have E3 := E2.same sy
      have E4 := E3.wipes tg.slots
      obtain ⟨ρ', c, g1, g2, g3⟩ := itemF_some f1
      have hdrop : dropA (dropA A x.2) tg.slots = dropA A x.2 := free_drop E3 hfree1
      rw [hdrop] at E4
      refine hg S' (dropA A x.2) (wipeE (ρ.frz x.2) tg.slots) (wipe σ tg.slots) H' v _ ρ' E4 ry (by rw [put_wiped]; exact g1) _ fun σ2 E5 hw => ?_
      rw [hdrop] at E5
      refine ⟨by rw [hw]; exact wipe_idem, ?_⟩
      have sH' : Same H1 H' := sH.trans sy
      rcases g3 with ⟨rfl, g4⟩ | ⟨z, rfl, g4, g5⟩
      · refine hc S' (dropA A x.2) ρ' σ2 H' c false E5 g2 (.inl g4) _ fun H3 s3 => ?_
        rw [if_neg (by simp)]
        refine ⟨hlt, acc, zs, zs', s3 _ _ (sy _ _ hHD), sH'.trans s3, hacc.mono (hh_mono (sy.trans s3)), f2, ?_, by omega⟩
        rw [hys, f3]
      · refine hc S' (dropA A x.2) ρ' σ2 H' c true E5 g2 (by rcases g4 with h | ⟨h, _⟩; exact .inl h; exact .inr ⟨h, rfl⟩) _ fun H3 s3 => ?_
        rw [if_pos rfl]
        refine he S' (dropA A x.2) ρ' σ2 H3 (z, []) (E5.same s3) g5 _ fun u H4 R4 => ?_
        have rz := R4.rep
        rw [dropA_nil] at rz
        have s4 := R4.same
        have hacc4 := hacc.mono (hh_mono ((sy.trans s3).trans s4))
        refine ⟨acc, s4 _ _ (s3 _ _ (sy _ _ hHD)), ?_, hlt, acc ++ [u], zs ++ [z], zs', upd_same, ?_, ?_, f2, ?_, ?_⟩
        · rw [hacc.length, sizeLine_eq]
          unfold big at hlen
          omega
        · intro b o' e
          rw [upd_ne (ne_of_none e hD)]
          exact s4 _ _ (s3 _ _ (sH' _ _ e))
        · rw [hh_updS (.inr rfl)]
          exact hacc4.append (.cons rz .nil)
        · rw [hys, f3]
          simp
        · rw [List.length_append]
          simp
          omega
    · have hi' : i = its.length := by omega
      subst hi'
      refine .inl ⟨hstop, q _ H ⟨s1.trans sH, ?_, fun _ ds e => ?_⟩⟩
      · have hz : zs2 = [] := by
          rw [List.drop_length] at hcomp
          cases hcomp
          rfl
        subst hz
        rw [List.append_nil] at hys
        subst hys
        refine .lst (hh_some.mpr ⟨hSD, fun j z => t1.a j D z hD, hHD⟩) (hacc.mono fun b o e => ?_)
        obtain ⟨h1, h2, h3⟩ := hh_some.mp e
        exact hh_some.mpr ⟨fun z => h1 (.inl z), h2, h3⟩
      · have hz : zs2 = [] := by
          rw [List.drop_length] at hcomp
          cases hcomp
          rfl
        subst hz
        rw [List.append_nil] at hys
        subst hys
        cases e
        exact ⟨D, acc, rfl, s1.free hD, hHD, hacc⟩

/-- the check of a comprehension's parts -/
theorem cond_of {cond : ME} {ifs : List Expr} (h : (ifs = [] ∧ isNilB cond = true) ∨ ∃ ie, ifs = [ie] ∧ PTs_ W T M G k N sc fnb cond ie ∧ isNilB cond = false ∧ ∀ ρ r, evE M G cond ρ = some r → r.1 ≠ .tup []) :
    ∃ tt, (∀ X, XOk W T M G k N sc fnb X → L2.PTs X ifs tt) ∧ SemC W M G cond tt := by
  rcases h with ⟨rfl, h⟩ | ⟨ie, rfl, ⟨t, h1, h2⟩, hn, hq⟩
  · refine ⟨tYes, fun X _ => pts_nil, fun S A ρ σ H c b E hc hb Q q => ?_⟩
    cases cond <;> try (cases h; done)
    cases hc
    rcases hb with hb | ⟨_, rfl⟩
    · cases hb
    · exact q H (Same.refl _)
  · refine ⟨t, fun X hX => pts_one (h1 X hX), fun S A ρ σ H c b E hc hb Q q => ?_⟩
    rcases hb with hb | ⟨hb, _⟩
    · exact h2 S A ρ σ H c b E hc hb Q q
    · exact absurd hb (hq ρ c hc)
end
end MN
end S_MnComp2
section S_MnAll
set_option maxRecDepth 100000
/-! All expressions. -/
namespace MN
open PySem PySem.Spec PyProof.Rows L2
section
variable {W : Wd} {T : Tb} {M : Nat → List D → Option D} {G : Nat → Int} {k : Nat}

theorem boolF_bl {m : ME} (h : boolF m = true) {ρ : En} {r : Res} (e : evE M G m ρ = some r) : r.1 ≠ .tup [] := by
  cases m <;> try (cases h; done)
  · unfold evE at e
    obtain ⟨u, _, e⟩ := Option.bind_eq_some_iff.mp e
    obtain ⟨w, _, e⟩ := Option.bind_eq_some_iff.mp e
    obtain ⟨z, _, e⟩ := Option.bind_eq_some_iff.mp e
    cases e
    intro z; cases z
  · unfold evE at e
    obtain ⟨u, _, e⟩ := Option.bind_eq_some_iff.mp e
    obtain ⟨w, _, e⟩ := Option.bind_eq_some_iff.mp e
    obtain ⟨z, _, e⟩ := Option.bind_eq_some_iff.mp e
    split at e
    · obtain ⟨w, _, e⟩ := Option.bind_eq_some_iff.mp e
      obtain ⟨z, _, e⟩ := Option.bind_eq_some_iff.mp e
      cases e
      intro z; cases z
    · cases e
      intro z; cases z
  · obtain ⟨x, _, h | ⟨_, y, k, _, _, h⟩⟩ := evAnd e
    · rw [h.2]; intro z; cases z
    · rw [h]; intro z; cases z
  · obtain ⟨x, _, h | ⟨_, y, k, _, _, h⟩⟩ := evOr e
    · rw [h.2]; intro z; cases z
    · rw [h]; intro z; cases z
  · obtain ⟨x, _, h | ⟨_, y, k, _, _, h⟩⟩ := evOr (evOr3 e)
    · rw [h.2]; intro z; cases z
    · rw [h]; intro z; cases z
  · obtain ⟨x, k, _, _, h⟩ := evNot e
    rw [h]; intro z; cases z

abbrev Snd (W : Wd) (T : Tb) (M : Nat → List D → Option D) (G : Nat → Int) (k : Nat) (m : ME) : Prop := ∀ (N : List Str) (sc : Scope) (fnb : Str → Bool),
  (∀ e, chkE T N m sc fnb e = true → PEs W T M G k N sc fnb m e ∧ ((boolF m || plainT e) = true → PTs_ W T M G k N sc fnb m e)) ∧ (∀ es, chkA T N m sc fnb es = true → PAs W T M G k N sc fnb m es)
theorem plain_only {N : List Str} {sc : Scope} {fnb : Str → Bool} {m : ME} {e : Expr} (hb : boolF m = false) (h : PEs W T M G k N sc fnb m e) : PEs W T M G k N sc fnb m e ∧ ((boolF m || plainT e) = true → PTs_ W T M G k N sc fnb m e) :=
  ⟨h, fun p => test_of h (by rw [hb, Bool.false_or] at p; exact p)⟩
theorem comp_parts {N : List Str} {sc : Scope} {fnb : Str → Bool} {el src cond : ME} {tg : Tg} {it : Wk} {elt te iter : Expr} {ifs : List Expr} {scope : Scope} {pos : Pos} (ihe : Snd W T M G k el) (ihs : Snd W T M G k src) (ihc : Snd W T M G k cond)
    (h : chkE T N (.comp el tg it src cond) sc fnb (.ListComp elt [⟨te, iter, ifs, 0⟩] scope pos) = true) :
    ∃ wi g tt t, (∀ X, XOk W T M G k N sc fnb X → PI X te iter wi ∧ BlkOk X.N X.env.scope scope (ownOf tg te) ∧
      (∀ (s : Shared) (H : Hp) (C : Addr) (cl : List (Str × Addr)) (fp : List Addr), PG (X.blk s H scope (compEnvC scope cl C X.env) fp) te g) ∧
      (∀ (s : Shared) (H : Hp) (C : Addr) (cl : List (Str × Addr)) (fp : List Addr), L2.PTs (X.blk s H scope (compEnvC scope cl C X.env) fp) ifs tt) ∧
      (∀ (s : Shared) (H : Hp) (C : Addr) (cl : List (Str × Addr)) (fp : List Addr), PE (X.blk s H scope (compEnvC scope cl C X.env) fp) elt t) ∧
      (∀ x, foldedSetIterable iter X.env x = pure x)) ∧ SemE W M G (.comp el tg it src cond) (tLc wi g tt t ((ownOf tg te).map (·.2))) := by
  unfold chkE at h
  simp only [Bool.and_eq_true] at h
  obtain ⟨h1, h2, h3, h4, h5, h6⟩ := h
  have hI : PIs W T M G k N sc fnb it src te iter := by
    split at h1
    · exact it_lst ((ihs N sc fnb).1 _ h1).1
    · exact it_tup ((ihs N sc fnb).1 _ h1).1
    · simp only [Bool.and_eq_true, decide_eq_true_eq] at h1
      obtain ⟨rfl, g1, g2⟩ := h1
      exact it_rg1 g1 (chkA_star g2 _ (by simp)) ((ihs N sc fnb).2 _ g2)
    · simp only [Bool.and_eq_true, decide_eq_true_eq] at h1
      obtain ⟨rfl, g1, g2⟩ := h1
      exact it_rg2 g1 (chkA_star g2 _ (by simp)) (chkA_star g2 _ (by simp)) ((ihs N sc fnb).2 _ g2)
    · simp only [Bool.and_eq_true, decide_eq_true_eq] at h1
      obtain ⟨rfl, g1, g2⟩ := h1
      exact it_rev g1 (chkA_star g2 _ (by simp)) ((ihs N sc fnb).2 _ g2)
    · simp only [Bool.and_eq_true, decide_eq_true_eq, Bool.not_eq_true'] at h1
      obtain ⟨rfl, g1, g2, g3⟩ := h1
      cases te <;> first | (cases g3; done) | skip
      exact it_zip g1 (chkA_star g2 _ (by simp)) (chkA_star g2 _ (by simp)) ((ihs N sc fnb).2 _ g2)
    · cases h1
  obtain ⟨wi, i1, i2⟩ := hI
  obtain ⟨g, g1, g2, g3⟩ := tgt_of (W := W) (T := T) (M := M) (G := G) (k := k) h4
  obtain ⟨t, t1, t2⟩ := ((ihe N (relS scope sc) (isCell scope)).1 _ h5).1
  obtain ⟨tt, c1, c2⟩ : ∃ tt, (∀ X, XOk W T M G k N (relS scope sc) (isCell scope) X → L2.PTs X ifs tt) ∧ SemC W M G cond tt := by
    refine cond_of ?_
    split at h6
    · exact .inl ⟨rfl, h6⟩
    · simp only [Bool.and_eq_true] at h6
      refine .inr ⟨_, rfl, ((ihc N (relS scope sc) (isCell scope)).1 _ h6.1).2 (by rw [h6.2]; rfl), ?_, fun ρ r e => boolF_bl h6.2 e⟩
      cases cond <;> first | rfl | (have := h6.2; cases this)
    · cases h6
  refine ⟨wi, g, tt, t, fun X hX => ⟨i1 X hX, ?_, fun s H C cl fp => g1 _ (xok_blk hX scope s H C cl fp), fun s H C cl fp => c1 _ (xok_blk hX scope s H C cl fp), fun s H C cl fp => t1 _ (xok_blk hX scope s H C cl fp), fun x => set_of h2 x⟩, ?_⟩
  · rw [hX.n, hX.sc]
    exact blkOk_by h3
  · rw [g3]
    exact sem_comp i2 g2 c2 t2
theorem snd_all (HM : MOk W T M) (m : ME) : Snd W T M G k m := by
  induction m with
  | nm i => exact fun N sc fnb => ⟨fun e h => plain_only rfl (snd_nm h), fun es h => by unfold chkA at h; cases h⟩
  | glb g => exact fun N sc fnb => ⟨fun e h => plain_only rfl (snd_glb h), fun es h => by unfold chkA at h; cases h⟩
  | int i => exact fun N sc fnb => ⟨fun e h => plain_only rfl (snd_int h), fun es h => by unfold chkA at h; cases h⟩
  | neg i => exact fun N sc fnb => ⟨fun e h => plain_only rfl (snd_neg h), fun es h => by unfold chkA at h; cases h⟩
  | bl b => exact fun N sc fnb => ⟨fun e h => plain_only rfl (snd_bl h), fun es h => by unfold chkA at h; cases h⟩
  | non => exact fun N sc fnb => ⟨fun e h => plain_only rfl (snd_non h), fun es h => by unfold chkA at h; cases h⟩
  | bin op a b iha ihb =>
    refine fun N sc fnb => ⟨fun e h => plain_only rfl ?_, fun es h => by unfold chkA at h; cases h⟩
    unfold chkE at h
    split at h
    · simp only [Bool.and_eq_true] at h
      rw [opB_eq h.1]
      exact snd_bin ((iha N sc fnb).1 _ h.2.1).1 ((ihb N sc fnb).1 _ h.2.2).1
    · cases h
  | cmp op a b iha ihb =>
    refine fun N sc fnb => ⟨fun e h => ?_, fun es h => by unfold chkA at h; cases h⟩
    unfold chkE at h
    split at h
    · simp only [Bool.and_eq_true, Bool.not_eq_true'] at h
      have e1 := copB_eq h.1
      subst e1
      obtain ⟨h1, h2⟩ := snd_cmp (pos := by assumption) ((iha N sc fnb).1 _ h.2.1).1 ((ihb N sc fnb).1 _ h.2.2.1).1 h.2.2.2
      exact ⟨h1, fun _ => h2⟩
    · cases h
  | chain op op' a b c iha ihb ihc =>
    refine fun N sc fnb => ⟨fun e h => ?_, fun es h => by unfold chkA at h; cases h⟩
    unfold chkE at h
    split at h
    · simp only [Bool.and_eq_true, Bool.not_eq_true'] at h
      have e1 := copB_eq h.1
      have e2 := copB_eq h.2.1
      subst e1
      subst e2
      obtain ⟨h1, h2⟩ := snd_chain (pos := by assumption) ((iha N sc fnb).1 _ h.2.2.1).1 ((ihb N sc fnb).1 _ h.2.2.2.1).1 ((ihc N sc fnb).1 _ h.2.2.2.2.1).1 h.2.2.2.2.2.1 h.2.2.2.2.2.2
      exact ⟨h1, fun _ => h2⟩
    · cases h
  | and a b iha ihb =>
    refine fun N sc fnb => ⟨fun e h => ?_, fun es h => by unfold chkA at h; cases h⟩
    unfold chkE at h
    split at h
    · simp only [Bool.and_eq_true] at h
      obtain ⟨a1, a2⟩ := (iha N sc fnb).1 _ h.1
      obtain ⟨b1, b2⟩ := (ihb N sc fnb).1 _ h.2.1
      exact ⟨snd_and a1 b1, fun _ => snd_andT (a2 h.2.2.1) (b2 h.2.2.2)⟩
    · cases h
  | or a b iha ihb =>
    refine fun N sc fnb => ⟨fun e h => ?_, fun es h => by unfold chkA at h; cases h⟩
    unfold chkE at h
    split at h
    · simp only [Bool.and_eq_true] at h
      obtain ⟨a1, a2⟩ := (iha N sc fnb).1 _ h.1
      obtain ⟨b1, b2⟩ := (ihb N sc fnb).1 _ h.2.1
      exact ⟨snd_or a1 b1, fun _ => snd_orT (a2 h.2.2.1) (b2 h.2.2.2)⟩
    · cases h
  | or3 a b c iha ihb ihc =>
    refine fun N sc fnb => ⟨fun e h => ?_, fun es h => by unfold chkA at h; cases h⟩
    unfold chkE at h
    split at h
    · simp only [Bool.and_eq_true] at h
      obtain ⟨a1, a2⟩ := (iha N sc fnb).1 _ h.1
      obtain ⟨b1, b2⟩ := (ihb N sc fnb).1 _ h.2.1
      obtain ⟨c1, c2⟩ := (ihc N sc fnb).1 _ h.2.2.1
      exact ⟨snd_or3 a1 b1 c1, fun _ => snd_or3T (a2 h.2.2.2.1) (b2 h.2.2.2.2.1) (c2 h.2.2.2.2.2)⟩
    · cases h
  | not a iha =>
    refine fun N sc fnb => ⟨fun e h => ?_, fun es h => by unfold chkA at h; cases h⟩
    unfold chkE at h
    split at h
    · simp only [Bool.and_eq_true] at h
      obtain ⟨a1, a2⟩ := (iha N sc fnb).1 _ h.1
      exact ⟨snd_not a1, fun _ => snd_notT (a2 h.2)⟩
    · cases h
  | call f as ih =>
    refine fun N sc fnb => ⟨fun e h => plain_only rfl ?_, fun es h => by unfold chkA at h; cases h⟩
    unfold chkE at h
    split at h
    · simp only [Bool.and_eq_true, decide_eq_true_eq] at h
      obtain ⟨h1, h2, h3, h4, h5⟩ := h
      subst h1
      exact snd_call h2 h3 h4 (chkA_star h5) ((ih N sc fnb).2 _ h5)
    · cases h
  | mk f as ih =>
    refine fun N sc fnb => ⟨fun e h => plain_only rfl ?_, fun es h => by unfold chkA at h; cases h⟩
    unfold chkE at h
    split at h
    · simp only [Bool.and_eq_true, decide_eq_true_eq] at h
      obtain ⟨h1, h2, h3, h4, h5⟩ := h
      subst h1
      exact snd_mk HM h2 h3 h4 (chkA_star h5) ((ih N sc fnb).2 _ h5)
    · cases h
  | meth f o as iho ih =>
    refine fun N sc fnb => ⟨fun e h => plain_only rfl ?_, fun es h => by unfold chkA at h; cases h⟩
    unfold chkE at h
    split at h
    · simp only [Bool.and_eq_true, decide_eq_true_eq, Bool.not_eq_true'] at h
      obtain ⟨h1, h2, h3, h4, h5, h6, h7, h8⟩ := h
      subst h1
      exact snd_meth HM h2 h4 h5 h6 h7 (chkA_star h8) ((iho N sc fnb).1 _ h3).1 ((ih N sc fnb).2 _ h8)
    · cases h
  | meth0 f o iho =>
    refine fun N sc fnb => ⟨fun e h => plain_only rfl ?_, fun es h => by unfold chkA at h; cases h⟩
    unfold chkE at h
    split at h
    · simp only [Bool.and_eq_true, decide_eq_true_eq, Bool.not_eq_true'] at h
      obtain ⟨h1, h2, h3, h4, h5, h7⟩ := h
      subst h1
      exact snd_meth0 HM h2 h4 h5 h7 ((iho N sc fnb).1 _ h3).1
    · cases h
  | prop f o iho =>
    refine fun N sc fnb => ⟨fun e h => plain_only rfl ?_, fun es h => by unfold chkA at h; cases h⟩
    unfold chkE at h
    split at h
    · simp only [Bool.and_eq_true, decide_eq_true_eq] at h
      obtain ⟨h1, h2, h3, h4⟩ := h
      subst h1
      exact snd_prop HM h2 h4 ((iho N sc fnb).1 _ h3).1
    · cases h
  | bi b as ih =>
    refine fun N sc fnb => ⟨fun e h => plain_only rfl ?_, fun es h => by unfold chkA at h; cases h⟩
    unfold chkE at h
    split at h
    · simp only [Bool.and_eq_true, decide_eq_true_eq] at h
      obtain ⟨h1, h2, h3⟩ := h
      subst h1
      exact snd_bi h2 (chkA_star h3) ((ih N sc fnb).2 _ h3)
    · cases h
  | isI a ih =>
    refine fun N sc fnb => ⟨fun e h => plain_only rfl ?_, fun es h => by unfold chkA at h; cases h⟩
    unfold chkE at h
    split at h
    · simp only [Bool.and_eq_true, decide_eq_true_eq, Bool.not_eq_true'] at h
      obtain ⟨h1, h2, h3, h4, h5, h6⟩ := h
      subst h1; subst h2
      exact snd_is (n := "int") (.inl ⟨rfl, rfl, rfl⟩) h3 h4 h6 ((ih N sc fnb).1 _ h5).1
    · cases h
  | isB a ih =>
    refine fun N sc fnb => ⟨fun e h => plain_only rfl ?_, fun es h => by unfold chkA at h; cases h⟩
    unfold chkE at h
    split at h
    · simp only [Bool.and_eq_true, decide_eq_true_eq, Bool.not_eq_true'] at h
      obtain ⟨h1, h2, h3, h4, h5, h6⟩ := h
      subst h1; subst h2
      exact snd_is (n := "bool") (.inr ⟨rfl, rfl, rfl⟩) h3 h4 h6 ((ih N sc fnb).1 _ h5).1
    · cases h
  | lset a ih =>
    refine fun N sc fnb => ⟨fun e h => plain_only rfl ?_, fun es h => by unfold chkA at h; cases h⟩
    unfold chkE at h
    split at h
    · simp only [Bool.and_eq_true, decide_eq_true_eq, Bool.not_eq_true'] at h
      obtain ⟨h1, h2, h3, h4, h5, h6⟩ := h
      subst h1; subst h2
      exact snd_lset h3 h4 h6 ((ih N sc fnb).1 _ h5).1
    · cases h
  | lrg a ih =>
    refine fun N sc fnb => ⟨fun e h => plain_only rfl ?_, fun es h => by unfold chkA at h; cases h⟩
    unfold chkE at h
    split at h
    · simp only [Bool.and_eq_true, decide_eq_true_eq, Bool.not_eq_true'] at h
      obtain ⟨h1, h2, h3, h4, h5, h6⟩ := h
      subst h1; subst h2
      exact snd_lrg h3 h4 h6 ((ih N sc fnb).1 _ h5).1
    · cases h
  | idx a x iha ihx =>
    refine fun N sc fnb => ⟨fun e h => plain_only rfl ?_, fun es h => by unfold chkA at h; cases h⟩
    unfold chkE at h
    split at h
    · simp only [Bool.and_eq_true, decide_eq_true_eq, Bool.not_eq_true'] at h
      obtain ⟨h1, h2, h3, h4, h5, h6⟩ := h
      subst h1
      exact snd_idx h3 h4 h6 ((iha N sc fnb).1 _ h2).1 ((ihx N sc fnb).1 _ h5).1
    · cases h
  | fld c kk o ih =>
    refine fun N sc fnb => ⟨fun e h => plain_only rfl ?_, fun es h => by unfold chkA at h; cases h⟩
    unfold chkE at h
    split at h
    · simp only [Bool.and_eq_true, decide_eq_true_eq] at h
      obtain ⟨h1, h2, h3, h4⟩ := h
      by_cases ho : ∃ i, o = .nm i
      · obtain ⟨i, rfl⟩ := ho
        exact snd_fld HM h1 h2 h4 h3 (snd_nm h3)
      · exact snd_fld HM h1 h2 h4 h3 ((ih N sc fnb).1 _ h3).1
    · cases h
  | sub a i iha ihi =>
    refine fun N sc fnb => ⟨fun e h => plain_only rfl ?_, fun es h => by unfold chkA at h; cases h⟩
    unfold chkE at h
    split at h
    · simp only [Bool.and_eq_true] at h
      exact snd_sub h.2.2 h.1 ((iha N sc fnb).1 _ h.1).1 ((ihi N sc fnb).1 _ h.2.1).1
    · cases h
  | slc a lo hi iha ihl ihh =>
    refine fun N sc fnb => ⟨fun e h => plain_only rfl ?_, fun es h => by unfold chkA at h; cases h⟩
    unfold chkE at h
    split at h
    · simp only [Bool.and_eq_true] at h
      obtain ⟨h1, h2, h3⟩ := h
      have nn : ∀ {m : ME} {e : Expr}, chkE T N m sc fnb e = true → isNilB m = false := fun {m e} h => by
        cases m <;> try rfl
        unfold chkE at h
        cases h
      refine snd_slc ((iha N sc fnb).1 _ h1).1 ?_ ?_
      · split at h2
        · exact .inr ⟨_, rfl, nn h2, ((ihl N sc fnb).1 _ h2).1⟩
        · exact .inl ⟨rfl, h2⟩
      · split at h3
        · exact .inr ⟨_, rfl, nn h3, ((ihh N sc fnb).1 _ h3).1⟩
        · exact .inl ⟨rfl, h3⟩
    · cases h
  | lst as ih =>
    refine fun N sc fnb => ⟨fun e h => plain_only rfl ?_, fun es h => by unfold chkA at h; cases h⟩
    unfold chkE at h
    split at h
    · exact snd_lst ((ih N sc fnb).2 _ h)
    · cases h
  | tup as ih =>
    refine fun N sc fnb => ⟨fun e h => plain_only rfl ?_, fun es h => by unfold chkA at h; cases h⟩
    unfold chkE at h
    split at h
    · exact snd_tup (n := 0) ((ih N sc fnb).2 _ h)
    · cases h
  | comp el tg it src cond ihe ihs ihc =>
    refine fun N sc fnb => ⟨fun e h => plain_only rfl ?_, fun es h => by unfold chkA at h; cases h⟩
    have h0 := h
    unfold chkE at h
    split at h
    · obtain ⟨wi, g, tt, t, h1, h2⟩ := comp_parts ihe ihs ihc h0
      refine ⟨_, fun X hX => ?_, h2⟩
      obtain ⟨p1, p2, p3, p4, p5, p6⟩ := h1 X hX
      exact pe_lc hX.calm (by rw [hX.n]; exact hX.nd) p1 p2 p3 p4 p5 p6
    · cases h
  | nil =>
    refine fun N sc fnb => ⟨fun e h => (by unfold chkE at h; cases h), fun es h => ?_⟩
    unfold chkA at h
    split at h
    · exact sndA_nil
    · cases h
  | cons a as iha ih =>
    refine fun N sc fnb => ⟨fun e h => (by unfold chkE at h; cases h), fun es h => ?_⟩
    unfold chkA at h
    split at h
    · simp only [Bool.and_eq_true, Bool.not_eq_true'] at h
      exact sndA_cons ((iha N sc fnb).1 _ h.1).1 h.2.1 ((ih N sc fnb).2 _ h.2.2)
    · cases h
end
end MN
end S_MnAll
section S_MnStmt
set_option maxRecDepth 100000
/-! Statements: the check, case by case. -/
namespace MN
open PySem PySem.Spec PyProof.Rows L2

def swB (sc : Scope) (x : Str) (p : Pos) : Expr → Bool
  | .ListComp _ _ scope lp => isLoc sc x && ((p.line == lp.line) && !(scope.names.any fun (n, k) => n == x && (k == .local || k == .cell)))
  | _ => false
def isLC : Expr → Bool
  | .ListComp .. => true
  | _ => false
def okV (v : Expr) : Bool := notComp v || isLC v
def isFun (sc : Scope) : Bool := match sc.kind with
  | .function => true
  | _ => false
def chkNs (N : List Str) (sc : Scope) (fnb : Str → Bool) : List Nat → List Expr → Bool
  | [], [] => true
  | i :: is, .Name x _ :: ts => (decide (N[i]? = some x) && (locB sc x && (fnb x || isLoc sc x))) && chkNs N sc fnb is ts
  | _, _ => false
def nmB (N : List Str) (sc : Scope) (i : Nat) : Expr → Bool
  | .Name x _ => decide (N[i]? = some x) && (visB sc x && dbg x)
  | _ => false

section
variable (T : Tb)
mutual
def chkS (N : List Str) (sc : Scope) (fnb : Str → Bool) : MS → Stmt → Bool
  | .set i e => fun st => match st with
    | .Assign [.Name x p] v pos => decide (N[i]? = some x) && (locB sc x && ((fnb x || isLoc sc x) && (chkE T N e sc fnb v && (okV v && isFun sc))))
    | _ => false
  | .unp is e => fun st => match st with
    | .Assign [.Tuple ts k p] v pos => chkNs N sc fnb is ts && (chkE T N e sc fnb v && (notComp v && notTup v))
    | _ => false
  | .sets x ix e => fun st => match st with
    | .Assign [.Subscript y ie p] v pos => nmB N sc x y && (chkE T N ix sc fnb ie && (chkE T N e sc fnb v && (notSlice ie && okV v)))
    | _ => false
  | .swp x i j a b => fun st => match st with
    | .Assign [.Tuple [.Subscript y i1 p1, .Subscript y2 j1 p2] kk p] (.Tuple [a1, b1] k2 p3) pos => nmB N sc x y && (nmB N sc x y2 && (chkE T N i sc fnb i1 && (chkE T N j sc fnb j1 && (chkE T N a sc fnb a1 && (chkE T N b sc fnb b1 && (notSlice i1 && (notSlice j1 && (!starB a1 && !starB b1))))))))
    | _ => false
  | .aug x ix e => fun st => match st with
    | .AugAssign (.Subscript y ie tp) .Add v pos => nmB N sc x y && (chkE T N ix sc fnb ie && (chkE T N e sc fnb v && notSlice ie))
    | _ => false
  | .app x e => fun st => match st with
    | .Expr (.Call (.Attribute y m apos) [v] [] cpos) pos => decide (m = "append") && (nmB N sc x y && (chkE T N e sc fnb v && (!starB v && (apos.endLine == cpos.line))))
    | _ => false
  | .ext x e => fun st => match st with
    | .Expr (.Call (.Attribute y m apos) [v] [] cpos) pos => decide (m = "extend") && (nmB N sc x y && (chkE T N e sc fnb v && (!starB v && (apos.endLine == cpos.line))))
    | _ => false
  | .pop x => fun st => match st with
    | .Expr (.Call (.Attribute y m apos) [] [] cpos) pos => decide (m = "pop") && (nmB N sc x y && (apos.endLine == cpos.line))
    | _ => false
  | .exp e => fun st => match st with
    | .Expr v pos => chkE T N e sc fnb v && notComp v
    | _ => false
  | .ite c a b => fun st => match st with
    | .If v s1 s2 pos => chkE T N c sc fnb v && ((boolF c || plainT v) && (chkB N sc fnb a s1 && chkB N sc fnb b s2))
    | _ => false
  | .for_ tg it src body => fun st => match st with
    | .For te iter s1 [] pos => (match it, iter with
        | .lst, _ => chkE T N src sc fnb iter
        | .tup, _ => chkE T N src sc fnb iter
        | .rg1, .Call (.Name x _) [y] [] _ => decide (x = "range") && (glB sc x && chkA T N src sc fnb [y])
        | .rg2, .Call (.Name x _) [y, z] [] _ => decide (x = "range") && (glB sc x && chkA T N src sc fnb [y, z])
        | .rev, .Call (.Name x _) [y] [] _ => decide (x = "reversed") && (glB sc x && chkA T N src sc fnb [y])
        | .zip, .Call (.Name x _) [y, z] [] _ => decide (x = "zip") && (glB sc x && (chkA T N src sc fnb [y, z] && !notTup te))
        | _, _ => false) && (notSet iter && (chkG N sc fnb tg te && chkB N sc fnb body s1))
    | _ => false
  | .whl c body => fun st => match st with
    | .While v s1 [] pos => chkE T N c sc fnb v && ((boolF c || plainT v) && chkB N sc fnb body s1)
    | _ => false
  | .ret e => fun st => match st with
    | .Return (some v) pos => chkE T N e sc fnb v
    | _ => false
  | .nev => fun _ => true
  | .fset c kk e => fun st => match st with
    | .Assign [.Attribute y f p] v pos => nmB N sc 0 y && (chkE T N e sc fnb v && (notComp v && (decide ((T.cfl c)[kk]? = some f) && decide (c < T.ncl))))
    | _ => false
  | .nil => fun _ => false
  | .cons _ _ => fun _ => false
def chkB (N : List Str) (sc : Scope) (fnb : Str → Bool) : MS → List Stmt → Bool
  | .nil => fun sts => match sts with
    | [] => true
    | _ => false
  | .cons s ss => fun sts => match sts with
    | st :: sts => chkS N sc fnb s st && chkB N sc fnb ss sts
    | _ => false
  | _ => fun _ => false
end
end

section
variable {W : Wd} {T : Tb} {M : Nat → List D → Option D} {G : Nat → Int} {k : Nat} {N : List Str} {sc : Scope} {fnb : Str → Bool}

def IsIns (H : Hp) (a : Addr) : Prop := ∃ C dx fs, H a = some (.ins C dx fs)
/-- from state to state; an object of one's own stays where it was -/
structure Kp (S : Addr → Prop) (A : Nat → Option Addr) (H : Hp) (A' : Nat → Option Addr) (H' : Hp) : Prop where
  s : Same (Hh S A H) (Hh S A' H')
  h : ∀ b, S b → H' b = H b
  o : ∀ i a, A' i = some a → IsIns H' a → A i = some a ∧ IsIns H a
section
variable {S : Addr → Prop} {A A' A'' : Nat → Option Addr} {H H' H'' : Hp} {ρ : En} {σ : L2.St}
theorem Kp.trans (a : Kp S A H A' H') (b : Kp S A' H' A'' H'') : Kp S A H A'' H'' := ⟨a.s.trans b.s, fun c z => (b.h c z).trans (a.h c z), fun i c z y => (b.o i c z y).elim fun z y => a.o i c z y⟩
theorem Kp.refl : Kp S A H A H := ⟨Same.refl _, fun _ _ => rfl, fun _ _ z y => ⟨z, y⟩⟩
theorem same_at {a : Addr} (s : Same H H') (h : H a ≠ none) : H' a = H a := by
  cases e : H a with
  | none => exact absurd e h
  | some o => exact s _ _ e
theorem EnvOk.kp (E : EnvOk W S A ρ σ H) (s : Same H H') : Kp S A H A H' := ⟨hh_mono s, fun b z => same_at s (E.ext b z), fun i a z y => ⟨z, by
  obtain ⟨C, dx, fs, y⟩ := y
  rw [same_at s (E.dom i a z).1] at y
  exact ⟨C, dx, fs, y⟩⟩⟩
theorem Kp.drop {L : List Nat} : Kp S A H (dropA A L) H := ⟨hh_drop, fun _ _ => rfl, fun _ _ z y => ⟨(dropA_some.mp z).2, y⟩⟩
theorem Kp.upd {i : Nat} {a : Addr} {o : HO} (E : EnvOk W S A ρ σ H) (h : A i = some a) (ho : ∀ C dx fs, o = .ins C dx fs → IsIns H a) : Kp S A H A (upd H a o) :=
  ⟨by rw [hh_upd h]; exact Same.refl _, fun b z => upd_ne fun e => (E.dom i a h).2.1 (by rw [← e]; exact z), fun j b z y => ⟨z, by
    obtain ⟨C, dx, fs, y⟩ := y
    by_cases e : b = a
    · subst e
      rw [upd_same] at y
      exact ho C dx fs (Option.some.inj y)
    · rw [upd_ne e] at y
      exact ⟨C, dx, fs, y⟩⟩⟩
end

def OutOk (W : Wd) (S : Addr → Prop) (A : Nat → Option Addr) (H : Hp) (o : Out) (D : Ends) : Prop := match o with
  | .nx ρ' => ∀ (σ' : L2.St) (A' : Nat → Option Addr) (H' : Hp), EnvOk W S A' ρ' σ' H' → Kp S A H A' H' → D.nx σ' H'
  | .rt d => ∀ (v : V) (A' : Nat → Option Addr) (H' : Hp), Kp S A H A' H' → Rep W (Hh S A' H') v d → D.rt v H'
def SemS (W : Wd) (M : Nat → List D → Option D) (G : Nat → Int) (m : MS) (t : TS) : Prop := ∀ (S : Addr → Prop) (A : Nat → Option Addr) (ρ : En) (σ : L2.St) (H : Hp) (o : Out), EnvOk W S A ρ σ H → evS M G m ρ = some o → ∀ De : Ends, OutOk W S A H o De → t De σ H
abbrev PSs_ (W : Wd) (T : Tb) (M : Nat → List D → Option D) (G : Nat → Int) (k : Nat) (N : List Str) (sc : Scope) (fnb : Str → Bool) (m : MS) (st : Stmt) : Prop := ∃ t, (∀ X, XOk W T M G k N sc fnb X → PS X st t) ∧ SemS W M G m t
abbrev PBs (W : Wd) (T : Tb) (M : Nat → List D → Option D) (G : Nat → Int) (k : Nat) (N : List Str) (sc : Scope) (fnb : Str → Bool) (m : MS) (sts : List Stmt) : Prop := ∃ t, (∀ X, XOk W T M G k N sc fnb X → L2.PSs X sts t) ∧ SemS W M G m t

theorem OutOk.from {S : Addr → Prop} {A A' : Nat → Option Addr} {H H' : Hp} {o : Out} {D : Ends} (kp : Kp S A H A' H') (h : OutOk W S A H o D) : OutOk W S A' H' o D := by
  cases o with
  | nx ρ => exact fun σ' A'' H'' E k2 => h σ' A'' H'' E (kp.trans k2)
  | rt d => exact fun v A'' H'' k2 r => h v A'' H'' (kp.trans k2) r

/-! ### values into names -/
theorem put_end {S : Addr → Prop} {A : Nat → Option Addr} {ρ ρ' : En} {σ : L2.St} {H H1 : Hp} {r : Res} {v : V} {i : Nat} {own : Bool} (E : EnvOk W S A ρ σ H) (R : Res3 W S (dropA A r.2) H own r.1 v H1) (hp : putV i own r ρ = some ρ') :
    ∃ A', EnvOk W S A' ρ' (σ.set i (some v)) H1 ∧ Kp S A H A' H1 := by
  unfold putV at hp
  split at hp
  · rename_i hi
    have E1 : EnvOk W S (dropA A r.2) (ρ.frz r.2) σ H1 := (E.frz r.2).same R.same
    have K1 : Kp S A H (dropA A r.2) H1 := Kp.drop.trans ((E.frz r.2).kp R.same)
    have plain : (En.frz ρ r.2).set i (Sl.sh r.1) = ρ' → ∃ A', EnvOk W S A' ρ' (σ.set i (some v)) H1 ∧ Kp S A H A' H1 := fun e => by
      subst e
      exact ⟨_, E1.put (by rw [frz_len]; exact hi) R.rep, K1.trans Kp.drop⟩
    by_cases ho : own = true ∧ ∃ ds, r.1 = .lst ds
    · obtain ⟨rfl, ds, e⟩ := ho
      rw [e] at hp
      cases hp
      obtain ⟨a, xs, rfl, h1, h2, h3⟩ := R.2.2 rfl ds e
      have hS : ¬ S a := fun z => E.ext a z h1
      have E2 : EnvOk W (fun b => S b ∨ b = a) (dropA A r.2) (ρ.frz r.2) σ H1 := (E.frz r.2).grow R.same (fun b z => by
        rcases z with z | z
        · exact .inl z
        · exact .inr (by rw [z]; exact h1)) (fun b z => by
        rcases z with z | z
        · exact nn_same R.same (E.ext b z)
        · rw [z, h2]; intro q; cases q)
      refine ⟨_, E2.putOwn (i := i) (by rw [frz_len]; exact hi) h2 hS h3, ⟨fun b o e => ?_, (E.kp R.same).h, fun j b z y => ?_⟩⟩
      · obtain ⟨g1, g2, g3⟩ := hh_some.mp e
        refine hh_some.mpr ⟨g1, fun j z => ?_, R.same _ _ g3⟩
        rcases putA_some.mp z with ⟨_, z⟩ | ⟨_, z⟩
        · rw [z, h1] at g3; cases g3
        · exact g2 j (dropA_some.mp z).2
      · rcases putA_some.mp z with ⟨_, q⟩ | ⟨_, q⟩
        · obtain ⟨C, dx, fs, y⟩ := y
          rw [q, h2] at y
          cases y
        · exact (E.kp R.same).o j b (dropA_some.mp q).2 y
    · refine plain ?_
      cases hp
      congr 1
      cases own
      · rfl
      · cases e : r.1 <;> first | rfl | exact absurd ⟨rfl, _, e⟩ ho
  · cases hp

/-! ### side conditions -/
theorem swaps_of {env : Env} {v : Expr} {x : Str} {p : Pos} {l : Nat} (hk : env.scope.kind = .function) (ho : okV v = true) : swapsWith v (some (.Name x p)) l env = pure (swB env.scope x p v) := by
  cases v <;> first | rfl | skip
  case ListComp elt gs scope lp =>
    have hb : env.blockKind = .function := by unfold Env.blockKind; rw [hk]; rfl
    unfold swapsWith
    simp only [hb, Expr.pos]
    show (pure _ : Sem Bool) = pure _
    congr 1
    unfold swB isLoc Env.kindOf
    cases env.scope.names.lookup x with
    | none => rfl
    | some kd => cases kd <;> simp [Bool.and_assoc] <;> rfl
  all_goals cases ho
theorem swaps_none {env : Env} {v : Expr} {l : Nat} (ho : notComp v = true) (t : Option Expr) : swapsWith v t l env = pure false := by
  cases v <;> first | rfl | cases ho
theorem swaps_sub {env : Env} {v : Expr} {l : Nat} {o i : Expr} {p : Pos} (ho : okV v = true) : swapsWith v (some (.Subscript o i p)) l env = pure false := by
  cases v <;> first | rfl | cases ho
theorem sole_of {t v : Expr} {l : Nat} {env : Env} (h : swapsWith v (some t) l env = pure false) : swapsWithSole [t] v l env = pure false := by
  unfold swapsWithSole
  exact h
theorem stores_none {env : Env} {v : Expr} {ts : List Expr} (h : notTup v = true) : swappedStores ts v env = pure none := by
  unfold swappedStores
  cases v <;> first | (cases h; done) | skip
  all_goals
    cases ts with
    | nil => rfl
    | cons t ts =>
      cases t <;> first | rfl | skip
      all_goals cases ts <;> rfl
theorem pv_of {i : Nat} {y : Expr} (h : nmB N sc i y = true) : ∀ X, XOk W T M G k N sc fnb X → PE X y (tVar i) := by
  unfold nmB at h
  split at h
  · rename_i x pos
    simp only [Bool.and_eq_true, decide_eq_true_eq] at h
    obtain ⟨h1, h2, h3⟩ := h
    exact fun X hX => pe_var (by rw [hX.n]; exact h1) (vis_of x hX h2) (dbg_of h3).1 (dbg_of h3).2
  · cases h
theorem base_nm {i : Nat} {y : Expr} (h : nmB N sc i y = true) : baseB y = true := by
  unfold nmB at h
  split at h
  · rfl
  · cases h
theorem kind_of {env : Env} (h : isFun env.scope = true) : env.scope.kind = .function := by
  unfold isFun at h
  split at h
  · assumption
  · cases h

/-! ### name = e -/
theorem snd_set (HM : MOk W T M) {i : Nat} {e : ME} {x : Str} {p pos : Pos} {v : Expr} (hi : N[i]? = some x) (hx : locB sc x = true) (hf : (fnb x || isLoc sc x) = true) (hch : chkE T N e sc fnb v = true) (ho : okV v = true) (hk : isFun sc = true) :
    PSs_ W T M G k N sc fnb (.set i e) (.Assign [.Name x p] v pos) := by
  have fin : ∀ t, SemE W M G e t → SemS W M G (.set i e) (tAsg t (gName i)) := fun t ht S A ρ σ H o E hr De hD => by
    unfold evS at hr
    obtain ⟨r, e1, hr⟩ := Option.bind_eq_some_iff.mp hr
    obtain ⟨ρ', e2, hr⟩ := Option.bind_eq_some_iff.mp hr
    cases hr
    refine ht S A ρ σ H r E e1 _ fun w H1 R => ?_
    obtain ⟨A', E', K⟩ := put_end E R e2
    exact hD _ A' H1 E' K
  by_cases hsw : swB sc x p v = true
  · -- a comprehension that is stored from within
    cases v with
    | ListComp elt gs scope lp =>
      cases e <;> try (unfold chkE at hch; cases hch; done)
      rename_i el tg it src cond
      have h0 := hch
      unfold chkE at hch
      split at hch
      · rename_i heq
        injection heq with q1 q2 q3 q4
        subst q1 q2 q3 q4
        obtain ⟨wi, g, tt, t, h1, h2⟩ := comp_parts (snd_all HM el) (snd_all HM src) (snd_all HM cond) h0
        refine ⟨_, fun X hX => ?_, fin _ h2⟩
        obtain ⟨p1, p2, p3, p4, p5, p6⟩ := h1 X hX
        have hl : isLoc sc x = true := by
          unfold swB at hsw
          simp only [Bool.and_eq_true] at hsw
          exact hsw.1
        refine ps_setLc hX.calm (by rw [hX.n]; exact hX.nd) (by rw [hX.n]; exact hi) (by rw [hX.sc]; exact isLoc_eq hl) ?_ p1 p2 p3 p4 p5 p6
        rw [swaps_of (kind_of (by rw [hX.sc]; exact hk)) ho, hX.sc, hsw]
      · cases hch
    | _ => cases hsw
  · obtain ⟨t, t1, t2⟩ := ((snd_all HM e N sc fnb).1 _ hch).1
    refine ⟨_, fun X hX => ?_, fin t t2⟩
    refine ps_set (by rw [hX.n]; exact hX.nd) (by rw [hX.n]; exact hi) (loc_of x hX hx) (t1 X hX) ?_ (fn_of x hX hf)
    rw [swaps_of (kind_of (by rw [hX.sc]; exact hk)) ho, hX.sc]
    simp only [Bool.not_eq_true] at hsw
    rw [hsw]

/-! ### a, b = e -/
def gNs : List Nat → TGs
  | [] => gNil
  | i :: is => gCons (gName i) (gNs is)
theorem assign_cons {e : Expr} {es : List Expr} {env : Env} (h : starB e = false) : assignEach (e :: es) env = (false, assign e env) :: assignEach es env := by
  cases e <;> first | rfl | cases h
theorem names_of : ∀ {is : List Nat} {ts : List Expr}, chkNs N sc fnb is ts = true → (∀ X, XOk W T M G k N sc fnb X → PGs X ts (gNs is)) ∧ (∀ e ∈ ts, starB e = false) ∧ ts.length = is.length
  | [], [], _ => ⟨fun X hX => pgs_nil, (fun e he => by cases he), rfl⟩
  | [], _ :: _, h => by cases h
  | i :: is, [], h => by cases h
  | i :: is, t :: ts, h => by
    cases t <;> try (cases h; done)
    rename_i x p
    have h : ((decide (N[i]? = some x) && (locB sc x && (fnb x || isLoc sc x))) && chkNs N sc fnb is ts) = true := h
    simp only [Bool.and_eq_true, decide_eq_true_eq] at h
    obtain ⟨⟨h1, h2, h3⟩, h4⟩ := h
    obtain ⟨r1, r2, r3⟩ := names_of (is := is) (ts := ts) h4
    refine ⟨fun X hX => pgs_cons (pg_name (by rw [hX.n]; exact hX.nd) (by rw [hX.n]; exact h1) (loc_of x hX h2) (fn_of x hX h3)) (r1 X hX) rfl, fun e he => ?_, by simp [r3]⟩
    rcases List.mem_cons.mp he with rfl | he
    · rfl
    · exact r2 e he
theorem each_len {env : Env} : ∀ {ts : List Expr}, (∀ e ∈ ts, starB e = false) → (assignEach ts env).length = ts.length ∧ (assignEach ts env).findIdx? (·.1) = none
  | [], _ => ⟨rfl, rfl⟩
  | t :: ts, h => by
    rw [assign_cons (h t (List.mem_cons_self ..))]
    obtain ⟨h1, h2⟩ := each_len (env := env) fun e he => h e (List.mem_cons_of_mem t he)
    refine ⟨by rw [List.length_cons, h1, List.length_cons], ?_⟩
    rw [List.findIdx?_cons, h2]
    rfl
theorem unp_end {S : Addr → Prop} {H : Hp} : ∀ {is : List Nat} {ds : List D} {A : Nat → Option Addr} {ρ ρ' : En} {σ : L2.St} {vs : List V}, EnvOk W S A ρ σ H → RepAll W (Hh S A H) vs ds → unpD is ds ρ = some ρ' →
    ∀ Q : L2.St → Hp → Prop, (∀ σ' A', EnvOk W S A' ρ' σ' H → Kp S A H A' H → Q σ' H) → gNs is vs σ H Q
  | [], ds, A, ρ, ρ', σ, vs, E, r, h, Q, q => by
    cases ds with
    | nil =>
      cases h
      cases r
      exact ⟨rfl, q σ A E Kp.refl⟩
    | cons _ _ => cases h
  | i :: is, ds, A, ρ, ρ', σ, vs, E, r, h, Q, q => by
    cases ds with
    | nil => cases h
    | cons d ds =>
      have h : (if i < ρ.length then unpD is ds (ρ.set i (.sh d)) else none) = some ρ' := h
      split at h
      · rename_i hi
        cases r with
        | cons r1 r2 =>
          rename_i v vs
          refine ⟨v, vs, rfl, ?_⟩
          exact unp_end (E.put hi r1) (r2.mono hh_drop) h Q fun σ' A' E' K => q σ' A' E' (Kp.drop.trans K)
      · cases h
theorem snd_unp (HM : MOk W T M) {is : List Nat} {e : ME} {ts : List Expr} {kk} {p pos : Pos} {v : Expr} (hn : chkNs N sc fnb is ts = true) (hch : chkE T N e sc fnb v = true) (ho : notComp v = true) (ht : notTup v = true) :
    PSs_ W T M G k N sc fnb (.unp is e) (.Assign [.Tuple ts kk p] v pos) := by
  obtain ⟨t, t1, t2⟩ := ((snd_all HM e N sc fnb).1 _ hch).1
  obtain ⟨n1, n2, n3⟩ := names_of (W := W) (T := T) (M := M) (G := G) (k := k) hn
  refine ⟨tAsg t (gTup W.K is.length (gNs is)), fun X hX => ?_, fun S A ρ σ H o E hr De hD => ?_⟩
  · obtain ⟨l1, l2⟩ := each_len (env := X.env) n2
    rw [← hX.K]
    exact ps_asg (t1 X hX) (pg_tup hX.calm (n1 X hX) (by rw [l1, n3]) l2) (sole_of (swaps_none ho _)) (stores_none ht) rfl
  · unfold evS at hr
    obtain ⟨r, e1, hr⟩ := Option.bind_eq_some_iff.mp hr
    split at hr
    · rename_i ds e2
      obtain ⟨ρ', e4, hr⟩ := Option.bind_eq_some_iff.mp hr
      cases hr
      refine t2 S A ρ σ H r E e1 _ fun w H1 R => ?_
      have r1 := R.rep
      rw [e2] at r1
      obtain ⟨a, xs, rfl, h1, h2⟩ := rep_tup r1
      have hl : xs.length = is.length := by
        rw [h2.length]
        clear hD h2 r1 h1 R e2 e1 t2
        have key : ∀ (is : List Nat) (ds : List D) (ρ : En), unpD is ds ρ = some ρ' → ds.length = is.length := by
          intro is
          induction is with
          | nil => intro ds ρ h; cases ds <;> first | rfl | cases h
          | cons i is ih =>
            intro ds ρ h
            cases ds with
            | nil => cases h
            | cons d ds =>
              have h : (if i < ρ.length then unpD is ds (ρ.set i (.sh d)) else none) = some ρ' := h
              split at h
              · simp [ih _ _ h]
              · cases h
        exact key is ds _ e4
      refine ⟨a, xs, rfl, SqT.of h1, hl, ?_⟩
      exact unp_end ((E.frz r.2).same R.same) h2 e4 _ fun σ' A' E' K => hD _ A' H1 E' ((Kp.drop.trans ((E.frz r.2).kp R.same)).trans K)
    · cases hr
end
end MN
end S_MnStmt
section S_MnStmt2
set_option maxRecDepth 100000
/-! Statements: stores, methods, branches, loops. -/
namespace MN
open PySem PySem.Spec PyProof.Rows L2
section
variable {W : Wd} {T : Tb} {M : Nat → List D → Option D} {G : Nat → Int} {k : Nat} {N : List Str} {sc : Scope} {fnb : Str → Bool}

/-! ### a list of one's own is changed -/
theorem chg_some {x : Nat} {L : List Nat} {f : List D → Option (List D)} {ρ ρ' : En} (h : chg x L f ρ = some ρ') : x ∉ L ∧ ∃ ds ds', (ρ.frz L)[x]? = some (Sl.ow ds) ∧ f ds = some ds' ∧ ρ' = (ρ.frz L).set x (Sl.ow ds') := by
  unfold chg at h
  split at h
  · cases h
  · rename_i hx
    refine ⟨by simpa using hx, ?_⟩
    split at h
    · rename_i ds e
      obtain ⟨ds', e2, h⟩ := Option.bind_eq_some_iff.mp h
      cases h
      exact ⟨ds, ds', e, e2, rfl⟩
    · cases h
/-- v goes into the list at x -/
theorem chg_end {S : Addr → Prop} {A : Nat → Option Addr} {ρ ρ' : En} {σ : L2.St} {H : Hp} {x : Nat} {L : List Nat} {f : List D → Option (List D)} (E : EnvOk W S A ρ σ H) (h : chg x L f ρ = some ρ') :
    ∃ a xs ds ds', σ[x]? = some (some (V.ref a)) ∧ H a = some (.lst xs) ∧ RepAll W (Hh S (dropA A L) H) xs ds ∧ f ds = some ds' ∧
      ∀ ys, RepAll W (Hh S (dropA A L) H) ys ds' → EnvOk W S (dropA A L) ρ' σ (upd H a (.lst ys)) ∧ Kp S A H (dropA A L) (upd H a (.lst ys)) := by
  obtain ⟨hx, ds, ds', e1, e2, rfl⟩ := chg_some h
  have E1 := E.frz L
  obtain ⟨a, xs, h1, h2, h3, h4⟩ := E1.ow x ds e1
  have hi : x < (ρ.frz L).length := (List.getElem?_eq_some_iff.mp e1).1
  exact ⟨a, xs, ds, ds', h2, h3, h4, e2, fun ys hy => ⟨E1.upd hi h1 hy, Kp.drop.trans (Kp.upd E1 h1 fun _ _ _ q => by cases q)⟩⟩

theorem set_some {i v : D} {ds ds' : List D} (h : setIx i v ds = some ds') : ∃ kk j, i = .int kk ∧ ixN ds.length kk = some j ∧ ds' = ds.set j v := by
  unfold setIx at h
  split at h
  · obtain ⟨j, e1, h⟩ := Option.bind_eq_some_iff.mp h
    cases h
    exact ⟨_, j, rfl, e1, rfl⟩
  · cases h
theorem snd_sets (HM : MOk W T M) {x : Nat} {ix e : ME} {y ie v : Expr} {p pos : Pos} (hy : nmB N sc x y = true) (hi : chkE T N ix sc fnb ie = true) (hv : chkE T N e sc fnb v = true) (hn : notSlice ie = true) (ho : okV v = true) :
    PSs_ W T M G k N sc fnb (.sets x ix e) (.Assign [.Subscript y ie p] v pos) := by
  obtain ⟨t, t1, t2⟩ := ((snd_all HM e N sc fnb).1 _ hv).1
  obtain ⟨ti, i1, i2⟩ := ((snd_all HM ix N sc fnb).1 _ hi).1
  refine ⟨tAsg t (gSub (tVar x) ti rSetL), fun X hX => ps_asg (t1 X hX) (pg_sub (pv_of hy X hX) (i1 X hX) set_list (by intro _; cases ie <;> first | rfl | cases hn)) (sole_of (swaps_sub ho)) rfl rfl, fun S A ρ σ H o E hr De hD => ?_⟩
  unfold evS at hr
  obtain ⟨r, e1, hr⟩ := Option.bind_eq_some_iff.mp hr
  obtain ⟨j, e2, hr⟩ := Option.bind_eq_some_iff.mp hr
  obtain ⟨ρ', e3, hr⟩ := Option.bind_eq_some_iff.mp hr
  cases hr
  refine t2 S A ρ σ H r E e1 _ fun w H1 R1 => ?_
  have E1 := E.same R1.same
  have key : ∃ a, σ[x]? = some (some (V.ref a)) := by
    obtain ⟨a, xs, ds, ds', c1, _⟩ := chg_end E1 e3
    exact ⟨a, c1⟩
  obtain ⟨a0, s0⟩ := key
  refine ⟨.ref a0, s0, ?_⟩
  refine i2 S A ρ σ H1 j E1 e2 _ fun u H2 R2 => ?_
  have E2 := E1.same R2.same
  obtain ⟨a, xs, ds, ds', c1, c2, c3, c4, c5⟩ := chg_end E2 e3
  rw [s0] at c1
  cases c1
  obtain ⟨kk, jj, d1, d2, rfl⟩ := set_some c4
  have ru := R2.rep
  rw [d1] at ru
  cases ru
  refine ⟨a0, xs, kk, jj, rfl, rfl, c2, by rw [c3.length]; exact d2, ?_⟩
  obtain ⟨E3, K3⟩ := c5 (xs.set jj w) (RepAll.set (R1.rep.mono (hh_mono R2.same)) jj c3)
  exact hD σ _ _ E3 (((E.kp R1.same).trans (E1.kp R2.same)).trans K3)

theorem stores_swp {env : Env} {y y2 i1 j1 a b : Expr} {p1 p2 p p3 : Pos} {kk k2} : swappedStores [.Tuple [.Subscript y i1 p1, .Subscript y2 j1 p2] kk p] (.Tuple [a, b] k2 p3) env = pure none := by
  unfold swappedStores
  cases hb : (env.blockKind != ScopeKind.function)
  · simp only [List.length_cons, List.length_nil, hb]
    refine Eq.trans (if_neg (by decide)) ?_
    by_cases h : ([a, b].any fun | .Starred .. => true | _ => false) = true
    · exact if_pos h
    · refine Eq.trans (if_neg h) ?_
      exact if_pos rfl
  · simp only [List.length_cons, List.length_nil, hb]
    exact if_pos (by decide)
theorem snd_swp (HM : MOk W T M) {x : Nat} {i j a b : ME} {y y2 i1 j1 a1 b1 : Expr} {p1 p2 p p3 pos : Pos} {kk k2} (hy : nmB N sc x y = true) (hy2 : nmB N sc x y2 = true) (hi : chkE T N i sc fnb i1 = true) (hj : chkE T N j sc fnb j1 = true) (ha : chkE T N a sc fnb a1 = true)
    (hb : chkE T N b sc fnb b1 = true) (hn : notSlice i1 = true) (hn2 : notSlice j1 = true) (hs : starB a1 = false) (hs2 : starB b1 = false) :
    PSs_ W T M G k N sc fnb (.swp x i j a b) (.Assign [.Tuple [.Subscript y i1 p1, .Subscript y2 j1 p2] kk p] (.Tuple [a1, b1] k2 p3) pos) := by
  obtain ⟨ta, a2, a3⟩ := ((snd_all HM a N sc fnb).1 _ ha).1
  obtain ⟨tb, b2, b3⟩ := ((snd_all HM b N sc fnb).1 _ hb).1
  obtain ⟨ti, i2, i3⟩ := ((snd_all HM i N sc fnb).1 _ hi).1
  obtain ⟨tj, j2, j3⟩ := ((snd_all HM j N sc fnb).1 _ hj).1
  refine ⟨tAsg (tTup (tCons ta (tCons tb tNil))) (gTup W.K 2 (gCons (gSub (tVar x) ti rSetL) (gCons (gSub (tVar x) tj rSetL) gNil))), fun X hX => ?_, fun S A ρ σ H o E hr De hD => ?_⟩
  · rw [← hX.K]
    exact ps_asg (pe_tup (pa_cons (a2 X hX) (pa_cons (b2 X hX) pa_nil (star_cons hs2)) (star_cons hs)))
      (pg_tup hX.calm (pgs_cons (pg_sub (pv_of hy X hX) (i2 X hX) set_list (by intro _; cases i1 <;> first | rfl | cases hn)) (pgs_cons (pg_sub (pv_of hy2 X hX) (j2 X hX) set_list (by intro _; cases j1 <;> first | rfl | cases hn2)) pgs_nil)))
      (sole_of rfl) stores_swp rfl
  · unfold evS at hr
    obtain ⟨u, e1, hr⟩ := Option.bind_eq_some_iff.mp hr
    obtain ⟨w, e2, hr⟩ := Option.bind_eq_some_iff.mp hr
    obtain ⟨d1, e3, hr⟩ := Option.bind_eq_some_iff.mp hr
    obtain ⟨d2, e4, hr⟩ := Option.bind_eq_some_iff.mp hr
    obtain ⟨pp, e5, hr⟩ := Option.bind_eq_some_iff.mp hr
    obtain ⟨ρ1, e6, hr⟩ := Option.bind_eq_some_iff.mp hr
    obtain ⟨qq, e7, hr⟩ := Option.bind_eq_some_iff.mp hr
    obtain ⟨ρ2, e8, hr⟩ := Option.bind_eq_some_iff.mp hr
    cases hr
    have cl : ∀ {r : Res} {d : D}, clean r = some d → r.2 = [] := fun {r d} h => by
      unfold clean at h
      split at h
      · assumption
      · cases h
    have u0 := cl e3
    have w0 := cl e4
    refine a3 S A ρ σ H u E e1 _ fun v1 H1 R1 => ?_
    have E1 := E.same R1.same
    refine b3 S A ρ σ H1 w E1 e2 _ fun v2 H2 R2 => ?_
    have E2 := E1.same R2.same
    have r1 := R1.rep
    have r2 := R2.rep
    rw [u0, dropA_nil] at r1
    rw [w0, dropA_nil] at r2
    have r1 := r1.mono (hh_mono R2.same)
    refine ⟨(by show 2 ≤ sizeLine; decide), fun q hq => ?_⟩
    have s3 := same_upd (o := .tup [v1, v2]) hq
    have E3 := E2.same s3
    have r1 := r1.mono (hh_mono s3)
    have r2 := r2.mono (hh_mono s3)
    refine ⟨q, [v1, v2], rfl, SqT.of upd_same, rfl, v1, [v2], rfl, ?_⟩
    obtain ⟨a0, s0⟩ : ∃ a, σ[x]? = some (some (V.ref a)) := by
      obtain ⟨a, _, _, _, c1, _⟩ := chg_end E3 e6
      exact ⟨a, c1⟩
    refine ⟨.ref a0, s0, ?_⟩
    refine i3 S A ρ σ _ pp E3 e5 _ fun z H4 R4 => ?_
    have E4 := E3.same R4.same
    have r1 := r1.mono (hh_mono R4.same)
    have r2 := r2.mono (hh_mono R4.same)
    obtain ⟨a, xs, ds, ds', c1, c2, c3, c4, c5⟩ := chg_end E4 e6
    rw [s0] at c1
    cases c1
    rw [dropA_nil] at c3 c5
    obtain ⟨kk, jj, d1, d2, rfl⟩ := set_some c4
    have ru := R4.rep
    rw [d1] at ru
    cases ru
    refine ⟨a0, xs, kk, jj, rfl, rfl, c2, by rw [c3.length]; exact d2, ?_⟩
    obtain ⟨E5, K5⟩ := c5 (xs.set jj v1) (RepAll.set r1 jj c3)
    have r2 := r2.mono K5.s
    refine ⟨v2, [], rfl, .ref a0, s0, ?_⟩
    refine j3 S A ρ1 σ _ qq E5 e7 _ fun z2 H6 R6 => ?_
    have E6 := E5.same R6.same
    have r2 := r2.mono (hh_mono R6.same)
    obtain ⟨a, xs2, ds2, ds2', c1, c2, c3, c4, c6⟩ := chg_end E6 e8
    rw [s0] at c1
    cases c1
    rw [dropA_nil] at c3 c6
    obtain ⟨kk2, jj2, d3, d4, rfl⟩ := set_some c4
    have ru := R6.rep
    rw [d3] at ru
    cases ru
    refine ⟨a0, xs2, kk2, jj2, rfl, rfl, c2, by rw [c3.length]; exact d4, rfl, ?_⟩
    obtain ⟨E7, K7⟩ := c6 (xs2.set jj2 v2) (RepAll.set r2 jj2 c3)
    exact hD σ _ _ E7 ((((((E.kp R1.same).trans (E1.kp R2.same)).trans (E2.kp s3)).trans (E3.kp R4.same)).trans K5).trans ((E5.kp R6.same).trans K7))

/-! ### x[i] += e -/
theorem get_list {X : Cx} : PGet X (rIxL X.K) := by
  intro pins s σ H o i ov iv Q I ro ri h
  obtain ⟨p, xs, n, z, rfl, rfl, hq, he, q⟩ := h
  cases ro
  obtain ⟨t, rfl⟩ := ri
  obtain ⟨its, r, pl, hz⟩ := I.list hq
  obtain ⟨j, h1, h2, h3, h4, h5⟩ := atI_get he
  obtain ⟨w, ew, rw'⟩ := r.get h2
  have hl := r.length
  have hn := line63
  have fin : EP X pins σ Q w s := ⟨z, H, I, rw', q⟩
  by_cases h0 : 0 ≤ n
  · have hj : n.toNat = j := by
      rw [seqIndex_of h0 h5] at h1
      exact Option.some.inj h1
    exact wpAny_getItem_list pl.isList h0 (by omega) (by rw [hj]; simpa using ew) fin
  · have hj : (n + (its.toArray.size : Int)).toNat = j := by
      rw [seqIndex_neg (by omega) h4] at h1
      rw [List.size_toArray, ← hl]
      exact Option.some.inj h1
    exact wpAny_getItem_list_neg pl.isList (by omega) (by rw [List.size_toArray] <;> omega) (by omega) (by rw [hj]; simpa using ew) fin
theorem snd_aug (HM : MOk W T M) {x : Nat} {ix e : ME} {y ie v : Expr} {tp pos : Pos} (hy : nmB N sc x y = true) (hi : chkE T N ix sc fnb ie = true) (hv : chkE T N e sc fnb v = true) (hn : notSlice ie = true) :
    PSs_ W T M G k N sc fnb (.aug x ix e) (.AugAssign (.Subscript y ie tp) .Add v pos) := by
  obtain ⟨t, t1, t2⟩ := ((snd_all HM e N sc fnb).1 _ hv).1
  obtain ⟨ti, i1, i2⟩ := ((snd_all HM ix N sc fnb).1 _ hi).1
  refine ⟨tAugS (tVar x) ti t (rIxL W.K) (ipI fun i j => i + j) rSetL, fun X hX => ?_, fun S A ρ σ H o E hr De hD => ?_⟩
  · rw [← hX.K]
    exact ps_augS (pv_of hy X hX) (i1 X hX) get_list (t1 X hX) ip_add set_list (by intro _ _ _; cases ie <;> first | rfl | cases hn)
  · unfold evS at hr
    obtain ⟨iv, e1, hr⟩ := Option.bind_eq_some_iff.mp hr
    obtain ⟨old, e2, hr⟩ := Option.bind_eq_some_iff.mp hr
    obtain ⟨r, e3, hr⟩ := Option.bind_eq_some_iff.mp hr
    split at hr
    · rename_i pp qq e4 e5
      obtain ⟨ρ', e6, hr⟩ := Option.bind_eq_some_iff.mp hr
      cases hr
      obtain ⟨_, ds0, ds0', f1, f2, _⟩ := chg_some e6
      rw [frz_nil] at f1
      rcases evSub e2 with ⟨x', ex, d, w, z, g1, g2, g3, rfl⟩ | ⟨hne, _⟩
      · injection ex with ex
        subst ex
        rw [e1] at g2
        cases g2
        rcases g1 with g1 | ⟨es, rfl, g1⟩
        · rw [f1] at g1; cases g1
        · rw [f1] at g1
          cases g1
          have e4 : z = .int pp := e4
          subst e4
          obtain ⟨a, xs, c1, c2, c3, c4⟩ := E.ow x ds0 f1
          refine ⟨.ref a, c2, ?_⟩
          refine i2 S A ρ σ H iv E e1 _ fun u H1 R1 => ?_
          obtain ⟨kk, jj, d1, d2, d3⟩ := set_some f2
          have ru := R1.rep
          rw [d1] at ru
          cases ru
          rw [d1] at g3
          have g3 : atI ds0 kk = some (.int pp) := g3
          obtain ⟨v0, h3, h4⟩ := atI_rep c4 g3
          cases h4
          refine ⟨a, xs, kk, .int pp, rfl, rfl, SqL.of (R1.same _ _ c3), h3, ?_⟩
          have E1 := E.same R1.same
          refine t2 S A ρ σ H1 r E1 e3 _ fun u2 H2 R2 => ?_
          have ru2 := R2.rep
          rw [e5] at ru2
          cases ru2
          refine ⟨pp, qq, rfl, rfl, ?_⟩
          have E2 := E1.same R2.same
          obtain ⟨a', xs', ds, ds', k1, k2, k3, k4, k5⟩ := chg_end E2 e6
          rw [c2] at k1
          cases k1
          obtain ⟨kk', jj', l1, l2, rfl⟩ := set_some k4
          rw [d1] at l1
          cases l1
          refine ⟨a, xs', kk, jj', rfl, rfl, k2, by rw [k3.length]; exact l2, ?_⟩
          obtain ⟨E3, K3⟩ := k5 (xs'.set jj' (.int (pp + qq))) (RepAll.set (.int _) jj' k3)
          exact hD σ _ _ E3 (((E.kp R1.same).trans (E1.kp R2.same)).trans K3)
      · exact absurd rfl (hne x)
    · cases hr
end
end MN
end S_MnStmt2
section S_MnStmt3
set_option maxRecDepth 100000
/-! Statements: methods, branches, loops; all of them. -/
namespace MN
open PySem PySem.Spec PyProof.Rows L2
section
variable {W : Wd} {T : Tb} {M : Nat → List D → Option D} {G : Nat → Int} {k : Nat} {N : List Str} {sc : Scope} {fnb : Str → Bool}

theorem few1 {env : Env} {v : Expr} {cpos : Pos} (hs : starB v = false) : ((backTo cpos (starEach [v] env)).all (fun x => !x.1) && (backToKw cpos (keywordEach [] env)).all (fun x => x.1.isSome)
      && decide (([v] : List Expr).length + ([] : List Keyword).length + (if ([] : List Keyword).isEmpty then 0 else 1) < 30)) = true := by
  rw [star1 hs]
  rfl
theorem snd_app (HM : MOk W T M) {x : Nat} {e : ME} {y v : Expr} {apos cpos pos : Pos} (hy : nmB N sc x y = true) (hv : chkE T N e sc fnb v = true) (hs : starB v = false) (hl : (apos.endLine == cpos.line) = true) :
    PSs_ W T M G k N sc fnb (.app x e) (.Expr (.Call (.Attribute y "append" apos) [v] [] cpos) pos) := by
  obtain ⟨t, t1, t2⟩ := ((snd_all HM e N sc fnb).1 _ hv).1
  refine ⟨tDrop (tBM W.K "list" rAppend (tVar x) (tCons t tNil)), fun X hX => ?_, fun S A ρ σ H o E hr De hD => ?_⟩
  · rw [← hX.K]
    exact ps_expr (pe_bm PySem.F.plainAttrs_list PySem.F.slot_list_append PySem.F.type_list_append mt_append (pv_of hy X hX) (pa_cons (t1 X hX) pa_nil (star_cons hs)) (base_of (base_nm hy) _) (few1 hs) hl (star_cons hs) rfl) rfl
  · unfold evS at hr
    obtain ⟨r, e1, hr⟩ := Option.bind_eq_some_iff.mp hr
    obtain ⟨ρ', e2, hr⟩ := Option.bind_eq_some_iff.mp hr
    cases hr
    obtain ⟨a, xs0, ds0, _, c1, c2, c3, _, _⟩ := chg_end E e2
    refine ⟨.ref a, c1, .inl ⟨rfl, xs0, SqL.of c2⟩, ?_⟩
    refine t2 S A ρ σ H r E e1 _ fun w H1 R1 => ?_
    have E1 := E.same R1.same
    obtain ⟨a', xs, ds, ds', k1, k2, k3, k4, k5⟩ := chg_end E1 e2
    rw [c1] at k1
    cases k1
    split at k4
    · rename_i hlen
      cases k4
      refine ⟨a, xs, w, rfl, rfl, k2, by rw [k3.length, sizeLine_eq]; exact hlen, ?_⟩
      obtain ⟨E3, K3⟩ := k5 (xs ++ [w]) (k3.append (.cons R1.rep .nil))
      exact hD σ _ _ E3 ((E.kp R1.same).trans K3)
    · cases k4
theorem snd_ext (HM : MOk W T M) {x : Nat} {e : ME} {y v : Expr} {apos cpos pos : Pos} (hy : nmB N sc x y = true) (hv : chkE T N e sc fnb v = true) (hs : starB v = false) (hl : (apos.endLine == cpos.line) = true) :
    PSs_ W T M G k N sc fnb (.ext x e) (.Expr (.Call (.Attribute y "extend" apos) [v] [] cpos) pos) := by
  obtain ⟨t, t1, t2⟩ := ((snd_all HM e N sc fnb).1 _ hv).1
  refine ⟨tDrop (tBM W.K "list" rExtend (tVar x) (tCons t tNil)), fun X hX => ?_, fun S A ρ σ H o E hr De hD => ?_⟩
  · rw [← hX.K]
    exact ps_expr (pe_bm PySem.F.plainAttrs_list PySem.F.slot_list_extend PySem.F.type_list_extend mt_extend (pv_of hy X hX) (pa_cons (t1 X hX) pa_nil (star_cons hs)) (base_of (base_nm hy) _) (few1 hs) hl (star_cons hs) rfl) rfl
  · unfold evS at hr
    obtain ⟨r, e1, hr⟩ := Option.bind_eq_some_iff.mp hr
    split at hr
    · rename_i ys e0
      obtain ⟨ρ', e2, hr⟩ := Option.bind_eq_some_iff.mp hr
      cases hr
      obtain ⟨a, xs0, ds0, _, c1, c2, c3, _, _⟩ := chg_end E e2
      refine ⟨.ref a, c1, .inl ⟨rfl, xs0, SqL.of c2⟩, ?_⟩
      refine t2 S A ρ σ H r E e1 _ fun w H1 R1 => ?_
      have E1 := E.same R1.same
      obtain ⟨a', xs, ds, ds', k1, k2, k3, k4, k5⟩ := chg_end E1 e2
      rw [c1] at k1
      cases k1
      have r1 := R1.rep
      rw [e0] at r1
      obtain ⟨b, zs, rfl, z1, z2⟩ := rep_lst r1
      split at k4
      · rename_i hlen
        cases k4
        refine ⟨a, b, xs, zs, rfl, rfl, k2, z1, by rw [k3.length, z2.length, sizeLine_eq]; exact hlen, ?_⟩
        obtain ⟨E3, K3⟩ := k5 (xs ++ zs) (k3.append z2)
        exact hD σ _ _ E3 ((E.kp R1.same).trans K3)
      · cases k4
    · cases hr
theorem snd_pop {x : Nat} {y : Expr} {apos cpos pos : Pos} (hy : nmB N sc x y = true) (hl : (apos.endLine == cpos.line) = true) :
    PSs_ W T M G k N sc fnb (.pop x) (.Expr (.Call (.Attribute y "pop" apos) [] [] cpos) pos) := by
  refine ⟨tDrop (tBM0 W.K "list" rPop (tVar x)), fun X hX => ?_, fun S A ρ σ H o E hr De hD => ?_⟩
  · rw [← hX.K]
    exact ps_expr (pe_bm0 PySem.F.plainAttrs_list PySem.F.slot_list_pop PySem.F.type_list_pop mt_pop (pv_of hy X hX) (base_of (base_nm hy) _) hl) rfl
  · unfold evS at hr
    obtain ⟨ρ', e2, hr⟩ := Option.bind_eq_some_iff.mp hr
    cases hr
    obtain ⟨a, xs, ds, ds', k1, k2, k3, k4, k5⟩ := chg_end E e2
    refine ⟨.ref a, k1, .inl ⟨rfl, xs, SqL.of k2⟩, ?_⟩
    split at k4
    · cases k4
    · rename_i he
      cases k4
      have hlen : xs.length - 1 < xs.length := by
        have h1 := k3.length
        have : ds ≠ [] := fun z => he (by rw [z]; rfl)
        have : 0 < ds.length := List.length_pos_iff.mpr this
        omega
      refine ⟨a, xs, xs[xs.length - 1], rfl, rfl, k2, by simp [hlen], ?_⟩
      obtain ⟨E3, K3⟩ := k5 xs.dropLast k3.dropLast
      exact hD σ _ _ E3 K3
theorem snd_exp (HM : MOk W T M) {e : ME} {v : Expr} {pos : Pos} (hv : chkE T N e sc fnb v = true) (ho : notComp v = true) : PSs_ W T M G k N sc fnb (.exp e) (.Expr v pos) := by
  obtain ⟨t, t1, t2⟩ := ((snd_all HM e N sc fnb).1 _ hv).1
  refine ⟨tDrop t, fun X hX => ps_expr (t1 X hX) (swaps_none ho none), fun S A ρ σ H o E hr De hD => ?_⟩
  unfold evS at hr
  obtain ⟨r, e1, hr⟩ := Option.bind_eq_some_iff.mp hr
  cases hr
  exact t2 S A ρ σ H r E e1 _ fun w H1 R1 => hD σ A H1 (E.same R1.same) (E.kp R1.same)
theorem test_some {r : Option Res} {b : Bool} (h : testD r = some b) : ∃ x, r = some x ∧ x.1 = .bl b := by
  unfold testD at h
  obtain ⟨x, e, h⟩ := Option.bind_eq_some_iff.mp h
  split at h
  · rename_i kk e2
    cases h
    exact ⟨x, e, e2⟩
  · cases h
theorem snd_ite (HM : MOk W T M) {c : ME} {a b : MS} {v : Expr} {s1 s2 : List Stmt} {pos : Pos} (hv : chkE T N c sc fnb v = true) (hp : (boolF c || plainT v) = true) (ha : PBs W T M G k N sc fnb a s1) (hb : PBs W T M G k N sc fnb b s2) :
    PSs_ W T M G k N sc fnb (.ite c a b) (.If v s1 s2 pos) := by
  obtain ⟨t, t1, t2⟩ := ((snd_all HM c N sc fnb).1 _ hv).2 hp
  obtain ⟨ta, a1, a2⟩ := ha
  obtain ⟨tb, b1, b2⟩ := hb
  refine ⟨tIfS t ta tb, fun X hX => ps_if (t1 X hX) (a1 X hX) (b1 X hX), fun S A ρ σ H o E hr De hD => ?_⟩
  unfold evS at hr
  obtain ⟨q, e1, hr⟩ := Option.bind_eq_some_iff.mp hr
  obtain ⟨x, e2, e3⟩ := test_some e1
  refine t2 S A ρ σ H x q E e2 e3 _ fun H1 s1 => ?_
  cases q with
  | true =>
    rw [if_pos rfl] at hr ⊢
    exact a2 S A ρ σ H1 o (E.same s1) hr De (hD.from (E.kp s1))
  | false =>
    rw [if_neg (by simp)] at hr ⊢
    exact b2 S A ρ σ H1 o (E.same s1) hr De (hD.from (E.kp s1))

theorem forD_drop {b : D → En → Option Out} {its : List D} {i : Nat} {d : D} {ρ : En} {o : Out} (hd : its[i]? = some d) (h : forD b (its.drop i) ρ = some o) : ∃ o1, b d ρ = some o1 ∧ (match o1 with
    | .nx ρ' => forD b (its.drop (i + 1)) ρ' = some o
    | .rt v => o = .rt v) := by
  obtain ⟨hi, e⟩ := List.getElem?_eq_some_iff.mp hd
  rw [List.drop_eq_getElem_cons hi, e] at h
  unfold forD at h
  obtain ⟨o1, e1, h⟩ := Option.bind_eq_some_iff.mp h
  refine ⟨o1, e1, ?_⟩
  cases o1 with
  | nx ρ' => exact h
  | rt v => cases h; rfl
theorem snd_for {tg : Tg} {it : Wk} {src : ME} {body : MS} {te iter : Expr} {s1 : List Stmt} {pos : Pos} (hi : PIs W T M G k N sc fnb it src te iter) (hn : notSet iter = true) (hg : chkG N sc fnb tg te = true) (hb : PBs W T M G k N sc fnb body s1) :
    PSs_ W T M G k N sc fnb (.for_ tg it src body) (.For te iter s1 [] pos) := by
  obtain ⟨wi, i1, i2⟩ := hi
  obtain ⟨g, g1, g2, _⟩ := tgt_of (W := W) (T := T) (M := M) (G := G) (k := k) hg
  obtain ⟨tb, b1, b2⟩ := hb
  refine ⟨tFor wi g tb, fun X hX => ps_for (by rw [hX.xe]; exact PassesOwn.never) hX.calm (i1 X hX) (g1 X hX) (b1 X hX) (set_of hn), fun S A ρ σ H0 o E hr De hD => ?_⟩
  unfold evS at hr
  obtain ⟨x, e1, hr⟩ := Option.bind_eq_some_iff.mp hr
  obtain ⟨its, e2, hr⟩ := Option.bind_eq_some_iff.mp hr
  refine i2 S A ρ σ H0 x its E e1 e2 _ fun J H1 sa hJ => ?_
  have E1 := (E.same sa).frz x.2
  have K1 : Kp S A H0 (dropA A x.2) H1 := (E.kp sa).trans Kp.drop
  let bd : D → En → Option Out := fun d ρ' => (tg.put ρ' d).bind fun ρ2 => evS M G body ρ2
  refine ⟨fun i m σ H => m = its.length - i ∧ i ≤ its.length ∧ ∃ ρi Ai, EnvOk W S Ai ρi σ H ∧ Kp S (dropA A x.2) H1 Ai H ∧ forD bd (its.drop i) ρi = some o, ⟨its.length, by simp, Nat.zero_le _, _, _, E1, Kp.refl, by simpa using hr⟩, ?_⟩
  rintro i m σ H ⟨rfl, hil, ρi, Ai, Ei, Ki, hfor⟩
  obtain ⟨hgo, hstop⟩ := hJ H (Ki.s.trans hh_same)
  by_cases hlt : i < its.length
  · have hd : its[i]? = some its[i] := by simp [hlt]
    obtain ⟨go, yl⟩ := hgo i _ hd
    refine .inr ⟨go, fun σ' H' => i + 1 ≤ its.length ∧ ∃ ρi Ai, EnvOk W S Ai ρi σ' H' ∧ Kp S (dropA A x.2) H1 Ai H' ∧ forD bd (its.drop (i + 1)) ρi = some o, fun σ' H' h => ⟨_, by omega, rfl, h.1, h.2⟩, fun v H' hy => ?_⟩
    obtain ⟨sy, ry⟩ := (yl v H' hy).rep Ei.trk Ki.s
    obtain ⟨o1, f1, f2⟩ := forD_drop hd hfor
    obtain ⟨ρ2, f3, f4⟩ := Option.bind_eq_some_iff.mp f1
    refine g2 S Ai ρi σ H' v _ ρ2 (Ei.same sy) ry f3 _ fun σ2 E2 _ => ?_
    have K2 : Kp S (dropA A x.2) H1 (dropA Ai tg.slots) H' := (Ki.trans (Ei.kp sy)).trans Kp.drop
    refine b2 S _ ρ2 σ2 H' o1 E2 f4 _ ?_
    cases o1 with
    | nx ρ' => exact fun σ' A' H'' E' K' => ⟨hlt, ρ', A', E', K2.trans K', f2⟩
    | rt w =>
      have f2 : o = .rt w := f2
      subst f2
      exact fun v' A' H'' K' r' => hD v' A' H'' ((K1.trans K2).trans K') r'
  · have hi' : i = its.length := by omega
    subst hi'
    refine .inl ⟨hstop, ?_⟩
    rw [List.drop_length] at hfor
    cases hfor
    exact hD σ Ai H Ei (K1.trans Ki)
theorem snd_whl (HM : MOk W T M) {c : ME} {body : MS} {v : Expr} {s1 : List Stmt} {pos : Pos} (hv : chkE T N c sc fnb v = true) (hp : (boolF c || plainT v) = true) (hb : PBs W T M G k N sc fnb body s1) : PSs_ W T M G k N sc fnb (.whl c body) (.While v s1 [] pos) := by
  obtain ⟨t, t1, t2⟩ := ((snd_all HM c N sc fnb).1 _ hv).2 hp
  obtain ⟨tb, b1, b2⟩ := hb
  refine ⟨tWhile t tb, fun X hX => ps_while (by rw [hX.xe]; exact PassesOwn.never) (t1 X hX) (b1 X hX), fun S A ρ σ H0 o E hr De hD => ?_⟩
  unfold evS at hr
  refine ⟨fun m σ H => ∃ ρi Ai, EnvOk W S Ai ρi σ H ∧ Kp S A H0 Ai H ∧ whlD (fun ρ' => testD (evE M G c ρ')) (fun ρ' => evS M G body ρ') m ρi = some o, ⟨5000, ρ, A, E, Kp.refl, hr⟩, ?_⟩
  rintro m σ H ⟨ρi, Ai, Ei, Ki, hw⟩
  cases m with
  | zero => cases hw
  | succ m =>
    unfold whlD at hw
    obtain ⟨q, e1, hw⟩ := Option.bind_eq_some_iff.mp hw
    obtain ⟨x, e2, e3⟩ := test_some e1
    refine t2 S Ai ρi σ H x q Ei e2 e3 _ fun H1 sa => ?_
    have E1 := Ei.same sa
    have K1 := Ki.trans (Ei.kp sa)
    cases q with
    | true =>
      rw [if_pos rfl] at hw ⊢
      obtain ⟨o1, f1, hw⟩ := Option.bind_eq_some_iff.mp hw
      refine ⟨fun σ' H' => ∃ ρi Ai, EnvOk W S Ai ρi σ' H' ∧ Kp S A H0 Ai H' ∧ whlD (fun ρ' => testD (evE M G c ρ')) (fun ρ' => evS M G body ρ') m ρi = some o, fun σ' H' h => ⟨m, Nat.lt_succ_self _, h⟩, ?_⟩
      refine b2 S Ai ρi σ H1 o1 E1 f1 _ ?_
      cases o1 with
      | nx ρ' => exact fun σ' A' H'' E' K' => ⟨ρ', A', E', K1.trans K', hw⟩
      | rt w =>
        cases hw
        exact fun v' A' H'' K' r' => hD v' A' H'' (K1.trans K') r'
    | false =>
      rw [if_neg (by simp)] at hw ⊢
      cases hw
      exact hD σ Ai H1 E1 K1
theorem snd_ret (HM : MOk W T M) {e : ME} {v : Expr} {pos : Pos} (hv : chkE T N e sc fnb v = true) : PSs_ W T M G k N sc fnb (.ret e) (.Return (some v) pos) := by
  obtain ⟨t, t1, t2⟩ := ((snd_all HM e N sc fnb).1 _ hv).1
  refine ⟨tRet t, fun X hX => ps_ret (t1 X hX), fun S A ρ σ H o E hr De hD => ?_⟩
  unfold evS at hr
  obtain ⟨r, e1, hr⟩ := Option.bind_eq_some_iff.mp hr
  cases hr
  exact t2 S A ρ σ H r E e1 _ fun w H1 R1 => hD w (dropA A r.2) H1 ((E.kp R1.same).trans Kp.drop) R1.rep
theorem snd_nev {st : Stmt} : PSs_ W T M G k N sc fnb .nev st := ⟨tNever, fun X hX => ps_never, fun S A ρ σ H o E hr De hD => by cases hr⟩

theorem putF_zip {f : Str} {y : V} : ∀ {ns : List Str} {xs : List V}, ns.Nodup → ns[xs.length]? = some f → putF f y (ns.zip xs) = ns.zip (xs ++ [y])
  | [], xs, _, h => by simp at h
  | n :: ns, [], hN, h => by
    simp at h
    subst h
    cases ns <;> rfl
  | n :: ns, x :: xs, hN, h => by
    simp at h
    obtain ⟨hn, hN⟩ := List.nodup_cons.mp hN
    have hne : ¬ n = f := fun e => hn (by rw [e]; exact List.mem_of_getElem? h)
    rw [List.zip_cons_cons]
    show (if n = f then (n, y) :: ns.zip xs else (n, x) :: putF f y (ns.zip xs)) = (n, x) :: ns.zip (xs ++ [y])
    rw [if_neg hne, putF_zip hN h]
theorem snd_fset (HM : MOk W T M) {c kk : Nat} {e : ME} {y v : Expr} {f : Str} {p pos : Pos} (hy : nmB N sc 0 y = true) (hv : chkE T N e sc fnb v = true) (ho : notComp v = true) (hf : (T.cfl c)[kk]? = some f) (hc : c < T.ncl) :
    PSs_ W T M G k N sc fnb (.fset c kk e) (.Assign [.Attribute y f p] v pos) := by
  obtain ⟨t, t1, t2⟩ := ((snd_all HM e N sc fnb).1 _ hv).1
  obtain ⟨hC, hA⟩ := HM.cls c hc
  refine ⟨sFld W.K (tVar 0) t f, fun X hX => by rw [← hX.K]; exact ps_fld (pv_of hy X hX) (t1 X hX) (swaps_none ho _), fun S A ρ σ H o E hr De hD => ?_⟩
  unfold evS at hr
  obtain ⟨r, e1, hr⟩ := Option.bind_eq_some_iff.mp hr
  split at hr
  · rename_i c' ds e2
    split at hr
    · rename_i hh
      cases hr
      obtain ⟨rfl, hl, hk, hL⟩ := hh
      rw [hL, frz_nil] at hD
      refine t2 S A ρ σ H r E e1 _ fun w H1 R1 => ?_
      have E1 := E.same R1.same
      obtain ⟨a, dx, xs, h1, h2, h3, h4, h5⟩ := E1.ob 0 c' ds e2
      have r1 := R1.rep
      rw [hL, dropA_nil] at r1
      have hn : ((W.fl c').zip xs).length < 1000 := by
        rw [List.length_zip, h5.length]
        omega
      refine ⟨_, h2, a, W.cl c', dx, _, rfl, h3, hC, hA f (List.mem_of_getElem? hf), hn, ?_⟩
      have hlen : (W.fl c')[xs.length]? = some f := by rw [HM.fl, h5.length, hl]; exact hf
      rw [putF_zip (by rw [HM.fl]; exact HM.nd c') hlen]
      have hi : 0 < ρ.length := (List.getElem?_eq_some_iff.mp e2).1
      have hx : (xs ++ [w]).length ≤ (W.fl c').length := by
        have := (List.getElem?_eq_some_iff.mp hlen).1
        rw [List.length_append]
        simp
        omega
      have E2 := E1.updOb (i := 0) (c := c') (dx := dx) hi h1 hx (h5.append (.cons r1 .nil))
      exact hD σ A _ E2 ((E.kp R1.same).trans (Kp.upd E1 h1 fun _ _ _ _ => ⟨_, _, _, h3⟩))
    · cases hr
  · cases hr

/-! ### all statements -/
theorem sndB_nil : PBs W T M G k N sc fnb .nil [] := ⟨tNext, fun X hX => pss_nil, fun S A ρ σ H o E hr De hD => by
  cases hr
  exact hD σ A H E Kp.refl⟩
theorem sndB_cons {s ss : MS} {st : Stmt} {sts : List Stmt} (ha : PSs_ W T M G k N sc fnb s st) (hb : PBs W T M G k N sc fnb ss sts) : PBs W T M G k N sc fnb (.cons s ss) (st :: sts) := by
  obtain ⟨ta, a1, a2⟩ := ha
  obtain ⟨tb, b1, b2⟩ := hb
  refine ⟨tSeq ta tb, fun X hX => pss_cons (a1 X hX) (b1 X hX), fun S A ρ σ H o E hr De hD => ?_⟩
  unfold evS at hr
  obtain ⟨o1, e1, hr⟩ := Option.bind_eq_some_iff.mp hr
  refine a2 S A ρ σ H o1 E e1 _ ?_
  cases o1 with
  | nx ρ' => exact fun σ' A' H' E' K' => b2 S A' ρ' σ' H' o E' hr De (hD.from K')
  | rt d =>
    cases hr
    exact hD
theorem snd_stmt (HM : MOk W T M) (m : MS) : (∀ st, chkS T N sc fnb m st = true → PSs_ W T M G k N sc fnb m st) ∧ (∀ sts, chkB T N sc fnb m sts = true → PBs W T M G k N sc fnb m sts) := by
  induction m with
  | set i e =>
    refine ⟨fun st h => ?_, fun sts h => by unfold chkB at h; cases h⟩
    unfold chkS at h
    split at h
    · simp only [Bool.and_eq_true, decide_eq_true_eq] at h
      exact snd_set HM h.1 h.2.1 h.2.2.1 h.2.2.2.1 h.2.2.2.2.1 h.2.2.2.2.2
    · cases h
  | unp is e =>
    refine ⟨fun st h => ?_, fun sts h => by unfold chkB at h; cases h⟩
    unfold chkS at h
    split at h
    · simp only [Bool.and_eq_true] at h
      exact snd_unp HM h.1 h.2.1 h.2.2.1 h.2.2.2
    · cases h
  | sets x ix e =>
    refine ⟨fun st h => ?_, fun sts h => by unfold chkB at h; cases h⟩
    unfold chkS at h
    split at h
    · simp only [Bool.and_eq_true] at h
      exact snd_sets HM h.1 h.2.1 h.2.2.1 h.2.2.2.1 h.2.2.2.2
    · cases h
  | swp x i j a b =>
    refine ⟨fun st h => ?_, fun sts h => by unfold chkB at h; cases h⟩
    unfold chkS at h
    split at h
    · simp only [Bool.and_eq_true, Bool.not_eq_true'] at h
      obtain ⟨h1, h2, h3, h4, h5, h6, h7, h8, h9, h10⟩ := h
      exact snd_swp HM h1 h2 h3 h4 h5 h6 h7 h8 h9 h10
    · cases h
  | aug x ix e =>
    refine ⟨fun st h => ?_, fun sts h => by unfold chkB at h; cases h⟩
    unfold chkS at h
    split at h
    · simp only [Bool.and_eq_true] at h
      exact snd_aug HM h.1 h.2.1 h.2.2.1 h.2.2.2
    · cases h
  | app x e =>
    refine ⟨fun st h => ?_, fun sts h => by unfold chkB at h; cases h⟩
    unfold chkS at h
    split at h
    · simp only [Bool.and_eq_true, decide_eq_true_eq, Bool.not_eq_true'] at h
      obtain ⟨rfl, h1, h2, h3, h4⟩ := h
      exact snd_app HM h1 h2 h3 h4
    · cases h
  | ext x e =>
    refine ⟨fun st h => ?_, fun sts h => by unfold chkB at h; cases h⟩
    unfold chkS at h
    split at h
    · simp only [Bool.and_eq_true, decide_eq_true_eq, Bool.not_eq_true'] at h
      obtain ⟨rfl, h1, h2, h3, h4⟩ := h
      exact snd_ext HM h1 h2 h3 h4
    · cases h
  | pop x =>
    refine ⟨fun st h => ?_, fun sts h => by unfold chkB at h; cases h⟩
    unfold chkS at h
    split at h
    · simp only [Bool.and_eq_true, decide_eq_true_eq] at h
      obtain ⟨rfl, h1, h2⟩ := h
      exact snd_pop h1 h2
    · cases h
  | exp e =>
    refine ⟨fun st h => ?_, fun sts h => by unfold chkB at h; cases h⟩
    unfold chkS at h
    split at h
    · simp only [Bool.and_eq_true] at h
      exact snd_exp HM h.1 h.2
    · cases h
  | ite c a b iha ihb =>
    refine ⟨fun st h => ?_, fun sts h => by unfold chkB at h; cases h⟩
    unfold chkS at h
    split at h
    · simp only [Bool.and_eq_true] at h
      exact snd_ite HM h.1 h.2.1 (iha.2 _ h.2.2.1) (ihb.2 _ h.2.2.2)
    · cases h
  | for_ tg it src body ih =>
    refine ⟨fun st h => ?_, fun sts h => by unfold chkB at h; cases h⟩
    unfold chkS at h
    split at h
    · rename_i te iter s1 pos
      simp only [Bool.and_eq_true] at h
      obtain ⟨h1, h2, h3, h4⟩ := h
      have ihs := snd_all (G := G) (k := k) HM src N sc fnb
      have hI : PIs W T M G k N sc fnb it src te iter := by
        split at h1
        · exact it_lst (ihs.1 _ h1).1
        · exact it_tup (ihs.1 _ h1).1
        · simp only [Bool.and_eq_true, decide_eq_true_eq] at h1
          obtain ⟨rfl, g1, g2⟩ := h1
          exact it_rg1 g1 (chkA_star g2 _ (by simp)) (ihs.2 _ g2)
        · simp only [Bool.and_eq_true, decide_eq_true_eq] at h1
          obtain ⟨rfl, g1, g2⟩ := h1
          exact it_rg2 g1 (chkA_star g2 _ (by simp)) (chkA_star g2 _ (by simp)) (ihs.2 _ g2)
        · simp only [Bool.and_eq_true, decide_eq_true_eq] at h1
          obtain ⟨rfl, g1, g2⟩ := h1
          exact it_rev g1 (chkA_star g2 _ (by simp)) (ihs.2 _ g2)
        · simp only [Bool.and_eq_true, decide_eq_true_eq, Bool.not_eq_true'] at h1
          obtain ⟨rfl, g1, g2, g3⟩ := h1
          cases te <;> first | (cases g3; done) | skip
          exact it_zip g1 (chkA_star g2 _ (by simp)) (chkA_star g2 _ (by simp)) (ihs.2 _ g2)
        · cases h1
      exact snd_for hI h2 h3 (ih.2 _ h4)
    · cases h
  | whl c body ih =>
    refine ⟨fun st h => ?_, fun sts h => by unfold chkB at h; cases h⟩
    unfold chkS at h
    split at h
    · simp only [Bool.and_eq_true] at h
      exact snd_whl HM h.1 h.2.1 (ih.2 _ h.2.2)
    · cases h
  | ret e =>
    refine ⟨fun st h => ?_, fun sts h => by unfold chkB at h; cases h⟩
    unfold chkS at h
    split at h
    · exact snd_ret HM h
    · cases h
  | nev => exact ⟨fun st h => snd_nev, fun sts h => by unfold chkB at h; cases h⟩
  | fset c kk e =>
    refine ⟨fun st h => ?_, fun sts h => by unfold chkB at h; cases h⟩
    unfold chkS at h
    split at h
    · simp only [Bool.and_eq_true, decide_eq_true_eq] at h
      exact snd_fset HM h.1 h.2.1 h.2.2.1 h.2.2.2.1 h.2.2.2.2
    · cases h
  | nil =>
    refine ⟨fun st h => (by unfold chkS at h; cases h), fun sts h => ?_⟩
    unfold chkB at h
    split at h
    · exact sndB_nil
    · cases h
  | cons s ss ihs ihss =>
    refine ⟨fun st h => (by unfold chkS at h; cases h), fun sts h => ?_⟩
    unfold chkB at h
    split at h
    · simp only [Bool.and_eq_true] at h
      exact sndB_cons (ihs.1 _ h.1) (ihss.2 _ h.2)
    · cases h
end
end MN
end S_MnStmt3
section S_MnFunB
set_option maxRecDepth 100000
/-! From the texts to the defs' promises. -/
namespace MN
open PySem PySem.Spec PyProof.Rows L2

def outD : Out → Option D
  | .nx _ => some .non
  | .rt d => some d
def inD (c : Nat) : Out → Option D
  | .nx ρ => (match (show Option Sl from ρ[0]?) with
    | some (Sl.ob c' fs) => if c' = c ∧ fs.length = (flds c).length then some (.ins c fs) else none
    | _ => none)
  | .rt _ => none
def recvB (d : DF) (ds : List D) : Bool := if d.knd = 2 ∨ d.knd = 3 then (match ds with
  | .ins c _ :: _ => decide (c = d.cls)
  | _ => false) else true
def en0 (d : DF) (ds : List D) : En := ds.map Sl.sh ++ List.replicate (d.N.length - d.ps) Sl.un
/-- one call: M what the functions that it calls give -/
def runB (M : Nat → List D → Option D) (f : Nat) (ds : List D) : Option D :=
  if (df f).knd = 1 then
    (if ds.length + 1 = (df f).ps then (evS M GG (df f).body (Sl.ob (df f).cls [] :: en0 (df f) ds)).bind (inD (df f).cls) else none)
  else if ds.length = (df f).ps ∧ recvB (df f) ds = true then (evS M GG (df f).body (en0 (df f) ds)).bind outD else none
def runF : Nat → Nat → List D → Option D
  | 0 => fun _ _ => none
  | k + 1 => runB (runF k)

/-! ### the check of a def -/
def scB (N P : List Str) (sc : Scope) : Bool :=
  isFun sc && (!sc.isCoroutine && (!sc.isGenerator && (decide N.Nodup && (decide (N.take P.length = P) && (P.all (fun x => locB sc x) && sc.names.all (fun y => match y.2 with
    | .free => false
    | _ => true))))))
def okDF (tops : List Stmt) (d : DF) : Bool := chkB TTb d.N (defScope (stOf tops d)) (fun _ => true) d.body (defBody (stOf tops d)) && (scB d.N (d.N.take d.ps) (defScope (stOf tops d)) && (decide (d.ps ≤ d.N.length) && (decide (d.knd = 1 → 0 < d.ps))))
theorem scB_ok {N P : List Str} {sc : Scope} (h : scB N P sc = true) : FnScope N P sc := by
  unfold scB at h
  simp only [Bool.and_eq_true, Bool.not_eq_true', decide_eq_true_eq, List.all_eq_true] at h
  obtain ⟨h1, h2, h3, h4, h5, h6, h7⟩ := h
  refine ⟨?_, h2, h3, h4, h5, fun x hx => ?_, fun y hy e => ?_⟩
  · unfold isFun at h1
    split at h1
    · assumption
    · cases h1
  · have v := h6 x hx
    unfold locB at v
    split at v <;> first | (rename_i e; rw [e]; simp; done) | cases v
  · have v := h7 y hy
    rw [e] at v
    cases v

section
variable {W : Wd} {M : Nat → List D → Option D} {k : Nat} {P : Program} {w : World} {mg : Str → Option Value} {base : Heap}

theorem xok {N : List Str} {qual : Str} {scope : Scope} {f : Addr} {cdv : Value} {A : Around} {outer : List Env} {s : Shared} {H : Hp} {E : XK} (pg : ProgOk W TTb M GG k P w mg base) (hN : N.Nodup) (hr : Room (k + 1) (A.deeper (envOfC qual scope s.heap.objs.size f cdv))) :
    XOk W TTb M GG k N scope (fun _ => true) (cxOf CX0 P w W.K mg base N qual scope f cdv A outer s H E).nox :=
  ⟨rfl, hN, rfl, rfl, rfl, rfl, hr, fun _ _ => rfl, pg⟩

theorem en0_get {d : DF} {ds : List D} {i : Nat} {sl : Sl} (h : (en0 d ds)[i]? = some sl) : (∃ x, ds[i]? = some x ∧ sl = .sh x) ∨ sl = .un := by
  unfold en0 at h
  by_cases hi : i < ds.length
  · rw [List.getElem?_append_left (by simpa using hi), List.getElem?_map] at h
    cases e : ds[i]? with
    | none => rw [e] at h; cases h
    | some x => rw [e] at h; cases h; exact .inl ⟨x, rfl, rfl⟩
  · rw [List.getElem?_append_right (by simpa using hi)] at h
    exact .inr (List.eq_of_mem_replicate (List.mem_of_getElem? h))
theorem en0_len {d : DF} {ds : List D} : (en0 d ds).length = ds.length + (d.N.length - d.ps) := by
  unfold en0
  simp
theorem start_get {N : List Str} {vs : List V} {i : Nat} {v : V} (h : vs[i]? = some v) : (L2.start N vs)[i]? = some (some v) := by
  unfold L2.start
  have hi := (List.getElem?_eq_some_iff.mp h).1
  rw [List.getElem?_append_left (by simpa using hi), List.getElem?_map, h]
  rfl

/-- a def's or a method's promise -/
theorem fn_ok {d : DF} {st : Stmt} {x qual : Str} {params : Arguments} {dvs : List V} {kws : List (Str × V)} {f : Addr} {fd : FuncData} (HM : MOk W TTb M) (pg : ProgOk W TTb M GG k P w mg base)
    (F : FunD W.K x qual params (defBody st) (defScope st) dvs kws f fd) (hc : chkB TTb d.N (defScope st) (fun _ => true) d.body (defBody st) = true) (hs : scB d.N (d.N.take d.ps) (defScope st) = true) (hp : d.ps ≤ d.N.length) {m : List D → Option D}
    (hm : ∀ ds r, m ds = some r → ds.length = d.ps ∧ (evS M GG d.body (en0 d ds)).bind outD = some r) :
    FnOk P w W.K mg base CX0 (k + 2) f fd (d.N.take d.ps) (spF W m) := by
  obtain ⟨t, t1, t2⟩ := (snd_stmt (W := W) (G := GG) (k := k) (N := d.N) HM d.body).2 _ hc
  refine F.ok (scB_ok hs) (fun vs H Q E h => ?_) (fun cdv A outer s H vs Q E hr h => ⟨t, (t1 _ (xok pg (scB_ok hs).nd hr)).nox, ?_⟩)
  · obtain ⟨ds, r, Hb, h1, h2, h3, h4⟩ := h
    rw [List.length_take, h2.length, (hm ds r h3).1]
    omega
  · obtain ⟨ds, r, Hb, h1, h2, h3, h4⟩ := h
    obtain ⟨hl, e⟩ := hm ds r h3
    obtain ⟨o, e1, e2⟩ := Option.bind_eq_some_iff.mp e
    have hb : Same Hb (Hh (fun b => H b ≠ none ∧ Hb b = none) (fun _ => none) H) := fun b o q => hh_some.mpr ⟨fun z => (by rw [z.2] at q; cases q), fun i z => (by cases z), h1 _ _ q⟩
    have hv : vs.length = d.ps := by rw [h2.length, hl]
    refine t2 (fun b => H b ≠ none ∧ Hb b = none) (fun _ => none) (en0 d ds) _ H o ⟨?_, fun i x q => ?_, fun i ds q => ?_, fun i c ds q => ?_, fun i a z => (by cases z), fun i j a z => (by cases z), fun a z => z.1⟩ e1 _ ?_
    · rw [en0_len]
      unfold L2.start
      simp only [List.length_append, List.length_map, List.length_replicate]
      rw [h2.length, hl]
    · rcases en0_get q with ⟨y, q1, q2⟩ | q2
      · cases q2
        obtain ⟨v, g1, g2⟩ := h2.get q1
        exact ⟨v, start_get g1, g2.mono hb⟩
      · cases q2
    · rcases en0_get q with ⟨y, q1, q2⟩ | q2 <;> cases q2
    · rcases en0_get q with ⟨y, q1, q2⟩ | q2 <;> cases q2
    · have key : ∀ (v : V) (A' : Nat → Option Addr) (H' : Hp), Kp (fun b => H b ≠ none ∧ Hb b = none) (fun _ => none) H A' H' → Rep W (Hh (fun b => H b ≠ none ∧ Hb b = none) A' H') v r → Q v H' := by
        intro v A' H' kp rv
        have s3 : Same Hb (Hh (fun b => H b ≠ none ∧ Hb b = none) A' H') := hb.trans kp.s
        refine h4 v H' _ (fun b o q => ?_) s3 hh_same (fun b o q => ?_) rv
        · by_cases z : Hb b = none
          · rw [kp.h b ⟨(by rw [q]; intro y; cases y), z⟩, q]
          · cases z2 : Hb b with
            | none => exact absurd z2 z
            | some o' =>
              have := h1 _ _ z2
              rw [q] at this
              cases this
              exact hh_same _ _ (s3 _ _ z2)
        · by_cases z : H b = none
          · exact .inr z
          · refine .inl ?_
            cases z2 : Hb b with
            | none => exact absurd ⟨z, z2⟩ (hh_some.mp q).1
            | some o' =>
              have := s3 _ _ z2
              rw [q] at this
              exact this.symm
      cases o with
      | nx ρ' =>
        cases e2
        exact fun σ' A' H' E' kp => key .non A' H' kp .non
      | rt z =>
        cases e2
        exact fun v A' H' kp rv => key v A' H' kp rv

/-- a class's __init__ -/
theorem ini_ok {d : DF} {st : Stmt} {x qual : Str} {params : Arguments} {dvs : List V} {kws : List (Str × V)} {f : Addr} {fd : FuncData} (HM : MOk W TTb M) (pg : ProgOk W TTb M GG k P w mg base)
    (F : FunD W.K x qual params (defBody st) (defScope st) dvs kws f fd) (hc : chkB TTb d.N (defScope st) (fun _ => true) d.body (defBody st) = true) (hs : scB d.N (d.N.take d.ps) (defScope st) = true) (hp : d.ps ≤ d.N.length) {m : List D → Option D}
    (hm : ∀ ds r, m ds = some r → ds.length + 1 = d.ps ∧ (evS M GG d.body (Sl.ob d.cls [] :: en0 d ds)).bind (inD d.cls) = some r) :
    FnOk P w W.K mg base CX0 (k + 2) f fd (d.N.take d.ps) (spI W d.cls m) := by
  obtain ⟨t, t1, t2⟩ := (snd_stmt (W := W) (G := GG) (k := k) (N := d.N) HM d.body).2 _ hc
  refine F.ok (scB_ok hs) (fun vs H Q E h => ?_) (fun cdv A outer s H vs Q E hr h => ⟨t, (t1 _ (xok pg (scB_ok hs).nd hr)).nox, ?_⟩)
  · obtain ⟨p, dx, us, ds, fs, Hb, rfl, h1, h2, h3, h4, h5, h6⟩ := h
    rw [List.length_take, List.length_cons, h4.length, (hm ds _ h5).1]
    omega
  · obtain ⟨p, dx, us, ds, fs, Hb, rfl, h1, h2, h3, h4, h5, h6⟩ := h
    obtain ⟨hl, e⟩ := hm ds _ h5
    obtain ⟨o, e1, e2⟩ := Option.bind_eq_some_iff.mp e
    have hb : Same Hb (Hh (fun b => H b ≠ none ∧ Hb b = none ∧ b ≠ p) (fun i => if i = 0 then some p else none) H) := fun b o q => hh_some.mpr ⟨fun z => (by rw [z.2.1] at q; cases q), fun i z => (by
      by_cases hi : i = 0
      · rw [if_pos hi] at z
        cases z
        rw [h2] at q; cases q
      · rw [if_neg hi] at z; cases z), h3 _ _ q⟩
    have hA : ∀ {i : Nat} {a : Addr}, (if i = 0 then some p else none) = some a → i = 0 ∧ a = p := fun {i a} z => by
      by_cases hi : i = 0
      · rw [if_pos hi] at z
        cases z
        exact ⟨hi, rfl⟩
      · rw [if_neg hi] at z; cases z
    refine t2 (fun b => H b ≠ none ∧ Hb b = none ∧ b ≠ p) (fun i => if i = 0 then some p else none) (Sl.ob d.cls [] :: en0 d ds) _ H o ⟨?_, fun i x q => ?_, fun i ds q => ?_, fun i c ds q => ?_, fun i a z => ?_, fun i j a z1 z2 => ?_, fun a z => z.1⟩ e1 _ ?_
    · rw [List.length_cons, en0_len]
      unfold L2.start
      simp only [List.length_append, List.length_map, List.length_replicate, List.length_cons]
      rw [h4.length]
      omega
    · cases i with
      | zero => cases q
      | succ i =>
        rcases en0_get (d := d) (by simpa using q) with ⟨y, q1, q2⟩ | q2
        · cases q2
          obtain ⟨v, g1, g2⟩ := h4.get q1
          exact ⟨v, start_get (by simpa using g1), g2.mono hb⟩
        · cases q2
    · cases i with
      | zero => cases q
      | succ i => rcases en0_get (d := d) (by simpa using q) with ⟨y, q1, q2⟩ | q2 <;> cases q2
    · cases i with
      | zero =>
        cases q
        exact ⟨p, dx, [], rfl, rfl, by simpa using h1, Nat.zero_le _, .nil⟩
      | succ i => rcases en0_get (d := d) (by simpa using q) with ⟨y, q1, q2⟩ | q2 <;> cases q2
    · obtain ⟨rfl, rfl⟩ := hA z
      refine ⟨(by rw [h1]; intro z; cases z), fun z => z.2.2 rfl, .inr ⟨d.cls, [], rfl⟩⟩
    · rw [(hA z1).1, (hA z2).1]
    · cases o with
      | nx ρ' =>
        refine fun σ' A' H' E' kp => ?_
        have e2 : (match (show Option Sl from ρ'[0]?) with
          | some (Sl.ob c' fs) => if c' = d.cls ∧ fs.length = (flds d.cls).length then some (D.ins d.cls fs) else none
          | _ => none) = some (.ins d.cls fs) := e2
        split at e2
        · rename_i c' gs q
          split at e2
          · rename_i hh
            obtain ⟨rfl, hf⟩ := hh
            cases e2
            obtain ⟨a, dx', xs, g1, g2, g3, g4, g5⟩ := E'.ob 0 _ _ q
            obtain ⟨g6, _⟩ := kp.o 0 a g1 ⟨_, _, _, g3⟩
            have g7 := (hA g6).2
            subst g7
            have s3 := hb.trans kp.s
            refine h6 H' (fun b => if b = a then H' a else Hh (fun b => H b ≠ none ∧ Hb b = none ∧ b ≠ a) A' H' b) (fun b o hne q => ?_) (fun b o q => ?_) (fun b o q => ?_) (fun b o q => ?_) ?_
            · by_cases z : Hb b = none
              · rw [kp.h b ⟨(by rw [q]; intro y; cases y), z, hne⟩, q]
              · cases z2 : Hb b with
                | none => exact absurd z2 z
                | some o' =>
                  have := h3 _ _ z2
                  rw [q] at this
                  cases this
                  exact hh_same _ _ (s3 _ _ z2)
            · by_cases hba : b = a
              · subst hba
                rw [h2] at q; cases q
              · show (if b = a then _ else _) = _
                rw [if_neg hba]
                exact s3 _ _ q
            · have q : (if b = a then H' a else Hh (fun b => H b ≠ none ∧ Hb b = none ∧ b ≠ a) A' H' b) = some o := q
              by_cases hba : b = a
              · rw [if_pos hba] at q
                rw [hba]; exact q
              · rw [if_neg hba] at q
                exact hh_same _ _ q
            · have q : (if b = a then H' a else Hh (fun b => H b ≠ none ∧ Hb b = none ∧ b ≠ a) A' H' b) = some o := q
              by_cases hba : b = a
              · exact .inr (.inr hba)
              · rw [if_neg hba] at q
                by_cases z : H b = none
                · exact .inr (.inl z)
                · refine .inl ?_
                  cases z2 : Hb b with
                  | none => exact absurd ⟨z, z2, hba⟩ (hh_some.mp q).1
                  | some o' =>
                    have := s3 _ _ z2
                    rw [q] at this
                    exact this.symm
            · have hlx : (W.fl d.cls).length = xs.length := by
                rw [HM.fl, g5.length, hf]
                rfl
              refine .ins (dx := dx') (xs := xs) (by simpa using g3) hlx (g5.mono fun b o q => ?_)
              show (if b = a then _ else _) = _
              by_cases hba : b = a
              · rw [if_pos hba, ← hba]
                exact hh_same _ _ q
              · rw [if_neg hba]
                exact q
          · cases e2
        · cases e2
      | rt z => cases e2
end

/-! ### what the head tells -/
abbrev psOf (d : DF) : List Str := d.N.take d.ps
structure HdOk (W : Wd) (tops : List Stmt) (mg : Str → Option Value) : Prop where
  ok : ∀ f, (df f).knd ≠ 9 → okDF tops (df f) = true
  fl : ∀ c, W.fl c = flds c
  fn : ∀ f, (df f).knd = 0 → ∃ a fd x q ar dvs kws, mg (df f).nm = some (.ref a) ∧ FunD W.K x q ar (defBody (stOf tops (df f))) (defScope (stOf tops (df f))) dvs kws a fd ∧ Binds W.K fd (psOf (df f)) []
  mkr : ∀ f, (df f).knd = 1 → ∃ a fd x q ar dvs kws, mg (clsNm (df f).cls) = some (.ref (W.cl (df f).cls)) ∧ Mk W.K (W.cl (df f).cls) a ∧ FunD W.K x q ar (defBody (stOf tops (df f))) (defScope (stOf tops (df f))) dvs kws a fd ∧ Binds W.K fd (psOf (df f)) []
  me : ∀ f, (df f).knd = 2 → ∃ a fd x q ar dvs kws, Cls W.K (W.cl (df f).cls) ∧ Meth W.K (W.cl (df f).cls) (df f).nm a ∧ FunD W.K x q ar (defBody (stOf tops (df f))) (defScope (stOf tops (df f))) dvs kws a fd ∧ Binds W.K fd (psOf (df f)) []
  pr : ∀ f, (df f).knd = 3 → ∃ p a fd x q ar dvs kws, Cls W.K (W.cl (df f).cls) ∧ PropOf W.K (W.cl (df f).cls) (df f).nm p a ∧ FunD W.K x q ar (defBody (stOf tops (df f))) (defScope (stOf tops (df f))) dvs kws a fd ∧ Binds W.K fd (psOf (df f)) []
  cls : ∀ c, c < 2 → Cls W.K (W.cl c) ∧ (∀ n ∈ flds c, NoAttr W.K (W.cl c) n)
  glb : ∀ g, g < TTb.ngl → ∃ t, mg (TTb.gnm g) = some (.int (GG g) t)
  blt : ∀ x ∈ (["len", "abs", "max", "min", "int", "sum", "sorted", "list", "range", "reversed", "zip", "set", "isinstance", "bool"] : List Str), mg x = none
  comb : mg "comb" = some (.builtin "math.comb")
theorem run_in {M : Nat → List D → Option D} {f : Nat} {ds : List D} {r : D} (hk : (df f).knd = 1) (h : runB M f ds = some r) : ds.length + 1 = (df f).ps ∧ (evS M GG (df f).body (Sl.ob (df f).cls [] :: en0 (df f) ds)).bind (inD (df f).cls) = some r := by
  unfold runB at h
  rw [if_pos hk] at h
  split at h
  · rename_i hl
    exact ⟨hl, h⟩
  · cases h
theorem run_fn {M : Nat → List D → Option D} {f : Nat} {ds : List D} {r : D} (hk : (df f).knd ≠ 1) (h : runB M f ds = some r) : (ds.length = (df f).ps ∧ (evS M GG (df f).body (en0 (df f) ds)).bind outD = some r) ∧ recvB (df f) ds = true := by
  unfold runB at h
  rw [if_neg hk] at h
  split at h
  · rename_i hl
    exact ⟨⟨hl.1, h⟩, hl.2⟩
  · cases h
theorem inD_some {c : Nat} {o : Out} {r : D} (h : inD c o = some r) : ∃ fs, r = .ins c fs := by
  cases o with
  | nx ρ =>
    have h : (match (show Option Sl from ρ[0]?) with
      | some (Sl.ob c' fs) => if c' = c ∧ fs.length = (flds c).length then some (D.ins c fs) else none
      | _ => none) = some r := h
    split at h
    · split at h
      · cases h; exact ⟨_, rfl⟩
      · cases h
    · cases h
  | rt d => cases h
theorem recv_some {d : DF} {ds : List D} (hk : d.knd = 2 ∨ d.knd = 3) (h : recvB d ds = true) : ∃ fs r, ds = .ins d.cls fs :: r := by
  unfold recvB at h
  rw [if_pos hk] at h
  split at h
  · have h := of_decide_eq_true h
    subst h
    exact ⟨_, _, rfl⟩
  · cases h
theorem flds_nd : ∀ c, (flds c).Nodup
  | 0 => by decide +kernel
  | 1 => by decide +kernel
  | _ + 2 => List.nodup_nil
section
variable {W : Wd} {tops : List Stmt} {P : Program} {w : World} {mg : Str → Option Value} {base : Heap}
theorem mok (h : HdOk W tops mg) : ∀ k, MOk W TTb (runF k)
  | 0 => ⟨fun _ _ _ _ z => (by cases z), fun _ _ _ _ z => (by cases z), fun _ _ _ _ z => (by cases z), h.cls, h.fl, flds_nd⟩
  | k + 1 => ⟨fun f hk ds d e => by
      obtain ⟨_, e⟩ := run_in hk e
      obtain ⟨o, _, e⟩ := Option.bind_eq_some_iff.mp e
      exact inD_some e, fun f hk ds d e => recv_some (.inl hk) (run_fn (show (df f).knd ≠ 1 by rw [show (df f).knd = 2 from hk]; decide) e).2, fun f hk ds d e => recv_some (.inr hk) (run_fn (show (df f).knd ≠ 1 by rw [show (df f).knd = 3 from hk]; decide) e).2, h.cls, h.fl, flds_nd⟩
theorem ok_parts {d : DF} (h : okDF tops d = true) : chkB TTb d.N (defScope (stOf tops d)) (fun _ => true) d.body (defBody (stOf tops d)) = true ∧ scB d.N (d.N.take d.ps) (defScope (stOf tops d)) = true ∧ d.ps ≤ d.N.length ∧ (d.knd = 1 → 0 < d.ps) := by
  unfold okDF at h
  simpa only [Bool.and_eq_true, decide_eq_true_eq] using h
theorem fn_none {f : Addr} {fd : FuncData} {ps : List Str} {k : Nat} {sp : Sp} (h : ∀ vs H Q E, sp vs H Q E → False) : FnOk P w W.K mg base CX0 k f fd ps sp :=
  ⟨fun vs H Q E q => (h _ _ _ _ q).elim, fun _ _ _ _ _ _ _ _ _ _ _ _ _ q => (h _ _ _ _ q).elim⟩
theorem prog_ok (h : HdOk W tops mg) : ∀ k, ProgOk W TTb (runF k) GG (2 * k) P w mg base
  | 0 => by
    have n1 : ∀ (f : Nat) (vs : List V) (H : Hp) (Q : VK) (E : XK), spF W (runF 0 f) vs H Q E → False := fun f vs H Q E q => by
      obtain ⟨ds, r, Hb, h1, h2, h3, h4⟩ := q
      cases h3
    refine ⟨fun f hk => ?_, fun f hk => ?_, fun f hk => ?_, fun f hk => ?_, h.glb, h.blt, h.comb⟩
    · obtain ⟨a, fd, x, q, ar, dvs, kws, h1, h2, h3⟩ := h.fn f hk
      exact ⟨a, fd, _, h1, h2.kp, h3, fn_none (n1 f)⟩
    · obtain ⟨a, fd, x, q, ar, dvs, kws, h1, h2, h3, h4⟩ := h.mkr f hk
      exact ⟨a, fd, _, h1, h2, h4, fn_none fun vs H Q E q => by
        obtain ⟨p, dx, us, ds, fs, Hb, rfl, h1, h2, h3, h4, h5, h6⟩ := q
        cases h5⟩
    · obtain ⟨a, fd, x, q, ar, dvs, kws, h1, h2, h3, h4⟩ := h.me f hk
      exact ⟨a, fd, _, h1, h2, h4, fn_none (n1 f)⟩
    · obtain ⟨p, a, fd, x, q, ar, dvs, kws, h1, h2, h3, h4⟩ := h.pr f hk
      exact ⟨p, a, fd, _, h1, h2, h4, fn_none (n1 f)⟩
  | k + 1 => by
    have pg := prog_ok h k
    have HM := mok h k
    refine ⟨fun f hk => ?_, fun f hk => ?_, fun f hk => ?_, fun f hk => ?_, h.glb, h.blt, h.comb⟩
    · obtain ⟨a, fd, x, q, ar, dvs, kws, h1, h2, h3⟩ := h.fn f hk
      have hk : (df f).knd = 0 := hk
      obtain ⟨c1, c2, c3, _⟩ := ok_parts (h.ok f (by omega))
      exact ⟨a, fd, _, h1, h2.kp, h3, fn_ok HM pg h2 c1 c2 c3 fun ds r e => (run_fn (by omega) e).1⟩
    · obtain ⟨a, fd, x, q, ar, dvs, kws, h1, h2, h3, h4⟩ := h.mkr f hk
      have hk : (df f).knd = 1 := hk
      obtain ⟨c1, c2, c3, _⟩ := ok_parts (h.ok f (by omega))
      exact ⟨a, fd, _, h1, h2, h4, ini_ok HM pg h3 c1 c2 c3 fun ds r e => run_in hk e⟩
    · obtain ⟨a, fd, x, q, ar, dvs, kws, h1, h2, h3, h4⟩ := h.me f hk
      have hk : (df f).knd = 2 := hk
      obtain ⟨c1, c2, c3, _⟩ := ok_parts (h.ok f (by omega))
      exact ⟨a, fd, _, h1, h2, h4, fn_ok HM pg h3 c1 c2 c3 fun ds r e => (run_fn (by omega) e).1⟩
    · obtain ⟨p, a, fd, x, q, ar, dvs, kws, h1, h2, h3, h4⟩ := h.pr f hk
      have hk : (df f).knd = 3 := hk
      obtain ⟨c1, c2, c3, _⟩ := ok_parts (h.ok f (by omega))
      exact ⟨p, a, fd, _, h1, h2, h4, fn_ok HM pg h3 c1 c2 c3 fun ds r e => (run_fn (by omega) e).1⟩
end
end MN
end S_MnFunB
section S_MnHdB
set_option maxRecDepth 100000
set_option maxHeartbeats 0
/-! The head, second half. -/
namespace MN
open PySem PySem.Spec PyProof.Rows L2
/-! ### all texts are the defs' bodies -/
theorem all_ok : dfs.all (okDF topsH) = true := by decide +kernel

/-! ### how arguments bind -/
def BindsP (ar : Arguments) (ps : List Str) : Prop := ∀ (x qual : Str) (body : List Stmt) (scope : Scope) (kV doc pm : Value) (an : Option Addr) (cdv ct : Value) (us : List Value), us.length = ps.length → bindArgs (PySem.W.fnOf x qual ar body scope .none kV doc pm an cdv ct) ⟨us, []⟩ = pure (ps.zip us)
def BindsD (ar : Arguments) (ps : List Str) : Prop := ∀ (x qual : Str) (body : List Stmt) (scope : Scope) (T : Addr) (kV doc pm : Value) (an : Option Addr) (cdv ct : Value) (us its : List Value), us.length = ps.length → its.length = 1 →
  ∃ k, bindArgs (PySem.W.fnOf x qual ar body scope (.ref T) kV doc pm an cdv ct) ⟨us, []⟩ = seqItems? (.ref T) >>= k ∧ k (some its.toArray) = pure (ps.zip (us ++ its.drop 1))
def BindsE (d : DF) : Prop := match dflN d with
  | 0 => BindsP (defArgs (stOf topsH d)) (psOf d)
  | _ => BindsD (defArgs (stOf topsH d)) (psOf d)
theorem b_int_power : BindsE d_int_power := fun _ _ _ _ _ _ _ _ _ _ us hl => match us, hl with | [_, _], _ => rfl
theorem b_is_prime : BindsE d_is_prime := fun _ _ _ _ _ _ _ _ _ _ us hl => match us, hl with | [_], _ => rfl
theorem b_base_digits : BindsE d_base_digits := fun _ _ _ _ _ _ _ _ _ _ us hl => match us, hl with | [_, _, _], _ => rfl
theorem b_integer_remainder : BindsE d_integer_remainder := fun _ _ _ _ _ _ _ _ _ _ us hl => match us, hl with | [_, _, _], _ => rfl
theorem b_is_irreducible : BindsE d_is_irreducible := fun _ _ _ _ _ _ _ _ _ _ us hl => match us, hl with | [_, _], _ => rfl
theorem b_is_modulus : BindsE d_is_modulus := fun _ _ _ _ _ _ _ _ _ _ us hl => match us, hl with | [_, _], _ => rfl
theorem b_Field_init : BindsE d_Field_init := fun _ _ _ _ _ _ _ _ _ _ _ us its h1 h2 => match us, its, h1, h2 with | [_, _, _], [_], _, _ => ⟨_, rfl, rfl⟩
theorem b_Field_digits : BindsE d_Field_digits := fun _ _ _ _ _ _ _ _ _ _ us hl => match us, hl with | [_, _], _ => rfl
theorem b_Field_element : BindsE d_Field_element := fun _ _ _ _ _ _ _ _ _ _ us hl => match us, hl with | [_, _], _ => rfl
theorem b_Field_plus : BindsE d_Field_plus := fun _ _ _ _ _ _ _ _ _ _ us hl => match us, hl with | [_, _, _], _ => rfl
theorem b_Field_negative : BindsE d_Field_negative := fun _ _ _ _ _ _ _ _ _ _ us hl => match us, hl with | [_, _], _ => rfl
theorem b_Field_minus : BindsE d_Field_minus := fun _ _ _ _ _ _ _ _ _ _ us hl => match us, hl with | [_, _, _], _ => rfl
theorem b_Field_times : BindsE d_Field_times := fun _ _ _ _ _ _ _ _ _ _ us hl => match us, hl with | [_, _, _], _ => rfl
theorem b_Field_inverse : BindsE d_Field_inverse := fun _ _ _ _ _ _ _ _ _ _ us hl => match us, hl with | [_, _], _ => rfl
theorem b_Field_over : BindsE d_Field_over := fun _ _ _ _ _ _ _ _ _ _ us hl => match us, hl with | [_, _, _], _ => rfl
theorem b_Field_power : BindsE d_Field_power := fun _ _ _ _ _ _ _ _ _ _ us hl => match us, hl with | [_, _, _], _ => rfl
theorem b_Field_same_as : BindsE d_Field_same_as := fun _ _ _ _ _ _ _ _ _ _ us hl => match us, hl with | [_, _], _ => rfl
theorem b_check_width : BindsE d_check_width := fun _ _ _ _ _ _ _ _ _ _ us hl => match us, hl with | [_, _], _ => rfl
theorem b_dot_product : BindsE d_dot_product := fun _ _ _ _ _ _ _ _ _ _ us hl => match us, hl with | [_, _, _], _ => rfl
theorem b_row_with_pivot : BindsE d_row_with_pivot := fun _ _ _ _ _ _ _ _ _ _ us hl => match us, hl with | [_, _, _], _ => rfl
theorem b_without_multiple : BindsE d_without_multiple := fun _ _ _ _ _ _ _ _ _ _ us hl => match us, hl with | [_, _, _, _], _ => rfl
theorem b_reduce_rows : BindsE d_reduce_rows := fun _ _ _ _ _ _ _ _ _ _ us hl => match us, hl with | [_, _], _ => rfl
theorem b_rank_of : BindsE d_rank_of := fun _ _ _ _ _ _ _ _ _ _ us hl => match us, hl with | [_, _, _], _ => rfl
theorem b_kernel : BindsE d_kernel := fun _ _ _ _ _ _ _ _ _ _ us hl => match us, hl with | [_, _, _], _ => rfl
theorem b_multiply_vector : BindsE d_multiply_vector := fun _ _ _ _ _ _ _ _ _ _ us hl => match us, hl with | [_, _, _], _ => rfl
theorem b_transpose : BindsE d_transpose := fun _ _ _ _ _ _ _ _ _ _ us hl => match us, hl with | [_, _], _ => rfl
theorem b_multiply_matrices : BindsE d_multiply_matrices := fun _ _ _ _ _ _ _ _ _ _ us hl => match us, hl with | [_, _, _, _], _ => rfl
theorem b_invert_matrix : BindsE d_invert_matrix := fun _ _ _ _ _ _ _ _ _ _ us hl => match us, hl with | [_, _], _ => rfl
theorem b_weight_of : BindsE d_weight_of := fun _ _ _ _ _ _ _ _ _ _ us hl => match us, hl with | [_], _ => rfl
theorem b_support_of : BindsE d_support_of := fun _ _ _ _ _ _ _ _ _ _ us hl => match us, hl with | [_], _ => rfl
theorem b_check_lengths : BindsE d_check_lengths := fun _ _ _ _ _ _ _ _ _ _ us hl => match us, hl with | [_, _], _ => rfl
theorem b_erased_positions : BindsE d_erased_positions := fun _ _ _ _ _ _ _ _ _ _ us hl => match us, hl with | [_], _ => rfl
theorem b_is_word : BindsE d_is_word := fun _ _ _ _ _ _ _ _ _ _ us hl => match us, hl with | [_, _, _], _ => rfl
theorem b_is_received : BindsE d_is_received := fun _ _ _ _ _ _ _ _ _ _ us hl => match us, hl with | [_, _, _], _ => rfl
theorem b_zero_word : BindsE d_zero_word := fun _ _ _ _ _ _ _ _ _ _ us hl => match us, hl with | [_], _ => rfl
theorem b_check_words : BindsE d_check_words := fun _ _ _ _ _ _ _ _ _ _ us hl => match us, hl with | [_, _, _], _ => rfl
theorem b_add_words : BindsE d_add_words := fun _ _ _ _ _ _ _ _ _ _ us hl => match us, hl with | [_, _, _], _ => rfl
theorem b_scale_word : BindsE d_scale_word := fun _ _ _ _ _ _ _ _ _ _ us hl => match us, hl with | [_, _, _], _ => rfl
theorem b_check_rows : BindsE d_check_rows := fun _ _ _ _ _ _ _ _ _ _ us hl => match us, hl with | [_, _, _], _ => rfl
theorem b_LinearCode_init : BindsE d_LinearCode_init := fun _ _ _ _ _ _ _ _ _ _ us hl => match us, hl with | [_, _, _, _], _ => rfl
theorem b_LinearCode_rows : BindsE d_LinearCode_rows := fun _ _ _ _ _ _ _ _ _ _ us hl => match us, hl with | [_], _ => rfl
theorem b_LinearCode_pivots : BindsE d_LinearCode_pivots := fun _ _ _ _ _ _ _ _ _ _ us hl => match us, hl with | [_], _ => rfl
theorem b_LinearCode_checks : BindsE d_LinearCode_checks := fun _ _ _ _ _ _ _ _ _ _ us hl => match us, hl with | [_], _ => rfl
theorem b_LinearCode_size : BindsE d_LinearCode_size := fun _ _ _ _ _ _ _ _ _ _ us hl => match us, hl with | [_], _ => rfl
theorem b_LinearCode_check_word : BindsE d_LinearCode_check_word := fun _ _ _ _ _ _ _ _ _ _ us hl => match us, hl with | [_, _], _ => rfl
theorem b_LinearCode_syndrome : BindsE d_LinearCode_syndrome := fun _ _ _ _ _ _ _ _ _ _ us hl => match us, hl with | [_, _], _ => rfl
theorem b_LinearCode_contains : BindsE d_LinearCode_contains := fun _ _ _ _ _ _ _ _ _ _ us hl => match us, hl with | [_, _], _ => rfl
theorem b_LinearCode_words : BindsE d_LinearCode_words := fun _ _ _ _ _ _ _ _ _ _ us hl => match us, hl with | [_], _ => rfl
theorem b_LinearCode_same_as : BindsE d_LinearCode_same_as := fun _ _ _ _ _ _ _ _ _ _ us hl => match us, hl with | [_, _], _ => rfl
theorem b_code_from_checks : BindsE d_code_from_checks := fun _ _ _ _ _ _ _ _ _ _ us hl => match us, hl with | [_, _, _], _ => rfl
theorem b_dual : BindsE d_dual := fun _ _ _ _ _ _ _ _ _ _ us hl => match us, hl with | [_], _ => rfl
theorem b_kept_positions : BindsE d_kept_positions := fun _ _ _ _ _ _ _ _ _ _ us hl => match us, hl with | [_, _], _ => rfl
theorem b_shortened : BindsE d_shortened := fun _ _ _ _ _ _ _ _ _ _ us hl => match us, hl with | [_, _], _ => rfl
theorem b_punctured : BindsE d_punctured := fun _ _ _ _ _ _ _ _ _ _ us hl => match us, hl with | [_, _], _ => rfl
theorem b_extended : BindsE d_extended := fun _ _ _ _ _ _ _ _ _ _ us hl => match us, hl with | [_], _ => rfl
theorem b_check_fields : BindsE d_check_fields := fun _ _ _ _ _ _ _ _ _ _ us hl => match us, hl with | [_, _], _ => rfl
theorem b_check_alike : BindsE d_check_alike := fun _ _ _ _ _ _ _ _ _ _ us hl => match us, hl with | [_, _], _ => rfl
theorem b_joined : BindsE d_joined := fun _ _ _ _ _ _ _ _ _ _ us hl => match us, hl with | [_, _], _ => rfl
theorem b_doubled : BindsE d_doubled := fun _ _ _ _ _ _ _ _ _ _ us hl => match us, hl with | [_, _], _ => rfl
theorem b_span_of : BindsE d_span_of := fun _ _ _ _ _ _ _ _ _ _ us hl => match us, hl with | [_, _], _ => rfl
theorem b_meeting : BindsE d_meeting := fun _ _ _ _ _ _ _ _ _ _ us hl => match us, hl with | [_, _], _ => rfl
theorem b_sign_of : BindsE d_sign_of := fun _ _ _ _ _ _ _ _ _ _ us hl => match us, hl with | [_], _ => rfl
theorem b_words_of_weight : BindsE d_words_of_weight := fun _ _ _ _ _ _ _ _ _ _ us hl => match us, hl with | [_, _, _], _ => rfl
theorem b_words_within : BindsE d_words_within := fun _ _ _ _ _ _ _ _ _ _ us hl => match us, hl with | [_, _, _], _ => rfl
theorem b_minimum_distance : BindsE d_minimum_distance := fun _ _ _ _ _ _ _ _ _ _ us hl => match us, hl with | [_], _ => rfl
theorem b_lightest_words : BindsE d_lightest_words := fun _ _ _ _ _ _ _ _ _ _ us hl => match us, hl with | [_], _ => rfl
theorem b_items_at : BindsE d_items_at := fun _ _ _ _ _ _ _ _ _ _ us hl => match us, hl with | [_, _], _ => rfl
theorem b_longer_sets : BindsE d_longer_sets := fun _ _ _ _ _ _ _ _ _ _ us hl => match us, hl with | [_, _], _ => rfl
theorem b_distance_by_columns : BindsE d_distance_by_columns := fun _ _ _ _ _ _ _ _ _ _ us hl => match us, hl with | [_], _ => rfl
theorem b_information_sets : BindsE d_information_sets := fun _ _ _ _ _ _ _ _ _ _ us hl => match us, hl with | [_], _ => rfl
theorem b_is_information_set : BindsE d_is_information_set := fun _ _ _ _ _ _ _ _ _ _ us hl => match us, hl with | [_, _], _ => rfl
theorem b_are_separate_sets : BindsE d_are_separate_sets := fun _ _ _ _ _ _ _ _ _ _ us hl => match us, hl with | [_, _], _ => rfl
theorem b_rows_at : BindsE d_rows_at := fun _ _ _ _ _ _ _ _ _ _ us hl => match us, hl with | [_, _], _ => rfl
theorem b_sums_of_rows : BindsE d_sums_of_rows := fun _ _ _ _ _ _ _ _ _ _ us hl => match us, hl with | [_, _, _, _], _ => rfl
theorem b_seen_words : BindsE d_seen_words := fun _ _ _ _ _ _ _ _ _ _ us hl => match us, hl with | [_, _, _], _ => rfl
theorem b_is_enough : BindsE d_is_enough := fun _ _ _ _ _ _ _ _ _ _ us hl => match us, hl with | [_, _, _, _], _ => rfl
theorem b_distance_certificate : BindsE d_distance_certificate := fun _ _ _ _ _ _ _ _ _ _ us hl => match us, hl with | [_], _ => rfl
theorem b_check_distance : BindsE d_check_distance := fun _ _ _ _ _ _ _ _ _ _ us hl => match us, hl with | [_, _, _], _ => rfl
theorem b_enumerator : BindsE d_enumerator := fun _ _ _ _ _ _ _ _ _ _ us hl => match us, hl with | [_], _ => rfl
theorem b_krawtchouk : BindsE d_krawtchouk := fun _ _ _ _ _ _ _ _ _ _ us hl => match us, hl with | [_, _, _, _], _ => rfl
theorem b_is_power_of : BindsE d_is_power_of := fun _ _ _ _ _ _ _ _ _ _ us hl => match us, hl with | [_, _, _], _ => rfl
theorem b_check_usable : BindsE d_check_usable := fun _ _ _ _ _ _ _ _ _ _ us hl => match us, hl with | [_, _], _ => rfl
theorem b_dual_enumerator : BindsE d_dual_enumerator := fun _ _ _ _ _ _ _ _ _ _ us hl => match us, hl with | [_, _], _ => rfl
theorem b_enumerator_by_dual : BindsE d_enumerator_by_dual := fun _ _ _ _ _ _ _ _ _ _ us hl => match us, hl with | [_], _ => rfl
theorem b_check_counts : BindsE d_check_counts := fun _ _ _ _ _ _ _ _ _ _ us hl => match us, hl with | [_], _ => rfl
theorem b_binomial_moment : BindsE d_binomial_moment := fun _ _ _ _ _ _ _ _ _ _ us hl => match us, hl with | [_, _], _ => rfl
theorem b_law_row : BindsE d_law_row := fun _ _ _ _ _ _ _ _ _ _ us hl => match us, hl with | [_, _], _ => rfl
theorem b_law_numbers : BindsE d_law_numbers := fun _ _ _ _ _ _ _ _ _ _ us hl => match us, hl with | [_, _], _ => rfl
theorem b_law_field : BindsE d_law_field := fun _ _ _ _ _ _ _ _ _ _ us hl => match us, hl with | [_], _ => rfl
theorem b_law_digits : BindsE d_law_digits := fun _ _ _ _ _ _ _ _ _ _ us hl => match us, hl with | [_, _, _], _ => rfl
theorem b_law_element : BindsE d_law_element := fun _ _ _ _ _ _ _ _ _ _ us hl => match us, hl with | [_, _], _ => rfl
theorem b_law_order : BindsE d_law_order := fun _ _ _ _ _ _ _ _ _ _ us hl => match us, hl with | [_, _], _ => rfl
theorem b_law_sums : BindsE d_law_sums := fun _ _ _ _ _ _ _ _ _ _ us hl => match us, hl with | [_, _], _ => rfl
theorem b_law_products : BindsE d_law_products := fun _ _ _ _ _ _ _ _ _ _ us hl => match us, hl with | [_, _], _ => rfl
theorem b_law_most : BindsE d_law_most := fun _ _ _ _ _ _ _ _ _ _ us hl => match us, hl with | [_, _], _ => rfl
theorem b_law_rows : BindsE d_law_rows := fun _ _ _ _ _ _ _ _ _ _ us hl => match us, hl with | [_, _, _, _, _], _ => rfl
theorem b_law_span : BindsE d_law_span := fun _ _ _ _ _ _ _ _ _ _ us hl => match us, hl with | [_, _, _, _], _ => rfl
theorem b_law_weight : BindsE d_law_weight := fun _ _ _ _ _ _ _ _ _ _ us hl => match us, hl with | [_], _ => rfl
theorem b_law_identity : BindsE d_law_identity := fun _ _ _ _ _ _ _ _ _ _ us hl => match us, hl with | [_], _ => rfl
theorem b_law_dimension : BindsE d_law_dimension := fun _ _ _ _ _ _ _ _ _ _ us hl => match us, hl with | [_, _], _ => rfl
theorem b_law_is_integer : BindsE d_law_is_integer := fun _ _ _ _ _ _ _ _ _ _ us hl => match us, hl with | [_], _ => rfl
theorem b_law_orthogonal : BindsE d_law_orthogonal := fun _ _ _ _ _ _ _ _ _ _ us hl => match us, hl with | [_, _, _, _], _ => rfl
theorem b_law_extended : BindsE d_law_extended := fun _ _ _ _ _ _ _ _ _ _ us hl => match us, hl with | [_, _], _ => rfl
theorem b_law_kept : BindsE d_law_kept := fun _ _ _ _ _ _ _ _ _ _ us hl => match us, hl with | [_, _, _], _ => rfl
theorem b_law_pairs : BindsE d_law_pairs := fun _ _ _ _ _ _ _ _ _ _ us hl => match us, hl with | [_, _, _, _], _ => rfl
theorem b_law_made : BindsE d_law_made := fun _ _ _ _ _ _ _ _ _ _ us hl => match us, hl with | [_, _, _, _, _, _], _ => rfl
theorem b_law_choose : BindsE d_law_choose := fun _ _ _ _ _ _ _ _ _ _ us hl => match us, hl with | [_, _], _ => rfl
theorem b_law_distances : BindsE d_law_distances := fun _ _ _ _ _ _ _ _ _ _ us hl => match us, hl with | [_, _, _, _], _ => rfl
theorem b_law_moments : BindsE d_law_moments := fun _ _ _ _ _ _ _ _ _ _ us hl => match us, hl with | [_, _, _, _, _], _ => rfl
theorem b_law_codes : BindsE d_law_codes := fun _ _ _ _ _ _ _ _ _ _ us hl => match us, hl with | [_, _, _, _, _], _ => rfl
theorem b_law : BindsE d_law := fun _ _ _ _ _ _ _ _ _ _ us hl => match us, hl with | [_], _ => rfl
theorem bs0 : ∀ d ∈ dfs0, BindsE d := by
  unfold dfs0
  simp only [List.mem_cons, List.not_mem_nil, or_false, forall_eq_or_imp, forall_eq]
  exact ⟨b_int_power, b_is_prime, b_base_digits, b_integer_remainder, b_is_irreducible, b_is_modulus, b_Field_init, b_Field_digits, b_Field_element, b_Field_plus, b_Field_negative, b_Field_minus, b_Field_times, b_Field_inverse, b_Field_over, b_Field_power, b_Field_same_as, b_check_width, b_dot_product, b_row_with_pivot⟩
theorem bs1 : ∀ d ∈ dfs1, BindsE d := by
  unfold dfs1
  simp only [List.mem_cons, List.not_mem_nil, or_false, forall_eq_or_imp, forall_eq]
  exact ⟨b_without_multiple, b_reduce_rows, b_rank_of, b_kernel, b_multiply_vector, b_transpose, b_multiply_matrices, b_invert_matrix, b_weight_of, b_support_of, b_check_lengths, b_erased_positions, b_is_word, b_is_received, b_zero_word, b_check_words, b_add_words, b_scale_word, b_check_rows, b_LinearCode_init⟩
theorem bs2 : ∀ d ∈ dfs2, BindsE d := by
  unfold dfs2
  simp only [List.mem_cons, List.not_mem_nil, or_false, forall_eq_or_imp, forall_eq]
  exact ⟨b_LinearCode_rows, b_LinearCode_pivots, b_LinearCode_checks, b_LinearCode_size, b_LinearCode_check_word, b_LinearCode_syndrome, b_LinearCode_contains, b_LinearCode_words, b_LinearCode_same_as, b_code_from_checks, b_dual, b_kept_positions, b_shortened, b_punctured, b_extended, b_check_fields, b_check_alike, b_joined, b_doubled, b_span_of⟩
theorem bs3 : ∀ d ∈ dfs3, BindsE d := by
  unfold dfs3
  simp only [List.mem_cons, List.not_mem_nil, or_false, forall_eq_or_imp, forall_eq]
  exact ⟨b_meeting, b_sign_of, b_words_of_weight, b_words_within, b_minimum_distance, b_lightest_words, b_items_at, b_longer_sets, b_distance_by_columns, b_information_sets, b_is_information_set, b_are_separate_sets, b_rows_at, b_sums_of_rows, b_seen_words, b_is_enough, b_distance_certificate, b_check_distance, b_enumerator, b_krawtchouk⟩
theorem bs4 : ∀ d ∈ dfs4, BindsE d := by
  unfold dfs4
  simp only [List.mem_cons, List.not_mem_nil, or_false, forall_eq_or_imp, forall_eq]
  exact ⟨b_is_power_of, b_check_usable, b_dual_enumerator, b_enumerator_by_dual, b_check_counts, b_binomial_moment, b_law_row, b_law_numbers, b_law_field, b_law_digits, b_law_element, b_law_order, b_law_sums, b_law_products, b_law_most, b_law_rows, b_law_span, b_law_weight, b_law_identity, b_law_dimension⟩
theorem bs5 : ∀ d ∈ dfs5, BindsE d := by
  unfold dfs5
  simp only [List.mem_cons, List.not_mem_nil, or_false, forall_eq_or_imp, forall_eq]
  exact ⟨b_law_is_integer, b_law_orthogonal, b_law_extended, b_law_kept, b_law_pairs, b_law_made, b_law_choose, b_law_distances, b_law_moments, b_law_codes, b_law⟩
theorem bs : ∀ d ∈ dfs, BindsE d := by
  intro d h
  unfold dfs at h
  simp only [List.mem_append] at h
  rcases h with ((((h | h) | h) | h) | h) | h
  · exact bs0 d h
  · exact bs1 d h
  · exact bs2 d h
  · exact bs3 d h
  · exact bs4 d h
  · exact bs5 d h

/-! ### facts -/
open He in
theorem propB_ok {K : PySem.W.Frag} {x m : Str} (h : propB K x m = true) : PropOf K (ga K x) m (ma K (ga K x) m) (getA K x m) := by
  obtain ⟨h1, h⟩ := ba h
  obtain ⟨h2, h⟩ := ba h
  obtain ⟨h3, h4⟩ := ba h
  refine ⟨eqO_ok h1, eqO_ok h2, of_decide_eq_true h3, ?_⟩
  unfold getA
  split at h4
  · rename_i g r e
    exact ⟨r, by rw [e]⟩
  · cases h4
theorem head_run (w : World) : HandSHeadRun.RunEqI RwH qv hookM ob 8000 names w := by
  have h0 := run0 w
  have h1 := run1 w
  have h2 := run2 w
  unfold HandSHeadRun.RunEqI
  generalize HandSHeadRun.wholeF (fun p => HandSHeadRun.stepQ (HandSHeadRun.denQ HandSHeadRun.tabQ) p w) HandSHeadRun.fenceQ 8000 RwH.prog = z at h0 h1 h2 ⊢
  cases z with
  | none => cases h0
  | some x =>
    rw [Option.map_some] at h0 h1 h2 ⊢
    have h0 := Option.some.inj h0
    have h1 := Option.some.inj h1
    have h2 := Option.some.inj h2
    rw [forceK_eq] at h1 h2
    have e1 := congrArg (fun z => z.1) h0
    have e2 := congrArg (fun z => z.2) h0
    have e3 : ob x.2 = valM := by
      show (ob1 _, ob2 _) = _
      rw [h1, h2]
      rfl
    show some (_, _, ob x.2) = some (true, _, valM)
    rw [e3]
    exact congrArg some (Prod.ext e1 (Prod.ext e2 rfl))

/-! ### what they tell -/
open He in
def WW (K : PySem.W.Frag) : Wd := ⟨K, fun c => ga K (clsNm c), flds⟩
theorem df_mem {f : Nat} (h : (df f).knd ≠ 9) : df f ∈ dfs := by
  unfold df at h ⊢
  rw [List.getD_eq_getElem?_getD] at h ⊢
  cases e : dfs[f]? with
  | none => rw [e] at h; exact absurd rfl h
  | some d => exact List.mem_of_getElem? e
theorem defs_ok {K : PySem.W.Frag} (c : obsM K = valM) {d : DF} (hd : d ∈ dfs) : ∃ fd, FunD K d.nm d.qual (defArgs (stOf topsH d)) (defBody (stOf topsH d)) (defScope (stOf topsH d)) ((dA d).dvs K) [] (dAt d K) fd ∧ Binds K fd (psOf d) [] := by
  have c2 := congrArg (fun z : He.AlD × Bool => z.1.2) c
  have c3 := congrArg (fun z : He.AlD × Bool => z.2) c
  have c3 : (dfs.all fun d => (dA d).ok K) = true := c3
  have c2 : (dfs.map fun d => He5.fnA K (dAt d K)) = dfs.map fun d => (dA d).val := c2.trans vals_eq
  have e1 := List.map_inj_left.mp c2 d hd
  have e2 := List.all_eq_true.mp c3 d hd
  obtain ⟨fd, F⟩ := He5.DefA.funD (d := dA d) e1 e2
  refine ⟨fd, F, ?_⟩
  have hb := bs d hd
  unfold BindsE at hb
  have F : FunD K d.nm d.qual (defArgs (stOf topsH d)) (defBody (stOf topsH d)) (defScope (stOf topsH d)) ((match dflN d with
    | 0 => []
    | _ => [He.Dv.adr (He.dflAt ("Field", some "__init__") 0)]).map (He.Dv.v K)) [] (dAt d K) fd := F
  cases e : dflN d with
  | zero =>
    rw [e] at F hb
    exact F.bindsN fun kV doc pm an cdv ct us hl => hb _ _ _ _ kV doc pm an cdv ct us hl
  | succ m =>
    rw [e] at F hb
    have F : FunD K d.nm d.qual (defArgs (stOf topsH d)) (defBody (stOf topsH d)) (defScope (stOf topsH d)) [He.Dv.v K (He.Dv.adr (He.dflAt ("Field", some "__init__") 0))] [] (dAt d K) fd := F
    obtain ⟨ds, h1, h2⟩ := F.binds1 (psOf d).length 1 (by simp) rfl fun T kV doc pm an cdv ct us its h1 h2 => hb _ _ _ _ T kV doc pm an cdv ct us its h1 h2
    cases h1
    exact h2
theorem hd_ok {K : PySem.W.Frag} {h : Heap} {mg : Str → Option Value} (X : K.In h) (G : h.Ns mainGlobals mg) (c : obsM K = valM) : HdOk (WW K) topsH mg := by
  have c1 := congrArg (fun z : He.AlD × Bool => z.1.1) c
  have c1 : (restB K && (dfs.all fun d => dfB K d)) = true := c1
  obtain ⟨r1, r2⟩ := He.ba c1
  obtain ⟨s1, r1⟩ := He.ba r1
  obtain ⟨s2, r1⟩ := He.ba r1
  obtain ⟨s3, s4⟩ := He.ba r1
  have hc : ∀ c, c < 2 → (He.Fa.glo (clsNm c)).ok K = true ∧ (He.Fa.cls (clsNm c)).ok K = true ∧ ∀ n ∈ flds c, (He.Fa.noat (clsNm c) n).ok K = true := fun c hc => by
    have := List.all_eq_true.mp s1 c (by simp; omega)
    obtain ⟨a1, a2⟩ := He.ba this
    obtain ⟨a2, a3⟩ := He.ba a2
    exact ⟨a1, a2, fun n hn => List.all_eq_true.mp a3 n hn⟩
  have hd : ∀ f, (df f).knd ≠ 9 → dfB K (df f) = true := fun f hf => List.all_eq_true.mp r2 _ (df_mem hf)
  have hcl : ∀ d ∈ dfs, d.cls < 2 := by decide +kernel
  refine ⟨fun f hf => List.all_eq_true.mp all_ok _ (df_mem hf), fun c => rfl, fun f hk => ?_, fun f hk => ?_, fun f hk => ?_, fun f hk => ?_, fun c hc' => ⟨He.cls_ok (hc c hc').2.1, fun n hn => He.noat_ok ((hc c hc').2.2 n hn)⟩, fun g hg => ?_, fun x hx => ?_, PySem.W.mg_of X G (He.eqO_ok s4)⟩
  · have h9 : (df f).knd ≠ 9 := by omega
    obtain ⟨fd, F, hb⟩ := defs_ok c (df_mem h9)
    have q := hd f h9
    unfold dfB at q
    rw [hk] at q
    have e : dAt (df f) K = He.ga K (df f).nm := by unfold dAt; rw [hk]; try rfl
    exact ⟨_, fd, _, _, _, _, _, by rw [e]; exact He.glo_ok X G q, F, hb⟩
  · have h9 : (df f).knd ≠ 9 := by omega
    obtain ⟨fd, F, hb⟩ := defs_ok c (df_mem h9)
    have q := hd f h9
    unfold dfB at q
    rw [hk] at q
    obtain ⟨q1, q2⟩ := He.ba q
    have e : dAt (df f) K = He.ma K (He.ga K (clsNm (df f).cls)) "__init__" := by
      unfold dAt
      rw [hk, of_decide_eq_true q2]
      try rfl
    exact ⟨_, fd, _, _, _, _, _, He.glo_ok X G (hc _ (hcl _ (df_mem h9))).1, by rw [e]; exact He.mkr_ok q1, F, hb⟩
  · have h9 : (df f).knd ≠ 9 := by omega
    obtain ⟨fd, F, hb⟩ := defs_ok c (df_mem h9)
    have q := hd f h9
    unfold dfB at q
    rw [hk] at q
    have e : dAt (df f) K = He.ma K (He.ga K (clsNm (df f).cls)) (df f).nm := by unfold dAt; rw [hk]; try rfl
    exact ⟨_, fd, _, _, _, _, _, He.cls_ok (hc _ (hcl _ (df_mem h9))).2.1, by rw [e]; exact He.meth_ok q, F, hb⟩
  · have h9 : (df f).knd ≠ 9 := by omega
    obtain ⟨fd, F, hb⟩ := defs_ok c (df_mem h9)
    have q := hd f h9
    unfold dfB at q
    rw [hk] at q
    have e : dAt (df f) K = getA K (clsNm (df f).cls) (df f).nm := by unfold dAt; rw [hk]; try rfl
    exact ⟨_, _, fd, _, _, _, _, _, He.cls_ok (hc _ (hcl _ (df_mem h9))).2.1, by rw [e]; exact propB_ok q, F, hb⟩
  · exact He.int_ok X G (List.all_eq_true.mp s3 g (List.mem_range.mpr hg))
  · exact He.free_ok X G (List.all_eq_true.mp s2 x hx)
theorem law_at {K : PySem.W.Frag} {h : Heap} {mg : Str → Option Value} (X : K.In h) (G : h.Ns mainGlobals mg) (c : obsM K = valM) : mg ("law" : Str) = some (.ref (dAt d_law K)) := by
  have c1 := congrArg (fun z : He.AlD × Bool => z.1.1) c
  have c1 : (restB K && (dfs.all fun d => dfB K d)) = true := c1
  have q := List.all_eq_true.mp (He.ba c1).2 d_law (List.mem_of_getElem? (i := F_law) rfl)
  exact He.glo_ok X G (x := "law") q
theorem law_fn {K : PySem.W.Frag} {h : Heap} {mg : Str → Option Value} {w : World} (X : K.In h) (G : h.Ns mainGlobals mg) (c : obsM K = valM) (k : Nat) (hk : 2 * k + 2 ≤ 80) (hev : ∀ ns : List Int, ns.length ≤ 63 → runF (k + 1) F_law [.scr ns] = some (.bl true)) :
    ∃ (fd : FuncData) (sp : Sp), (∀ (s : Shared) (u : Value), BindsTo s fd ⟨[u], []⟩ [("_law_script", u)]) ∧
      (∀ (H : Hp) (a : Addr) (ns : List Int), ns.length ≤ 63 → Only H → SqL K H a (ns.map V.int) → sp [.ref a] H (fun v _ => v = .bl true) fun _ _ _ => False) ∧
      ∀ base : Heap, FnOk PwH w K mg base CX0 80 (dAt d_law K) fd ["_law_script"] sp := by
  obtain ⟨fd, F, hb⟩ := defs_ok c (d := d_law) (List.mem_of_getElem? (i := F_law) rfl)
  have F : FunD K "law" "law" (defArgs (stOf topsH d_law)) (defBody (stOf topsH d_law)) (defScope (stOf topsH d_law)) [] [] (dAt d_law K) fd := F
  have hd := hd_ok X G c
  obtain ⟨c1, c2, c3, _⟩ := ok_parts (List.all_eq_true.mp all_ok d_law (List.mem_of_getElem? (i := F_law) rfl))
  have bb : BindsP (defArgs (stOf topsH d_law)) ["_law_script"] := b_law
  refine ⟨fd, spF (WW K) (runF (k + 1) F_law), fun s u => F.bindsA (fun kV doc pm an cdv ct us hl => bb _ _ _ _ kV doc pm an cdv ct us hl) s [u] rfl, fun H a ns hl _ hS => ⟨[.scr ns], .bl true, H, Same.refl _, .cons (.scr hS) .nil, hev ns hl, fun v H' Hb' _ _ _ _ r => by cases r; rfl⟩, fun base => ?_⟩
  exact (fn_ok (W := WW K) (mok hd k) (prog_ok hd k) F c1 c2 c3 fun ds r e => (run_fn (f := F_law) (by decide) e).1).mono hk
end MN
open PySem PySem.W PySem.Calls PyProof.Rows
namespace PySem.Challenge
/-- THE HEAD'S END: it is left that the evaluator says True at every script -/
theorem mn_law_of (k : Nat) (hk : 2 * k + 2 ≤ 80) (hev : ∀ ns : List Int, ns.length ≤ 63 → MN.runF (k + 1) MN.F_law [.scr ns] = some (.bl true)) : PySem.Challenge.rw_nearestword_k92_whole_counts_by_both_roa.Holds := by
  w_on; o_law
  refine HandSHeadRun.head_imp (r := OpenLaw.row PySem.Challenge.rw_nearestword_k92_whole_counts_by_both_roa) (q := MN.qv) (H := MN.hookM) (ob := MN.ob) (M := 8000) (loose := MN.names) (d := HandSHeadRun.topDef (OpenLaw.row PySem.Challenge.rw_nearestword_k92_whole_counts_by_both_roa).prog 117) (kwd := []) MN.ob_eq MN.head_run
    (by kernel_rfl) (by kernel_rfl) (by kernel_rfl) (by rfl) (by first | assumption | decide +kernel) (by decide +kernel) ⟨rfl, rfl, rfl, rfl, rfl, by decide +kernel⟩ ?hw ?hc
  case hw => w_witness2
  case hc =>
    refine L2.walk_ofE (l := PySem.Challenge.rw_nearestword_k92_whole_counts_by_both_roa) (n := 63) (k := 80) (x := "_law_script") (CX := L2.CX0) rfl (by decide) (by kernel_rfl) ⟨rfl, by decide, by decide⟩ ?F (fun _ _ _ _ z => z)
    intro w mg fa h Y G hmg0
    obtain ⟨K, KX, c⟩ := Y
    have hmg : mg ("law" : PySem.Str) = some (.ref fa) := by
      have e : (HandSHeadRun.topDef (OpenLaw.row PySem.Challenge.rw_nearestword_k92_whole_counts_by_both_roa).prog 117).name = ("law" : PySem.Str) := by kernel_rfl
      rw [← e]
      exact hmg0
    obtain ⟨fd, sp, h1, h2, h3⟩ := MN.law_fn (w := w) KX G c k hk hev
    have e := hmg.symm.trans (MN.law_at KX G c)
    cases e
    exact ⟨K, fd, sp, KX, h1, h2, fun base _ _ => h3 base⟩
end PySem.Challenge
end S_MnHdB
section S_MnMono
set_option maxRecDepth 100000
/-! More functions known, more answers: the evaluator is monotone. -/
namespace MN
open PySem PySem.Spec
/-- what a says, b says -/
def Le {α : Type} (a b : Option α) : Prop := ∀ x, a = some x → b = some x
theorem Le.refl {α : Type} (a : Option α) : Le a a := fun _ h => h
theorem Le.none {α : Type} (b : Option α) : Le Option.none b := fun _ h => by cases h
theorem Le.bind {α β : Type} {a b : Option α} {f g : α → Option β} (h : Le a b) (hf : ∀ x, Le (f x) (g x)) : Le (a.bind f) (b.bind g) := fun y e => by
  obtain ⟨x, e1, e2⟩ := Option.bind_eq_some_iff.mp e
  rw [h x e1]
  exact hf x y e2
def LeM (M M' : Nat → List D → Option D) : Prop := ∀ f ds, Le (M f ds) (M' f ds)
theorem Le.compD {g g' : D → Option (Option D)} (h : ∀ d, Le (g d) (g' d)) : ∀ ds, Le (compD g ds) (compD g' ds)
  | [] => Le.refl _
  | d :: ds => (h d).bind fun o => (Le.compD h ds).bind fun ys => Le.refl _
theorem Le.forD {b b' : D → En → Option Out} (h : ∀ d ρ, Le (b d ρ) (b' d ρ)) : ∀ ds ρ, Le (forD b ds ρ) (forD b' ds ρ)
  | [], ρ => Le.refl _
  | d :: ds, ρ => (h d ρ).bind fun o => match o with
    | .nx ρ' => Le.forD h ds ρ'
    | .rt v => Le.refl _
theorem Le.whlD {c c' : En → Option Bool} {b b' : En → Option Out} (hc : ∀ ρ, Le (c ρ) (c' ρ)) (h : ∀ ρ, Le (b ρ) (b' ρ)) : ∀ n ρ, Le (whlD c b n ρ) (whlD c' b' n ρ)
  | 0, ρ => Le.none _
  | n + 1, ρ => (hc ρ).bind fun k => by
    cases k with
    | true =>
      rw [if_pos rfl, if_pos rfl]
      exact (h ρ).bind fun o => match o with
        | .nx ρ' => Le.whlD hc h n ρ'
        | .rt v => Le.refl _
    | false => exact Le.refl _
theorem Le.testD {a b : Option Res} (h : Le a b) : Le (testD a) (testD b) := h.bind fun _ => Le.refl _
section
variable {M M' : Nat → List D → Option D} {G : Nat → Int}
theorem evE_mono (h : LeM M M') (m : ME) : ∀ ρ, Le (evE M G m ρ) (evE M' G m ρ) := by
  induction m with
  | nm | glb | int | neg | bl | non | nil => exact fun ρ => Le.refl _
  | bin op a b iha ihb => exact fun ρ => (iha ρ).bind fun x => (ihb ρ).bind fun y => Le.refl _
  | cmp op a b iha ihb => exact fun ρ => (iha ρ).bind fun x => (ihb ρ).bind fun y => Le.refl _
  | chain op op' a b c iha ihb ihc =>
    refine fun ρ => (iha ρ).bind fun x => (ihb ρ).bind fun y => (Le.refl _).bind fun z => ?_
    cases z with
    | true => exact (ihc ρ).bind fun w => Le.refl _
    | false => exact Le.refl _
  | and a b iha ihb =>
    refine fun ρ => (iha ρ).bind fun x => ?_
    rcases x with ⟨d, L⟩
    cases d <;> try exact Le.refl _
    rename_i k
    cases k
    · exact Le.refl _
    · exact (ihb ρ).bind fun y => Le.refl _
  | or a b iha ihb =>
    refine fun ρ => (iha ρ).bind fun x => ?_
    rcases x with ⟨d, L⟩
    cases d <;> try exact Le.refl _
    rename_i k
    cases k
    · exact (ihb ρ).bind fun y => Le.refl _
    · exact Le.refl _
  | or3 a b c iha ihb ihc =>
    refine fun ρ => (iha ρ).bind fun x => ?_
    rcases x with ⟨d, L⟩
    cases d <;> try exact Le.refl _
    rename_i k
    cases k
    · refine (ihb ρ).bind fun y => ?_
      rcases y with ⟨d, L⟩
      cases d <;> try exact Le.refl _
      rename_i k
      cases k
      · exact (ihc ρ).bind fun z => Le.refl _
      · exact Le.refl _
    · exact Le.refl _
  | not a iha => exact fun ρ => (iha ρ).bind fun x => Le.refl _
  | call f as ih =>
    refine fun ρ => (ih ρ).bind fun x => ?_
    rcases x with ⟨d, L⟩
    cases d <;> try exact Le.refl _
    exact (h _ _).bind fun _ => Le.refl _
  | mk f as ih =>
    refine fun ρ => (ih ρ).bind fun x => ?_
    rcases x with ⟨d, L⟩
    cases d <;> try exact Le.refl _
    exact (h _ _).bind fun _ => Le.refl _
  | meth f o as iho ih =>
    refine fun ρ => (iho ρ).bind fun x => (ih ρ).bind fun y => ?_
    rcases y with ⟨d, L⟩
    cases d <;> try exact Le.refl _
    exact (h _ _).bind fun _ => Le.refl _
  | meth0 f o iho => exact fun ρ => (iho ρ).bind fun x => (h _ _).bind fun _ => Le.refl _
  | prop f o iho => exact fun ρ => (iho ρ).bind fun x => (h _ _).bind fun _ => Le.refl _
  | bi b as ih => exact fun ρ => (ih ρ).bind fun x => Le.refl _
  | isI a ih => exact fun ρ => (ih ρ).bind fun x => Le.refl _
  | isB a ih => exact fun ρ => (ih ρ).bind fun x => Le.refl _
  | lset a ih => exact fun ρ => (ih ρ).bind fun x => Le.refl _
  | lrg a ih => exact fun ρ => (ih ρ).bind fun x => Le.refl _
  | idx a x iha ihx => exact fun ρ => (iha ρ).bind fun u => (ihx ρ).bind fun v => Le.refl _
  | fld c k o ih =>
    intro ρ
    cases o with
    | nm i => exact Le.refl _
    | _ => first | exact Le.refl _ | exact (ih ρ).bind fun x => Le.refl _
  | sub a i iha ihi =>
    intro ρ
    cases a with
    | nm j =>
      show Le (match ρ[j]? with
        | some (Sl.sh d) => (evE M G i ρ).bind fun y => (idxD d y.1).bind fun z => some (z, [])
        | some (Sl.ow ds) => (evE M G i ρ).bind fun y => (idxD (.lst ds) y.1).bind fun z => some (z, [])
        | _ => none) (match ρ[j]? with
        | some (Sl.sh d) => (evE M' G i ρ).bind fun y => (idxD d y.1).bind fun z => some (z, [])
        | some (Sl.ow ds) => (evE M' G i ρ).bind fun y => (idxD (.lst ds) y.1).bind fun z => some (z, [])
        | _ => none)
      split
      · exact (ihi ρ).bind fun y => Le.refl _
      · exact (ihi ρ).bind fun y => Le.refl _
      · exact Le.refl _
    | _ => first | exact (iha ρ).bind fun x => (ihi ρ).bind fun y => Le.refl _ | exact (Le.refl _).bind fun x => (ihi ρ).bind fun y => Le.refl _
  | slc a lo hi iha ihl ihh =>
    refine fun ρ => (iha ρ).bind fun x => Le.bind ?_ fun l => Le.bind ?_ fun h => Le.refl _
    · by_cases q : isNilB lo = true
      · rw [if_pos q, if_pos q]; exact Le.refl _
      · rw [if_neg q, if_neg q]; exact (ihl ρ).bind fun _ => Le.refl _
    · by_cases q : isNilB hi = true
      · rw [if_pos q, if_pos q]; exact Le.refl _
      · rw [if_neg q, if_neg q]; exact (ihh ρ).bind fun _ => Le.refl _
  | lst as ih => exact fun ρ => (ih ρ).bind fun x => Le.refl _
  | tup as ih => exact fun ρ => (ih ρ).bind fun x => Le.refl _
  | comp e tg it src cond ihe ihs ihc =>
    refine fun ρ => (ihs ρ).bind fun x => (Le.refl _).bind fun its => ?_
    by_cases q : (!tg.free ρ) = true
    · rw [if_pos q]; exact Le.none _
    · rw [if_neg q, if_neg q]
      refine Le.bind (Le.compD (fun d => (Le.refl _).bind fun ρ' => (ihc ρ').bind fun c => ?_) its) fun ys => Le.refl _
      rcases c with ⟨d, L⟩
      cases d <;> try exact Le.refl _
      · rename_i k
        cases k
        · exact Le.refl _
        · exact (ihe ρ').bind fun y => Le.refl _
      · rename_i ds
        cases ds
        · exact (ihe ρ').bind fun y => Le.refl _
        · exact Le.refl _
  | cons a as iha ih => exact fun ρ => (iha ρ).bind fun x => (ih ρ).bind fun y => Le.refl _
theorem evS_mono (h : LeM M M') (m : MS) : ∀ ρ, Le (evS M G m ρ) (evS M' G m ρ) := by
  have E := fun e => evE_mono (G := G) h e
  induction m with
  | set i e => exact fun ρ => (E e ρ).bind fun r => Le.refl _
  | unp is e => exact fun ρ => (E e ρ).bind fun r => Le.refl _
  | sets x ix e => exact fun ρ => (E e ρ).bind fun r => (E ix ρ).bind fun i => Le.refl _
  | swp x i j a b => exact fun ρ => (E a ρ).bind fun u => (E b ρ).bind fun v => (Le.refl _).bind fun _ => (Le.refl _).bind fun _ => (E i ρ).bind fun p => (Le.refl _).bind fun ρ1 => (E j ρ1).bind fun q => Le.refl _
  | aug x ix e => exact fun ρ => (E ix ρ).bind fun i => (E _ ρ).bind fun old => (E e ρ).bind fun r => Le.refl _
  | app x e => exact fun ρ => (E e ρ).bind fun r => Le.refl _
  | ext x e => exact fun ρ => (E e ρ).bind fun r => Le.refl _
  | pop x => exact fun ρ => Le.refl _
  | exp e => exact fun ρ => (E e ρ).bind fun r => Le.refl _
  | ite c a b iha ihb =>
    refine fun ρ => (E c ρ).testD.bind fun k => ?_
    cases k
    · exact ihb ρ
    · exact iha ρ
  | for_ tg it src body ih => exact fun ρ => (E src ρ).bind fun x => (Le.refl _).bind fun its => Le.forD (fun d ρ' => (Le.refl _).bind fun ρ2 => ih ρ2) its _
  | whl c body ih => exact fun ρ => Le.whlD (fun ρ' => (E c ρ').testD) (fun ρ' => ih ρ') _ ρ
  | ret e => exact fun ρ => (E e ρ).bind fun r => Le.refl _
  | nev => exact fun ρ => Le.refl _
  | fset c k e => exact fun ρ => (E e ρ).bind fun r => Le.refl _
  | nil => exact fun ρ => Le.refl _
  | cons s ss ihs ihss =>
    refine fun ρ => (ihs ρ).bind fun o => ?_
    cases o with
    | nx ρ' => exact ihss ρ'
    | rt d => exact Le.refl _
end
theorem runB_mono {M M' : Nat → List D → Option D} (h : LeM M M') : LeM (runB M) (runB M') := fun f ds => by
  unfold runB
  by_cases hk : (df f).knd = 1
  · rw [if_pos hk, if_pos hk]
    by_cases hl : ds.length + 1 = (df f).ps
    · rw [if_pos hl, if_pos hl]
      exact (evS_mono h _ _).bind fun _ => Le.refl _
    · rw [if_neg hl]; exact Le.none _
  · rw [if_neg hk, if_neg hk]
    by_cases hl : ds.length = (df f).ps ∧ recvB (df f) ds = true
    · rw [if_pos hl, if_pos hl]
      exact (evS_mono h _ _).bind fun _ => Le.refl _
    · rw [if_neg hl]; exact Le.none _
theorem runF_step : ∀ k, LeM (runF k) (runF (k + 1))
  | 0 => fun _ _ => Le.none _
  | k + 1 => runB_mono (runF_step k)
theorem runF_mono {k n : Nat} (h : k ≤ n) {f : Nat} {ds : List D} {d : D} (e : runF k f ds = some d) : runF n f ds = some d := by
  induction h with
  | refl => exact e
  | step _ ih => exact runF_step _ _ _ _ ih
/-- the function f gives d, at every level from L on -/
def Ev (L f : Nat) (ds : List D) (d : D) : Prop := ∀ k, L ≤ k → runF k f ds = some d
theorem Ev.of {L f : Nat} {ds : List D} {d : D} (e : runF L f ds = some d) : Ev L f ds d := fun k h => runF_mono h e
theorem Ev.up {L L' f : Nat} {ds : List D} {d : D} (e : Ev L f ds d) (h : L ≤ L') : Ev L' f ds d := fun k hk => e k (Nat.le_trans h hk)
end MN
end S_MnMono
section S_LaA
/-! Linear algebra over a finite field, words as functions: sums, spans, reduced rows, kernels. -/
namespace LA
/-- a finite field, its elements numbered -/
class GF (α : Type) extends Lean.Grind.CommRing α where
  inv : α → α
  mul_inv : ∀ a : α, a ≠ 0 → a * inv a = 1
  q : Nat
  el : Nat → α
  no : α → Nat
  no_lt : ∀ a, no a < q
  el_no : ∀ a, el (no a) = a
  no_el : ∀ n, n < q → no (el n) = n
  no_zero : no 0 = 0
  no_one : no 1 = 1
  two : 2 ≤ q
section
variable {α : Type} [GF α]
theorem no_inj {a b : α} (h : GF.no a = GF.no b) : a = b := by rw [← GF.el_no a, h, GF.el_no]
instance : DecidableEq α := fun a b => if h : GF.no a = GF.no b then .isTrue (no_inj h) else .isFalse fun e => h (congrArg GF.no e)
theorem one_ne : (1 : α) ≠ 0 := fun h => by
  have := congrArg GF.no h
  rw [GF.no_one, GF.no_zero] at this
  cases this
theorem no_zero_iff {a : α} : GF.no a = 0 ↔ a = 0 := ⟨fun h => no_inj (h.trans GF.no_zero.symm), fun h => by rw [h, GF.no_zero]⟩
theorem mul_eq_zero {a b : α} (h : a * b = 0) : a = 0 ∨ b = 0 := by
  by_cases ha : a = 0
  · exact .inl ha
  · refine .inr ?_
    have h1 := GF.mul_inv a ha
    have : b = GF.inv a * (a * b) := by grind
    rw [this, h]
    grind

abbrev Vc (α : Type) := Nat → α
def zv : Vc α := fun _ => 0
def av (u v : Vc α) : Vc α := fun i => u i + v i
def sv (c : α) (u : Vc α) : Vc α := fun i => c * u i

/-! ### sums -/
def sumN (f : Nat → α) : Nat → α
  | 0 => 0
  | n + 1 => sumN f n + f n
theorem sumN_add (f g : Nat → α) : ∀ n, sumN (fun i => f i + g i) n = sumN f n + sumN g n
  | 0 => by simp only [sumN]; grind
  | n + 1 => by simp only [sumN, sumN_add f g n]; grind
theorem sumN_mul (c : α) (f : Nat → α) : ∀ n, sumN (fun i => c * f i) n = c * sumN f n
  | 0 => by simp only [sumN]; grind
  | n + 1 => by simp only [sumN, sumN_mul c f n]; grind
theorem sumN_congr {f g : Nat → α} : ∀ {n}, (∀ i, i < n → f i = g i) → sumN f n = sumN g n
  | 0, _ => rfl
  | n + 1, h => by
    simp only [sumN]
    rw [sumN_congr fun i hi => h i (Nat.lt_succ_of_lt hi), h n (Nat.lt_succ_self n)]
theorem sumN_zero {f : Nat → α} {n : Nat} (h : ∀ i, i < n → f i = 0) : sumN f n = 0 := by
  induction n with
  | zero => rfl
  | succ n ih =>
    simp only [sumN]
    rw [ih fun i hi => h i (Nat.lt_succ_of_lt hi), h n (Nat.lt_succ_self n)]
    grind
theorem sumN_one {f : Nat → α} {n j : Nat} (hj : j < n) (h : ∀ i, i < n → i ≠ j → f i = 0) : sumN f n = f j := by
  induction n with
  | zero => omega
  | succ n ih =>
    simp only [sumN]
    by_cases e : j = n
    · subst e
      rw [sumN_zero fun i hi => h i (by omega) (by omega)]
      grind
    · rw [ih (by omega) fun i hi => h i (by omega), h n (by omega) (by omega)]
      grind
def dot (n : Nat) (u v : Vc α) : α := sumN (fun i => u i * v i) n
theorem dot_comm {n : Nat} (u v : Vc α) : dot n u v = dot n v u := sumN_congr fun i _ => by grind
theorem dot_av {n : Nat} (u v w : Vc α) : dot n u (av v w) = dot n u v + dot n u w := by
  unfold dot
  rw [← sumN_add]
  exact sumN_congr fun i _ => by simp only [av]; grind
theorem dot_sv {n : Nat} (u v : Vc α) (c : α) : dot n u (sv c v) = c * dot n u v := by
  unfold dot
  rw [← sumN_mul]
  exact sumN_congr fun i _ => by simp only [sv]; grind
theorem dot_zv {n : Nat} (u : Vc α) : dot n u zv = 0 := sumN_zero fun i _ => by simp only [zv]; grind

/-! ### spans -/
inductive Span (rs : List (Vc α)) : Vc α → Prop
  | zero : Span rs zv
  | add {r w : Vc α} {c : α} : r ∈ rs → Span rs w → Span rs (av (sv c r) w)
theorem Span.av {rs : List (Vc α)} {u v : Vc α} (hu : Span rs u) (hv : Span rs v) : Span rs (av u v) := by
  induction hu with
  | zero =>
    have : LA.av zv v = v := by funext i; simp only [LA.av, zv]; grind
    rw [this]; exact hv
  | @add r w c hr _ ih =>
    have : LA.av (LA.av (sv c r) w) v = LA.av (sv c r) (LA.av w v) := by funext i; simp only [LA.av, sv]; grind
    rw [this]; exact .add hr ih
theorem Span.sv {rs : List (Vc α)} {u : Vc α} (c : α) (hu : Span rs u) : Span rs (sv c u) := by
  induction hu with
  | zero =>
    have : LA.sv c zv = (zv : Vc α) := by funext i; simp only [LA.sv, zv]; grind
    rw [this]; exact .zero
  | @add r w c' hr _ ih =>
    have : LA.sv c (LA.av (LA.sv c' r) w) = LA.av (LA.sv (c * c') r) (LA.sv c w) := by funext i; simp only [LA.av, LA.sv]; grind
    rw [this]; exact .add hr ih
theorem Span.mem {rs : List (Vc α)} {r : Vc α} (h : r ∈ rs) : Span rs r := by
  have : r = LA.av (LA.sv 1 r) zv := by funext i; simp only [LA.av, LA.sv, zv]; grind
  rw [this]; exact .add h .zero
theorem Span.trans {rs rs' : List (Vc α)} (h : ∀ r ∈ rs, Span rs' r) {w : Vc α} (hw : Span rs w) : Span rs' w := by
  induction hw with
  | zero => exact .zero
  | @add r w c hr _ ih => exact ((h r hr).sv c).av ih
theorem Span.mono {rs rs' : List (Vc α)} (h : ∀ r ∈ rs, r ∈ rs') {w : Vc α} (hw : Span rs w) : Span rs' w := hw.trans fun r hr => .mem (h r hr)
/-- a predicate that holds at the rows and is linear -/
theorem Span.all {rs : List (Vc α)} {p : Vc α → Prop} (h0 : p zv) (ha : ∀ u v, p u → p v → p (LA.av u v)) (hs : ∀ c u, p u → p (LA.sv c u)) (h : ∀ r ∈ rs, p r) {w : Vc α} (hw : Span rs w) : p w := by
  induction hw with
  | zero => exact h0
  | @add r w c hr _ ih => exact ha _ _ (hs _ _ (h r hr)) ih
theorem Span.orth {n : Nat} {rs : List (Vc α)} {u w : Vc α} (h : ∀ r ∈ rs, dot n u r = 0) (hw : Span rs w) : dot n u w = 0 :=
  hw.all (p := fun w => dot n u w = 0) (dot_zv u) (fun a b ha hb => by rw [dot_av, ha, hb]; grind) (fun c a ha => by rw [dot_sv, ha]; grind) h
theorem Span.zeroAt {rs : List (Vc α)} {w : Vc α} {i : Nat} (h : ∀ r ∈ rs, r i = 0) (hw : Span rs w) : w i = 0 :=
  hw.all (p := fun w => w i = 0) rfl (fun a b ha hb => by simp only [LA.av]; grind) (fun c a ha => by simp only [LA.sv]; grind) h
/-- the image of a span under a linear map -/
theorem Span.map {rs : List (Vc α)} {φ : Vc α → Vc α} (h0 : φ zv = zv) (ha : ∀ u v, φ (LA.av u v) = LA.av (φ u) (φ v)) (hs : ∀ c u, φ (LA.sv c u) = LA.sv c (φ u)) {w : Vc α} : Span (rs.map φ) w ↔ ∃ u, Span rs u ∧ w = φ u := by
  constructor
  · intro hw
    induction hw with
    | zero => exact ⟨zv, .zero, h0.symm⟩
    | @add r w c hr _ ih =>
      obtain ⟨r0, hr0, rfl⟩ := List.mem_map.mp hr
      obtain ⟨u, hu, rfl⟩ := ih
      exact ⟨LA.av (LA.sv c r0) u, .add hr0 hu, by rw [ha, hs]⟩
  · rintro ⟨u, hu, rfl⟩
    induction hu with
    | zero => rw [h0]; exact .zero
    | @add r w c hr _ ih => rw [ha, hs]; exact .add (List.mem_map.mpr ⟨r, hr, rfl⟩) ih
theorem Span.append {rs ss : List (Vc α)} {w : Vc α} : Span (rs ++ ss) w ↔ ∃ u v, Span rs u ∧ Span ss v ∧ w = LA.av u v := by
  constructor
  · intro hw
    induction hw with
    | zero => exact ⟨zv, zv, .zero, .zero, by funext i; simp only [LA.av, zv]; grind⟩
    | @add r w c hr _ ih =>
      obtain ⟨u, v, hu, hv, rfl⟩ := ih
      rcases List.mem_append.mp hr with h | h
      · exact ⟨_, v, .add (c := c) h hu, hv, by funext i; simp only [LA.av, LA.sv]; grind⟩
      · exact ⟨u, _, hu, .add (c := c) h hv, by funext i; simp only [LA.av, LA.sv]; grind⟩
  · rintro ⟨u, v, hu, hv, rfl⟩
    exact (hu.mono fun r h => List.mem_append_left _ h).av (hv.mono fun r h => List.mem_append_right _ h)

/-! ### reduced rows -/
/-- rows, their pivots: each row is 1 at its own, 0 at the others', 0 ahead of its own and from n on -/
def Rref (n : Nat) : List (Vc α) → List Nat → Prop
  | [], [] => True
  | r :: R, p :: P => p < n ∧ r p = 1 ∧ (∀ i, i < p → r i = 0) ∧ (∀ p' ∈ P, p < p' ∧ r p' = 0) ∧ (∀ r' ∈ R, ∀ i, i ≤ p → r' i = 0) ∧ (∀ i, n ≤ i → r i = 0) ∧ Rref n R P
  | _, _ => False
/-- the combination of the rows that w's entries at the pivots tell -/
def lcp : List (Vc α) → List Nat → Vc α → Vc α
  | r :: R, p :: P, w => av (sv (w p) r) (lcp R P w)
  | _, _, _ => zv
section
variable {n : Nat}
theorem lcp_av : ∀ (R : List (Vc α)) (P : List Nat) (u v : Vc α), lcp R P (av u v) = av (lcp R P u) (lcp R P v)
  | [], _, u, v => by funext i; simp only [lcp, av, zv]; grind
  | _ :: _, [], u, v => by funext i; simp only [lcp, av, zv]; grind
  | r :: R, p :: P, u, v => by
    simp only [lcp, lcp_av R P u v]
    funext i
    simp only [av, sv]
    grind
theorem lcp_sv : ∀ (R : List (Vc α)) (P : List Nat) (c : α) (u : Vc α), lcp R P (sv c u) = sv c (lcp R P u)
  | [], _, c, u => by funext i; simp only [lcp, sv, zv]; grind
  | _ :: _, [], c, u => by funext i; simp only [lcp, sv, zv]; grind
  | r :: R, p :: P, c, u => by
    simp only [lcp, lcp_sv R P c u]
    funext i
    simp only [av, sv]
    grind
theorem lcp_zero : ∀ {R : List (Vc α)} {P : List Nat} {w : Vc α}, (∀ p ∈ P, w p = 0) → lcp R P w = zv
  | [], _, w, _ => rfl
  | _ :: _, [], w, _ => rfl
  | r :: R, p :: P, w, h => by
    simp only [lcp]
    rw [lcp_zero fun p' hp => h p' (List.mem_cons_of_mem _ hp), h p (List.mem_cons_self ..)]
    funext i
    simp only [av, sv, zv]
    grind
theorem lcp_span : ∀ (R : List (Vc α)) (P : List Nat) (w : Vc α), Span R (lcp R P w)
  | [], _, w => .zero
  | _ :: _, [], w => .zero
  | r :: R, p :: P, w => .add (List.mem_cons_self ..) ((lcp_span R P w).mono fun _ h => List.mem_cons_of_mem _ h)
theorem Rref.lcp_row : ∀ {R : List (Vc α)} {P : List Nat}, Rref n R P → ∀ r ∈ R, lcp R P r = r
  | [], [], _, r, h => by cases h
  | [], _ :: _, h, _, _ => h.elim
  | _ :: _, [], h, _, _ => h.elim
  | r :: R, p :: P, ⟨_, h1, h2, h3, h4, _, h5⟩, r', hr => by
    simp only [lcp]
    rcases List.mem_cons.mp hr with rfl | hr
    · rw [lcp_zero fun p' hp => (h3 p' hp).2, h1]
      funext i
      simp only [av, sv, zv]
      grind
    · rw [Rref.lcp_row h5 r' hr, h4 r' hr p (Nat.le_refl p)]
      funext i
      simp only [av, sv]
      grind
theorem Rref.span_iff {R : List (Vc α)} {P : List Nat} (h : Rref n R P) {w : Vc α} : Span R w ↔ lcp R P w = w := by
  constructor
  · intro hw
    exact hw.all (p := fun w => lcp R P w = w) (lcp_zero fun _ _ => rfl) (fun u v hu hv => by rw [lcp_av, hu, hv]) (fun c u hu => by rw [lcp_sv, hu]) h.lcp_row
  · intro e
    rw [← e]
    exact lcp_span R P w
theorem Rref.sup : ∀ {R : List (Vc α)} {P : List Nat}, Rref n R P → ∀ r ∈ R, ∀ i, n ≤ i → r i = 0
  | [], [], _, r, h => by cases h
  | [], _ :: _, h, _, _ => h.elim
  | _ :: _, [], h, _, _ => h.elim
  | r :: R, p :: P, ⟨_, _, _, _, _, h6, h5⟩, r', hr => by
    rcases List.mem_cons.mp hr with rfl | hr
    · exact h6
    · exact Rref.sup h5 r' hr
theorem Rref.len : ∀ {R : List (Vc α)} {P : List Nat}, Rref n R P → R.length = P.length
  | [], [], _ => rfl
  | [], _ :: _, h => h.elim
  | _ :: _, [], h => h.elim
  | r :: R, p :: P, ⟨_, _, _, _, _, _, h5⟩ => congrArg (· + 1) (Rref.len h5)
theorem Rref.piv_lt : ∀ {R : List (Vc α)} {P : List Nat}, Rref n R P → ∀ p ∈ P, p < n
  | [], [], _, p, h => by cases h
  | [], _ :: _, h, _, _ => h.elim
  | _ :: _, [], h, _, _ => h.elim
  | r :: R, p :: P, ⟨h0, _, _, _, _, _, h5⟩, p', hp => by
    rcases List.mem_cons.mp hp with rfl | hp
    · exact h0
    · exact Rref.piv_lt h5 p' hp
theorem Rref.piv_inc : ∀ {R : List (Vc α)} {P : List Nat}, Rref n R P → P.Pairwise (· < ·)
  | [], [], _ => .nil
  | [], _ :: _, h => h.elim
  | _ :: _, [], h => h.elim
  | r :: R, p :: P, ⟨_, _, _, h3, _, _, h5⟩ => .cons (fun p' hp => (h3 p' hp).1) (Rref.piv_inc h5)
/-- the combination has w's entries at the pivots -/
theorem Rref.lcp_at : ∀ {R : List (Vc α)} {P : List Nat} {w : Vc α}, Rref n R P → ∀ p ∈ P, lcp R P w p = w p
  | [], [], _, _, p, h => by cases h
  | [], _ :: _, _, h, _, _ => h.elim
  | _ :: _, [], _, h, _, _ => h.elim
  | r :: R, p :: P, w, ⟨_, h1, h2, h3, h4, h6, h5⟩, p', hp => by
    simp only [lcp, av, sv]
    rcases List.mem_cons.mp hp with rfl | hp
    · have : lcp R P w p' = 0 := (lcp_span R P w).zeroAt fun r' hr => h4 r' hr p' (Nat.le_refl _)
      rw [this, h1]
      grind
    · rw [Rref.lcp_at h5 p' hp, (h3 p' hp).2]
      grind
theorem lcp_sup {R : List (Vc α)} {P : List Nat} {w : Vc α} (h : Rref n R P) : ∀ i, n ≤ i → lcp R P w i = 0 := fun i hi => (lcp_span R P w).zeroAt fun r hr => h.sup r hr i hi

/-! ### the kernel -/
/-- the entry at column c of the row whose pivot is i -/
def ent : List (Vc α) → List Nat → Nat → Nat → α
  | r :: R, p :: P, i, c => if i = p then r c else ent R P i c
  | _, _, _, _ => 0
def kv (R : List (Vc α)) (P : List Nat) (c : Nat) : Vc α := fun i => if i = c then 1 else -ent R P i c
theorem ent_out : ∀ {R : List (Vc α)} {P : List Nat} {i c : Nat}, i ∉ P → ent R P i c = 0
  | [], _, _, _, _ => rfl
  | _ :: _, [], _, _, _ => rfl
  | r :: R, p :: P, i, c, h => by
    simp only [ent]
    rw [if_neg fun e => h (by rw [e]; exact List.mem_cons_self ..)]
    exact ent_out fun q => h (List.mem_cons_of_mem _ q)
/-- each row has a pivot, at which alone it meets the entries -/
theorem Rref.row_ent : ∀ {R : List (Vc α)} {P : List Nat}, Rref n R P → ∀ r ∈ R, ∃ p ∈ P, r p = 1 ∧ (∀ p' ∈ P, p' ≠ p → r p' = 0) ∧ ∀ c, ent R P p c = r c
  | [], [], _, r, h => by cases h
  | [], _ :: _, h, _, _ => h.elim
  | _ :: _, [], h, _, _ => h.elim
  | r :: R, p :: P, ⟨_, h1, h2, h3, h4, _, h5⟩, r', hr => by
    rcases List.mem_cons.mp hr with rfl | hr
    · refine ⟨p, List.mem_cons_self .., h1, fun p' hp hne => ?_, fun c => by simp [ent]⟩
      rcases List.mem_cons.mp hp with rfl | hp
      · exact absurd rfl hne
      · exact (h3 p' hp).2
    · obtain ⟨p2, g1, g2, g3, g4⟩ := Rref.row_ent h5 r' hr
      refine ⟨p2, List.mem_cons_of_mem _ g1, g2, fun p' hp hne => ?_, fun c => ?_⟩
      · rcases List.mem_cons.mp hp with rfl | hp
        · exact h4 r' hr _ (Nat.le_refl _)
        · exact g3 p' hp hne
      · simp only [ent]
        rw [if_neg fun e => Nat.lt_irrefl p2 (by
          have := (h3 p2 g1).1
          omega)]
        exact g4 c
theorem Rref.piv_row : ∀ {R : List (Vc α)} {P : List Nat}, Rref n R P → ∀ p ∈ P, ∃ r ∈ R, r p = 1 ∧ (∀ p' ∈ P, p' ≠ p → r p' = 0) ∧ ∀ c, ent R P p c = r c
  | [], [], _, r, h => by cases h
  | [], _ :: _, h, _, _ => h.elim
  | _ :: _, [], h, _, _ => h.elim
  | r :: R, p :: P, ⟨_, h1, h2, h3, h4, _, h5⟩, p2, hp => by
    rcases List.mem_cons.mp hp with rfl | hp
    · refine ⟨r, List.mem_cons_self .., h1, fun p' hp hne => ?_, fun c => by simp [ent]⟩
      rcases List.mem_cons.mp hp with rfl | hp
      · exact absurd rfl hne
      · exact (h3 p' hp).2
    · obtain ⟨r', g1, g2, g3, g4⟩ := Rref.piv_row h5 p2 hp
      refine ⟨r', List.mem_cons_of_mem _ g1, g2, fun p' hp' hne => ?_, fun c => ?_⟩
      · rcases List.mem_cons.mp hp' with rfl | hp'
        · exact h4 r' g1 _ (Nat.le_refl _)
        · exact g3 p' hp' hne
      · simp only [ent]
        rw [if_neg fun e => Nat.lt_irrefl p2 (by
          have := (h3 p2 hp).1
          omega)]
        exact g4 c
theorem Rref.dot_kv {R : List (Vc α)} {P : List Nat} (h : Rref n R P) {c : Nat} (hc : c < n) (hn : c ∉ P) : ∀ r ∈ R, dot n r (kv R P c) = 0 := fun r hr => by
  obtain ⟨p, hp, g1, g2, g3⟩ := h.row_ent r hr
  have hpc : p ≠ c := fun e => hn (by rw [← e]; exact hp)
  have key : ∀ i, i < n → r i * kv R P c i = (if i = c then r c else 0) + (if i = p then -r c else 0) := fun i _ => by
    simp only [kv]
    by_cases e1 : i = c
    · subst e1
      rw [if_pos rfl, if_pos rfl, if_neg fun e => hpc e.symm]
      grind
    · rw [if_neg e1, if_neg e1]
      by_cases e2 : i = p
      · subst e2
        rw [if_pos rfl, g1, g3]
        grind
      · rw [if_neg e2]
        by_cases e3 : i ∈ P
        · rw [g2 i e3 e2]
          grind
        · rw [ent_out e3]
          grind
  unfold dot
  rw [sumN_congr key, sumN_add, sumN_one (j := c) hc fun i _ hi => if_neg hi, sumN_one (j := p) (h.piv_lt p hp) fun i _ hi => if_neg hi, if_pos rfl, if_pos rfl]
  grind
def kcols (n : Nat) (P : List Nat) : List Nat := (List.range n).filter fun c => !P.contains c
def kerF (n : Nat) (R : List (Vc α)) (P : List Nat) : List (Vc α) := (kcols n P).map (kv R P)
theorem mem_kcols {P : List Nat} {c : Nat} : c ∈ kcols n P ↔ c < n ∧ c ∉ P := by
  unfold kcols
  simp
/-- a word that is zero off the pivots: a row takes it at its pivot -/
theorem dot_piv {u z : Vc α} {p : Nat} (hp : p < n) (h : ∀ i, i < n → i ≠ p → u i * z i = 0) : dot n u z = u p * z p := sumN_one hp h
theorem ker_orth {R : List (Vc α)} {P : List Nat} (h : Rref n R P) {w : Vc α} (hw : Span (kerF n R P) w) : ∀ r ∈ R, dot n r w = 0 := fun r hr => hw.orth fun u hu => by
  obtain ⟨c, hc, rfl⟩ := List.mem_map.mp hu
  obtain ⟨h1, h2⟩ := mem_kcols.mp hc
  exact h.dot_kv h1 h2 r hr
/-- words orthogonal to the rows are of the kernel's span -/
theorem ker_all {R : List (Vc α)} {P : List Nat} (h : Rref n R P) {w : Vc α} (hs : ∀ i, n ≤ i → w i = 0) (hw : ∀ r ∈ R, dot n r w = 0) : Span (kerF n R P) w := by
  have lc : ∀ cs : List Nat, (∀ c ∈ cs, c < n ∧ c ∉ P) → cs.Nodup → ∃ z, Span (kerF n R P) z ∧ ∀ i, i ∉ P → z i = if i ∈ cs then w i else 0 := by
    intro cs
    induction cs with
    | nil => exact fun _ _ => ⟨zv, .zero, fun i _ => by simp [zv]⟩
    | cons c cs ih =>
      intro h1 h2
      obtain ⟨z, g1, g2⟩ := ih (fun c hc => h1 c (List.mem_cons_of_mem _ hc)) (List.nodup_cons.mp h2).2
      have hc := h1 c (List.mem_cons_self ..)
      refine ⟨av (sv (w c) (kv R P c)) z, .add (List.mem_map.mpr ⟨c, mem_kcols.mpr hc, rfl⟩) g1, fun i hi => ?_⟩
      simp only [av, sv, kv]
      rw [g2 i hi]
      by_cases e : i = c
      · subst e
        rw [if_pos rfl, if_neg (List.nodup_cons.mp h2).1, if_pos (List.mem_cons_self ..)]
        grind
      · rw [if_neg e, ent_out hi]
        have : (i ∈ c :: cs) = (i ∈ cs) := by simp [e]
        simp only [this]
        grind
  have nd : (kcols n P).Nodup := List.nodup_range.sublist List.filter_sublist
  obtain ⟨z, g1, g2⟩ := lc (kcols n P) (fun c hc => mem_kcols.mp hc) nd
  have ez : w = z := by
    have o1 := ker_orth h g1
    have sz : ∀ i, n ≤ i → z i = 0 := fun i hi => g1.zeroAt fun r hr => by
      obtain ⟨c, hc, rfl⟩ := List.mem_map.mp hr
      obtain ⟨h1, h2⟩ := mem_kcols.mp hc
      simp only [kv]
      rw [if_neg (by omega), ent_out fun q => by have := h.piv_lt i q; omega]
      grind
    have off : ∀ i, i ∉ P → w i = z i := fun i hi => by
      rw [g2 i hi]
      by_cases hn : i < n
      · rw [if_pos (mem_kcols.mpr ⟨hn, hi⟩)]
      · rw [if_neg fun q => hn (mem_kcols.mp q).1, hs i (by omega)]
    funext i
    by_cases hi : i ∈ P
    · obtain ⟨r, hr, k1, k2, _⟩ := h.piv_row i hi
      have e1 := hw r hr
      have e2 := o1 r hr
      have key : dot n r (av w (sv (-1) z)) = r i * (w i + -1 * z i) := sumN_one (f := fun j => r j * av w (sv (-1) z) j) (h.piv_lt i hi) fun j _ hj => by
        simp only [av, sv]
        by_cases hp : j ∈ P
        · rw [k2 j hp hj]; grind
        · rw [off j hp]; grind
      rw [dot_av, dot_sv, e1, e2, k1] at key
      grind
    · exact off i hi
  rw [ez]
  exact g1
/-- words orthogonal to the kernel are of the rows' span -/
theorem ker_ker {R : List (Vc α)} {P : List Nat} (h : Rref n R P) {w : Vc α} (hs : ∀ i, n ≤ i → w i = 0) (hw : ∀ c, c < n → c ∉ P → dot n (kv R P c) w = 0) : Span R w := by
  have e : lcp R P w = w := by
    have sp := lcp_span R P w
    funext i
    by_cases hi : i ∈ P
    · exact h.lcp_at i hi
    · by_cases hn : i < n
      · have e1 := hw i hn hi
        have e2 : dot n (kv R P i) (lcp R P w) = 0 := sp.orth fun r hr => by rw [dot_comm]; exact h.dot_kv hn hi r hr
        have key : dot n (kv R P i) (av w (sv (-1) (lcp R P w))) = kv R P i i * (w i + -1 * lcp R P w i) := sumN_one (f := fun j => kv R P i j * av w (sv (-1) (lcp R P w)) j) hn fun j _ hj => by
          simp only [av, sv]
          by_cases hp : j ∈ P
          · rw [h.lcp_at j hp]; grind
          · simp only [kv]
            rw [if_neg hj, ent_out hp]; grind
        rw [dot_av, dot_sv, e1, e2] at key
        simp only [kv] at key
        rw [if_pos trivial] at key
        grind
      · rw [hs i (by omega), lcp_sup h i (by omega)]
  exact h.span_iff.mpr e
end
end
end LA
end S_LaA
section S_LaB
/-! Reduction of rows: the program's steps, on rows as functions. -/
namespace LA
section
variable {α : Type} [GF α] {n m : Nat}
/-- the rows as a list -/
def rl (m : Nat) (W : Nat → Vc α) : List (Vc α) := (List.range m).map W
theorem mem_rl {m : Nat} {W : Nat → Vc α} {r : Vc α} : r ∈ rl m W ↔ ∃ i, i < m ∧ W i = r := by
  unfold rl
  simp
def swapF (W : Nat → Vc α) (a b : Nat) : Nat → Vc α := fun i => if i = b then W a else if i = a then W b else W i
def scalF (W : Nat → Vc α) (a : Nat) (c : α) : Nat → Vc α := fun i => if i = a then (fun j => W a j * c) else W i
def subF (u : Vc α) (c : α) (v : Vc α) : Vc α := fun j => u j - c * v j
def elimF (W : Nat → Vc α) (a col : Nat) : Nat → Vc α := fun k => if k ≠ a ∧ W k col ≠ 0 then subF (W k) (W k col) (W a) else W k
def findP (W : Nat → Vc α) (a m col : Nat) : Option Nat := ((List.range (m - a)).map (a + ·)).find? fun k => decide (W k col ≠ 0)
def stepF (m : Nat) (st : (Nat → Vc α) × List Nat) (col : Nat) : (Nat → Vc α) × List Nat := match findP st.1 st.2.length m col with
  | none => st
  | some f => (elimF (scalF (swapF st.1 st.2.length f) st.2.length (GF.inv (st.1 f col))) st.2.length col, st.2 ++ [col])
def redF (m n : Nat) (W : Nat → Vc α) : (Nat → Vc α) × List Nat := (List.range n).foldl (stepF m) (W, [])

theorem findP_some {W : Nat → Vc α} {a m col f : Nat} (h : findP W a m col = some f) : a ≤ f ∧ f < m ∧ W f col ≠ 0 := by
  unfold findP at h
  have h1 := List.mem_of_find?_eq_some h
  have h2 := List.find?_some h
  simp at h1 h2
  obtain ⟨i, hi, rfl⟩ := h1
  exact ⟨by omega, by omega, h2⟩
theorem findP_none {W : Nat → Vc α} {a m col : Nat} (h : findP W a m col = none) : ∀ k, a ≤ k → k < m → W k col = 0 := by
  unfold findP at h
  intro k h1 h2
  have := List.find?_eq_none.mp h k (by simp; exact ⟨k - a, by omega, by omega⟩)
  simpa using this

/-- what the steps keep; c columns are done -/
structure RInv (n m : Nat) (S : Vc α → Prop) (W : Nat → Vc α) (P : List Nat) (c : Nat) : Prop where
  span : ∀ w, Span (rl m W) w ↔ S w
  sup : ∀ i, i < m → ∀ x, n ≤ x → W i x = 0
  len : P.length ≤ m
  inc : P.Pairwise (· < ·)
  lt : ∀ p ∈ P, p < c
  one : ∀ i (h : i < P.length), W i P[i] = 1
  off : ∀ i j (h : j < P.length), i < m → i ≠ j → W i P[j] = 0
  bef : ∀ i (h : i < P.length), ∀ x, x < P[i] → W i x = 0
  rest : ∀ i, P.length ≤ i → i < m → ∀ x, x < c → W i x = 0

theorem RInv.step {S : Vc α → Prop} {W : Nat → Vc α} {P : List Nat} {c : Nat} (I : RInv n m S W P c) (hc : c < n) : RInv n m S (stepF m (W, P) c).1 (stepF m (W, P) c).2 (c + 1) := by
  unfold stepF
  cases hf : findP W P.length m c with
  | none =>
    exact ⟨I.span, I.sup, I.len, I.inc, fun p hp => Nat.lt_succ_of_lt (I.lt p hp), I.one, I.off, I.bef, fun i h1 h2 x hx => by
      by_cases e : x = c
      · rw [e]; exact findP_none hf i h1 h2
      · exact I.rest i h1 h2 x (by omega)⟩
  | some f =>
    obtain ⟨f1, f2, f3⟩ := findP_some hf
    show RInv n m S (elimF (scalF (swapF W P.length f) P.length (GF.inv (W f c))) P.length c) (P ++ [c]) (c + 1)
    have hinv := GF.mul_inv _ f3
    generalize hv : GF.inv (W f c) = v at hinv ⊢
    generalize ha : P.length = a at *
    have ea : scalF (swapF W a f) a v a = fun j => W f j * v := by
      funext j
      simp only [scalF, swapF]
      by_cases e : a = f
      · subst e; simp
      · simp [e]
    have eo : ∀ i, i ≠ a → scalF (swapF W a f) a v i = if i = f then W a else W i := fun i hi => by
      simp only [scalF, swapF]
      simp [hi]
    -- every row of the new ones, by old ones
    have row : ∀ i, i ≠ a → elimF (scalF (swapF W a f) a v) a c i = fun j => (if i = f then W a else W i) j - (if i = f then W a else W i) c * (W f j * v) := fun i hi => by
      funext j
      simp only [elimF]
      rw [ea, eo i hi]
      by_cases h : (if i = f then W a else W i) c = 0
      · simp [hi, h]; grind
      · rw [if_pos ⟨hi, h⟩]; rfl
    have rowa : elimF (scalF (swapF W a f) a v) a c a = fun j => W f j * v := by
      funext j
      simp only [elimF]
      rw [if_neg (by simp), ea]
    have hl : (P ++ [c]).length = a + 1 := by simp [ha]
    have zf : ∀ x, x < c → W f x = 0 := fun x hx => I.rest f (by omega) f2 x hx
    have pj : ∀ j (h : j < P.length), P[j] < c := fun j h => I.lt _ (List.getElem_mem h)
    refine ⟨fun w => ?_, fun i hi x hx => ?_, by omega, ?_, fun p hp => ?_, fun i h => ?_, fun i j h hi hij => ?_, fun i h x hx => ?_, fun i h1 h2 x hx => ?_⟩
    · rw [← I.span w]
      constructor
      · refine Span.trans fun r hr => ?_
        obtain ⟨i, hi, rfl⟩ := mem_rl.mp hr
        have sf : Span (rl m W) (sv v (W f)) := (Span.mem (mem_rl.mpr ⟨f, f2, rfl⟩)).sv v
        by_cases e : i = a
        · subst e
          rw [rowa]
          have : (fun j => W f j * v) = sv v (W f) := by funext j; simp only [sv]; grind
          rw [this]; exact sf
        · rw [row i e]
          have s2 : Span (rl m W) (if i = f then W a else W i) := by
            by_cases e2 : i = f
            · rw [if_pos e2]; exact .mem (mem_rl.mpr ⟨a, by omega, rfl⟩)
            · rw [if_neg e2]; exact .mem (mem_rl.mpr ⟨i, hi, rfl⟩)
          generalize (if i = f then W a else W i) = u at s2 ⊢
          have : (fun j => u j - u c * (W f j * v)) = av (sv (-(u c)) (sv v (W f))) u := by funext j; simp only [sv, av]; grind
          rw [this]
          exact (sf.sv _).av s2
      · have na : Span (rl m (elimF (scalF (swapF W a f) a v) a c)) (fun j => W f j * v) := by
          rw [← rowa]; exact .mem (mem_rl.mpr ⟨a, by omega, rfl⟩)
        have old : ∀ i, i < m → i ≠ a → Span (rl m (elimF (scalF (swapF W a f) a v) a c)) (if i = f then W a else W i) := fun i hi e => by
          have s1 : Span (rl m (elimF (scalF (swapF W a f) a v) a c)) (elimF (scalF (swapF W a f) a v) a c i) := .mem (mem_rl.mpr ⟨i, hi, rfl⟩)
          rw [row i e] at s1
          generalize (if i = f then W a else W i) = u at s1 ⊢
          have : u = av (sv (u c) (fun j => W f j * v)) (fun j => u j - u c * (W f j * v)) := by funext j; simp only [sv, av]; grind
          rw [this]
          exact (na.sv _).av s1
        refine Span.trans fun r hr => ?_
        obtain ⟨i, hi, rfl⟩ := mem_rl.mp hr
        by_cases e : i = f
        · subst e
          have : W i = sv (W i c) (fun j => W i j * v) := by funext j; simp only [sv]; grind
          rw [this]; exact na.sv _
        · by_cases e2 : i = a
          · subst e2
            have := old f f2 (fun z => e z.symm)
            rwa [if_pos rfl] at this
          · have := old i hi e2
            rwa [if_neg e] at this
    · by_cases e : i = a
      · subst e
        rw [rowa]
        simp only []
        rw [I.sup f f2 x hx]; grind
      · rw [row i e]
        have : (if i = f then W a else W i) x = 0 := by
          by_cases e2 : i = f
          · rw [if_pos e2]; exact I.sup a (by omega) x hx
          · rw [if_neg e2]; exact I.sup i hi x hx
        simp only []
        rw [this, I.sup f f2 x hx]; grind
    · refine List.pairwise_append.mpr ⟨I.inc, by simp, fun x hx y hy => ?_⟩
      simp at hy
      rw [hy]; exact I.lt x hx
    · rcases List.mem_append.mp hp with h | h
      · have := I.lt p h; omega
      · simp at h; omega
    · by_cases e : i = a
      · subst e
        rw [List.getElem_append_right (by omega)]
        simp only [ha, Nat.sub_self, List.getElem_cons_zero]
        rw [rowa]
        exact hinv
      · have hi : i < P.length := by omega
        rw [List.getElem_append_left hi, row i e, if_neg (by omega)]
        simp only []
        rw [I.one i hi, zf _ (pj i hi)]; grind
    · by_cases e : j = a
      · subst e
        rw [List.getElem_append_right (by omega)]
        simp only [ha, Nat.sub_self, List.getElem_cons_zero]
        rw [row i hij]
        simp only []
        rw [hinv]; grind
      · have hj : j < P.length := by omega
        rw [List.getElem_append_left hj]
        by_cases e2 : i = a
        · subst e2
          rw [rowa]
          simp only []
          rw [zf _ (pj j hj)]; grind
        · rw [row i e2]
          simp only []
          rw [zf _ (pj j hj)]
          have : (if i = f then W a else W i) P[j] = 0 := by
            by_cases e3 : i = f
            · rw [if_pos e3]; exact I.off a j hj (by omega) (by omega)
            · rw [if_neg e3]; exact I.off i j hj hi hij
          rw [this]; grind
    · by_cases e : i = a
      · subst e
        rw [List.getElem_append_right (by omega)] at hx
        simp only [ha, Nat.sub_self, List.getElem_cons_zero] at hx
        rw [rowa]
        simp only []
        rw [zf x hx]; grind
      · have hi : i < P.length := by omega
        rw [List.getElem_append_left hi] at hx
        rw [row i e, if_neg (by omega)]
        simp only []
        rw [I.bef i hi x hx, zf x (by have := pj i hi; omega)]; grind
    · have e : i ≠ a := by omega
      rw [row i e]
      simp only []
      by_cases hxc : x = c
      · subst hxc
        rw [hinv]; grind
      · have hx : x < c := by omega
        rw [zf x hx]
        have : (if i = f then W a else W i) x = 0 := by
          by_cases e3 : i = f
          · rw [if_pos e3]; exact I.rest a (by omega) (by omega) x hx
          · rw [if_neg e3]; exact I.rest i (by omega) h2 x hx
        rw [this]; grind

theorem redF_inv {W : Nat → Vc α} (hs : ∀ i, i < m → ∀ x, n ≤ x → W i x = 0) : ∀ c, c ≤ n → RInv n m (Span (rl m W)) ((List.range c).foldl (stepF m) (W, [])).1 ((List.range c).foldl (stepF m) (W, [])).2 c
  | 0, _ => ⟨fun w => Iff.rfl, hs, Nat.zero_le _, .nil, fun p hp => by simp at hp, fun i h => by simp at h, fun i j h => by simp at h, fun i h => by simp at h, fun i _ _ x hx => by omega⟩
  | c + 1, h => by
    have I := redF_inv hs c (by omega)
    rw [List.range_succ, List.foldl_append]
    exact I.step (by omega)
theorem rref_of : ∀ (P : List Nat) (W : Nat → Vc α), P.Pairwise (· < ·) → (∀ p ∈ P, p < n) → (∀ i, i < P.length → ∀ x, n ≤ x → W i x = 0) → (∀ i (h : i < P.length), W i P[i] = 1) → (∀ i j (h : j < P.length), i < P.length → i ≠ j → W i P[j] = 0) →
    (∀ i (h : i < P.length), ∀ x, x < P[i] → W i x = 0) → Rref n (rl P.length W) P
  | [], W, _, _, _, _, _, _ => trivial
  | p :: P, W, h1, h2, h3, h4, h5, h6 => by
    have er : rl (p :: P).length W = W 0 :: rl P.length fun i => W (i + 1) := by
      unfold rl
      rw [List.length_cons, List.range_succ_eq_map, List.map_cons, List.map_map]
      rfl
    rw [er]
    obtain ⟨g1, g2⟩ := List.pairwise_cons.mp h1
    refine ⟨h2 p (List.mem_cons_self ..), h4 0 (by simp), h6 0 (by simp), fun p' hp => ⟨g1 p' hp, ?_⟩, fun r' hr i hi => ?_, h3 0 (by simp), ?_⟩
    · obtain ⟨j, hj, rfl⟩ := List.getElem_of_mem hp
      exact h5 0 (j + 1) (by simp; omega) (by simp) (by omega)
    · obtain ⟨j, hj, rfl⟩ := mem_rl.mp hr
      refine h6 (j + 1) (by simp; omega) i ?_
      have := g1 P[j] (List.getElem_mem hj)
      show i < P[j]
      omega
    · exact rref_of P (fun i => W (i + 1)) g2 (fun p' hp => h2 p' (List.mem_cons_of_mem _ hp)) (fun i hi => h3 (i + 1) (by simp; omega)) (fun i h => h4 (i + 1) (by simp; omega)) (fun i j h hi hij => h5 (i + 1) (j + 1) (by simp; omega) (by simp; omega) (by omega)) fun i h => h6 (i + 1) (by simp; omega)
/-- THE REDUCTION -/
theorem redF_ok {W : Nat → Vc α} (hs : ∀ i, i < m → ∀ x, n ≤ x → W i x = 0) : Rref n (rl (redF m n W).2.length (redF m n W).1) (redF m n W).2 ∧ (∀ w, Span (rl (redF m n W).2.length (redF m n W).1) w ↔ Span (rl m W) w) ∧ (redF m n W).2.length ≤ m := by
  have I := redF_inv hs n (Nat.le_refl n)
  show Rref n (rl ((List.range n).foldl (stepF m) (W, [])).2.length ((List.range n).foldl (stepF m) (W, [])).1) ((List.range n).foldl (stepF m) (W, [])).2 ∧ _
  unfold redF
  generalize (List.range n).foldl (stepF m) (W, []) = st at I ⊢
  obtain ⟨W', P⟩ := st
  have I : RInv n m (Span (rl m W)) W' P n := I
  refine ⟨rref_of P W' I.inc I.lt (fun i hi => I.sup i (by have := I.len; omega)) I.one (fun i j h hi hij => I.off i j h (by have := I.len; omega) hij) I.bef, fun w => ?_, I.len⟩
  rw [← I.span w]
  constructor
  · refine Span.mono fun r hr => ?_
    obtain ⟨i, hi, rfl⟩ := mem_rl.mp hr
    exact mem_rl.mpr ⟨i, by have := I.len; simp at hi; omega, rfl⟩
  · refine Span.trans fun r hr => ?_
    obtain ⟨i, hi, rfl⟩ := mem_rl.mp hr
    by_cases h : i < P.length
    · exact .mem (mem_rl.mpr ⟨i, h, rfl⟩)
    · have : W' i = zv := by
        funext x
        by_cases hx : x < n
        · exact I.rest i (by omega) hi x hx
        · exact I.sup i hi x (by omega)
      rw [this]; exact .zero
end
end LA
end S_LaB
section S_LaC
/-! The words of a span: all of them, once each, in order; rank and independence. -/
namespace LA
section
variable {α : Type} [GF α] {n m k : Nat}
theorem zv_av (w : Vc α) : av zv w = w := by funext i; simp only [av, zv]; grind
/-- the words that the rows span, as the program lists them -/
def wordsF : List (Vc α) → List (Vc α)
  | [] => [zv]
  | r :: R => (List.range (GF.q α)).flatMap fun f => (wordsF R).map fun w => av (sv (GF.el f) r) w
theorem mem_wordsF : ∀ {R : List (Vc α)} {w : Vc α}, w ∈ wordsF R ↔ Span R w
  | [], w => by
    constructor
    · intro h
      simp only [wordsF, List.mem_singleton] at h
      rw [h]; exact .zero
    · intro h
      have : w = zv := h.all (p := fun w => w = zv) rfl (fun u v hu hv => by rw [hu, hv, zv_av]) (fun c u hu => by rw [hu]; funext i; simp only [sv, zv]; grind) (fun r hr => by cases hr)
      rw [this]
      exact List.mem_singleton.mpr rfl
  | r :: R, w => by
    simp only [wordsF, List.mem_flatMap, List.mem_range, List.mem_map]
    constructor
    · rintro ⟨f, hf, u, hu, rfl⟩
      exact .add (List.mem_cons_self ..) ((mem_wordsF.mp hu).mono fun _ h => List.mem_cons_of_mem _ h)
    · intro h
      have key : ∃ c u, Span R u ∧ w = av (sv c r) u := by
        induction h with
        | zero => exact ⟨0, zv, .zero, by funext i; simp only [av, sv, zv]; grind⟩
        | @add r' w c hr _ ih =>
          obtain ⟨d, u, hu, rfl⟩ := ih
          rcases List.mem_cons.mp hr with rfl | hr
          · exact ⟨c + d, u, hu, by funext i; simp only [av, sv]; grind⟩
          · exact ⟨d, av (sv c r') u, .add hr hu, by funext i; simp only [av, sv]; grind⟩
      obtain ⟨c, u, hu, rfl⟩ := key
      exact ⟨GF.no c, GF.no_lt c, u, mem_wordsF.mpr hu, by rw [GF.el_no]⟩
theorem wordsF_len : ∀ R : List (Vc α), (wordsF R).length = GF.q α ^ R.length
  | [] => rfl
  | r :: R => by
    simp only [wordsF, List.length_flatMap, List.length_map, wordsF_len R]
    rw [List.length_cons, Nat.pow_succ, Nat.mul_comm]
    generalize GF.q α ^ R.length = x
    have : ∀ n, (List.map (fun _ : Nat => x) (List.range n)).sum = n * x := fun n => by
      induction n with
      | zero => simp
      | succ n ih => rw [List.range_succ, List.map_append, List.sum_append, ih]; simp [Nat.succ_mul]
    exact this _
/-- the first place at which they differ decides -/
def LtV (n : Nat) (u v : Vc α) : Prop := ∃ j, j < n ∧ (∀ i, i < j → u i = v i) ∧ GF.no (u j) < GF.no (v j)
theorem LtV.ne {u v : Vc α} (h : LtV n u v) : u ≠ v := fun e => by
  obtain ⟨j, _, _, h⟩ := h
  rw [e] at h
  exact Nat.lt_irrefl _ h
/-- .. at a pivot -/
def LtP (P : List Nat) (u v : Vc α) : Prop := ∃ j, j ∈ P ∧ (∀ i, i < j → u i = v i) ∧ GF.no (u j) < GF.no (v j)
theorem wordsF_ltP : ∀ {R : List (Vc α)} {P : List Nat}, Rref n R P → (wordsF R).Pairwise (LtP P)
  | [], [], _ => by simp [wordsF]
  | [], _ :: _, h => h.elim
  | _ :: _, [], h => h.elim
  | r :: R, p :: P, ⟨h0, h1, h2, h3, h4, h6, h5⟩ => by
    have ih := wordsF_ltP h5
    simp only [wordsF]
    refine List.pairwise_flatMap.mpr ⟨fun f hf => ?_, ?_⟩
    · refine List.pairwise_map.mpr (ih.imp fun {u v} h => ?_)
      obtain ⟨j, hj, a1, a2⟩ := h
      refine ⟨j, List.mem_cons_of_mem _ hj, fun i hi => by simp only [av, sv]; rw [a1 i hi], ?_⟩
      simp only [av, sv]
      rw [(h3 j hj).2]
      have : ∀ x : α, GF.el f * 0 + x = x := fun x => by grind
      rw [this, this]
      exact a2
    · refine List.pairwise_lt_range.imp_of_mem fun {f g} hf hg hlt x hx y hy => ?_
      obtain ⟨u, hu, rfl⟩ := List.mem_map.mp hx
      obtain ⟨v, hv, rfl⟩ := List.mem_map.mp hy
      have zu : ∀ i, i ≤ p → u i = 0 := fun i hi => (mem_wordsF.mp hu).zeroAt fun r' hr => h4 r' hr i hi
      have zv' : ∀ i, i ≤ p → v i = 0 := fun i hi => (mem_wordsF.mp hv).zeroAt fun r' hr => h4 r' hr i hi
      refine ⟨p, List.mem_cons_self .., fun i hi => ?_, ?_⟩
      · simp only [av, sv]
        rw [zu i (by omega), zv' i (by omega), h2 i hi]
        grind
      · simp only [av, sv]
        rw [zu p (Nat.le_refl p), zv' p (Nat.le_refl p), h1]
        have : ∀ x : α, x * 1 + 0 = x := fun x => by grind
        rw [this, this, GF.no_el f (List.mem_range.mp hf), GF.no_el g (List.mem_range.mp hg)]
        exact hlt
theorem wordsF_lt {R : List (Vc α)} {P : List Nat} (h : Rref n R P) : (wordsF R).Pairwise (LtV n) :=
  (wordsF_ltP h).imp fun ⟨j, hj, a⟩ => ⟨j, h.piv_lt j hj, a⟩
theorem wordsF_nodup {R : List (Vc α)} {P : List Nat} (h : Rref n R P) : (wordsF R).Nodup := (wordsF_lt h).imp LtV.ne

/-! ### counting -/
theorem sub_perm {β : Type} : ∀ {l2 l1 : List β}, l2.Nodup → (∀ x ∈ l2, x ∈ l1) → ∃ r, l1.Perm (l2 ++ r)
  | [], l1, _, _ => ⟨l1, .refl _⟩
  | x :: l2, l1, h1, h2 => by
    obtain ⟨a, b, rfl⟩ := List.append_of_mem (h2 x (List.mem_cons_self ..))
    obtain ⟨hx, h1⟩ := List.nodup_cons.mp h1
    obtain ⟨r, hr⟩ := sub_perm (l1 := a ++ b) h1 fun y hy => by
      have := h2 y (List.mem_cons_of_mem _ hy)
      rcases List.mem_append.mp this with q | q
      · exact List.mem_append_left _ q
      · rcases List.mem_cons.mp q with rfl | q
        · exact absurd hy hx
        · exact List.mem_append_right _ q
    exact ⟨r, List.perm_middle.trans (hr.cons x)⟩
theorem sub_len {β : Type} {l2 l1 : List β} (h : l2.Nodup) (hs : ∀ x ∈ l2, x ∈ l1) : l2.length ≤ l1.length := by
  obtain ⟨r, hr⟩ := sub_perm h hs
  rw [hr.length_eq, List.length_append]
  omega
theorem sub_nodup {β : Type} {l2 l1 : List β} (h : l2.Nodup) (hs : ∀ x ∈ l2, x ∈ l1) (hl : l1.length ≤ l2.length) : l1.Nodup := by
  obtain ⟨r, hr⟩ := sub_perm h hs
  have := hr.length_eq
  rw [List.length_append] at this
  have : r = [] := List.eq_nil_of_length_eq_zero (by omega)
  rw [this, List.append_nil] at hr
  exact hr.nodup_iff.mpr h

/-! ### independence -/
def lin : List (Vc α) → List α → Vc α
  | r :: R, b :: bs => av (sv b r) (lin R bs)
  | _, _ => zv
theorem lin_span : ∀ (R : List (Vc α)) (bs : List α), Span R (lin R bs)
  | [], _ => .zero
  | _ :: _, [] => .zero
  | r :: R, b :: bs => .add (List.mem_cons_self ..) ((lin_span R bs).mono fun _ h => List.mem_cons_of_mem _ h)
theorem span_lin : ∀ {R : List (Vc α)} {w : Vc α}, Span R w → ∃ bs : List α, bs.length = R.length ∧ w = lin R bs
  | [], w, h => ⟨[], rfl, by
      have := mem_wordsF.mpr h
      simp only [wordsF, List.mem_singleton] at this
      rw [this]; rfl⟩
  | r :: R, w, h => by
    have := mem_wordsF.mpr h
    simp only [wordsF, List.mem_flatMap, List.mem_map] at this
    obtain ⟨f, _, u, hu, rfl⟩ := this
    obtain ⟨bs, h1, rfl⟩ := span_lin (mem_wordsF.mp hu)
    exact ⟨GF.el f :: bs, by simp [h1], rfl⟩
def IndL (R : List (Vc α)) : Prop := ∀ bs : List α, bs.length = R.length → lin R bs = zv → ∀ b ∈ bs, b = 0
theorem el_zero : (GF.el 0 : α) = 0 := by
  have := GF.el_no (0 : α)
  rwa [GF.no_zero] at this
theorem ind_of_nodup : ∀ {R : List (Vc α)}, (wordsF R).Nodup → IndL R
  | [], _, bs, h1, _, b, hb => by
    rw [List.eq_nil_of_length_eq_zero h1] at hb
    cases hb
  | r :: R, h, bs, h1, h2, b', hb => by
    cases bs with
    | nil => cases hb
    | cons b bs =>
      simp only [wordsF] at h
      obtain ⟨g1, g2⟩ := List.pairwise_flatMap.mp h
      have q0 : 0 < GF.q α := by have := GF.two (α := α); omega
      have e0 : b = 0 := by
        by_cases e : b = 0
        · exact e
        · exfalso
          have hlt : 0 < GF.no b := Nat.pos_of_ne_zero fun z => e (no_zero_iff.mp z)
          obtain ⟨l1, l2, e3⟩ : ∃ l1 l2, List.range (GF.q α) = 0 :: l1 ++ GF.no b :: l2 ∨ True := ⟨[], [], .inr trivial⟩
          have p1 : (zv : Vc α) ∈ (wordsF R).map fun w => av (sv (GF.el 0) r) w := List.mem_map.mpr ⟨zv, mem_wordsF.mpr .zero, by rw [el_zero]; funext i; simp only [av, sv, zv]; grind⟩
          have p2 : (zv : Vc α) ∈ (wordsF R).map fun w => av (sv (GF.el (GF.no b)) r) w := List.mem_map.mpr ⟨lin R bs, mem_wordsF.mpr (lin_span R bs), by rw [GF.el_no]; exact h2⟩
          have pw := List.pairwise_iff_getElem.mp g2 0 (GF.no b) (by simp; exact q0) (by simp; exact GF.no_lt b) hlt
          simp only [List.getElem_range] at pw
          exact pw zv p1 zv p2 rfl
      have h3 : lin R bs = zv := by
        rw [← h2]
        simp only [lin]
        rw [e0]
        funext i
        simp only [av, sv]
        grind
      have hd : (wordsF R).Nodup := by
        have := g1 0 (List.mem_range.mpr q0)
        exact (List.pairwise_map.mp this).imp fun {u v} hne e => hne (by rw [e])
      rcases List.mem_cons.mp hb with rfl | hb
      · exact e0
      · exact ind_of_nodup hd bs (by simpa using h1) h3 b' hb
theorem lin_av : ∀ (R : List (Vc α)) (as bs : List α), as.length = R.length → bs.length = R.length → av (lin R as) (sv (-1) (lin R bs)) = lin R (List.zipWith (fun a b => a - b) as bs)
  | [], _, _, _, _ => by simp only [lin]; funext i; simp only [av, sv, zv]; grind
  | r :: R, a :: as, b :: bs, h1, h2 => by
    simp only [lin, List.zipWith_cons_cons]
    rw [← lin_av R as bs (by simpa using h1) (by simpa using h2)]
    funext i
    simp only [av, sv]
    grind
theorem nodup_of_ind : ∀ {R : List (Vc α)}, IndL R → (wordsF R).Nodup
  | [], _ => by simp [wordsF]
  | r :: R, h => by
    have hR : IndL R := fun bs h1 h2 b hb => h (0 :: bs) (by simp [h1]) (by
      simp only [lin]; rw [h2]; funext i; simp only [av, sv, zv]; grind) b (List.mem_cons_of_mem _ hb)
    have hn := nodup_of_ind hR
    simp only [wordsF]
    refine List.pairwise_flatMap.mpr ⟨fun f hf => ?_, ?_⟩
    · refine List.pairwise_map.mpr (hn.imp fun {u v} hne e => hne (funext fun i => ?_))
      have := congrFun e i
      simp only [av, sv] at this
      grind
    · refine List.pairwise_lt_range.imp_of_mem fun {f g} hf hg hlt x hx y hy e => ?_
      obtain ⟨u, hu, rfl⟩ := List.mem_map.mp hx
      obtain ⟨v, hv, rfl⟩ := List.mem_map.mp hy
      obtain ⟨as, a1, rfl⟩ := span_lin (mem_wordsF.mp hu)
      obtain ⟨bs, b1, rfl⟩ := span_lin (mem_wordsF.mp hv)
      have key := h ((GF.el f - GF.el g) :: List.zipWith (fun a b => a - b) as bs) (by simp [a1, b1]) (by
        simp only [lin]
        rw [← lin_av R as bs a1 b1]
        funext i
        have := congrFun e i
        simp only [av, sv, zv] at this ⊢
        grind) (GF.el f - GF.el g) (List.mem_cons_self ..)
      have e2 : (GF.el f : α) = GF.el g := by grind
      have := congrArg GF.no e2
      rw [GF.no_el f (List.mem_range.mp hf), GF.no_el g (List.mem_range.mp hg)] at this
      omega
/-- RANK: as many pivots as rows, if and only if the rows are independent -/
theorem rank_iff {W : Nat → Vc α} (hs : ∀ i, i < m → ∀ x, n ≤ x → W i x = 0) : (redF m n W).2.length = m ↔ IndL (rl m W) := by
  obtain ⟨h1, h2, h3⟩ := redF_ok hs
  have nd := wordsF_nodup h1
  have l1 : (wordsF (rl m W)).length = GF.q α ^ m := by rw [wordsF_len]; simp [rl]
  have l2 := wordsF_len (rl (redF m n W).2.length (redF m n W).1)
  have l2 : (wordsF (rl (redF m n W).2.length (redF m n W).1)).length = GF.q α ^ (redF m n W).2.length := by rw [l2]; simp [rl]
  constructor
  · intro e
    refine ind_of_nodup (sub_nodup nd (fun x hx => mem_wordsF.mpr ((h2 x).mp (mem_wordsF.mp hx))) ?_)
    rw [l1, l2, e]
    exact Nat.le_refl _
  · intro hi
    have := sub_len (nodup_of_ind hi) (l1 := wordsF (rl (redF m n W).2.length (redF m n W).1)) fun x hx => mem_wordsF.mpr ((h2 x).mpr (mem_wordsF.mp hx))
    rw [l1, l2] at this
    have := (Nat.pow_le_pow_iff_right (by have := GF.two (α := α); omega)).mp this
    omega
end
end LA
end S_LaC
section S_LaD
/-! Sums over words; the counts of a space by those of its dual. -/
namespace LA
def sumI {β : Type} (f : β → Int) : List β → Int
  | [] => 0
  | x :: l => f x + sumI f l
section
variable {β γ : Type}
theorem sumI_cons {β : Type} (f : β → Int) (x : β) (l : List β) : sumI f (x :: l) = f x + sumI f l := rfl
theorem sumI_append (f : β → Int) : ∀ a b : List β, sumI f (a ++ b) = sumI f a + sumI f b
  | [], b => by simp [sumI]
  | x :: a, b => by simp only [List.cons_append, sumI, sumI_append f a b]; omega
theorem sumI_perm (f : β → Int) {a b : List β} (h : a.Perm b) : sumI f a = sumI f b := by
  induction h with
  | nil => rfl
  | cons x _ ih => simp only [sumI, ih]
  | swap x y l => simp only [sumI]; omega
  | trans _ _ h1 h2 => exact h1.trans h2
theorem sumI_congr {f g : β → Int} : ∀ {l : List β}, (∀ x ∈ l, f x = g x) → sumI f l = sumI g l
  | [], _ => rfl
  | x :: l, h => by
    simp only [sumI]
    rw [h x (List.mem_cons_self ..), sumI_congr fun y hy => h y (List.mem_cons_of_mem _ hy)]
theorem sumI_add (f g : β → Int) : ∀ l : List β, sumI (fun x => f x + g x) l = sumI f l + sumI g l
  | [] => rfl
  | x :: l => by simp only [sumI, sumI_add f g l]; omega
theorem sumI_mul (c : Int) (f : β → Int) : ∀ l : List β, sumI (fun x => c * f x) l = c * sumI f l
  | [] => by simp [sumI]
  | x :: l => by simp only [sumI, sumI_mul c f l, Int.mul_add]
theorem sumI_zero {f : β → Int} {l : List β} (h : ∀ x ∈ l, f x = 0) : sumI f l = 0 := by
  rw [sumI_congr (g := fun _ => 0) h]
  induction l with
  | nil => rfl
  | cons x l ih => simp only [sumI]; rw [ih fun y hy => h y (List.mem_cons_of_mem _ hy)]; rfl
theorem sumI_const (c : Int) : ∀ l : List β, sumI (fun _ => c) l = l.length * c
  | [] => by simp [sumI]
  | x :: l => by simp only [sumI, sumI_const c l, List.length_cons]; rw [Int.natCast_succ, Int.add_mul]; omega
theorem sumI_map (f : γ → Int) (g : β → γ) : ∀ l : List β, sumI f (l.map g) = sumI (fun x => f (g x)) l
  | [] => rfl
  | x :: l => by simp only [List.map_cons, sumI, sumI_map f g l]
theorem sumI_flatMap (f : γ → Int) (g : β → List γ) : ∀ l : List β, sumI f (l.flatMap g) = sumI (fun x => sumI f (g x)) l
  | [] => rfl
  | x :: l => by simp only [List.flatMap_cons, sumI_append, sumI, sumI_flatMap f g l]
theorem sumI_swap (f : β → γ → Int) : ∀ (a : List β) (b : List γ), sumI (fun x => sumI (f x) b) a = sumI (fun y => sumI (fun x => f x y) a) b
  | [], b => by simp only [sumI]; rw [sumI_zero fun _ _ => rfl]
  | x :: a, b => by simp only [sumI, sumI_swap f a b]; rw [← sumI_add]
theorem sumI_filter (p : β → Bool) (f : β → Int) : ∀ l : List β, sumI f (l.filter p) = sumI (fun x => if p x = true then f x else 0) l
  | [] => rfl
  | x :: l => by
    by_cases h : p x = true
    · rw [List.filter_cons_of_pos h]; simp only [sumI, sumI_filter p f l]; rw [if_pos h]
    · rw [List.filter_cons_of_neg h]; simp only [sumI, sumI_filter p f l]; rw [if_neg h]; omega
end

section
variable {α : Type} [GF α] {n m k : Nat}
/-- all elements -/
def els (α : Type) [GF α] : List α := (List.range (GF.q α)).map GF.el
theorem mem_els (a : α) : a ∈ els α := List.mem_map.mpr ⟨GF.no a, List.mem_range.mpr (GF.no_lt a), GF.el_no a⟩
theorem els_nodup : (els α).Nodup := by
  refine List.pairwise_map.mpr (List.nodup_range.imp_of_mem fun {i j} hi hj hne e => hne ?_)
  have := congrArg GF.no e
  rwa [GF.no_el i (List.mem_range.mp hi), GF.no_el j (List.mem_range.mp hj)] at this
theorem els_len : (els α).length = GF.q α := by simp [els]
theorem els_perm {g : α → α} (hg : ∀ a b, g a = g b → a = b) : ((els α).map g).Perm (els α) := by
  have nd : ((els α).map g).Nodup := List.pairwise_map.mpr (els_nodup.imp fun {a b} hne e => hne (hg a b e))
  obtain ⟨r, hr⟩ := sub_perm (l1 := els α) nd fun x _ => mem_els x
  have := hr.length_eq
  simp at this
  rw [this, List.append_nil] at hr
  exact hr.symm
theorem els_split : ∃ r, els α = (0 : α) :: r ∧ (∀ a ∈ r, a ≠ 0) ∧ r.length + 1 = GF.q α := by
  have h2 := GF.two (α := α)
  have hl := els_len (α := α)
  cases e : els α with
  | nil => rw [e] at hl; simp at hl; omega
  | cons x r =>
    have hx : x = 0 := by
      have h0 : (els α)[0]? = some (GF.el 0) := by
        unfold els
        rw [List.getElem?_map, List.getElem?_range (by omega)]
        rfl
      rw [e] at h0
      simp at h0
      rw [h0, el_zero]
    subst hx
    have nd := els_nodup (α := α)
    rw [e] at nd
    exact ⟨r, rfl, fun a ha z => (List.nodup_cons.mp nd).1 (by rw [← z]; exact ha), by rw [e] at hl; simpa using hl⟩
/-- q - 1 at zero, -1 elsewhere -/
def phi (t : α) : Int := if t = 0 then GF.q α - 1 else -1
theorem phi_all : sumI phi (els α) = 0 := by
  obtain ⟨r, e, h, hl⟩ := els_split (α := α)
  rw [e]
  simp only [sumI]
  rw [sumI_congr (g := fun _ => -1) fun a ha => by unfold phi; rw [if_neg (h a ha)], sumI_const]
  unfold phi
  rw [if_pos rfl, ← hl]
  omega
theorem phi_line {t : α} (ht : t ≠ 0) (s : α) : sumI (fun a => phi (s + a * t)) (els α) = 0 := by
  rw [← sumI_map phi (fun a => s + a * t), sumI_perm phi (els_perm fun a b e => ?_), phi_all]
  have h1 : (a - b) * t = 0 := by grind
  rcases mul_eq_zero h1 with h | h
  · grind
  · exact absurd h ht

/-! ### words of a length, their weights -/
def wt : Nat → Vc α → Nat
  | 0, _ => 0
  | n + 1, u => wt n u + if u n = 0 then 0 else 1
def putV (u : Vc α) (n : Nat) (a : α) : Vc α := fun i => if i = n then a else u i
def allV : Nat → List (Vc α)
  | 0 => [zv]
  | n + 1 => (allV n).flatMap fun u => (els α).map fun a => putV u n a
theorem mem_allV : ∀ {n : Nat} {u : Vc α}, u ∈ allV n ↔ ∀ i, n ≤ i → u i = 0
  | 0, u => by
    simp only [allV, List.mem_singleton]
    constructor
    · rintro rfl i _; rfl
    · intro h; funext i; exact h i (Nat.zero_le i)
  | n + 1, u => by
    simp only [allV, List.mem_flatMap, List.mem_map]
    constructor
    · rintro ⟨v, hv, a, _, rfl⟩ i hi
      simp only [putV]
      rw [if_neg (by omega)]
      exact mem_allV.mp hv i (by omega)
    · intro h
      refine ⟨putV u n 0, mem_allV.mpr fun i hi => ?_, u n, mem_els _, ?_⟩
      · simp only [putV]
        by_cases e : i = n
        · rw [if_pos e]
        · rw [if_neg e]; exact h i (by omega)
      · funext i
        simp only [putV]
        by_cases e : i = n
        · rw [if_pos e, e]
        · rw [if_neg e, if_neg e]
theorem allV_nodup : ∀ n, (allV n : List (Vc α)).Nodup
  | 0 => by simp [allV]
  | n + 1 => by
    simp only [allV]
    refine List.pairwise_flatMap.mpr ⟨fun u _ => ?_, (allV_nodup n).imp_of_mem fun {u v} hu hv hne x hx y hy e => hne ?_⟩
    · refine List.pairwise_map.mpr (els_nodup.imp fun {a b} hne e => hne ?_)
      have := congrFun e n
      simpa [putV] using this
    · obtain ⟨a, _, rfl⟩ := List.mem_map.mp hx
      obtain ⟨b, _, rfl⟩ := List.mem_map.mp hy
      funext i
      by_cases hi : i = n
      · rw [mem_allV.mp hu i (by omega), mem_allV.mp hv i (by omega)]
      · have := congrFun e i
        simpa [putV, hi] using this
theorem wt_putV (u : Vc α) (n : Nat) (a : α) : wt (n + 1) (putV u n a) = wt n u + if a = 0 then 0 else 1 := by
  have : ∀ m, m ≤ n → wt m (putV u n a) = wt m u := fun m => by
    induction m with
    | zero => intro _; rfl
    | succ m ih =>
      intro hm
      have hp : putV u n a m = u m := by unfold putV; rw [if_neg (by omega)]
      unfold wt
      rw [ih (by omega), hp]
  have hp : putV u n a n = a := by unfold putV; rw [if_pos rfl]
  unfold wt
  rw [this n (Nat.le_refl n), hp]
  cases n <;> rfl
theorem dot_putV (u v : Vc α) (n : Nat) (a : α) : dot (n + 1) (putV u n a) v = dot n u v + a * v n := by
  unfold dot
  have hp : putV u n a n = a := by unfold putV; rw [if_pos rfl]
  simp only [sumN]
  rw [sumN_congr (g := fun i => u i * v i) fun i hi => by unfold putV; rw [if_neg (by omega)], hp]

/-! ### K -/
/-- what the numbers K have to keep, up to the length N -/
structure KOk (q N : Nat) (K : Nat → Nat → Nat → Int) : Prop where
  zero : ∀ k, k ≤ N → K 0 0 k = if k = 0 then 1 else 0
  same : ∀ n x k, n < N → x ≤ n → k ≤ N → K (n + 1) x k = K n x k + (q - 1) * (if k = 0 then 0 else K n x (k - 1))
  diff : ∀ n x k, n < N → x ≤ n → k ≤ N → K (n + 1) (x + 1) k = K n x k - (if k = 0 then 0 else K n x (k - 1))
theorem wt_le : ∀ (n : Nat) (u : Vc α), wt n u ≤ n
  | 0, _ => Nat.le_refl 0
  | n + 1, u => by
    simp only [wt]
    have := wt_le n u
    split <;> omega
theorem K_sum {N : Nat} {K : Nat → Nat → Nat → Int} (h : KOk (GF.q α) N K) : ∀ (n : Nat), n ≤ N → ∀ (k : Nat), k ≤ N → ∀ (v : Vc α) (s : α), sumI (fun u => if wt n u = k then phi (dot n u v + s) else 0) (allV n) = K n (wt n v) k * phi s
  | 0, _, k, hkN, v, s => by
    show (if (0 : Nat) = k then phi (dot 0 zv v + s) else 0) + 0 = K 0 0 k * phi s
    rw [h.zero k hkN]
    have e : (dot 0 zv v + s : α) = s := by unfold dot; simp only [sumN]; grind
    rw [e]
    by_cases hk : 0 = k
    · subst hk; simp
    · rw [if_neg hk, if_neg (fun z => hk z.symm)]; simp
  | n + 1, hn, k, hkN, v, s => by
    simp only [allV]
    rw [sumI_flatMap]
    have e1 : ∀ u ∈ (allV n : List (Vc α)), sumI (fun u => if wt (n + 1) u = k then phi (dot (n + 1) u v + s) else 0) ((els α).map fun a => putV u n a) = sumI (fun a => if wt n u + (if a = 0 then 0 else 1) = k then phi (dot n u v + (s + a * v n)) else 0) (els α) := fun u _ => by
      rw [sumI_map]
      refine sumI_congr fun a _ => ?_
      rw [wt_putV, dot_putV]
      have : dot n u v + a * v n + s = dot n u v + (s + a * v n) := by grind
      rw [this]
    rw [sumI_congr e1, sumI_swap]
    obtain ⟨r, er, hr, hl⟩ := els_split (α := α)
    have e2 : ∀ a ∈ r, sumI (fun u => if wt n u + (if a = 0 then 0 else 1) = k then phi (dot n u v + (s + a * v n)) else 0) (allV n) = (if k = 0 then 0 else K n (wt n v) (k - 1)) * phi (s + a * v n) := fun a ha => by
      by_cases hk : k = 0
      · subst hk
        rw [if_pos rfl, Int.zero_mul]
        refine sumI_zero fun u _ => ?_
        rw [if_neg (hr a ha), if_neg (by omega)]
      · rw [if_neg hk, ← K_sum h n (by omega) (k - 1) (by omega) v (s + a * v n)]
        refine sumI_congr fun u _ => ?_
        rw [if_neg (hr a ha)]
        by_cases hw : wt n u = k - 1
        · rw [if_pos (by omega), if_pos hw]
        · rw [if_neg (by omega), if_neg hw]
    have e0 : sumI (fun u => if wt n u + (if (0 : α) = 0 then 0 else 1) = k then phi (dot n u v + (s + 0 * v n)) else 0) (allV n) = K n (wt n v) k * phi s := by
      rw [← K_sum h n (by omega) k hkN v s]
      refine sumI_congr fun u _ => ?_
      have : s + 0 * v n = s := by grind
      rw [if_pos rfl, this]
      rfl
    rw [er, sumI_cons, sumI_congr e2, sumI_mul]
    refine (congrArg (fun z => z + _) e0).trans ?_
    show K n (wt n v) k * phi s + _ = _
    by_cases hv : v n = 0
    · have e3 : wt (n + 1) v = wt n v := by simp only [wt]; rw [if_pos hv]; rfl
      have e4 : sumI (fun a => phi (s + a * v n)) r = ((GF.q α : Int) - 1) * phi s := by
        have e9 : ∀ a ∈ r, phi (s + a * v n) = phi s := fun a _ => by
          have : s + a * v n = s := by grind
          rw [this]
        rw [sumI_congr e9, sumI_const, ← hl]
        rw [Int.natCast_succ, Int.add_sub_cancel]
      rw [e3, e4, h.same n _ k (by omega) (wt_le n v) hkN]
      grind
    · have e3 : wt (n + 1) v = wt n v + 1 := by simp only [wt]; rw [if_neg hv]
      have e4 : sumI (fun a => phi (s + a * v n)) r = - phi s := by
        have := phi_line hv s
        rw [er] at this
        simp only [sumI] at this
        have e5 : s + 0 * v n = s := by grind
        rw [e5] at this
        omega
      rw [e3, e4, h.diff n _ k (by omega) (wt_le n v) hkN]
      grind

/-! ### a space and its dual -/
theorem orth_sum {X : List (Vc α)} (nd : X.Nodup) (ha : ∀ x y, x ∈ X → y ∈ X → av x y ∈ X) (hs : ∀ (c : α) x, x ∈ X → sv c x ∈ X) (u : Vc α) :
    sumI (fun x => phi (dot n u x)) X = if ∀ x ∈ X, dot n u x = 0 then ((GF.q α : Int) - 1) * (X.length : Int) else 0 := by
  by_cases h : ∀ x ∈ X, dot n u x = 0
  · rw [if_pos h, sumI_congr (g := fun _ => ((GF.q α : Int) - 1)) fun x hx => by unfold phi; rw [if_pos (h x hx)], sumI_const, Int.mul_comm]
  · rw [if_neg h]
    have h : ∃ x0 ∈ X, dot n u x0 ≠ 0 := by
      refine Classical.byContradiction fun z => h fun x hx => Classical.byContradiction fun y => z ⟨x, hx, y⟩
    obtain ⟨x0, hx0, ht⟩ := h
    have shift : ∀ a : α, sumI (fun x => phi (dot n u x + a * dot n u x0)) X = sumI (fun x => phi (dot n u x)) X := fun a => by
      have e : ∀ x ∈ X, phi (dot n u x + a * dot n u x0) = (fun y => phi (dot n u y)) (av x (sv a x0)) := fun x _ => by
        show _ = phi (dot n u (av x (sv a x0)))
        rw [dot_av, dot_sv]
      rw [sumI_congr e, ← sumI_map (fun y => phi (dot n u y)) (fun x => av x (sv a x0))]
      refine sumI_perm _ ?_
      have nd2 : (X.map fun x => av x (sv a x0)).Nodup := List.pairwise_map.mpr (nd.imp fun {p q} hne e => hne (by
        funext i
        have := congrFun e i
        simp only [av, sv] at this
        grind))
      obtain ⟨r, hr⟩ := sub_perm (l1 := X) nd2 fun y hy => by
        obtain ⟨x, hx, rfl⟩ := List.mem_map.mp hy
        exact ha _ _ hx (hs a x0 hx0)
      have := hr.length_eq
      simp at this
      rw [this, List.append_nil] at hr
      exact hr.symm
    have e1 : sumI (fun a => sumI (fun x => phi (dot n u x + a * dot n u x0)) X) (els α) = GF.q α * sumI (fun x => phi (dot n u x)) X := by
      rw [sumI_congr fun a _ => shift a, sumI_const, els_len]
    have e2 : sumI (fun a => sumI (fun x => phi (dot n u x + a * dot n u x0)) X) (els α) = 0 := by
      rw [sumI_swap]
      exact sumI_zero fun x _ => phi_line ht _
    rw [e2] at e1
    have h2 := GF.two (α := α)
    rcases Int.mul_eq_zero.mp e1.symm with z | z
    · omega
    · exact z
/-- MacWilliams -/
theorem macw {N : Nat} {K : Nat → Nat → Nat → Int} (h : KOk (GF.q α) N K) (hn : n ≤ N) {X Y : List (Vc α)} (nx : X.Nodup) (ha : ∀ x y, x ∈ X → y ∈ X → av x y ∈ X) (hs : ∀ (c : α) x, x ∈ X → sv c x ∈ X) (ny : Y.Nodup)
    (hy : ∀ y, y ∈ Y ↔ (∀ i, n ≤ i → y i = 0) ∧ ∀ x ∈ X, dot n y x = 0) (k : Nat) (hkN : k ≤ N) : X.length * sumI (fun y => if wt n y = k then 1 else 0) Y = sumI (fun x => K n (wt n x) k) X := by
  have h2 := GF.two (α := α)
  have e1 : sumI (fun x => sumI (fun u => if wt n u = k then phi (dot n u x) else 0) (allV n)) X = ((GF.q α : Int) - 1) * sumI (fun x => K n (wt n x) k) X := by
    rw [← sumI_mul]
    refine sumI_congr fun x _ => ?_
    have := K_sum h n hn k hkN x 0
    have e9 : ∀ u ∈ (allV n : List (Vc α)), (if wt n u = k then phi (dot n u x + 0) else 0) = if wt n u = k then phi (dot n u x) else 0 := fun u _ => by
      have : dot n u x + 0 = dot n u x := by grind
      rw [this]
    rw [sumI_congr e9] at this
    rw [this]
    have : (phi (0 : α)) = GF.q α - 1 := by unfold phi; rw [if_pos rfl]
    rw [this, Int.mul_comm]
  rw [sumI_swap] at e1
  have e2 : ∀ u ∈ (allV n : List (Vc α)), sumI (fun x => if wt n u = k then phi (dot n u x) else 0) X = ((GF.q α : Int) - 1) * X.length * (if (∀ x ∈ X, dot n u x = 0) then (if wt n u = k then 1 else 0) else 0) := fun u _ => by
    by_cases hw : wt n u = k
    · rw [sumI_congr (g := fun x => phi (dot n u x)) fun x _ => if_pos hw, orth_sum nx ha hs u, if_pos hw]
      by_cases hx : ∀ x ∈ X, dot n u x = 0
      · rw [if_pos hx, if_pos hx]; omega
      · rw [if_neg hx, if_neg hx]; omega
    · rw [sumI_zero fun x _ => if_neg hw, if_neg hw]
      by_cases hx : ∀ x ∈ X, dot n u x = 0
      · rw [if_pos hx]; omega
      · rw [if_neg hx]; omega
  rw [sumI_congr e2, sumI_mul] at e1
  have e3 : sumI (fun u => if (∀ x ∈ X, dot n u x = 0) then (if wt n u = k then (1 : Int) else 0) else 0) (allV n) = sumI (fun y => if wt n y = k then 1 else 0) Y := by
    have e4 := sumI_filter (fun u : Vc α => decide (∀ x ∈ X, dot n u x = 0)) (fun u => if wt n u = k then (1 : Int) else 0) (allV n)
    simp only [decide_eq_true_eq] at e4
    rw [← e4]
    refine sumI_perm _ ((List.perm_ext_iff_of_nodup ((allV_nodup n).sublist List.filter_sublist) ny).mpr fun u => ?_)
    rw [hy, List.mem_filter, mem_allV, decide_eq_true_eq]
  rw [e3, Int.mul_assoc] at e1
  have : ((GF.q α : Int) - 1) ≠ 0 := by omega
  exact Int.eq_of_mul_eq_mul_left this e1
end
end LA
end S_LaD
section S_LaG
/-! A finite field from tables. -/
namespace LA
structure FT where
  q : Nat
  add : Nat → Nat → Nat
  mul : Nat → Nat → Nat
  neg : Nat → Nat
  inv : Nat → Nat
def allB (n : Nat) (p : Nat → Bool) : Bool := (List.range n).all p
theorem allB_ok {n : Nat} {p : Nat → Bool} (h : allB n p = true) : ∀ i, i < n → p i = true := fun i hi => List.all_eq_true.mp h i (List.mem_range.mpr hi)
/-- the laws, looked at everywhere -/
def FT.okB (T : FT) : Bool :=
  decide (2 ≤ T.q) && allB T.q (fun a => decide (T.neg a < T.q) && decide (T.inv a < T.q) && decide (T.add a 0 = a) && decide (T.mul a 1 = a) && decide (T.mul 0 a = 0) && decide (T.add (T.neg a) a = 0) && (decide (a = 0) || decide (T.mul a (T.inv a) = 1)) &&
    allB T.q (fun b => decide (T.add a b < T.q) && decide (T.mul a b < T.q) && decide (T.add a b = T.add b a) && decide (T.mul a b = T.mul b a) &&
      allB T.q (fun c => decide (T.add (T.add a b) c = T.add a (T.add b c)) && decide (T.mul (T.mul a b) c = T.mul a (T.mul b c)) && decide (T.mul a (T.add b c) = T.add (T.mul a b) (T.mul a c)))))
structure FT.Ok (T : FT) : Prop where
  two : 2 ≤ T.q
  neg_lt : ∀ a, a < T.q → T.neg a < T.q
  inv_lt : ∀ a, a < T.q → T.inv a < T.q
  add_zero : ∀ a, a < T.q → T.add a 0 = a
  mul_one : ∀ a, a < T.q → T.mul a 1 = a
  zero_mul : ∀ a, a < T.q → T.mul 0 a = 0
  neg_add : ∀ a, a < T.q → T.add (T.neg a) a = 0
  mul_inv : ∀ a, a < T.q → a ≠ 0 → T.mul a (T.inv a) = 1
  add_lt : ∀ a b, a < T.q → b < T.q → T.add a b < T.q
  mul_lt : ∀ a b, a < T.q → b < T.q → T.mul a b < T.q
  add_comm : ∀ a b, a < T.q → b < T.q → T.add a b = T.add b a
  mul_comm : ∀ a b, a < T.q → b < T.q → T.mul a b = T.mul b a
  add_assoc : ∀ a b c, a < T.q → b < T.q → c < T.q → T.add (T.add a b) c = T.add a (T.add b c)
  mul_assoc : ∀ a b c, a < T.q → b < T.q → c < T.q → T.mul (T.mul a b) c = T.mul a (T.mul b c)
  distrib : ∀ a b c, a < T.q → b < T.q → c < T.q → T.mul a (T.add b c) = T.add (T.mul a b) (T.mul a c)
theorem FT.ok_of {T : FT} (h : T.okB = true) : T.Ok := by
  unfold FT.okB at h
  obtain ⟨h1, h2⟩ := Bool.and_eq_true_iff.mp h
  have h2 := allB_ok h2
  simp only [Bool.and_eq_true, Bool.or_eq_true, decide_eq_true_eq] at h1 h2
  have h3 : ∀ a b, a < T.q → b < T.q → _ := fun a b ha hb => allB_ok (h2 a ha).2 b hb
  simp only [Bool.and_eq_true, Bool.or_eq_true, decide_eq_true_eq] at h3
  have h4 : ∀ a b c, a < T.q → b < T.q → c < T.q → _ := fun a b c ha hb hc => allB_ok (h3 a b ha hb).2 c hc
  simp only [Bool.and_eq_true, Bool.or_eq_true, decide_eq_true_eq] at h4
  refine ⟨h1, fun a ha => (h2 a ha).1.1.1.1.1.1.1, fun a ha => (h2 a ha).1.1.1.1.1.1.2, fun a ha => (h2 a ha).1.1.1.1.1.2, fun a ha => (h2 a ha).1.1.1.1.2, fun a ha => (h2 a ha).1.1.1.2, fun a ha => (h2 a ha).1.1.2, fun a ha hn => (h2 a ha).1.2.resolve_left hn,
    fun a b ha hb => (h3 a b ha hb).1.1.1.1, fun a b ha hb => (h3 a b ha hb).1.1.1.2, fun a b ha hb => (h3 a b ha hb).1.1.2, fun a b ha hb => (h3 a b ha hb).1.2, fun a b c ha hb hc => (h4 a b c ha hb hc).1.1, fun a b c ha hb hc => (h4 a b c ha hb hc).1.2, fun a b c ha hb hc => (h4 a b c ha hb hc).2⟩
/-- its elements -/
structure El (T : FT) where
  v : Nat
  lt : v < T.q
theorem El.ext {T : FT} {a b : El T} (h : a.v = b.v) : a = b := by
  cases a; cases b
  cases h
  rfl
section
variable {T : FT} (h : T.Ok)
def El.cast : Nat → El T
  | 0 => ⟨0, by have := h.two; omega⟩
  | n + 1 => ⟨T.add (El.cast n).v 1, h.add_lt _ _ (El.cast n).lt (by have := h.two; omega)⟩
def El.icast : Int → El T
  | .ofNat n => El.cast h n
  | .negSucc n => ⟨T.neg (El.cast h (n + 1)).v, h.neg_lt _ (El.cast h (n + 1)).lt⟩
def El.pow (a : El T) : Nat → El T
  | 0 => El.cast h 1
  | n + 1 => ⟨T.mul (El.pow a n).v a.v, h.mul_lt _ _ (El.pow a n).lt a.lt⟩
theorem El.one_v : (El.cast h 1).v = 1 := by
  show T.add 0 1 = 1
  have := h.two
  rw [h.add_comm 0 1 (by omega) (by omega)]
  exact h.add_zero 1 (by omega)
include h in
theorem El.neg_neg {a : Nat} (ha : a < T.q) : T.neg (T.neg a) = a := by
  have n1 := h.neg_lt a ha
  have n2 := h.neg_lt _ n1
  have two := h.two
  have e1 := h.neg_add _ n1
  have e2 := h.neg_add a ha
  calc T.neg (T.neg a) = T.add (T.neg (T.neg a)) 0 := (h.add_zero _ n2).symm
    _ = T.add (T.neg (T.neg a)) (T.add (T.neg a) a) := by rw [e2]
    _ = T.add (T.add (T.neg (T.neg a)) (T.neg a)) a := (h.add_assoc _ _ _ n2 n1 ha).symm
    _ = T.add 0 a := by rw [e1]
    _ = T.add a 0 := h.add_comm _ _ (by omega) ha
    _ = a := h.add_zero a ha
include h in
theorem El.neg_zero : T.neg 0 = 0 := by
  have two := h.two
  have n1 := h.neg_lt 0 (by omega)
  have := h.neg_add 0 (by omega)
  rw [h.add_zero _ n1] at this
  exact this
include h in
theorem El.neg_of {y z : Nat} (hy : y < T.q) (hz : z < T.q) (e : T.add y z = 0) : y = T.neg z := by
  have n1 := h.neg_lt z hz
  have two := h.two
  calc y = T.add y 0 := (h.add_zero _ hy).symm
    _ = T.add y (T.add (T.neg z) z) := by rw [h.neg_add z hz]
    _ = T.add y (T.add z (T.neg z)) := by rw [h.add_comm _ _ n1 hz]
    _ = T.add (T.add y z) (T.neg z) := (h.add_assoc _ _ _ hy hz n1).symm
    _ = T.add 0 (T.neg z) := by rw [e]
    _ = T.add (T.neg z) 0 := h.add_comm _ _ (by omega) n1
    _ = T.neg z := h.add_zero _ n1
include h in
theorem El.neg_mul {x a : Nat} (hx : x < T.q) (ha : a < T.q) : T.mul (T.neg x) a = T.neg (T.mul x a) := by
  have n1 := h.neg_lt x hx
  have two := h.two
  have m1 := h.mul_lt _ _ n1 ha
  have m2 := h.mul_lt _ _ hx ha
  refine El.neg_of h m1 m2 ?_
  rw [h.mul_comm _ _ n1 ha, h.mul_comm _ _ hx ha, ← h.distrib _ _ _ ha n1 hx, h.neg_add x hx, h.mul_comm _ _ ha (by omega)]
  exact h.zero_mul a ha
theorem El.icast_neg (i : Int) : (El.icast h (-i)).v = T.neg (El.icast h i).v := by
  cases i with
  | ofNat n =>
    cases n with
    | zero => exact (El.neg_zero h).symm
    | succ n => rfl
  | negSucc n =>
    show (El.cast h (n + 1)).v = T.neg (T.neg (El.cast h (n + 1)).v)
    rw [El.neg_neg h (El.cast h (n + 1)).lt]
/-- the field -/
@[reducible] def mkGF : GF (El T) where
  add a b := ⟨T.add a.v b.v, h.add_lt _ _ a.lt b.lt⟩
  mul a b := ⟨T.mul a.v b.v, h.mul_lt _ _ a.lt b.lt⟩
  neg a := ⟨T.neg a.v, h.neg_lt _ a.lt⟩
  sub a b := ⟨T.add a.v (T.neg b.v), h.add_lt _ _ a.lt (h.neg_lt _ b.lt)⟩
  natCast := ⟨El.cast h⟩
  ofNat n := ⟨El.cast h n⟩
  intCast := ⟨El.icast h⟩
  nsmul := ⟨fun n a => ⟨T.mul (El.cast h n).v a.v, h.mul_lt _ _ (El.cast h n).lt a.lt⟩⟩
  zsmul := ⟨fun i a => ⟨T.mul (El.icast h i).v a.v, h.mul_lt _ _ (El.icast h i).lt a.lt⟩⟩
  npow := ⟨El.pow h⟩
  add_zero a := El.ext (h.add_zero _ a.lt)
  add_comm a b := El.ext (h.add_comm _ _ a.lt b.lt)
  add_assoc a b c := El.ext (h.add_assoc _ _ _ a.lt b.lt c.lt)
  mul_assoc a b c := El.ext (h.mul_assoc _ _ _ a.lt b.lt c.lt)
  mul_comm a b := El.ext (h.mul_comm _ _ a.lt b.lt)
  mul_one a := El.ext (by
    show T.mul a.v (El.cast h 1).v = a.v
    rw [El.one_v]; exact h.mul_one _ a.lt)
  one_mul a := El.ext (by
    show T.mul (El.cast h 1).v a.v = a.v
    rw [El.one_v, h.mul_comm _ _ (by have := h.two; omega) a.lt]; exact h.mul_one _ a.lt)
  right_distrib a b c := El.ext (by
    show T.mul (T.add a.v b.v) c.v = T.add (T.mul a.v c.v) (T.mul b.v c.v)
    rw [h.mul_comm _ _ (h.add_lt _ _ a.lt b.lt) c.lt, h.distrib _ _ _ c.lt a.lt b.lt, h.mul_comm _ _ c.lt a.lt, h.mul_comm _ _ c.lt b.lt])
  mul_zero a := El.ext (by
    show T.mul a.v 0 = 0
    rw [h.mul_comm _ _ a.lt (by have := h.two; omega)]; exact h.zero_mul _ a.lt)
  left_distrib a b c := El.ext (h.distrib _ _ _ a.lt b.lt c.lt)
  zero_mul a := El.ext (h.zero_mul _ a.lt)
  pow_zero a := rfl
  pow_succ a n := rfl
  ofNat_succ n := El.ext (by
    show T.add (El.cast h n).v 1 = T.add (El.cast h n).v (El.cast h 1).v
    rw [El.one_v])
  ofNat_eq_natCast n := rfl
  nsmul_eq_natCast_mul n a := rfl
  neg_add_cancel a := El.ext (h.neg_add _ a.lt)
  sub_eq_add_neg a b := rfl
  neg_zsmul i a := El.ext (by
    show T.mul (El.icast h (-i)).v a.v = T.neg (T.mul (El.icast h i).v a.v)
    rw [El.icast_neg]; exact El.neg_mul h (El.icast h i).lt a.lt)
  zsmul_natCast_eq_nsmul n a := rfl
  intCast_ofNat n := rfl
  intCast_neg i := El.ext (El.icast_neg h i)
  inv a := ⟨T.inv a.v, h.inv_lt _ a.lt⟩
  mul_inv a ha := El.ext (by
    show T.mul a.v (T.inv a.v) = (El.cast h 1).v
    rw [El.one_v]
    exact h.mul_inv _ a.lt fun z => ha (El.ext z))
  q := T.q
  el n := ⟨if n < T.q then n else 0, by have := h.two; split <;> omega⟩
  no a := a.v
  no_lt a := a.lt
  el_no a := El.ext (if_pos a.lt)
  no_el n hn := if_pos hn
  no_zero := rfl
  no_one := El.one_v h
  two := h.two
end
end LA
end S_LaG
section S_MnWp
set_option maxRecDepth 100000
/-! Reading the evaluator backwards: what has to hold ahead of a text. -/
namespace MN
abbrev Mo := Nat → List D → Option D
structure WE (M : Mo) (e : ME) (ρ : En) (Q : D → List Nat → Prop) : Prop where
  ex : ∃ d L, evE M GG e ρ = some (d, L) ∧ Q d L
/-- arguments -/
structure WA (M : Mo) (e : ME) (ρ : En) (Q : List D → List Nat → Prop) : Prop where
  ex : ∃ ds L, evE M GG e ρ = some (.tup ds, L) ∧ Q ds L
structure WT (M : Mo) (e : ME) (ρ : En) (Q : Bool → Prop) : Prop where
  ex : ∃ b L, evE M GG e ρ = some (.bl b, L) ∧ Q b
structure WS (M : Mo) (m : MS) (ρ : En) (N : En → Prop) (R : D → Prop) : Prop where
  ex : ∃ o, evS M GG m ρ = some o ∧ (match o with
  | .nx ρ' => N ρ'
  | .rt d => R d)
/-- a value that has to be there -/
def Lf {β : Type} (z : Option β) (Q : β → Prop) : Prop := ∃ d, z = some d ∧ Q d
theorem lf {β : Type} {z : Option β} {Q : β → Prop} {d : β} (h : z = some d) (q : Q d) : Lf z Q := ⟨d, h, q⟩
section
variable {M : Mo} {ρ : En} {Q : D → List Nat → Prop} {a b c e : ME}
/-! expressions -/
theorem we_sh {i : Nat} {d : D} (h : ρ[i]? = some (Sl.sh d)) (q : Q d []) : WE M (.nm i) ρ Q := ⟨d, [], by unfold evE; rw [h], q⟩
theorem we_ow {i : Nat} {ds : List D} (h : ρ[i]? = some (Sl.ow ds)) (q : Q (.lst ds) [i]) : WE M (.nm i) ρ Q := ⟨.lst ds, [i], by unfold evE; rw [h], q⟩
theorem we_glb {g : Nat} (q : Q (.int (GG g)) []) : WE M (.glb g) ρ Q := ⟨_, _, rfl, q⟩
theorem we_int {i : Int} (q : Q (.int i) []) : WE M (.int i) ρ Q := ⟨_, _, rfl, q⟩
theorem we_neg {i : Int} (q : Q (.int (-i)) []) : WE M (.neg i) ρ Q := ⟨_, _, rfl, q⟩
theorem we_bl {k : Bool} (q : Q (.bl k) []) : WE M (.bl k) ρ Q := ⟨_, _, rfl, q⟩
theorem we_non (q : Q .non []) : WE M .non ρ Q := ⟨_, _, rfl, q⟩
theorem we_bin {o : BOp} (h : WE M a ρ fun x Lx => WE M b ρ fun y Ly => Lf (opD o x y) fun z => Q z (if flat z = true then [] else Lx ++ Ly)) : WE M (.bin o a b) ρ Q := by
  obtain ⟨x, Lx, e1, y, Ly, e2, z, e3, q⟩ := h
  refine ⟨z, _, ?_, q⟩
  show (evE M GG a ρ).bind _ = _
  rw [e1]
  show (evE M GG b ρ).bind _ = _
  rw [e2]
  show (opD o x y).bind _ = _
  rw [e3]
  show some (shutD z (Lx ++ Ly)) = _
  unfold shutD
  split <;> rfl
theorem wt_cmp {Q : Bool → Prop} {o : COp} (h : WE M a ρ fun x _ => WE M b ρ fun y _ => Lf (cmpD o x y) fun z => Q z) : WT M (.cmp o a b) ρ Q := by
  obtain ⟨x, Lx, e1, y, Ly, e2, z, e3, q⟩ := h
  refine ⟨z, [], ?_, q⟩
  show (evE M GG a ρ).bind _ = _
  rw [e1]
  show (evE M GG b ρ).bind _ = _
  rw [e2]
  show (cmpD o x y).bind _ = _
  rw [e3]
  rfl
theorem wt_chain {Q : Bool → Prop} {o o' : COp} (h : WE M a ρ fun x _ => WE M b ρ fun y _ => Lf (cmpD o x y) fun z => (z = false → Q false) ∧ (z = true → WE M c ρ fun w _ => Lf (cmpD o' y w) fun z' => Q z')) : WT M (.chain o o' a b c) ρ Q := by
  obtain ⟨x, Lx, e1, y, Ly, e2, z, e3, q1, q2⟩ := h
  cases z with
  | false =>
    refine ⟨false, [], ?_, q1 rfl⟩
    show (evE M GG a ρ).bind _ = _
    rw [e1]
    show (evE M GG b ρ).bind _ = _
    rw [e2]
    show (cmpD o x y).bind _ = _
    rw [e3]
    rfl
  | true =>
    obtain ⟨w, Lw, e4, z', e5, q⟩ := q2 rfl
    refine ⟨z', [], ?_, q⟩
    show (evE M GG a ρ).bind _ = _
    rw [e1]
    show (evE M GG b ρ).bind _ = _
    rw [e2]
    show (cmpD o x y).bind _ = _
    rw [e3]
    show (evE M GG c ρ).bind _ = _
    rw [e4]
    show (cmpD o' y w).bind _ = _
    rw [e5]
    rfl
theorem wt_and {Q : Bool → Prop} (h : WT M a ρ fun x => (x = false → Q false) ∧ (x = true → WT M b ρ Q)) : WT M (.and a b) ρ Q := by
  obtain ⟨x, Lx, e1, q1, q2⟩ := h
  cases x with
  | false => exact ⟨false, [], by show (evE M GG a ρ).bind _ = _; rw [e1]; rfl, q1 rfl⟩
  | true =>
    obtain ⟨y, Ly, e2, q⟩ := q2 rfl
    exact ⟨y, [], by show (evE M GG a ρ).bind _ = _; rw [e1]; show (evE M GG b ρ).bind _ = _; rw [e2]; rfl, q⟩
theorem wt_or {Q : Bool → Prop} (h : WT M a ρ fun x => (x = true → Q true) ∧ (x = false → WT M b ρ Q)) : WT M (.or a b) ρ Q := by
  obtain ⟨x, Lx, e1, q1, q2⟩ := h
  cases x with
  | true => exact ⟨true, [], by show (evE M GG a ρ).bind _ = _; rw [e1]; rfl, q1 rfl⟩
  | false =>
    obtain ⟨y, Ly, e2, q⟩ := q2 rfl
    exact ⟨y, [], by show (evE M GG a ρ).bind _ = _; rw [e1]; show (evE M GG b ρ).bind _ = _; rw [e2]; rfl, q⟩
theorem wt_or3 {Q : Bool → Prop} (h : WT M a ρ fun x => (x = true → Q true) ∧ (x = false → WT M b ρ fun y => (y = true → Q true) ∧ (y = false → WT M c ρ Q))) : WT M (.or3 a b c) ρ Q := by
  obtain ⟨x, Lx, e1, q1, q2⟩ := h
  cases x with
  | true => exact ⟨true, [], by show (evE M GG a ρ).bind _ = _; rw [e1]; rfl, q1 rfl⟩
  | false =>
    obtain ⟨y, Ly, e2, q3, q4⟩ := q2 rfl
    cases y with
    | true => exact ⟨true, [], by show (evE M GG a ρ).bind _ = _; rw [e1]; show (evE M GG b ρ).bind _ = _; rw [e2]; rfl, q3 rfl⟩
    | false =>
      obtain ⟨z, Lz, e3, q⟩ := q4 rfl
      exact ⟨z, [], by show (evE M GG a ρ).bind _ = _; rw [e1]; show (evE M GG b ρ).bind _ = _; rw [e2]; show (evE M GG c ρ).bind _ = _; rw [e3]; rfl, q⟩
theorem wt_not {Q : Bool → Prop} (h : WT M a ρ fun x => Q (!x)) : WT M (.not a) ρ Q := by
  obtain ⟨x, Lx, e1, q⟩ := h
  exact ⟨!x, [], by show (evE M GG a ρ).bind _ = _; rw [e1]; rfl, q⟩
/-- a test that is a value: a call, a name -/
theorem wt_val {Q : Bool → Prop} (h : WE M e ρ fun d _ => ∃ k, d = .bl k ∧ Q k) : WT M e ρ Q := by
  obtain ⟨d, L, e1, k, rfl, q⟩ := h
  exact ⟨k, L, e1, q⟩
/-- a value that is a test -/
theorem WT.we (h : WT M e ρ fun k => Q (.bl k) []) (hL : ∀ k L, evE M GG e ρ = some (.bl k, L) → L = []) : WE M e ρ Q := by
  obtain ⟨k, L, e1, q⟩ := h
  obtain rfl := hL k L e1
  exact ⟨_, _, e1, q⟩
theorem cmp_L {o : COp} : ∀ k L, evE M GG (.cmp o a b) ρ = some (.bl k, L) → L = [] := fun k L h => by
  have h : ((evE M GG a ρ).bind fun x => (evE M GG b ρ).bind fun y => (cmpD o x.1 y.1).bind fun z => some (D.bl z, ([] : List Nat))) = _ := h
  obtain ⟨x, _, h⟩ := Option.bind_eq_some_iff.mp h
  obtain ⟨y, _, h⟩ := Option.bind_eq_some_iff.mp h
  obtain ⟨z, _, h⟩ := Option.bind_eq_some_iff.mp h
  cases h; rfl
theorem and_L : ∀ k L, evE M GG (.and a b) ρ = some (.bl k, L) → L = [] := fun k L h => by
  unfold evE at h
  obtain ⟨x, _, h⟩ := Option.bind_eq_some_iff.mp h
  split at h
  · obtain ⟨y, _, h⟩ := Option.bind_eq_some_iff.mp h
    split at h <;> cases h
    rfl
  · cases h; rfl
  · cases h
theorem or_L : ∀ k L, evE M GG (.or a b) ρ = some (.bl k, L) → L = [] := fun k L h => by
  unfold evE at h
  obtain ⟨x, _, h⟩ := Option.bind_eq_some_iff.mp h
  split at h
  · obtain ⟨y, _, h⟩ := Option.bind_eq_some_iff.mp h
    split at h <;> cases h
    rfl
  · cases h; rfl
  · cases h
theorem not_L : ∀ k L, evE M GG (.not a) ρ = some (.bl k, L) → L = [] := fun k L h => by
  unfold evE at h
  obtain ⟨x, _, h⟩ := Option.bind_eq_some_iff.mp h
  split at h <;> cases h
  rfl
/-! arguments -/
theorem wa_nil {Q : List D → List Nat → Prop} (q : Q [] []) : WA M .nil ρ Q := ⟨_, _, rfl, q⟩
theorem wa_cons {Q : List D → List Nat → Prop} {as : ME} (h : WE M a ρ fun x Lx => WA M as ρ fun xs Ls => Q (x :: xs) (Lx ++ Ls)) : WA M (.cons a as) ρ Q := by
  obtain ⟨x, Lx, e1, xs, Ls, e2, q⟩ := h
  refine ⟨_, _, ?_, q⟩
  show (evE M GG a ρ).bind _ = _
  rw [e1]
  show (evE M GG as ρ).bind _ = _
  rw [e2]
  rfl
theorem we_call {f : Nat} {as : ME} (h : WA M as ρ fun ds L => Lf (M f ds) fun d => Q d (if flat d = true then [] else L)) : WE M (.call f as) ρ Q := by
  obtain ⟨ds, L, e1, d, e2, q⟩ := h
  refine ⟨d, _, ?_, q⟩
  show (evE M GG as ρ).bind _ = _
  rw [e1]
  show (M f ds).bind _ = _
  rw [e2]
  show some (shutD d L) = _
  unfold shutD
  split <;> rfl
theorem we_mk {f : Nat} {as : ME} (h : WA M as ρ fun ds L => Lf (M f ds) fun d => Q d L) : WE M (.mk f as) ρ Q := by
  obtain ⟨ds, L, e1, d, e2, q⟩ := h
  refine ⟨d, _, ?_, q⟩
  show (evE M GG as ρ).bind _ = _
  rw [e1]
  show (M f ds).bind _ = _
  rw [e2]
  rfl
theorem we_meth {f : Nat} {o as : ME} (h : WE M o ρ fun x Lx => WA M as ρ fun ds L => Lf (M f (x :: ds)) fun d => Q d (if flat d = true then [] else Lx ++ L)) : WE M (.meth f o as) ρ Q := by
  obtain ⟨x, Lx, e0, ds, L, e1, d, e2, q⟩ := h
  refine ⟨d, _, ?_, q⟩
  show (evE M GG o ρ).bind _ = _
  rw [e0]
  show (evE M GG as ρ).bind _ = _
  rw [e1]
  show (M f (x :: ds)).bind _ = _
  rw [e2]
  show some (shutD d (Lx ++ L)) = _
  unfold shutD
  split <;> rfl
theorem we_meth0 {f : Nat} {o : ME} (h : WE M o ρ fun x Lx => Lf (M f [x]) fun d => Q d (if flat d = true then [] else Lx)) : WE M (.meth0 f o) ρ Q := by
  obtain ⟨x, Lx, e0, d, e2, q⟩ := h
  refine ⟨d, _, ?_, q⟩
  show (evE M GG o ρ).bind _ = _
  rw [e0]
  show (M f [x]).bind _ = _
  rw [e2]
  show some (shutD d Lx) = _
  unfold shutD
  split <;> rfl
theorem we_prop {f : Nat} {o : ME} (h : WE M o ρ fun x Lx => Lf (M f [x]) fun d => Q d (if flat d = true then [] else Lx)) : WE M (.prop f o) ρ Q := by
  obtain ⟨d, L, e, q⟩ := we_meth0 (f := f) h
  exact ⟨d, L, e, q⟩
theorem we_bi {f : Bi} {as : ME} (h : WA M as ρ fun ds L => Lf (biD f ds) fun d => Q d (if flat d = true then [] else L)) : WE M (.bi f as) ρ Q := by
  obtain ⟨ds, L, e1, d, e2, q⟩ := h
  refine ⟨d, _, ?_, q⟩
  show (evE M GG as ρ).bind _ = _
  rw [e1]
  show (biD f ds).bind _ = _
  rw [e2]
  show some (shutD d L) = _
  unfold shutD
  split <;> rfl
theorem we_isI (h : WE M a ρ fun x _ => ∃ i, x = .int i ∧ Q (.bl true) []) : WE M (.isI a) ρ Q := by
  obtain ⟨x, L, e1, i, rfl, q⟩ := h
  exact ⟨_, _, by show (evE M GG a ρ).bind _ = _; rw [e1]; rfl, q⟩
theorem we_isB (h : WE M a ρ fun x _ => ∃ i, x = .int i ∧ Q (.bl false) []) : WE M (.isB a) ρ Q := by
  obtain ⟨x, L, e1, i, rfl, q⟩ := h
  exact ⟨_, _, by show (evE M GG a ρ).bind _ = _; rw [e1]; rfl, q⟩
theorem we_lset (h : WE M a ρ fun x _ => ∃ xs ns, x = .lst xs ∧ intsOf xs = some ns ∧ nodupI ns = true ∧ ns.length ≤ 4000 ∧ Q (.int ns.length) []) : WE M (.lset a) ρ Q := by
  obtain ⟨x, L, e1, xs, ns, rfl, h1, h2, h3, q⟩ := h
  refine ⟨_, _, ?_, q⟩
  show (evE M GG a ρ).bind _ = _
  rw [e1]
  show (intsOf xs).bind _ = _
  rw [h1]
  show (if nodupI ns && decide (ns.length ≤ 4000) then _ else _) = _
  rw [if_pos (by simp [h2, h3])]
theorem we_lrg (h : WE M a ρ fun x _ => ∃ n : Nat, x = .int n ∧ n ≤ 16777216 ∧ Q (.lst (rgD 0 n)) []) : WE M (.lrg a) ρ Q := by
  obtain ⟨x, L, e1, n, rfl, h1, q⟩ := h
  refine ⟨_, _, ?_, q⟩
  show (evE M GG a ρ).bind _ = _
  rw [e1]
  show (if 0 ≤ (n : Int) ∧ (n : Int) ≤ 16777216 then _ else _) = _
  rw [if_pos (by omega)]
  simp
theorem we_idx (h : WE M a ρ fun u _ => WE M b ρ fun v _ => ∃ xs n, u = .lst xs ∧ okP 4 (.lst xs) = true ∧ okP 4 v = true ∧ placeD v xs 0 = some n ∧ Q (.int n) []) : WE M (.idx a b) ρ Q := by
  obtain ⟨u, L, e1, v, L', e2, xs, n, rfl, h1, h2, h3, q⟩ := h
  refine ⟨_, _, ?_, q⟩
  show (evE M GG a ρ).bind _ = _
  rw [e1]
  show (evE M GG b ρ).bind _ = _
  rw [e2]
  show (if okP 4 (.lst xs) && okP 4 v then _ else _) = _
  rw [if_pos (by rw [h1, h2]; rfl)]
  show (placeD v xs 0).bind _ = _
  rw [h3]
  rfl
/-- a field of a name's object -/
theorem we_fldN {c k i : Nat} {ds : List D} {d : D} (h : ρ[i]? = some (Sl.sh (.ins c ds))) (hd : ds[k]? = some d) (q : Q d []) : WE M (.fld c k (.nm i)) ρ Q := by
  refine ⟨d, [], ?_, q⟩
  unfold evE
  simp only [h, if_true, hd]
  rfl
theorem we_fldO {c k i : Nat} {ds : List D} {d : D} (h : ρ[i]? = some (Sl.ob c ds)) (hd : ds[k]? = some d) (q : Q d []) : WE M (.fld c k (.nm i)) ρ Q := by
  refine ⟨d, [], ?_, q⟩
  unfold evE
  simp only [h, if_true, hd]
  rfl
/-- .. of an object that is a field of an object -/
theorem we_fld2 {c k c' k' : Nat} {o : ME} (h : WE M (.fld c' k' o) ρ fun x L => ∃ ds d, x = .ins c ds ∧ ds[k]? = some d ∧ Q d (if flat d = true then [] else L)) : WE M (.fld c k (.fld c' k' o)) ρ Q := by
  obtain ⟨x, L, e1, ds, d, rfl, h1, q⟩ := h
  refine ⟨d, _, ?_, q⟩
  show (evE M GG (.fld c' k' o) ρ).bind _ = _
  rw [e1]
  show (if c = c then ds[k]?.bind _ else _) = _
  rw [if_pos rfl, h1]
  show some (shutD d L) = _
  unfold shutD
  split <;> rfl
/-- an index into a name's list -/
theorem we_subS {j : Nat} {i : ME} {d : D} (h : ρ[j]? = some (Sl.sh d)) (hi : WE M i ρ fun y _ => Lf (idxD d y) fun z => Q z []) : WE M (.sub (.nm j) i) ρ Q := by
  obtain ⟨y, L, e1, z, e2, q⟩ := hi
  refine ⟨z, [], ?_, q⟩
  unfold evE
  simp only [h, e1, e2, Option.bind_some]
theorem we_subO {j : Nat} {i : ME} {ds : List D} (h : ρ[j]? = some (Sl.ow ds)) (hi : WE M i ρ fun y _ => Lf (idxD (.lst ds) y) fun z => Q z []) : WE M (.sub (.nm j) i) ρ Q := by
  obtain ⟨y, L, e1, z, e2, q⟩ := hi
  refine ⟨z, [], ?_, q⟩
  unfold evE
  simp only [h, e1, e2, Option.bind_some]
def isNm : ME → Bool
  | .nm _ => true
  | _ => false
theorem we_sub {i : ME} (hn : isNm a = false) (h : WE M a ρ fun x Lx => WE M i ρ fun y _ => Lf (idxD x y) fun z => Q z (if flat z = true then [] else Lx)) : WE M (.sub a i) ρ Q := by
  obtain ⟨x, Lx, e1, y, L, e2, z, e3, q⟩ := h
  refine ⟨z, _, ?_, q⟩
  have e : evE M GG (.sub a i) ρ = (evE M GG a ρ).bind fun x => (evE M GG i ρ).bind fun y => (idxD x.1 y.1).bind fun z => some (shutD z x.2) := by
    cases a <;> first | rfl | cases hn
  rw [e, e1]
  show (evE M GG i ρ).bind _ = _
  rw [e2]
  show (idxD x y).bind _ = _
  rw [e3]
  show some (shutD z Lx) = _
  unfold shutD
  split <;> rfl
/-- bounds of a slice -/
def WI (M : Mo) (e : ME) (ρ : En) (Q : Option Int → Prop) : Prop := (e = .nil ∧ Q none) ∨ (isNilB e = false ∧ WE M e ρ fun d _ => ∃ i, d = .int i ∧ Q (some i))
theorem WI.none {Q : Option Int → Prop} (q : Q Option.none) : WI M .nil ρ Q := .inl ⟨rfl, q⟩
theorem WI.some {Q : Option Int → Prop} (hn : isNilB e = false) (h : WE M e ρ fun d _ => ∃ i, d = .int i ∧ Q (Option.some i)) : WI M e ρ Q := .inr ⟨hn, h⟩
theorem WI.ev {Q : Option Int → Prop} (h : WI M e ρ Q) : ∃ l, (if isNilB e then Option.some Option.none else (evE M GG e ρ).bind fun l => (match l.1 with
      | .int i => Option.some (Option.some i)
      | _ => Option.none)) = Option.some l ∧ Q l := by
  rcases h with ⟨rfl, q⟩ | ⟨hn, d, L, e1, i, rfl, q⟩
  · exact ⟨_, rfl, q⟩
  · exact ⟨Option.some i, by rw [if_neg (by rw [hn]; simp), e1]; rfl, q⟩
theorem we_slc {lo hi : ME} (h : WE M a ρ fun x L => WI M lo ρ fun l => WI M hi ρ fun u => ∃ xs, x = .lst xs ∧ Q (.lst (cutD xs l u)) L) : WE M (.slc a lo hi) ρ Q := by
  obtain ⟨x, L, e1, h⟩ := h
  obtain ⟨l, e2, h⟩ := h.ev
  obtain ⟨u, e3, xs, rfl, q⟩ := h.ev
  refine ⟨_, _, ?_, q⟩
  show (evE M GG a ρ).bind _ = _
  rw [e1, Option.bind_some]
  refine (congrArg (fun z => Option.bind z _) e2).trans ?_
  refine (congrArg (fun z => Option.bind z _) e3).trans ?_
  rfl
theorem we_slcS {lo hi : ME} (h : WE M a ρ fun x L => WI M lo ρ fun l => WI M hi ρ fun u => ∃ ns, x = .scr ns ∧ Q (.lst ((cutD ns l u).map .int)) []) : WE M (.slc a lo hi) ρ Q := by
  obtain ⟨x, L, e1, h⟩ := h
  obtain ⟨l, e2, h⟩ := h.ev
  obtain ⟨u, e3, xs, rfl, q⟩ := h.ev
  refine ⟨_, _, ?_, q⟩
  show (evE M GG a ρ).bind _ = _
  rw [e1, Option.bind_some]
  refine (congrArg (fun z => Option.bind z _) e2).trans ?_
  refine (congrArg (fun z => Option.bind z _) e3).trans ?_
  rfl
theorem we_lst {as : ME} (h : WA M as ρ fun ds L => ds.length ≤ big ∧ Q (.lst ds) L) : WE M (.lst as) ρ Q := by
  obtain ⟨ds, L, e1, hb, q⟩ := h
  exact ⟨_, _, by show (evE M GG as ρ).bind _ = _; rw [e1]; show (if ds.length ≤ big then _ else _) = _; rw [if_pos hb], q⟩
theorem we_tup {as : ME} (h : WA M as ρ fun ds L => ds.length ≤ big ∧ Q (.tup ds) L) : WE M (.tup as) ρ Q := by
  obtain ⟨ds, L, e1, hb, q⟩ := h
  exact ⟨_, _, by show (evE M GG as ρ).bind _ = _; rw [e1]; show (if ds.length ≤ big then _ else _) = _; rw [if_pos hb], q⟩
/-! walks -/
structure WW_ (M : Mo) (it : Wk) (src : ME) (ρ : En) (Q : List D → List Nat → Prop) : Prop where
  ex : ∃ d L its, evE M GG src ρ = some (d, L) ∧ itemsD it d = some its ∧ Q its L
theorem ww_lst {src : ME} {Q : List D → List Nat → Prop} (h : WE M src ρ fun d L => ∃ its, d = .lst its ∧ Q its L) : WW_ M .lst src ρ Q := by
  obtain ⟨d, L, e1, its, rfl, q⟩ := h
  exact ⟨_, _, its, e1, rfl, q⟩
theorem ww_tup {src : ME} {Q : List D → List Nat → Prop} (h : WE M src ρ fun d L => ∃ its, d = .tup its ∧ Q its L) : WW_ M .tup src ρ Q := by
  obtain ⟨d, L, e1, its, rfl, q⟩ := h
  exact ⟨_, _, its, e1, rfl, q⟩
theorem ww_rg1 {src : ME} {Q : List D → List Nat → Prop} (h : WA M src ρ fun ds L => ∃ n : Nat, ds = [.int n] ∧ n < 2 ^ 62 ∧ Q (rgD 0 n) L) : WW_ M .rg1 src ρ Q := by
  obtain ⟨ds, L, e1, n, rfl, hn, q⟩ := h
  refine ⟨_, _, _, e1, ?_, q⟩
  show (if okR (n : Int) then some (rgD 0 (n : Int).toNat) else none) = _
  rw [if_pos (by unfold okR; simp; omega)]
  simp
theorem ww_rg2 {src : ME} {Q : List D → List Nat → Prop} (h : WA M src ρ fun ds L => ∃ (i : Nat) (j : Nat), ds = [.int i, .int j] ∧ i < 2 ^ 62 ∧ j < 2 ^ 62 ∧ Q (rgD i (j - i)) L) : WW_ M .rg2 src ρ Q := by
  obtain ⟨ds, L, e1, i, j, rfl, hi, hj, q⟩ := h
  refine ⟨_, _, _, e1, ?_, q⟩
  show (if okR (i : Int) && okR (j : Int) then some (rgD i ((j : Int) - i).toNat) else none) = _
  rw [if_pos (by unfold okR; simp; omega), show ((j : Int) - i).toNat = j - i by omega]
theorem ww_rev {src : ME} {Q : List D → List Nat → Prop} (h : WA M src ρ fun ds L => ∃ xs, ds = [.lst xs] ∧ Q xs.reverse L) : WW_ M .rev src ρ Q := by
  obtain ⟨ds, L, e1, xs, rfl, q⟩ := h
  exact ⟨_, _, _, e1, rfl, q⟩
theorem ww_zip {src : ME} {Q : List D → List Nat → Prop} (h : WA M src ρ fun ds L => ∃ xs ys, ds = [.lst xs, .lst ys] ∧ xs.length = ys.length ∧ Q ((xs.zip ys).map fun p => .tup [p.1, p.2]) L) : WW_ M .zip src ρ Q := by
  obtain ⟨ds, L, e1, xs, ys, rfl, hl, q⟩ := h
  refine ⟨_, _, _, e1, ?_, q⟩
  show (if xs.length = ys.length then _ else _) = _
  rw [if_pos hl]
/-! comprehensions -/
/-- one element: kept with its value, or not -/
def WC (M : Mo) (e cond : ME) (ρ : En) (o : Option D) : Prop := match o with
  | some y => (cond = .nil ∨ WT M cond ρ fun k => k = true) ∧ WE M e ρ fun z L => L = [] ∧ z = y
  | none => WT M cond ρ fun k => k = false
theorem WC.ev {cond : ME} {o : Option D} (h : WC M e cond ρ o) : ((evE M GG cond ρ).bind fun c => (match c.1 with
      | .bl false => some none
      | .bl true => (evE M GG e ρ).bind fun y => (clean y).bind fun z => some (some z)
      | .tup [] => (evE M GG e ρ).bind fun y => (clean y).bind fun z => some (some z)
      | _ => none)) = some o := by
  cases o with
  | some y =>
    obtain ⟨h1, z, L, e2, rfl, rfl⟩ := h
    rcases h1 with rfl | ⟨k, L, e1, rfl⟩
    · show (evE M GG e ρ).bind _ = _
      rw [e2]
      rfl
    · rw [e1]
      show (evE M GG e ρ).bind _ = _
      rw [e2]
      rfl
  | none =>
    obtain ⟨k, L, e1, rfl⟩ := h
    rw [e1]
    rfl
def keepO : List (Option D) → List D
  | [] => []
  | some y :: l => y :: keepO l
  | none :: l => keepO l
/-- a comprehension whose elements g tells -/
theorem we_comp {tg : Tg} {it : Wk} {src cond : ME} (hf : tg.free ρ = true) (h : WW_ M it src ρ fun its L => ∃ g : D → Option D, its.length ≤ big ∧ (∀ d ∈ its, ∃ ρ', tg.put (ρ.frz L) d = some ρ' ∧ WC M e cond ρ' (g d)) ∧ Q (.lst (its.filterMap g)) L) : WE M (.comp e tg it src cond) ρ Q := by
  obtain ⟨d, L, its, e1, e2, g, hb, hg, q⟩ := h
  refine ⟨_, _, ?_, q⟩
  show (evE M GG src ρ).bind _ = _
  rw [e1]
  show (itemsD it d).bind _ = _
  rw [e2]
  show (if !tg.free ρ then none else _) = _
  rw [if_neg (by rw [hf]; simp)]
  generalize hF : (fun d_1 => (tg.put (ρ.frz (d, L).2) d_1).bind fun ρ' => (evE M GG cond ρ').bind fun c => (match c.1 with
      | .bl false => some none
      | .bl true => (evE M GG e ρ').bind fun y => (clean y).bind fun z => some (some z)
      | .tup [] => (evE M GG e ρ').bind fun y => (clean y).bind fun z => some (some z)
      | _ => none)) = F
  have hF2 : ∀ d ∈ its, F d = some (g d) := fun x hx => by
    obtain ⟨ρ', p1, p2⟩ := hg x hx
    rw [← hF]
    show (tg.put (ρ.frz L) x).bind _ = _
    rw [p1]
    exact p2.ev
  have key : ∀ its : List D, (∀ d ∈ its, F d = some (g d)) → compD F its = some (its.filterMap g) := by
    intro its
    induction its with
    | nil => intro _; rfl
    | cons x xs ih =>
      intro hx
      show (F x).bind _ = _
      rw [hx x (List.mem_cons_self ..)]
      show (compD F xs).bind _ = _
      rw [ih fun y hy => hx y (List.mem_cons_of_mem _ hy)]
      cases hg : g x <;> simp [List.filterMap_cons, hg]
  show (compD F its).bind _ = _
  rw [key its hF2]
  show (if its.length ≤ big then _ else _) = _
  rw [if_pos hb]
end

/-! statements -/
section
variable {M : Mo} {ρ : En} {N : En → Prop} {R : D → Prop}
theorem ws_nil (h : N ρ) : WS M .nil ρ N R := ⟨_, rfl, h⟩
theorem ws_cons {s ss : MS} (h : WS M s ρ (fun ρ' => WS M ss ρ' N R) R) : WS M (.cons s ss) ρ N R := by
  obtain ⟨o, e1, h⟩ := h
  cases o with
  | nx ρ' =>
    obtain ⟨o, e2, h⟩ := h
    exact ⟨o, by show (evS M GG s ρ).bind _ = _; rw [e1]; exact e2, h⟩
  | rt d => exact ⟨.rt d, by show (evS M GG s ρ).bind _ = _; rw [e1]; rfl, h⟩
theorem ws_setS {i : Nat} {e : ME} (hi : i < ρ.length) (hf : fresh e = false) (h : WE M e ρ fun d L => N ((ρ.frz L).set i (.sh d))) : WS M (.set i e) ρ N R := by
  obtain ⟨d, L, e1, h⟩ := h
  refine ⟨.nx ((ρ.frz L).set i (.sh d)), ?_, h⟩
  show (evE M GG e ρ).bind _ = _
  rw [e1]
  show (putV i (fresh e) (d, L) ρ).bind _ = _
  unfold putV
  rw [if_pos hi, hf]
  rfl
/-- a new list, of one's own -/
theorem ws_setO {i : Nat} {e : ME} (hi : i < ρ.length) (hf : fresh e = true) (h : WE M e ρ fun d L => ∃ ds, d = .lst ds ∧ N ((ρ.frz L).set i (.ow ds))) : WS M (.set i e) ρ N R := by
  obtain ⟨d, L, e1, ds, rfl, h⟩ := h
  refine ⟨.nx ((ρ.frz L).set i (.ow ds)), ?_, h⟩
  show (evE M GG e ρ).bind _ = _
  rw [e1]
  show (putV i (fresh e) (.lst ds, L) ρ).bind _ = _
  unfold putV
  rw [if_pos hi, hf]
  rfl
/-- fresh, but no list -/
theorem ws_setF {i : Nat} {e : ME} (hi : i < ρ.length) (h : WE M e ρ fun d L => ∃ k, d = .int k ∧ N ((ρ.frz L).set i (.sh d))) : WS M (.set i e) ρ N R := by
  obtain ⟨d, L, e1, k, rfl, h⟩ := h
  refine ⟨.nx ((ρ.frz L).set i (.sh (.int k))), ?_, h⟩
  show (evE M GG e ρ).bind _ = _
  rw [e1]
  show (putV i (fresh e) (.int k, L) ρ).bind _ = _
  unfold putV
  rw [if_pos hi]
  cases fresh e <;> rfl
theorem ws_unpG {is : List Nat} {e : ME} (h : WE M e ρ fun d L => ∃ ds ρ', d = .tup ds ∧ unpD is ds (ρ.frz L) = some ρ' ∧ N ρ') : WS M (.unp is e) ρ N R := by
  obtain ⟨d, L, e1, ds, ρ', rfl, e2, h⟩ := h
  refine ⟨.nx ρ', ?_, h⟩
  show (evE M GG e ρ).bind _ = _
  rw [e1]
  show (unpD is ds (ρ.frz L)).bind _ = _
  rw [e2]
  rfl
/-- a store into a list of one's own -/
theorem ws_sets {x : Nat} {ix e : ME} (h : WE M e ρ fun d L => WE M ix ρ fun i _ => L.contains x = false ∧ ∃ (ds : List D) (k j : _), (ρ.frz L)[x]? = some (Sl.ow ds) ∧ i = .int k ∧ L2.ixN ds.length k = some j ∧ N ((ρ.frz L).set x (.ow (ds.set j d)))) : WS M (.sets x ix e) ρ N R := by
  obtain ⟨d, L, e1, i, L', e2, hx, ds, k, j, h1, rfl, h2, h⟩ := h
  refine ⟨.nx ((ρ.frz L).set x (.ow (ds.set j d))), ?_, h⟩
  show (evE M GG e ρ).bind _ = _
  rw [e1]
  show (evE M GG ix ρ).bind _ = _
  rw [e2]
  show (chg x L (setIx (.int k) d) ρ).bind _ = _
  unfold chg
  rw [if_neg (by rw [hx]; simp), h1]
  show ((setIx (.int k) d ds).bind _).bind _ = _
  unfold setIx
  simp only [h2, Option.bind_some]
theorem ws_swp {x : Nat} {i j a b : ME} (h : WE M a ρ fun u Lu => WE M b ρ fun v Lv => Lu = [] ∧ Lv = [] ∧ WE M i ρ fun p _ => ∃ (ds : List D) (k n : _), ρ[x]? = some (Sl.ow ds) ∧ p = .int k ∧ L2.ixN ds.length k = some n ∧
      WE M j (ρ.set x (.ow (ds.set n u))) fun q _ => ∃ (k' n' : _), q = .int k' ∧ L2.ixN ds.length k' = some n' ∧ N (ρ.set x (.ow ((ds.set n u).set n' v)))) : WS M (.swp x i j a b) ρ N R := by
  obtain ⟨u, Lu, e1, v, Lv, e2, rfl, rfl, p, Lp, e3, ds, k, n, h1, rfl, h2, q, Lq, e4, k', n', rfl, h3, h⟩ := h
  refine ⟨.nx (ρ.set x (.ow ((ds.set n u).set n' v))), ?_, h⟩
  have hx : x < ρ.length := (List.getElem?_eq_some_iff.mp h1).1
  have c1 : chg x [] (setIx (.int k) u) ρ = some (ρ.set x (.ow (ds.set n u))) := by
    unfold chg
    rw [frz_nil, if_neg (by simp), h1]
    unfold setIx
    simp only [h2, Option.bind_some]
  have c2 : chg x [] (setIx (.int k') v) (ρ.set x (.ow (ds.set n u))) = some (ρ.set x (.ow ((ds.set n u).set n' v))) := by
    unfold chg
    rw [frz_nil, if_neg (by simp), List.getElem?_set_self hx]
    unfold setIx
    simp only [List.length_set, h3, Option.bind_some, List.set_set]
  show (evE M GG a ρ).bind _ = _
  rw [e1]
  show (evE M GG b ρ).bind _ = _
  rw [e2]
  show (evE M GG i ρ).bind _ = _
  rw [e3]
  show (chg x [] (setIx (.int k) u) ρ).bind _ = _
  rw [c1]
  show (evE M GG j _).bind _ = _
  rw [e4]
  show (chg x [] (setIx (.int k') v) _).bind _ = _
  rw [c2]
  rfl
theorem ws_aug {x : Nat} {ix e : ME} (h : WE M ix ρ fun i _ => WE M e ρ fun r _ => ∃ (ds : List D) (k j : _) (p q : Int), ρ[x]? = some (Sl.ow ds) ∧ i = .int k ∧ L2.ixN ds.length k = some j ∧ ds[j]? = some (.int p) ∧ r = .int q ∧ N (ρ.set x (.ow (ds.set j (.int (p + q)))))) : WS M (.aug x ix e) ρ N R := by
  obtain ⟨i, La, e1, r, Lb, e2, ds, k, j, p, q, h1, rfl, h2, h3, rfl, h⟩ := h
  refine ⟨.nx (ρ.set x (.ow (ds.set j (.int (p + q))))), ?_, h⟩
  have es : evE M GG (.sub (.nm x) ix) ρ = some (.int p, []) := by
    unfold evE
    simp only [h1, e1, Option.bind_some]
    show ((L2.atI ds k).bind _) = _
    unfold L2.atI
    rw [h2]
    simp only [Option.bind_some, h3]
  have c1 : chg x [] (setIx (.int k) (.int (p + q))) ρ = some (ρ.set x (.ow (ds.set j (.int (p + q))))) := by
    unfold chg
    rw [frz_nil, if_neg (by simp), h1]
    unfold setIx
    simp only [h2, Option.bind_some]
  show (evE M GG ix ρ).bind _ = _
  rw [e1]
  show (evE M GG (.sub (.nm x) ix) ρ).bind _ = _
  rw [es]
  show (evE M GG e ρ).bind _ = _
  rw [e2]
  show (chg x [] (setIx (.int k) (.int (p + q))) ρ).bind _ = _
  rw [c1]
  rfl
theorem ws_app {x : Nat} {e : ME} (h : WE M e ρ fun d L => L.contains x = false ∧ ∃ ds, (ρ.frz L)[x]? = some (Sl.ow ds) ∧ ds.length < big ∧ N ((ρ.frz L).set x (.ow (ds ++ [d])))) : WS M (.app x e) ρ N R := by
  obtain ⟨d, L, e1, hx, ds, h1, h2, h⟩ := h
  refine ⟨.nx ((ρ.frz L).set x (.ow (ds ++ [d]))), ?_, h⟩
  show (evE M GG e ρ).bind _ = _
  rw [e1]
  show (chg x L _ ρ).bind _ = _
  unfold chg
  rw [if_neg (by rw [hx]; simp), h1]
  simp only [h2, if_true, Option.bind_some]
theorem ws_ext {x : Nat} {e : ME} (h : WE M e ρ fun d L => L.contains x = false ∧ ∃ ys ds, d = .lst ys ∧ (ρ.frz L)[x]? = some (Sl.ow ds) ∧ ds.length + ys.length ≤ big ∧ N ((ρ.frz L).set x (.ow (ds ++ ys)))) : WS M (.ext x e) ρ N R := by
  obtain ⟨d, L, e1, hx, ys, ds, rfl, h1, h2, h⟩ := h
  refine ⟨.nx ((ρ.frz L).set x (.ow (ds ++ ys))), ?_, h⟩
  show (evE M GG e ρ).bind _ = _
  rw [e1]
  show (chg x L _ ρ).bind _ = _
  unfold chg
  rw [if_neg (by rw [hx]; simp), h1]
  simp only [h2, if_true, Option.bind_some]
theorem ws_exp {e : ME} (h : WE M e ρ fun _ _ => N ρ) : WS M (.exp e) ρ N R := by
  obtain ⟨d, L, e1, h⟩ := h
  exact ⟨.nx ρ, by show (evE M GG e ρ).bind _ = _; rw [e1]; rfl, h⟩
theorem ws_ite {c : ME} {a b : MS} (h : WT M c ρ fun k => (k = true → WS M a ρ N R) ∧ (k = false → WS M b ρ N R)) : WS M (.ite c a b) ρ N R := by
  obtain ⟨k, L, e1, h1, h2⟩ := h
  cases k with
  | true =>
    obtain ⟨o, e2, h⟩ := h1 rfl
    exact ⟨o, by show (testD (evE M GG c ρ)).bind _ = _; rw [e1]; exact e2, h⟩
  | false =>
    obtain ⟨o, e2, h⟩ := h2 rfl
    exact ⟨o, by show (testD (evE M GG c ρ)).bind _ = _; rw [e1]; exact e2, h⟩
theorem ws_ret {e : ME} (h : WE M e ρ fun d _ => R d) : WS M (.ret e) ρ N R := by
  obtain ⟨d, L, e1, h⟩ := h
  exact ⟨.rt d, by show (evE M GG e ρ).bind _ = _; rw [e1]; rfl, h⟩
theorem ws_fset {c k : Nat} {e : ME} (h : WE M e ρ fun d L => L = [] ∧ ∃ ds, ρ[0]? = some (Sl.ob c ds) ∧ ds.length = k ∧ k < 100 ∧ N (ρ.set 0 (.ob c (ds ++ [d])))) : WS M (.fset c k e) ρ N R := by
  obtain ⟨d, L, e1, rfl, ds, h1, h2, h3, h⟩ := h
  refine ⟨.nx (ρ.set 0 (.ob c (ds ++ [d]))), ?_, h⟩
  show (evE M GG e ρ).bind _ = _
  rw [e1]
  simp only [Option.bind_some, h1]
  rw [if_pos ⟨trivial, h2, h3, trivial⟩, frz_nil]
/-- a loop with an invariant; it may return at any item -/
theorem forD_inv {bd : D → En → Option Out} (I : Nat → En → Prop) : ∀ (its : List D) (ρ0 : En) (k : Nat), I k ρ0 → (∀ ρ', I (k + its.length) ρ' → N ρ') → (∀ i d ρ, its[i]? = some d → I (k + i) ρ → ∃ o, bd d ρ = some o ∧ (match o with
    | .nx ρ' => I (k + i + 1) ρ'
    | .rt v => R v)) → ∃ o, forD bd its ρ0 = some o ∧ (match o with
    | .nx ρ' => N ρ'
    | .rt v => R v)
  | [], ρ0, k, h0, hN, _ => ⟨.nx ρ0, rfl, hN ρ0 h0⟩
  | d :: ds, ρ0, k, h0, hN, hs => by
    obtain ⟨o1, e1, h1⟩ := hs 0 d ρ0 rfl h0
    cases o1 with
    | rt v => exact ⟨.rt v, by show (bd d ρ0).bind _ = _; rw [e1]; rfl, h1⟩
    | nx ρ1 =>
      obtain ⟨o2, e2, h2⟩ := forD_inv I ds ρ1 (k + 1) h1 (fun ρ' h => hN ρ' (by rw [List.length_cons, show k + (ds.length + 1) = k + 1 + ds.length by omega]; exact h)) fun i d ρ hd hI => by
        have := hs (i + 1) d ρ (by simpa using hd) (by rw [show k + (i + 1) = k + 1 + i by omega]; exact hI)
        rwa [show k + (i + 1) + 1 = k + 1 + i + 1 by omega] at this
      exact ⟨o2, by show (bd d ρ0).bind _ = _; rw [e1]; exact e2, h2⟩
theorem ws_for {tg : Tg} {it : Wk} {src : ME} {body : MS} (h : WW_ M it src ρ fun its L => ∃ I : Nat → En → Prop, I 0 (ρ.frz L) ∧ (∀ ρ', I its.length ρ' → N ρ') ∧ ∀ i d ρ, its[i]? = some d → I i ρ → ∃ ρ1, tg.put ρ d = some ρ1 ∧ WS M body ρ1 (fun ρ' => I (i + 1) ρ') R) : WS M (.for_ tg it src body) ρ N R := by
  obtain ⟨d, L, its, e1, e2, I, h0, hN, hs⟩ := h
  obtain ⟨o, e3, h3⟩ := forD_inv (N := N) (R := R) (bd := fun d ρ' => (tg.put ρ' d).bind fun ρ2 => evS M GG body ρ2) I its (ρ.frz L) 0 h0 (fun ρ' h => hN ρ' (by simpa using h)) fun i d ρ hd hI => by
    obtain ⟨ρ1, g1, o, g2, g3⟩ := hs i d ρ hd (by simpa using hI)
    exact ⟨o, by rw [g1]; exact g2, by simpa using g3⟩
  refine ⟨o, ?_, h3⟩
  show (evE M GG src ρ).bind _ = _
  rw [e1]
  show (itemsD it d).bind _ = _
  rw [e2]
  exact e3
/-- a while loop: I n with n as the measure -/
theorem ws_whl {c : ME} {body : MS} (I : Nat → En → Prop) (n : Nat) (hn : n < 5000) (h0 : I n ρ) (hs : ∀ n ρ, I n ρ → WT M c ρ fun k => (k = false → N ρ) ∧ (k = true → ∃ m, n = m + 1 ∧ WS M body ρ (fun ρ' => I m ρ') R)) : WS M (.whl c body) ρ N R := by
  have key : ∀ (f n : Nat) (ρ : En), n < f → I n ρ → ∃ o, whlD (fun ρ' => testD (evE M GG c ρ')) (fun ρ' => evS M GG body ρ') f ρ = some o ∧ (match o with
      | .nx ρ' => N ρ'
      | .rt d => R d) := by
    intro f
    induction f with
    | zero => intro n ρ h; omega
    | succ f ih =>
      intro n ρ hlt hI
      obtain ⟨k, L, e1, h1, h2⟩ := hs n ρ hI
      cases k with
      | false => exact ⟨.nx ρ, by unfold whlD; rw [e1]; rfl, h1 rfl⟩
      | true =>
        obtain ⟨m, rfl, o, e2, h⟩ := h2 rfl
        cases o with
        | rt v => exact ⟨.rt v, by unfold whlD; rw [e1]; show (evS M GG body ρ).bind _ = _; rw [e2]; rfl, h⟩
        | nx ρ' =>
          obtain ⟨o, e3, h3⟩ := ih m ρ' (by omega) h
          exact ⟨o, by unfold whlD; rw [e1]; show (evS M GG body ρ).bind _ = _; rw [e2]; exact e3, h3⟩
  exact ⟨key 5000 n ρ hn h0⟩
end
/-! functions -/
theorem run_k {f : Nat} {ds : List D} {d : D} {L : Nat} (h : ∀ k, L ≤ k → runB (runF k) f ds = some d) : Ev (L + 1) f ds d := fun k hk => by
  obtain ⟨k, rfl⟩ : ∃ j, k = j + 1 := ⟨k - 1, by omega⟩
  exact h k (by omega)
theorem run_ws {f : Nat} {ds : List D} {d : D} {M : Mo} (hk : (df f).knd ≠ 1) (hl : ds.length = (df f).ps ∧ recvB (df f) ds = true) (h : WS M (df f).body (en0 (df f) ds) (fun _ => d = .non) fun r => r = d) : runB M f ds = some d := by
  unfold runB
  rw [if_neg hk, if_pos hl]
  obtain ⟨o, e, h⟩ := h
  rw [e]
  cases o with
  | nx ρ' => exact congrArg some h.symm
  | rt r => exact congrArg some h
end MN
end S_MnWp
section S_MnWq
set_option maxRecDepth 100000
/-! Comprehensions and loops over lists that a plain list tells. -/
namespace MN
section
variable {M : Mo} {ρ : En} {Q : D → List Nat → Prop} {e : ME} {β : Type}
theorem compD_map (F : D → Option (Option D)) (f : β → D) (h : β → Option D) : ∀ xs : List β, (∀ x ∈ xs, F (f x) = some (h x)) → compD F (xs.map f) = some (xs.filterMap h)
  | [], _ => rfl
  | x :: xs, hx => by
    show (F (f x)).bind _ = _
    rw [hx x (List.mem_cons_self ..)]
    show (compD F (xs.map f)).bind _ = _
    rw [compD_map F f h xs fun y hy => hx y (List.mem_cons_of_mem _ hy)]
    cases hg : h x <;> simp [List.filterMap_cons, hg]
theorem we_compXG {tg : Tg} {it : Wk} {src cond : ME} (hf : tg.free ρ = true) (h : WW_ M it src ρ fun its L => ∃ (β : Type) (xs : List β) (f : β → D) (h : β → Option D), its = xs.map f ∧ xs.length ≤ big ∧ (∀ x ∈ xs, ∃ ρ', tg.put (ρ.frz L) (f x) = some ρ' ∧ WC M e cond ρ' (h x)) ∧ Q (.lst (xs.filterMap h)) L) : WE M (.comp e tg it src cond) ρ Q := by
  obtain ⟨d, L, its, e1, e2, β, xs, f, h, rfl, hb, hg, q⟩ := h
  refine ⟨_, _, ?_, q⟩
  show (evE M GG src ρ).bind _ = _
  rw [e1]
  show (itemsD it d).bind _ = _
  rw [e2]
  show (if !tg.free ρ then none else _) = _
  rw [if_neg (by rw [hf]; simp)]
  show (compD _ _).bind _ = _
  rw [compD_map _ f h xs fun x hx => by
    obtain ⟨ρ', p1, p2⟩ := hg x hx
    show (tg.put (ρ.frz L) (f x)).bind _ = _
    rw [p1]
    exact p2.ev]
  show (if (xs.map f).length ≤ big then _ else _) = _
  rw [if_pos (by simpa using hb)]
/-- [e for tg in ..] -/
theorem we_mapG {tg : Tg} {it : Wk} {src : ME} (hf : tg.free ρ = true) (h : WW_ M it src ρ fun its L => ∃ (β : Type) (xs : List β) (f : β → D) (k : β → D), its = xs.map f ∧ xs.length ≤ big ∧ (∀ x ∈ xs, ∃ ρ', tg.put (ρ.frz L) (f x) = some ρ' ∧ WE M e ρ' fun z L => L = [] ∧ z = k x) ∧ Q (.lst (xs.map k)) L) : WE M (.comp e tg it src .nil) ρ Q := by
  obtain ⟨d, L, its, e1, e2, β, xs, f, k, h1, hb, hg, q⟩ := h
  refine we_compXG hf ⟨d, L, its, e1, e2, β, xs, f, fun x => some (k x), h1, hb, fun x hx => ?_, ?_⟩
  · obtain ⟨ρ', p1, p2⟩ := hg x hx
    exact ⟨ρ', p1, .inl rfl, p2⟩
  · rw [List.filterMap_eq_map']
    exact q
/-- [e for tg in .. if c] -/
theorem we_filtG {tg : Tg} {it : Wk} {src cond : ME} (hf : tg.free ρ = true) (h : WW_ M it src ρ fun its L => ∃ (β : Type) (xs : List β) (f : β → D) (p : β → Bool) (k : β → D), its = xs.map f ∧ xs.length ≤ big ∧ (∀ x ∈ xs, ∃ ρ', tg.put (ρ.frz L) (f x) = some ρ' ∧ (WT M cond ρ' fun b => b = p x) ∧ (p x = true → WE M e ρ' fun z L => L = [] ∧ z = k x)) ∧ Q (.lst ((xs.filter p).map k)) L) : WE M (.comp e tg it src cond) ρ Q := by
  obtain ⟨d, L, its, e1, e2, β, xs, f, p, k, h1, hb, hg, q⟩ := h
  refine we_compXG hf ⟨d, L, its, e1, e2, β, xs, f, fun x => if p x = true then some (k x) else none, h1, hb, fun x hx => ?_, ?_⟩
  · obtain ⟨ρ', p1, p2, p3⟩ := hg x hx
    refine ⟨ρ', p1, ?_⟩
    show WC M e cond ρ' (if p x = true then some (k x) else none)
    by_cases hp : p x = true
    · rw [if_pos hp]
      refine ⟨.inr ?_, p3 hp⟩
      rw [hp] at p2
      exact p2
    · rw [if_neg hp]
      have : p x = false := by simpa using hp
      rw [this] at p2
      exact p2
  · have : xs.filterMap (fun x => if p x = true then some (k x) else none) = (xs.filter p).map k := by
      clear hg h1 hb q
      induction xs with
      | nil => rfl
      | cons x xs ih =>
        by_cases hp : p x = true
        · rw [List.filterMap_cons, if_pos hp, List.filter_cons_of_pos hp, List.map_cons]
          show k x :: _ = _
          rw [ih]
        · rw [List.filterMap_cons, if_neg hp, List.filter_cons_of_neg hp]
          exact ih
    rw [this]
    exact q
end
section
variable {M : Mo} {ρ : En} {N : En → Prop} {R : D → Prop}
/-- a loop over such a list: I of what is behind -/
theorem ws_forLG {tg : Tg} {it : Wk} {src : ME} {body : MS} (h : WW_ M it src ρ fun its L => ∃ (β : Type) (xs : List β) (f : β → D) (I : List β → En → Prop), its = xs.map f ∧ I [] (ρ.frz L) ∧ (∀ ρ', I xs ρ' → N ρ') ∧
    ∀ pre x post ρ, xs = pre ++ x :: post → I pre ρ → ∃ ρ1, tg.put ρ (f x) = some ρ1 ∧ WS M body ρ1 (fun ρ' => I (pre ++ [x]) ρ') R) : WS M (.for_ tg it src body) ρ N R := by
  obtain ⟨d, L, its, e1, e2, β, xs, f, I, rfl, h0, hN, hs⟩ := h
  refine ws_for ⟨d, L, _, e1, e2, fun i ρ => I (xs.take i) ρ, by simpa using h0, fun ρ' h => hN ρ' (by simpa using h), fun i d ρ hd hI => ?_⟩
  rw [List.getElem?_map] at hd
  cases hx : xs[i]? with
  | none => rw [hx] at hd; cases hd
  | some x =>
    rw [hx] at hd
    cases hd
    obtain ⟨hi, rfl⟩ := List.getElem?_eq_some_iff.mp hx
    obtain ⟨ρ1, g1, g2⟩ := hs (xs.take i) xs[i] (xs.drop (i + 1)) ρ (by rw [← List.drop_eq_getElem_cons hi, List.take_append_drop]) hI
    refine ⟨ρ1, g1, ?_⟩
    have : xs.take (i + 1) = xs.take i ++ [xs[i]] := by rw [List.take_succ, List.getElem?_eq_getElem hi]; rfl
    show WS M body ρ1 (fun ρ' => I (xs.take (i + 1)) ρ') R
    rw [this]
    exact g2
/-- a loop over range(n) -/
theorem ws_forRG {tg : Tg} {src : ME} {body : MS} (h : WA M src ρ fun ds L => ∃ n : Nat, ds = [.int n] ∧ n < 2 ^ 62 ∧ ∃ I : Nat → En → Prop, I 0 (ρ.frz L) ∧ (∀ ρ', I n ρ' → N ρ') ∧ ∀ i ρ, i < n → I i ρ → ∃ ρ1, tg.put ρ (.int (i : Int)) = some ρ1 ∧ WS M body ρ1 (fun ρ' => I (i + 1) ρ') R) : WS M (.for_ tg .rg1 src body) ρ N R := by
  obtain ⟨ds, L, e1, n, rfl, hn, I, h0, hN, hs⟩ := h
  refine ws_for (ww_rg1 ⟨_, L, e1, n, rfl, hn, I, h0, fun ρ' h => hN ρ' (by unfold rgD at h; simpa using h), fun i d ρ hd hI => ?_⟩)
  unfold rgD at hd
  rw [List.getElem?_map] at hd
  by_cases hi : i < n
  · rw [List.getElem?_range hi] at hd
    cases hd
    have := hs i ρ hi hI
    simpa using this
  · rw [List.getElem?_eq_none (by simp; omega)] at hd
    cases hd
/-- a loop over range(a, b) -/
theorem ws_forR2G {tg : Tg} {src : ME} {body : MS} (h : WA M src ρ fun ds L => ∃ a b : Nat, ds = [.int a, .int b] ∧ a < 2 ^ 62 ∧ b < 2 ^ 62 ∧ ∃ I : Nat → En → Prop, I 0 (ρ.frz L) ∧ (∀ ρ', I (b - a) ρ' → N ρ') ∧ ∀ i ρ, i < b - a → I i ρ → ∃ ρ1, tg.put ρ (.int ((a + i : Nat) : Int)) = some ρ1 ∧ WS M body ρ1 (fun ρ' => I (i + 1) ρ') R) : WS M (.for_ tg .rg2 src body) ρ N R := by
  obtain ⟨ds, L, e1, a, b, rfl, ha, hb, I, h0, hN, hs⟩ := h
  refine ws_for (ww_rg2 ⟨_, L, e1, a, b, rfl, ha, hb, I, h0, fun ρ' h => hN ρ' (by unfold rgD at h; simpa using h), fun i d ρ hd hI => ?_⟩)
  unfold rgD at hd
  rw [List.getElem?_map] at hd
  by_cases hi : i < b - a
  · rw [List.getElem?_range hi] at hd
    cases hd
    have := hs i ρ hi hI
    simpa using this
  · rw [List.getElem?_eq_none (by simp; omega)] at hd
    cases hd
/-! .. where nothing of one's own is walked -/
theorem ws_setS0 {i : Nat} {e : ME} (hi : i < ρ.length) (hf : fresh e = false) (h : WE M e ρ fun d L => L = [] ∧ N (ρ.set i (.sh d))) : WS M (.set i e) ρ N R := by
  obtain ⟨d, L, e1, rfl, h⟩ := h
  exact ws_setS hi hf ⟨d, [], e1, by rw [frz_nil]; exact h⟩
theorem ws_setO0 {i : Nat} {e : ME} (hi : i < ρ.length) (hf : fresh e = true) (h : WE M e ρ fun d L => L = [] ∧ ∃ ds, d = .lst ds ∧ N (ρ.set i (.ow ds))) : WS M (.set i e) ρ N R := by
  obtain ⟨d, L, e1, rfl, ds, rfl, h⟩ := h
  exact ws_setO hi hf ⟨_, [], e1, ds, rfl, by rw [frz_nil]; exact h⟩
theorem ws_setF0 {i : Nat} {e : ME} (hi : i < ρ.length) (h : WE M e ρ fun d L => L = [] ∧ ∃ k, d = .int k ∧ N (ρ.set i (.sh d))) : WS M (.set i e) ρ N R := by
  obtain ⟨d, L, e1, rfl, k, rfl, h⟩ := h
  exact ws_setF hi ⟨_, [], e1, k, rfl, by rw [frz_nil]; exact h⟩
theorem ws_sets0 {x : Nat} {ix e : ME} (h : WE M e ρ fun d L => WE M ix ρ fun i _ => L = [] ∧ ∃ (ds : List D) (k j : _), ρ[x]? = some (Sl.ow ds) ∧ i = .int k ∧ L2.ixN ds.length k = some j ∧ N (ρ.set x (.ow (ds.set j d)))) : WS M (.sets x ix e) ρ N R := by
  obtain ⟨d, L, e1, i, L', e2, rfl, ds, k, j, h1, h2, h3, h⟩ := h
  exact ws_sets ⟨d, [], e1, i, L', e2, rfl, ds, k, j, by rw [frz_nil]; exact h1, h2, h3, by rw [frz_nil]; exact h⟩
theorem ws_app0 {x : Nat} {e : ME} (h : WE M e ρ fun d L => L = [] ∧ ∃ ds, ρ[x]? = some (Sl.ow ds) ∧ ds.length < big ∧ N (ρ.set x (.ow (ds ++ [d])))) : WS M (.app x e) ρ N R := by
  obtain ⟨d, L, e1, rfl, ds, h1, h2, h⟩ := h
  exact ws_app ⟨d, [], e1, rfl, ds, by rw [frz_nil]; exact h1, h2, by rw [frz_nil]; exact h⟩
theorem ws_ext0 {x : Nat} {e : ME} (h : WE M e ρ fun d L => L = [] ∧ ∃ ys ds, d = .lst ys ∧ ρ[x]? = some (Sl.ow ds) ∧ ds.length + ys.length ≤ big ∧ N (ρ.set x (.ow (ds ++ ys)))) : WS M (.ext x e) ρ N R := by
  obtain ⟨d, L, e1, rfl, ys, ds, rfl, h1, h2, h⟩ := h
  exact ws_ext ⟨_, [], e1, rfl, ys, ds, rfl, by rw [frz_nil]; exact h1, h2, by rw [frz_nil]; exact h⟩
theorem we_map {Q : D → List Nat → Prop} {e : ME} {tg : Tg} {it : Wk} {src : ME} (hf : tg.free ρ = true) (h : WW_ M it src ρ fun its L => L = [] ∧ ∃ (β : Type) (xs : List β) (f : β → D) (k : β → D), its = xs.map f ∧ xs.length ≤ big ∧ (∀ x ∈ xs, ∃ ρ', tg.put ρ (f x) = some ρ' ∧ WE M e ρ' fun z L => L = [] ∧ z = k x) ∧ Q (.lst (xs.map k)) []) : WE M (.comp e tg it src .nil) ρ Q := by
  obtain ⟨d, L, its, e1, e2, rfl, β, xs, f, k, h1, hb, hg, q⟩ := h
  exact we_mapG hf ⟨d, [], its, e1, e2, β, xs, f, k, h1, hb, by rw [frz_nil]; exact hg, q⟩
theorem we_filt {Q : D → List Nat → Prop} {e : ME} {tg : Tg} {it : Wk} {src cond : ME} (hf : tg.free ρ = true) (h : WW_ M it src ρ fun its L => L = [] ∧ ∃ (β : Type) (xs : List β) (f : β → D) (p : β → Bool) (k : β → D), its = xs.map f ∧ xs.length ≤ big ∧ (∀ x ∈ xs, ∃ ρ', tg.put ρ (f x) = some ρ' ∧ (WT M cond ρ' fun b => b = p x) ∧ (p x = true → WE M e ρ' fun z L => L = [] ∧ z = k x)) ∧ Q (.lst ((xs.filter p).map k)) []) : WE M (.comp e tg it src cond) ρ Q := by
  obtain ⟨d, L, its, e1, e2, rfl, β, xs, f, p, k, h1, hb, hg, q⟩ := h
  exact we_filtG hf ⟨d, [], its, e1, e2, β, xs, f, p, k, h1, hb, by rw [frz_nil]; exact hg, q⟩
theorem ws_forL {tg : Tg} {it : Wk} {src : ME} {body : MS} (h : WW_ M it src ρ fun its L => L = [] ∧ ∃ (β : Type) (xs : List β) (f : β → D) (I : List β → En → Prop), its = xs.map f ∧ I [] ρ ∧ (∀ ρ', I xs ρ' → N ρ') ∧
    ∀ pre x post ρ, xs = pre ++ x :: post → I pre ρ → ∃ ρ1, tg.put ρ (f x) = some ρ1 ∧ WS M body ρ1 (fun ρ' => I (pre ++ [x]) ρ') R) : WS M (.for_ tg it src body) ρ N R := by
  obtain ⟨d, L, its, e1, e2, rfl, β, xs, f, I, h1, h2, h3, h4⟩ := h
  exact ws_forLG ⟨d, [], its, e1, e2, β, xs, f, I, h1, by rw [frz_nil]; exact h2, h3, h4⟩
theorem ws_forR {tg : Tg} {src : ME} {body : MS} (h : WA M src ρ fun ds L => L = [] ∧ ∃ n : Nat, ds = [.int n] ∧ n < 2 ^ 62 ∧ ∃ I : Nat → En → Prop, I 0 ρ ∧ (∀ ρ', I n ρ' → N ρ') ∧ ∀ i ρ, i < n → I i ρ → ∃ ρ1, tg.put ρ (.int (i : Int)) = some ρ1 ∧ WS M body ρ1 (fun ρ' => I (i + 1) ρ') R) : WS M (.for_ tg .rg1 src body) ρ N R := by
  obtain ⟨ds, L, e1, rfl, n, h1, h2, I, h3, h4, h5⟩ := h
  exact ws_forRG ⟨ds, [], e1, n, h1, h2, I, by rw [frz_nil]; exact h3, h4, h5⟩
theorem ws_forR2 {tg : Tg} {src : ME} {body : MS} (h : WA M src ρ fun ds L => L = [] ∧ ∃ a b : Nat, ds = [.int a, .int b] ∧ a < 2 ^ 62 ∧ b < 2 ^ 62 ∧ ∃ I : Nat → En → Prop, I 0 ρ ∧ (∀ ρ', I (b - a) ρ' → N ρ') ∧ ∀ i ρ, i < b - a → I i ρ → ∃ ρ1, tg.put ρ (.int ((a + i : Nat) : Int)) = some ρ1 ∧ WS M body ρ1 (fun ρ' => I (i + 1) ρ') R) : WS M (.for_ tg .rg2 src body) ρ N R := by
  obtain ⟨ds, L, e1, rfl, a, b, h1, h2, h3, I, h4, h5, h6⟩ := h
  exact ws_forR2G ⟨ds, [], e1, a, b, h1, h2, h3, I, by rw [frz_nil]; exact h4, h5, h6⟩
/-! what is moved is frozen, if anything is -/
def memN : Nat → List Nat → Bool
  | _, [] => false
  | k, l :: L => bif Nat.beq l k then true else memN k L
def frzG : En → List Nat → Nat → En
  | [], _, _ => []
  | s :: ρ, L, k => (bif memN k L then s.frz else s) :: frzG ρ L (k + 1)
def frzL (ρ : En) (L : List Nat) : En := match L with
  | [] => ρ
  | l :: L => frzG ρ (l :: L) 0
theorem memN_eq (k : Nat) : ∀ L : List Nat, memN k L = L.contains k
  | [] => rfl
  | l :: L => by
    show (bif Nat.beq l k then true else memN k L) = _
    rw [memN_eq k L, List.contains_cons]
    by_cases e : l = k
    · subst e; simp
    · rw [show Nat.beq l k = false from Bool.eq_false_iff.mpr fun h => e (Nat.eq_of_beq_eq_true h)]
      have : (k == l) = false := by simpa using Ne.symm e
      rw [this]
      rfl
theorem frzG_eq : ∀ (ρ : En) (L : List Nat) (k : Nat), frzG ρ L k = ρ.mapIdx fun i s => if L.contains (i + k) then s.frz else s
  | [], _, _ => rfl
  | s :: ρ, L, k => by
    rw [List.mapIdx_cons]
    show (bif memN k L then s.frz else s) :: frzG ρ L (k + 1) = _
    rw [frzG_eq ρ L (k + 1), memN_eq, Nat.zero_add]
    congr 1
    · cases L.contains k <;> rfl
    · simp only [Nat.add_assoc, Nat.add_comm 1 k]
theorem frzL_eq (ρ : En) (L : List Nat) : frzL ρ L = ρ.frz L := by
  cases L
  · exact frz_nil.symm
  · exact frzG_eq _ _ 0
theorem ws_unp {is : List Nat} {e : ME} (h : WE M e ρ fun d L => ∃ ds ρ', d = .tup ds ∧ unpD is ds (frzL ρ L) = some ρ' ∧ N ρ') : WS M (.unp is e) ρ N R := by
  simp only [frzL_eq] at h
  exact ws_unpG h
def ownV (b : Bool) (d : D) : Sl := match b, d with
  | true, .lst ds => .ow ds
  | _, d => .sh d
theorem ws_setV {i : Nat} {e : ME} (hi : decide (i < ρ.length) = true) (h : WE M e ρ fun d L => N ((frzL ρ L).set i (ownV (fresh e) d))) : WS M (.set i e) ρ N R := by
  obtain ⟨d, L, e1, h⟩ := h
  refine ⟨.nx ((frzL ρ L).set i (ownV (fresh e) d)), ?_, h⟩
  show (evE M GG e ρ).bind _ = _
  rw [e1]
  show (putV i (fresh e) (d, L) ρ).bind _ = _
  unfold putV
  rw [if_pos (of_decide_eq_true hi), frzL_eq]
  unfold ownV
  cases fresh e <;> cases d <;> rfl
theorem ws_setsV {x : Nat} {ix e : ME} (h : WE M e ρ fun d L => WE M ix ρ fun i _ => L.contains x = false ∧ ∃ (ds : List D) (k j : _), (frzL ρ L)[x]? = some (Sl.ow ds) ∧ i = .int k ∧ L2.ixN ds.length k = some j ∧ N ((frzL ρ L).set x (.ow (ds.set j d)))) : WS M (.sets x ix e) ρ N R := by
  obtain ⟨d, L, e1, i, L', e2, hx, ds, k, j, h1, h2, h3, h⟩ := h
  rw [frzL_eq] at h1 h
  exact ws_sets ⟨d, L, e1, i, L', e2, hx, ds, k, j, h1, h2, h3, h⟩
theorem ws_appV {x : Nat} {e : ME} (h : WE M e ρ fun d L => L.contains x = false ∧ ∃ ds, (frzL ρ L)[x]? = some (Sl.ow ds) ∧ ds.length < big ∧ N ((frzL ρ L).set x (.ow (ds ++ [d])))) : WS M (.app x e) ρ N R := by
  obtain ⟨d, L, e1, hx, ds, h1, h2, h⟩ := h
  rw [frzL_eq] at h1 h
  exact ws_app ⟨d, L, e1, hx, ds, h1, h2, h⟩
theorem ws_extV {x : Nat} {e : ME} (h : WE M e ρ fun d L => L.contains x = false ∧ ∃ ys ds, d = .lst ys ∧ (frzL ρ L)[x]? = some (Sl.ow ds) ∧ ds.length + ys.length ≤ big ∧ N ((frzL ρ L).set x (.ow (ds ++ ys)))) : WS M (.ext x e) ρ N R := by
  obtain ⟨d, L, e1, hx, ys, ds, h0, h1, h2, h⟩ := h
  rw [frzL_eq] at h1 h
  exact ws_ext ⟨d, L, e1, hx, ys, ds, h0, h1, h2, h⟩
/-! tests as values -/
section
variable {Q : D → List Nat → Prop} {a b c : ME}
theorem we_cmp {o : COp} (h : WT M (.cmp o a b) ρ fun k => Q (.bl k) []) : WE M (.cmp o a b) ρ Q := h.we cmp_L
theorem we_and (h : WT M (.and a b) ρ fun k => Q (.bl k) []) : WE M (.and a b) ρ Q := h.we and_L
theorem we_or (h : WT M (.or a b) ρ fun k => Q (.bl k) []) : WE M (.or a b) ρ Q := h.we or_L
theorem we_not (h : WT M (.not a) ρ fun k => Q (.bl k) []) : WE M (.not a) ρ Q := h.we not_L
theorem wtv {Q : Bool → Prop} {k : Bool} (q : Q k) : ∃ k', D.bl k = .bl k' ∧ Q k' := ⟨k, rfl, q⟩
theorem f2_ok {Q : D → Prop} {c k : Nat} {ds : List D} {d : D} (h : ds[k]? = some d) (q : Q d) : ∃ ds' d', D.ins c ds = .ins c ds' ∧ ds'[k]? = some d' ∧ Q d' := ⟨ds, d, rfl, h, q⟩
theorem fs_ok {P : List D → Prop} {c k : Nat} {ds : List D} (h1 : ρ[0]? = some (Sl.ob c ds)) (h2 : ds.length = k) (h3 : decide (k < 100) = true) (h : P ds) : ∃ ds, ρ[0]? = some (Sl.ob c ds) ∧ ds.length = k ∧ k < 100 ∧ P ds :=
  ⟨ds, h1, h2, of_decide_eq_true h3, h⟩
end
theorem run_in_ws {f : Nat} {ds : List D} {d : D} {M : Mo} (hk : (df f).knd = 1) (hl : ds.length + 1 = (df f).ps) (h : WS M (df f).body (Sl.ob (df f).cls [] :: en0 (df f) ds) (fun ρ' => ∃ fs, ρ'[0]? = some (Sl.ob (df f).cls fs) ∧ fs.length = (flds (df f).cls).length ∧ d = .ins (df f).cls fs) fun _ => False) : runB M f ds = some d := by
  unfold runB
  rw [if_pos hk, if_pos hl]
  obtain ⟨o, e, h⟩ := h
  rw [e]
  cases o with
  | nx ρ' =>
    obtain ⟨fs, h1, h2, rfl⟩ := h
    show (match (show Option Sl from ρ'[0]?) with
      | some (Sl.ob c' fs) => if c' = (df f).cls ∧ fs.length = (flds (df f).cls).length then some (D.ins (df f).cls fs) else none
      | _ => none) = _
    rw [show (show Option Sl from ρ'[0]?) = some (Sl.ob (df f).cls fs) from h1]
    show (if _ then _ else _) = _
    rw [if_pos ⟨rfl, h2⟩]
  | rt r => exact h.elim
end
end MN
end S_MnWq
section S_MnSp
set_option maxRecDepth 100000
/-! Lists as tables; words, matrices; the short defs. -/
namespace MN
open LA
abbrev ei {α : Type} [GF α] (a : α) : D := .int (GF.no a : Int)
abbrev ni (n : Nat) : D := .int (n : Int)
/-- a list, as a table -/
def tb (n : Nat) (f : Nat → D) : D := .lst ((List.range n).map f)
def dv {α : Type} [GF α] (n : Nat) (v : Vc α) : D := .lst ((List.range n).map fun i => ei (v i))
def dl {α : Type} [GF α] (n : Nat) (ws : List (Vc α)) : D := .lst (ws.map (dv n))
theorem ixN_nat {n i : Nat} (h : i < n) : L2.ixN n (i : Int) = some i := by
  unfold L2.ixN
  rw [if_pos (by omega), if_pos (by omega)]
  simp
theorem atI_nat {β : Type} {xs : List β} {i : Nat} (h : i < xs.length) : L2.atI xs (i : Int) = xs[i]? := by
  unfold L2.atI
  rw [ixN_nat h]
  rfl
theorem idx_lst {xs : List D} {i : Nat} {d : D} (h : xs[i]? = some d) : idxD (.lst xs) (.int (i : Int)) = some d := by
  show L2.atI _ _ = _
  rw [atI_nat (List.getElem?_eq_some_iff.mp h).1]
  exact h
theorem idx_dv {α : Type} [GF α] {n i : Nat} {v : Vc α} (h : i < n) : idxD (dv n v) (ni i) = some (ei (v i)) := idx_lst (by simp [h])
theorem idx_map {β : Type} {xs : List β} {f : β → D} {i : Nat} {x : β} (h : xs[i]? = some x) : idxD (.lst (xs.map f)) (ni i) = some (f x) := idx_lst (by rw [List.getElem?_map, h]; rfl)
theorem len_lst {xs : List D} : biD .len [.lst xs] = some (ni xs.length) := rfl
theorem len_dv {α : Type} [GF α] {n : Nat} {v : Vc α} : biD .len [dv n v] = some (ni n) := by
  show some (D.int _) = _
  simp
theorem len_dl {α : Type} [GF α] {n : Nat} {ws : List (Vc α)} : biD .len [dl n ws] = some (ni ws.length) := by
  show some (D.int _) = _
  simp
theorem ei0 {α : Type} [GF α] : (D.int 0) = ei (0 : α) := by show _ = D.int _; rw [GF.no_zero]; rfl
theorem ei1 {α : Type} [GF α] : (D.int 1) = ei (1 : α) := by show _ = D.int _; rw [GF.no_one]; rfl
theorem eq_int {i j : Int} : cmpD .eq (.int i) (.int j) = some (decide (i = j)) := rfl
theorem ne_int {i j : Int} : cmpD .ne (.int i) (.int j) = some (!decide (i = j)) := rfl
theorem nz_iff {α : Type} [GF α] {a : α} : (!decide ((GF.no a : Int) = 0)) = !decide (a = 0) := by
  congr 1
  rw [decide_eq_decide]
  rw [← no_zero_iff]
  omega
/-- what the field's object gives -/
structure FE (α : Type) [GF α] (L : Nat) (fd : List D) : Prop where
  ord : fd[3]? = some (ni (GF.q α))
  shp : ∃ x0 x1 x2, fd = [x0, x1, x2, ni (GF.q α)]
  small : GF.q α ≤ 16
  plus : ∀ a b : α, Ev L F_Field_plus [.ins 0 fd, ei a, ei b] (ei (a + b))
  minus : ∀ a b : α, Ev L F_Field_minus [.ins 0 fd, ei a, ei b] (ei (a - b))
  times : ∀ a b : α, Ev L F_Field_times [.ins 0 fd, ei a, ei b] (ei (a * b))
  neg : ∀ a : α, Ev L F_Field_negative [.ins 0 fd, ei a] (ei (-a))
  inv : ∀ a : α, a ≠ 0 → Ev L F_Field_inverse [.ins 0 fd, ei a] (ei (GF.inv a))
  same : Ev L F_Field_same_as [.ins 0 fd, .ins 0 fd] (.bl true)
section
variable {α : Type} [GF α] {n m L : Nat} {fd : List D}
theorem ev_dot (F : FE α L fd) (u v : Vc α) (hn : n < 2 ^ 62) : Ev (L + 1) F_dot_product [.ins 0 fd, dv n u, dv n v] (ei (dot n u v)) := by
  refine run_k fun k hk => run_ws (by decide) ⟨rfl, rfl⟩ ?_
  show WS _ t_dot_product [.sh (.ins 0 fd), .sh (dv n u), .sh (dv n v), .un, .un] _ _
  unfold t_dot_product
  repeat (first | refine we_int ?_ | refine ws_cons ?_ | refine ws_setV rfl ?_)
  refine ws_forR ?_
  repeat (first | refine we_sh rfl ?_ | refine wa_nil ?_ | refine wa_cons ?_ | refine we_bi ?_ | with_reducible refine lf (len_dv) ?_ | refine ⟨rfl, ?_⟩)
  refine ⟨n, rfl, hn, fun i ρ => ∃ y, ρ = [.sh (.ins 0 fd), .sh (dv n u), .sh (dv n v), .sh (ei (sumN (fun i => u i * v i) i)), y], ⟨.un, ?_⟩, ?_, ?_⟩
  · show _ = [_, _, _, Sl.sh (ei (0 : α)), _]
    rw [← ei0]
    rfl
  · rintro ρ' ⟨y, rfl⟩
    repeat (first | refine we_sh rfl ?_ | refine ws_cons ?_ | refine ws_ret ?_)
    rfl
  · rintro i ρ hi ⟨y, rfl⟩
    refine ⟨_, rfl, ?_⟩
    repeat (first | refine we_sh rfl ?_ | refine wa_nil ?_ | refine wa_cons ?_ | refine we_meth ?_ | refine we_subS rfl ?_ | refine ws_nil ?_ | refine ws_cons ?_ | refine ws_setV rfl ?_ | with_reducible refine lf (idx_dv hi) ?_ | refine lf (F.times _ _ k hk) ?_ | refine lf (F.plus _ _ k hk) ?_)
    exact ⟨_, rfl⟩
/-- check_width of lists that are n long -/
theorem ev_width (rs : List (List D)) (h : ∀ r ∈ rs, r.length = n) : Ev 1 F_check_width [.lst (rs.map .lst), ni n] .non := by
  refine run_k fun k hk => run_ws (by decide) ⟨rfl, rfl⟩ ?_
  show WS _ t_check_width [.sh _, .sh _, .un] _ _
  unfold t_check_width
  repeat (first | refine ws_cons ?_)
  refine ws_forL ?_
  repeat (first | refine we_sh rfl ?_ | refine ww_lst ?_)
  refine ⟨_, rfl, rfl, List D, rs, D.lst, fun _ ρ => ∃ y, ρ = [.sh (.lst (rs.map .lst)), .sh (ni n), y], rfl, ⟨.un, rfl⟩, ?_, ?_⟩
  · rintro ρ' ⟨y, rfl⟩
    repeat (first | refine ws_nil ?_)
    rfl
  · rintro pre x post ρ e ⟨y, rfl⟩
    refine ⟨_, rfl, ?_⟩
    have hx : x.length = n := h x (by rw [e]; simp)
    repeat (first | refine we_sh rfl ?_ | refine wa_nil ?_ | refine wa_cons ?_ | refine we_bi ?_ | refine wt_cmp ?_ | refine ws_cons ?_ | refine ws_ite ?_ | with_reducible refine lf (len_lst) ?_ | with_reducible refine lf (ne_int) ?_)
    rw [hx]
    refine ⟨fun z => by simp at z, fun _ => ?_⟩
    repeat (first | refine ws_nil ?_)
    exact ⟨_, rfl⟩
end
end MN
end S_MnSp
section S_MnSq
set_option maxRecDepth 100000
/-! Rows: pivots, reduction. -/
namespace MN
open LA
def optD : Option Nat → D
  | none => .non
  | some f => ni f
section
variable {α : Type} [GF α] {n m L : Nat} {fd : List D}
theorem ne0 {a : α} : cmpD .ne (ei a) (.int 0) = some (!decide (a = 0)) := by
  rw [← nz_iff]
  rfl
theorem eq0 {a : α} : cmpD .eq (ei a) (.int 0) = some (decide (a = 0)) := by
  have : decide (a = 0) = decide ((GF.no a : Int) = 0) := by
    rw [decide_eq_decide, ← no_zero_iff]
    omega
  rw [this]
  rfl
theorem len_rl {W : Nat → Vc α} : biD .len [dl n (rl m W)] = some (ni m) := by
  rw [len_dl]
  simp [rl]
theorem len_map {β : Type} {xs : List β} {f : β → D} : biD .len [.lst (xs.map f)] = some (ni xs.length) := by
  show some (D.int _) = _
  simp
theorem rl_get {W : Nat → Vc α} {i : Nat} (h : i < m) : (rl m W)[i]? = some (W i) := by
  unfold rl
  rw [List.getElem?_map, List.getElem?_range h]
  rfl
theorem idx_rl {W : Nat → Vc α} {i : Nat} (h : i < m) : idxD (dl n (rl m W)) (ni i) = some (dv n (W i)) := idx_map (rl_get h)
theorem ne_nat {i j : Nat} : cmpD .ne (ni i) (ni j) = some (!decide (i = j)) := by
  show some (!decide ((i : Int) = (j : Int))) = _
  simp
  omega
theorem eq_nat {i j : Nat} : cmpD .eq (ni i) (ni j) = some (decide (i = j)) := by
  show some (decide ((i : Int) = (j : Int))) = _
  simp
  omega
theorem lt_nat {i j : Nat} : cmpD .lt (ni i) (ni j) = some (decide (i < j)) := by
  show some (decide ((i : Int) < (j : Int))) = _
  simp
theorem le_nat {i j : Nat} : cmpD .le (ni i) (ni j) = some (decide (i ≤ j)) := by
  show some (decide ((i : Int) ≤ (j : Int))) = _
  simp
theorem gt_nat {i j : Nat} : cmpD .gt (ni i) (ni j) = some (decide (j < i)) := by
  show some (decide ((j : Int) < (i : Int))) = _
  simp
theorem ge_nat {i j : Nat} : cmpD .ge (ni i) (ni j) = some (decide (j ≤ i)) := by
  show some (decide ((j : Int) ≤ (i : Int))) = _
  simp

theorem eq_nat0 {i : Nat} : cmpD .eq (ni i) (.int 0) = some (decide (i = 0)) := eq_nat (j := 0)
theorem ne_nat0 {i : Nat} : cmpD .ne (ni i) (.int 0) = some (!decide (i = 0)) := ne_nat (j := 0)
theorem gt_nat0 {i : Nat} : cmpD .gt (ni i) (.int 0) = some (decide (0 < i)) := gt_nat (j := 0)
theorem findP_eq {W : Nat → Vc α} {a c i : Nat} (h : i < m - a) (h0 : ∀ j, j < i → W (a + j) c = 0) (h1 : W (a + i) c ≠ 0) : findP W a m c = some (a + i) := by
  unfold findP
  rw [List.find?_map]
  have : (List.range (m - a)).find? ((fun k => decide (W k c ≠ 0)) ∘ (a + ·)) = some i := by
    rw [List.find?_range_eq_some]
    refine ⟨by simpa using h1, by simpa using h, fun j hj => ?_⟩
    simpa using h0 j hj
  rw [this]
  rfl
theorem findP_non {W : Nat → Vc α} {a c : Nat} (h0 : ∀ j, j < m - a → W (a + j) c = 0) : findP W a m c = none := by
  unfold findP
  rw [List.find?_eq_none]
  intro x hx
  simp at hx
  obtain ⟨j, hj, rfl⟩ := hx
  simpa using h0 j hj
theorem ev_rwp (W : Nat → Vc α) {a c : Nat} (hc : c < n) (hm : m < 2 ^ 62) (ha : a ≤ m) : Ev 1 F_row_with_pivot [dl n (rl m W), ni a, ni c] (optD (findP W a m c)) := by
  refine run_k fun k hk => run_ws (by decide) ⟨rfl, rfl⟩ ?_
  show WS _ t_row_with_pivot [.sh _, .sh _, .sh _, .un] _ _
  unfold t_row_with_pivot
  repeat (first | refine ws_cons ?_)
  refine ws_forR2 ?_
  repeat (first | refine we_sh rfl ?_ | refine wa_nil ?_ | refine wa_cons ?_ | refine we_bi ?_ | with_reducible refine lf (len_rl) ?_ | refine ⟨rfl, ?_⟩)
  refine ⟨a, m, rfl, by omega, by omega, fun i ρ => (∀ j, j < i → W (a + j) c = 0) ∧ ∃ y, ρ = [.sh (dl n (rl m W)), .sh (ni a), .sh (ni c), y], ⟨fun j hj => by omega, .un, rfl⟩, ?_, ?_⟩
  · rintro ρ' ⟨h0, y, rfl⟩
    repeat (first | refine we_non ?_ | refine ws_cons ?_ | refine ws_ret ?_)
    rw [findP_non h0]
    rfl
  · rintro i ρ hi ⟨h0, y, rfl⟩
    refine ⟨_, rfl, ?_⟩
    repeat (first | refine we_sh rfl ?_ | refine we_int ?_ | refine we_subS rfl ?_ | refine we_sub rfl ?_ | refine wt_cmp ?_ | refine ws_cons ?_ | refine ws_ite ?_ | with_reducible refine lf (idx_rl (show a + i < m by omega)) ?_ | with_reducible refine lf (idx_dv hc) ?_ | with_reducible refine lf (ne0) ?_)
    refine ⟨fun z => ?_, fun z => ?_⟩
    · repeat (first | refine we_sh rfl ?_ | refine ws_cons ?_ | refine ws_ret ?_)
      rw [findP_eq hi h0 (by simpa using z)]
      rfl
    · repeat (first | refine ws_nil ?_)
      refine ⟨fun j hj => ?_, _, rfl⟩
      by_cases e : j = i
      · rw [e]; simpa using z
      · exact h0 j (by omega)
theorem ev_wm (F : FE α L fd) (u v : Vc α) (c : α) (hn : n ≤ 1000) : Ev (L + 1) F_without_multiple [.ins 0 fd, dv n u, ei c, dv n v] (dv n (subF u c v)) := by
  refine run_k fun k hk => run_ws (by decide) ⟨rfl, rfl⟩ ?_
  show WS _ t_without_multiple [.sh _, .sh _, .sh _, .sh _, .un] _ _
  unfold t_without_multiple
  repeat (first | refine ws_cons ?_ | refine ws_ret ?_)
  refine we_map rfl ?_
  repeat (first | refine we_sh rfl ?_ | refine wa_nil ?_ | refine wa_cons ?_ | refine we_bi ?_ | refine ww_rg1 ?_ | with_reducible refine lf (len_dv) ?_)
  refine ⟨n, rfl, by omega, rfl, Nat, List.range n, ni, fun i => ei (subF u c v i), by unfold rgD; simp, by simp [big]; omega, fun i hi => ?_, rfl⟩
  have hi := List.mem_range.mp hi
  refine ⟨_, rfl, ?_⟩
  repeat (first | refine we_sh rfl ?_ | refine wa_nil ?_ | refine wa_cons ?_ | refine we_meth ?_ | refine we_subS rfl ?_ | with_reducible refine lf (idx_dv hi) ?_ | refine lf (F.times _ _ k hk) ?_ | refine lf (F.minus _ _ k hk) ?_ | refine ⟨rfl, ?_⟩)
  rfl
end
end MN
end S_MnSq
section S_MnSr
set_option maxRecDepth 100000
/-! The reduction. -/
namespace MN
open LA
section
variable {α : Type} [GF α] {n m L : Nat} {fd : List D}
theorem set_rl {W : Nat → Vc α} {i : Nat} {v : Vc α} : ((rl m W).map (dv n)).set i (dv n v) = (rl m fun j => if j = i then v else W j).map (dv n) := by
  apply List.ext_getElem?
  intro j
  rw [List.getElem?_set]
  unfold rl
  simp only [List.length_map, List.length_range, List.getElem?_map]
  by_cases h : j < m
  · by_cases e : i = j
    · subst e
      rw [if_pos rfl, if_pos h, List.getElem?_range h]
      simp
    · rw [if_neg e, List.getElem?_range h]
      simp
      rw [if_neg (fun z => e z.symm)]
  · rw [List.getElem?_eq_none (l := List.range m) (by simp; omega)]
    by_cases e : i = j
    · rw [if_pos e, if_neg (by omega)]; rfl
    · rw [if_neg e]; rfl
theorem rl_congr {W W' : Nat → Vc α} (h : ∀ i, i < m → W i = W' i) : rl m W = rl m W' := by
  unfold rl
  exact List.map_congr_left fun i hi => h i (List.mem_range.mp hi)
theorem rows_len {ws : List (Vc α)} : ∃ xs : List (List D), dl n ws = .lst (xs.map .lst) ∧ ∀ r ∈ xs, r.length = n :=
  ⟨ws.map fun w => (List.range n).map fun i => ei (w i), by unfold dl; rw [List.map_map]; rfl, fun r hr => by
    obtain ⟨w, _, rfl⟩ := List.mem_map.mp hr
    simp⟩
theorem cut_to {β : Type} {xs : List β} {k : Nat} (h : k ≤ xs.length) : cutD xs none (some (k : Int)) = xs.take k := by
  unfold cutD
  rw [HT.sIx_none, HT.sIx_nat, Nat.min_eq_left h, List.drop_zero, Nat.sub_zero]
theorem take_rl {W : Nat → Vc α} {k : Nat} (h : k ≤ m) : (rl m W).take k = rl k W := by
  unfold rl
  rw [← List.map_take, List.take_range, Nat.min_eq_left h]
theorem ev_widthD (ws : List (Vc α)) : Ev 1 F_check_width [dl n ws, ni n] .non := by
  obtain ⟨xs, e, h⟩ := rows_len (n := n) (ws := ws)
  rw [e]
  exact ev_width xs h
def redD (n : Nat) (st : (Nat → Vc α) × List Nat) : D := .tup [dl n (rl st.2.length st.1), .lst (st.2.map ni)]
theorem ev_reduce (F : FE α L fd) (hL : 1 ≤ L) (W : Nat → Vc α) (hs : ∀ i, i < m → ∀ x, n ≤ x → W i x = 0) (hn : n ≤ 1000) (hm : m ≤ 1000) : Ev (L + 2) F_reduce_rows [.ins 0 fd, dl n (rl m W)] (redD n (redF m n W)) := by
  refine run_k fun k hk => run_ws (by decide) ⟨rfl, rfl⟩ ?_
  show WS _ t_reduce_rows [.sh (.ins 0 fd), .sh (dl n (rl m W)), .un, .un, .un, .un, .un, .un, .un, .un, .un, .un] _ _
  unfold t_reduce_rows
  repeat (first | refine we_sh rfl ?_ | refine we_int ?_ | refine wa_nil ?_ | refine wa_cons ?_ | refine we_bi ?_ | refine wt_cmp ?_ | refine ws_cons ?_ | refine ws_ite ?_ | with_reducible refine lf (len_rl) ?_ | refine lf eq_nat ?_)
  refine ⟨fun z => ?_, fun z => ?_⟩
  · have hm0 : m = 0 := by simpa using z
    subst hm0
    have e : redF 0 n W = (W, []) := by
      have : ∀ c, (List.range c).foldl (stepF 0) (W, []) = (W, []) := fun c => by
        induction c with
        | zero => rfl
        | succ c ih =>
          rw [List.range_succ, List.foldl_append, ih]
          rfl
      exact this n
    repeat (first | refine wa_nil ?_ | refine wa_cons ?_ | refine we_lst ?_ | refine we_tup ?_ | refine ws_cons ?_ | refine ws_ret ?_)
    refine ⟨by decide, ?_⟩
    repeat (first | refine wa_nil ?_ | refine wa_cons ?_ | refine we_lst ?_)
    refine ⟨by decide, ?_⟩
    repeat (first | refine wa_nil ?_)
    refine ⟨by decide, ?_⟩
    rw [e]
    rfl
  · have hm0 : 0 < m := by simp at z; omega
    repeat (first | refine we_sh rfl ?_ | refine we_int ?_ | refine wa_nil ?_ | refine wa_cons ?_ | refine we_call ?_ | refine we_bi ?_ | refine we_subS rfl ?_ | refine ws_nil ?_ | refine ws_cons ?_ | refine ws_setV rfl ?_ | refine ws_exp ?_ | with_reducible refine lf (idx_rl hm0) ?_ | refine lf (ev_widthD _ k (by omega)) ?_ | refine lf len_dv ?_)
    refine we_map rfl ?_
    repeat (first | refine we_sh rfl ?_ | refine ww_lst ?_)
    refine ⟨_, rfl, rfl, Vc α, rl m W, dv n, dv n, rfl, by simp [rl, big]; omega, fun v hv => ⟨_, rfl, ?_⟩, ?_⟩
    · repeat (first | refine we_sh rfl ?_ | refine wa_nil ?_ | refine wa_cons ?_ | refine we_bi ?_ | refine ⟨rfl, ?_⟩ | refine lf rfl ?_)
      rfl
    repeat (first | refine wa_nil ?_ | refine we_lst ?_ | refine ws_cons ?_ | refine ws_setV rfl ?_)
    refine ⟨by decide, ?_⟩
    repeat (first | refine ws_cons ?_)
    refine ws_forR ?_
    repeat (first | refine we_sh rfl ?_ | refine wa_nil ?_ | refine wa_cons ?_ | refine ⟨rfl, ?_⟩)
    refine ⟨n, rfl, by omega, fun c ρ => ∃ x5 x6 x7 x9 x10, ρ = [.sh (.ins 0 fd), .sh (dl n (rl m W)), .sh (ni n), .ow ((rl m ((List.range c).foldl (stepF m) (W, [])).1).map (dv n)), .ow (((List.range c).foldl (stepF m) (W, [])).2.map ni), x5, x6, x7, .un, x9, x10, .un], ⟨.un, .un, .un, .un, .un, rfl⟩, ?_, ?_⟩
    · rintro ρ' ⟨x5, x6, x7, x9, x10, rfl⟩
      have I := (redF_inv hs n (Nat.le_refl n)).len
      show WS _ _ [_, _, _, Sl.ow ((rl m (redF m n W).1).map (dv n)), Sl.ow ((redF m n W).2.map ni), _, _, _, _, _, _, _] _ _
      have I : (redF m n W).2.length ≤ m := I
      generalize redF m n W = st at I ⊢
      repeat (first | refine we_ow rfl ?_ | refine wa_nil ?_ | refine wa_cons ?_ | refine we_bi ?_ | refine we_slc ?_ | refine we_tup ?_ | refine WI.none ?_ | refine WI.some rfl ?_ | refine ws_cons ?_ | refine ws_ret ?_ | refine lf len_map ?_)
      refine ⟨_, rfl, ?_⟩
      refine ⟨_, rfl, ?_⟩
      repeat (first | refine we_ow rfl ?_ | refine wa_nil ?_ | refine wa_cons ?_)
      refine ⟨by simp [big], ?_⟩
      unfold redD
      rw [cut_to (by simp [rl]; exact I), ← List.map_take, take_rl I]
      rfl
    · rintro c ρ hc ⟨x5, x6, x7, x9, x10, rfl⟩
      have I := redF_inv hs c (by omega)
      have e : (List.range (c + 1)).foldl (stepF m) (W, []) = stepF m ((List.range c).foldl (stepF m) (W, [])) c := by
        rw [List.range_succ, List.foldl_append]
        rfl
      simp only [e]
      clear e
      generalize (List.range c).foldl (stepF m) (W, []) = st at I ⊢
      obtain ⟨V, P⟩ := st
      have I : RInv n m (Span (rl m W)) V P c := I
      have hP := I.len
      have hr := ev_rwp (n := n) (m := m) V (a := P.length) hc (by omega) hP k (by omega)
      refine ⟨_, rfl, ?_⟩
      simp only [stepF]
      cases hf : findP V P.length m c with
      | none =>
        rw [hf] at hr
        repeat (first | refine we_sh rfl ?_ | refine we_ow rfl ?_ | refine we_non ?_ | refine wa_nil ?_ | refine wa_cons ?_ | refine we_call ?_ | refine we_bi ?_ | refine wt_cmp ?_ | refine ws_cons ?_ | refine ws_setV rfl ?_ | refine ws_ite ?_ | refine lf (hr) ?_ | refine lf len_map ?_ | refine lf rfl ?_)
        refine ⟨fun z => (by cases z), fun _ => ?_⟩
        repeat (first | refine ws_nil ?_)
        exact ⟨_, _, _, _, _, rfl⟩
      | some f =>
        rw [hf] at hr
        obtain ⟨f1, f2, f3⟩ := findP_some hf
        repeat (first | refine we_sh rfl ?_ | refine we_ow rfl ?_ | refine we_non ?_ | refine wa_nil ?_ | refine wa_cons ?_ | refine we_call ?_ | refine we_bi ?_ | refine wt_cmp ?_ | refine ws_cons ?_ | refine ws_setV rfl ?_ | refine ws_ite ?_ | refine lf (hr) ?_ | refine lf len_map ?_ | refine lf rfl ?_)
        refine ⟨fun _ => ?_, fun z => (by cases z)⟩
        have gf : idxD (.lst ((rl m V).map (dv n))) (ni f) = some (dv n (V f)) := idx_rl f2
        have gp : idxD (.lst ((rl m V).map (dv n))) (ni P.length) = some (dv n (V P.length)) := idx_rl (by omega)
        repeat (first | refine we_sh rfl ?_ | refine we_subO rfl ?_ | refine ws_cons ?_ | refine ws_swp ?_ | with_reducible refine lf (gp) ?_ | refine lf (gf) ?_ | refine ⟨rfl, ?_⟩)
        refine ⟨_, _, _, rfl, rfl, ixN_nat (by simp [rl]; omega), ?_⟩
        repeat (first | refine we_sh rfl ?_)
        refine ⟨_, _, rfl, ixN_nat (by simp [rl]; omega), ?_⟩
        rw [set_rl, set_rl]
        have e1 : (fun j => if j = f then V P.length else if j = P.length then V f else V j) = swapF V P.length f := rfl
        rw [e1]
        generalize hv : GF.inv (V f c) = v
        have eS : swapF V P.length f P.length = V f := by
          unfold swapF
          by_cases e : P.length = f
          · rw [if_pos e, e]
          · rw [if_neg e, if_pos rfl]
        generalize hS : swapF V P.length f = S at eS ⊢
        have gS : idxD (.lst ((rl m S).map (dv n))) (ni P.length) = some (dv n (V f)) := by rw [← eS]; exact idx_rl (by omega)
        have iv := F.inv (V f c) f3 k (by omega)
        rw [hv] at iv
        repeat (first | refine we_sh rfl ?_ | refine wa_nil ?_ | refine wa_cons ?_ | refine we_meth ?_ | refine we_subO rfl ?_ | refine we_sub rfl ?_ | refine ws_cons ?_ | refine ws_setV rfl ?_ | refine ws_setsV ?_ | with_reducible refine lf (gS) ?_ | with_reducible refine lf (idx_dv hc) ?_ | with_reducible refine lf (iv) ?_)
        refine we_map rfl ?_
        repeat (first | refine we_sh rfl ?_ | refine we_subO rfl ?_ | refine ww_lst ?_ | with_reducible refine lf (gS) ?_)
        refine ⟨_, rfl, rfl, Nat, List.range n, fun i => ei (V f i), fun i => ei (V f i * v), rfl, by simp [big]; omega, fun i hi => ⟨_, rfl, ?_⟩, ?_⟩
        · repeat (first | refine we_sh rfl ?_ | refine wa_nil ?_ | refine wa_cons ?_ | refine we_meth ?_ | refine lf (F.times _ _ k (by omega)) ?_ | refine ⟨rfl, ?_⟩)
          rfl
        repeat (first | refine we_sh rfl ?_ | refine ⟨rfl, ?_⟩)
        refine ⟨_, _, _, rfl, rfl, ixN_nat (by simp [rl]; omega), ?_⟩
        have e2 : D.lst ((List.range n).map fun i => ei (V f i * v)) = dv n (fun i => V f i * v) := rfl
        rw [e2, set_rl]
        have e3 : (fun j => if j = P.length then (fun i => V f i * v) else S j) = scalF S P.length v := by
          funext i
          unfold scalF
          rw [eS]
        rw [e3]
        generalize hT : scalF S P.length v = T
        have lT : biD .len [.lst ((rl m T).map (dv n))] = some (ni m) := len_rl
        repeat (first | refine ws_cons ?_)
        refine ws_forR ?_
        repeat (first | refine we_ow rfl ?_ | refine wa_nil ?_ | refine wa_cons ?_ | refine we_bi ?_ | with_reducible refine lf (lT) ?_ | refine ⟨rfl, ?_⟩)
        refine ⟨m, rfl, by omega, fun i ρ => ∃ x10, ρ = [.sh (.ins 0 fd), .sh (dl n (rl m W)), .sh (ni n), .ow ((rl m (fun j => if j < i then elimF T P.length c j else T j)).map (dv n)), .ow (P.map ni), .sh (ni c), .sh (ni P.length), .sh (ni f), .un, .sh (ei v), x10, .un], ⟨x10, ?_⟩, ?_, ?_⟩
        · have : rl m (fun j => if j < 0 then elimF T P.length c j else T j) = rl m T := rl_congr fun i _ => if_neg (by omega)
          rw [this]
          rfl
        · rintro ρ' ⟨x10, rfl⟩
          have : rl m (fun j => if j < m then elimF T P.length c j else T j) = rl m (elimF T P.length c) := rl_congr fun i hi => if_pos hi
          rw [this]
          repeat (first | refine we_sh rfl ?_ | refine ws_cons ?_ | refine ws_appV ?_ | refine ⟨rfl, ?_⟩)
          refine ⟨_, rfl, by simp [big]; omega, ?_⟩
          repeat (first | refine ws_nil ?_)
          refine ⟨.sh (ni c), .sh (ni P.length), .sh (ni f), .sh (ei v), x10, ?_⟩
          show _ = [_, _, _, Sl.ow ((rl m (elimF (scalF (swapF V P.length f) P.length (GF.inv (V f c))) P.length c)).map (dv n)), Sl.ow ((P ++ [c]).map ni), _, _, _, _, _, _, _]
          rw [hv, hS, hT, List.map_append]
          rfl
        · rintro i ρ hi ⟨x10, rfl⟩
          refine ⟨_, rfl, ?_⟩
          have Ui : (fun j => if j < i then elimF T P.length c j else T j) i = T i := if_neg (by omega)
          have Ua : (fun j => if j < i then elimF T P.length c j else T j) P.length = T P.length := by
            show (if P.length < i then elimF T P.length c P.length else T P.length) = _
            by_cases h : P.length < i
            · rw [if_pos h]; unfold elimF; rw [if_neg (by simp)]
            · rw [if_neg h]
          have Un : ∀ v, (T i = v ∨ v = elimF T P.length c i) → elimF T P.length c i = v → rl m (fun j => if j = i then v else (fun j => if j < i then elimF T P.length c j else T j) j) = rl m (fun j => if j < i + 1 then elimF T P.length c j else T j) := fun v _ hv => rl_congr fun j _ => by
            by_cases e : j = i
            · subst e; rw [if_pos rfl, if_pos (by omega), hv]
            · rw [if_neg e]
              show (if j < i then _ else _) = _
              by_cases h : j < i
              · rw [if_pos h, if_pos (by omega)]
              · rw [if_neg h, if_neg (by omega)]
          have Us : elimF T P.length c i = T i → rl m (fun j => if j < i then elimF T P.length c j else T j) = rl m (fun j => if j < i + 1 then elimF T P.length c j else T j) := fun hv => rl_congr fun j _ => by
            show (if j < i then _ else _) = _
            by_cases h : j < i
            · rw [if_pos h, if_pos (by omega)]
            · rw [if_neg h]
              by_cases e : j = i
              · subst e; rw [if_pos (by omega), hv]
              · rw [if_neg (by omega)]
          generalize hU : (fun j => if j < i then elimF T P.length c j else T j) = U at Ui Ua Un Us ⊢
          have gi : idxD (.lst ((rl m U).map (dv n))) (ni i) = some (dv n (T i)) := by rw [← Ui]; exact idx_rl hi
          have ga : idxD (.lst ((rl m U).map (dv n))) (ni P.length) = some (dv n (T P.length)) := by rw [← Ua]; exact idx_rl (by omega)
          repeat (first | refine we_sh rfl ?_ | refine wt_cmp ?_ | refine wt_and ?_ | refine ws_cons ?_ | refine ws_ite ?_ | refine lf ne_nat ?_)
          have ex : ∀ {ρ : En} {x10 : Sl}, elimF T P.length c i = T i → ρ = [.sh (.ins 0 fd), .sh (dl n (rl m W)), .sh (ni n), .ow ((rl m U).map (dv n)), .ow (P.map ni), .sh (ni c), .sh (ni P.length), .sh (ni f), .un, .sh (ei v), x10, .un] → ∃ x10, ρ = [.sh (.ins 0 fd), .sh (dl n (rl m W)), .sh (ni n), .ow ((rl m (fun j => if j < i + 1 then elimF T P.length c j else T j)).map (dv n)), .ow (P.map ni), .sh (ni c), .sh (ni P.length), .sh (ni f), .un, .sh (ei v), x10, .un] := fun {ρ x10} h e => ⟨x10, by rw [e, Us h]⟩
          refine ⟨fun z => ⟨fun z => (by cases z), fun _ => ?_⟩, fun z => ?_⟩
          · repeat (first | refine ws_nil ?_)
            refine ex ?_ rfl
            unfold elimF
            rw [if_neg (by simp at z; simp [z])]
          · repeat (first | refine we_sh rfl ?_ | refine we_int ?_ | refine we_subO rfl ?_ | refine we_sub rfl ?_ | refine wt_cmp ?_ | with_reducible refine lf (gi) ?_ | with_reducible refine lf (idx_dv hc) ?_ | refine lf ne0 ?_)
            refine ⟨fun z2 => ?_, fun z2 => ?_⟩
            · repeat (first | refine we_sh rfl ?_ | refine wa_nil ?_ | refine wa_cons ?_ | refine we_call ?_ | refine we_subO rfl ?_ | refine we_sub rfl ?_ | refine ws_cons ?_ | refine ws_setsV ?_ | with_reducible refine lf (gi) ?_ | with_reducible refine lf (ga) ?_ | with_reducible refine lf (idx_dv hc) ?_ | refine lf (ev_wm F (T i) (T P.length) (T i c) hn k (by omega)) ?_ | refine ⟨rfl, ?_⟩)
              refine ⟨_, _, _, rfl, rfl, ixN_nat (by simp [rl]; omega), ?_⟩
              have e4 : elimF T P.length c i = subF (T i) (T i c) (T P.length) := by
                unfold elimF
                rw [if_pos (by simp at z z2; exact ⟨z, z2⟩)]
              rw [set_rl, Un _ (.inr e4.symm) e4]
              repeat (first | refine ws_nil ?_)
              exact ⟨_, rfl⟩
            · repeat (first | refine ws_nil ?_)
              refine ex ?_ rfl
              unfold elimF
              rw [if_neg (by simp at z2; simp [z2])]
end
end MN
end S_MnSr
section S_MnSs
set_option maxRecDepth 100000
/-! Rank, kernel, products, inverse. -/
namespace MN
open LA
section
variable {α : Type} [GF α] {n m L : Nat} {fd : List D}
theorem any_nat (xs : List Nat) (c : Nat) : ((xs.map ni).any fun z => eqD z (ni c)) = xs.contains c := by
  induction xs with
  | nil => rfl
  | cons x xs ih =>
    rw [List.map_cons, List.any_cons, ih, List.contains_cons]
    congr 1
    show decide ((x : Int) = (c : Int)) = _
    by_cases h : x = c
    · subst h; simp
    · have : ¬ ((x : Int) = c) := by omega
      have h2 : ¬ c = x := fun e => h e.symm
      simp [this, h2]
theorem okP_nats (xs : List Nat) (k : Nat) : okP (k + 1) (.lst (xs.map ni)) = true := by
  unfold okP
  rw [List.all_map]
  refine List.all_eq_true.mpr fun x _ => ?_
  show okP k (ni x) = true
  cases k <;> rfl
theorem nin_nat {xs : List Nat} {c : Nat} : cmpD .nin (ni c) (.lst (xs.map ni)) = some (!xs.contains c) := by
  show (if okP 4 (ni c) && okP 4 (.lst (xs.map ni)) then some (!(xs.map ni).any fun z => eqD z (ni c)) else none) = _
  rw [okP_nats, any_nat]
  rfl
theorem in_nat {xs : List Nat} {c : Nat} : cmpD .in_ (ni c) (.lst (xs.map ni)) = some (xs.contains c) := by
  show (if okP 4 (ni c) && okP 4 (.lst (xs.map ni)) then some ((xs.map ni).any fun z => eqD z (ni c)) else none) = _
  rw [okP_nats, any_nat]
  rfl
theorem flat_rep (n : Nat) (d : D) : (List.replicate n [d]).flatten = (List.range n).map fun _ => d := by
  induction n with
  | zero => rfl
  | succ n ih =>
    rw [List.replicate_succ, List.flatten_cons, ih, List.range_succ_eq_map, List.map_cons, List.map_map]
    rfl
theorem mul_listI {k : Int} {xs : List D} (h1 : -(2 ^ 63) ≤ k) (h2 : k < 2 ^ 63) (h3 : xs.length * k.toNat ≤ big) : opD .mul (.lst xs) (.int k) = some (.lst (List.replicate k.toNat xs).flatten) := by
  have e : opD .mul (.lst xs) (.int k) = (if -(2 ^ 63) ≤ k ∧ k < 2 ^ 63 ∧ xs.length * k.toNat ≤ big then some (D.lst (List.replicate k.toNat xs).flatten) else none) := rfl
  rw [e, if_pos ⟨h1, h2, h3⟩]
theorem mul_list {n : Nat} {d : D} (h : n ≤ 16777216) : opD .mul (.lst [d]) (ni n) = some (.lst ((List.range n).map fun _ => d)) := by
  rw [mul_listI (by omega) (by omega) (by rw [Int.toNat_natCast, List.length_singleton, Nat.one_mul]; exact h), Int.toNat_natCast, flat_rep]
theorem mul_zero_list {n : Nat} (h : n ≤ 16777216) : opD .mul (.lst [.int 0]) (ni n) = some (dv n (zv : Vc α)) := by
  rw [mul_list h, ei0 (α := α)]
  rfl
theorem set_dv {v : Vc α} {i : Nat} {a : α} : ((List.range n).map fun i => ei (v i)).set i (ei a) = (List.range n).map fun j => ei ((fun j => if j = i then a else v j) j) := by
  apply List.ext_getElem?
  intro j
  rw [List.getElem?_set]
  simp only [List.length_map, List.length_range, List.getElem?_map]
  by_cases h : j < n
  · rw [List.getElem?_range h]
    by_cases e : i = j
    · subst e
      rw [if_pos rfl, if_pos h]
      simp
    · rw [if_neg e]
      simp
      rw [if_neg (fun z => e z.symm)]
  · rw [List.getElem?_eq_none (l := List.range n) (by simp; omega)]
    by_cases e : i = j
    · rw [if_pos e, if_neg (by omega)]; rfl
    · rw [if_neg e]; rfl
theorem dv_congr {u v : Vc α} (h : ∀ i, i < n → u i = v i) : dv n u = dv n v := by
  unfold dv
  congr 1
  exact List.map_congr_left fun i hi => by rw [h i (List.mem_range.mp hi)]

theorem ev_rank (F : FE α L fd) (hL : 1 ≤ L) (W : Nat → Vc α) (hs : ∀ i, i < m → ∀ x, n ≤ x → W i x = 0) (hn : n ≤ 1000) (hm : m ≤ 1000) : Ev (L + 3) F_rank_of [.ins 0 fd, dl n (rl m W), ni n] (ni (redF m n W).2.length) := by
  refine run_k fun k hk => run_ws (by decide) ⟨rfl, rfl⟩ ?_
  show WS _ t_rank_of [.sh _, .sh _, .sh _] _ _
  unfold t_rank_of
  repeat (first | refine we_sh rfl ?_ | refine we_int ?_ | refine wa_nil ?_ | refine wa_cons ?_ | refine we_call ?_ | refine we_bi ?_ | refine we_sub rfl ?_ | refine ws_cons ?_ | refine ws_exp ?_ | refine ws_ret ?_ | refine lf (ev_widthD _ k (by omega)) ?_ | refine lf (ev_reduce F hL W hs hn hm k (by omega)) ?_ | refine lf len_map ?_ | refine lf rfl ?_)
  rfl
theorem ent_get : ∀ {R : List (Vc α)} {P : List Nat}, Rref n R P → ∀ (i : Nat) (r : Vc α) (p c : Nat), R[i]? = some r → P[i]? = some p → ent R P p c = r c
  | [], [], _, i, r, p, c, h, _ => by simp at h
  | [], _ :: _, h, _, _, _, _, _, _ => h.elim
  | _ :: _, [], h, _, _, _, _, _, _ => h.elim
  | r0 :: R, p0 :: P, ⟨_, _, _, h3, _, _, h5⟩, 0, r, p, c, h, h2 => by
    simp at h h2
    subst h h2
    simp [ent]
  | r0 :: R, p0 :: P, ⟨_, _, _, h3, _, _, h5⟩, i + 1, r, p, c, h, h2 => by
    simp at h h2
    have hp := (h3 p (List.mem_of_getElem? h2)).1
    simp only [ent]
    rw [if_neg (by omega)]
    exact ent_get h5 i r p c h h2
theorem ev_kernel (F : FE α L fd) (hL : 1 ≤ L) (W : Nat → Vc α) (hs : ∀ i, i < m → ∀ x, n ≤ x → W i x = 0) (hn : n ≤ 1000) (hm : m ≤ 1000) :
    Ev (L + 3) F_kernel [.ins 0 fd, dl n (rl m W), ni n] (dl n (kerF n (rl (redF m n W).2.length (redF m n W).1) (redF m n W).2)) := by
  refine run_k fun k hk => run_ws (by decide) ⟨rfl, rfl⟩ ?_
  show WS _ t_kernel [.sh _, .sh _, .sh _, .un, .un, .un, .un, .un, .un] _ _
  unfold t_kernel
  obtain ⟨rr, _, rlen⟩ := redF_ok hs (n := n) (m := m)
  have hred := ev_reduce F hL W hs hn hm k (by omega)
  generalize redF m n W = st at rr rlen hred ⊢
  obtain ⟨V, P⟩ := st
  have rr : Rref n (rl P.length V) P := rr
  have rlen : P.length ≤ m := rlen
  show WS _ _ _ (fun _ => dl n (kerF n (rl P.length V) P) = .non) fun r => r = dl n (kerF n (rl P.length V) P)
  have kn : ∀ c, c ∉ P → (List.range (c + 1)).filter (fun c => !P.contains c) = (List.range c).filter (fun c => !P.contains c) ++ [c] := fun c hc => by
    rw [List.range_succ, List.filter_append, List.filter_cons_of_pos (by simpa using hc)]
    rfl
  have ky : ∀ c, c ∈ P → (List.range (c + 1)).filter (fun c => !P.contains c) = (List.range c).filter (fun c => !P.contains c) := fun c hc => by
    rw [List.range_succ, List.filter_append, List.filter_cons_of_neg (by simpa using hc)]
    simp
  repeat (first | refine we_sh rfl ?_ | refine wa_nil ?_ | refine wa_cons ?_ | refine we_call ?_ | refine ws_cons ?_ | refine ws_unp ?_ | refine ws_exp ?_ | with_reducible refine lf (hred) ?_ | refine lf (ev_widthD _ k (by omega)) ?_)
  refine ⟨_, _, rfl, rfl, ?_⟩
  repeat (first | refine wa_nil ?_ | refine we_lst ?_ | refine ws_cons ?_ | refine ws_setV rfl ?_)
  refine ⟨by simp [big], ?_⟩
  repeat (first | refine ws_cons ?_)
  refine ws_forR ?_
  repeat (first | refine we_sh rfl ?_ | refine wa_nil ?_ | refine wa_cons ?_ | refine ⟨rfl, ?_⟩)
  refine ⟨n, rfl, by omega, fun c ρ => ∃ x4 x7 x8, ρ = [.sh (.ins 0 fd), .sh (dl n (rl m W)), .sh (ni n), .ow ((((List.range c).filter fun c => !P.contains c).map (kv (rl P.length V) P)).map (dv n)), x4, .sh (dl n (rl P.length V)), .sh (.lst (P.map ni)), x7, x8], ⟨.un, .un, .un, rfl⟩, ?_, ?_⟩
  · rintro ρ' ⟨x4, x7, x8, rfl⟩
    repeat (first | refine we_ow rfl ?_ | refine ws_cons ?_ | refine ws_ret ?_)
    rfl
  · rintro c ρ hc ⟨x4, x7, x8, rfl⟩
    refine ⟨_, rfl, ?_⟩
    by_cases hcP : c ∈ P
    · simp only [ky c hcP]
      repeat (first | refine we_sh rfl ?_ | refine wt_cmp ?_ | refine ws_cons ?_ | refine ws_ite ?_ | with_reducible refine lf (nin_nat) ?_)
      refine ⟨fun z => by simp [hcP] at z, fun _ => ?_⟩
      repeat (first | refine ws_nil ?_)
      exact ⟨_, _, _, rfl⟩
    · simp only [kn c hcP]
      repeat (first | refine we_sh rfl ?_ | refine wt_cmp ?_ | refine ws_cons ?_ | refine ws_ite ?_ | with_reducible refine lf (nin_nat) ?_)
      refine ⟨fun _ => ?_, fun z => by simp [hcP] at z⟩
      repeat (first | refine we_int ?_ | refine we_bin ?_ | refine wa_nil ?_ | refine wa_cons ?_ | refine we_lst ?_ | refine ws_cons ?_ | refine ws_setV rfl ?_)
      refine ⟨by simp [big], ?_⟩
      repeat (first | refine we_sh rfl ?_ | refine we_int ?_ | refine ws_cons ?_ | refine ws_setsV ?_ | with_reducible refine lf (mul_zero_list (α := α) (by omega)) ?_ | refine ⟨rfl, ?_⟩)
      refine ⟨_, _, _, rfl, rfl, ixN_nat (by simp; exact hc), ?_⟩
      rw [ei1 (α := α), set_dv]
      repeat (first | refine ws_cons ?_)
      refine ws_forR ?_
      repeat (first | refine we_sh rfl ?_ | refine wa_nil ?_ | refine wa_cons ?_ | refine we_bi ?_ | refine ⟨rfl, ?_⟩ | refine lf len_map ?_)
      refine ⟨P.length, rfl, by omega, fun t ρ => ∃ x8, ρ = [.sh (.ins 0 fd), .sh (dl n (rl m W)), .sh (ni n), .ow ((((List.range c).filter fun c => !P.contains c).map (kv (rl P.length V) P)).map (dv n)), .sh (ni c), .sh (dl n (rl P.length V)), .sh (.lst (P.map ni)), .ow ((List.range n).map fun i => ei ((fun i => if i = c then 1 else if i ∈ P.take t then -ent (rl P.length V) P i c else 0 : Vc α) i)), x8], ⟨x8, ?_⟩, ?_, ?_⟩
      · have : (List.range n).map (fun i => ei ((fun i => if i = c then 1 else if i ∈ P.take 0 then -ent (rl P.length V) P i c else 0 : Vc α) i)) = (List.range n).map fun j => ei ((fun j => if j = c then 1 else (zv : Vc α) j) j) := List.map_congr_left fun i _ => by simp [zv]
        rw [this]
        rfl
      · rintro ρ' ⟨x8, rfl⟩
        have : (List.range n).map (fun i => ei ((fun i => if i = c then 1 else if i ∈ P.take P.length then -ent (rl P.length V) P i c else 0 : Vc α) i)) = (List.range n).map fun i => ei (kv (rl P.length V) P c i) := List.map_congr_left fun i _ => by
          show ei (if i = c then 1 else if i ∈ P.take P.length then -ent (rl P.length V) P i c else 0 : α) = ei (if i = c then 1 else -ent (rl P.length V) P i c)
          rw [List.take_length]
          by_cases h1 : i = c
          · rw [if_pos h1, if_pos h1]
          · rw [if_neg h1, if_neg h1]
            by_cases h2 : i ∈ P
            · rw [if_pos h2]
            · rw [if_neg h2, ent_out h2]
              have : (0 : α) = -0 := by grind
              rw [← this]
        rw [this]
        repeat (first | refine we_ow rfl ?_ | refine ws_cons ?_ | refine ws_appV ?_ | refine ⟨rfl, ?_⟩)
        refine ⟨_, rfl, ?_, ?_⟩
        · have := List.length_filter_le (fun c => !P.contains c) (List.range c)
          simp [big] at this ⊢
          omega
        repeat (first | refine ws_nil ?_)
        simp only [List.map_append]
        exact ⟨_, _, _, rfl⟩
      · rintro t ρ ht ⟨x8, rfl⟩
        refine ⟨_, rfl, ?_⟩
        have gt : idxD (.lst (P.map ni)) (ni t) = some (ni P[t]) := idx_map (by simp [ht])
        have pn : P[t] < n := rr.piv_lt _ (List.getElem_mem ht)
        repeat (first | refine we_sh rfl ?_ | refine wa_nil ?_ | refine wa_cons ?_ | refine we_meth ?_ | refine we_subS rfl ?_ | refine we_sub rfl ?_ | refine ws_cons ?_ | refine ws_setsV ?_ | with_reducible refine lf (gt) ?_ | with_reducible refine lf (idx_rl ht) ?_ | with_reducible refine lf (idx_dv hc) ?_ | refine lf (F.neg _ k (by omega)) ?_ | refine ⟨rfl, ?_⟩)
        refine ⟨_, _, _, rfl, rfl, ixN_nat (by simp; exact pn), ?_⟩
        rw [set_dv]
        have : (List.range n).map (fun j => ei ((fun j => if j = P[t] then -V t c else (fun i => if i = c then 1 else if i ∈ P.take t then -ent (rl P.length V) P i c else 0 : Vc α) j) j)) = (List.range n).map fun i => ei ((fun i => if i = c then 1 else if i ∈ P.take (t + 1) then -ent (rl P.length V) P i c else 0 : Vc α) i) := List.map_congr_left fun j _ => by
          show ei (if j = P[t] then -V t c else if j = c then 1 else if j ∈ P.take t then -ent (rl P.length V) P j c else 0) = ei (if j = c then 1 else if j ∈ P.take (t + 1) then -ent (rl P.length V) P j c else 0 : α)
          have tk : P.take (t + 1) = P.take t ++ [P[t]] := by rw [List.take_succ, List.getElem?_eq_getElem ht]; rfl
          rw [tk]
          by_cases h1 : j = P[t]
          · have hne : j ≠ c := fun e => hcP (by rw [← e, h1]; exact List.getElem_mem ht)
            rw [if_pos h1, if_neg hne, if_pos (by rw [h1]; exact List.mem_append_right _ (List.mem_singleton_self _)), h1, ent_get rr t (V t) P[t] c (rl_get ht) (by simp [ht])]
          · rw [if_neg h1]
            have : (j ∈ P.take t ++ [P[t]]) = (j ∈ P.take t) := by rw [List.mem_append, List.mem_singleton]; simp only [h1, or_false]
            simp only [this]
        rw [this]
        repeat (first | refine ws_nil ?_)
        exact ⟨_, rfl⟩
end
end MN
end S_MnSs
section S_MnSt
set_option maxRecDepth 100000
/-! Words; products of matrices; powers. -/
namespace MN
open LA
section
variable {α : Type} [GF α] {n m L : Nat} {fd : List D}
theorem ev_mv (F : FE α L fd) (hL : 1 ≤ L) (rs : List (Vc α)) (v : Vc α) (hn : n ≤ 1000) (hr : rs.length ≤ 1000) : Ev (L + 2) F_multiply_vector [.ins 0 fd, dl n rs, dv n v] (.lst (rs.map fun r => ei (dot n r v))) := by
  refine run_k fun k hk => run_ws (by decide) ⟨rfl, rfl⟩ ?_
  show WS _ t_multiply_vector [.sh _, .sh _, .sh _, .un] _ _
  unfold t_multiply_vector
  repeat (first | refine we_sh rfl ?_ | refine wa_nil ?_ | refine wa_cons ?_ | refine we_call ?_ | refine we_bi ?_ | refine ws_cons ?_ | refine ws_exp ?_ | refine ws_ret ?_ | refine lf (ev_widthD _ k (by omega)) ?_ | refine lf len_dv ?_)
  refine we_map rfl ?_
  repeat (first | refine we_sh rfl ?_ | refine ww_lst ?_)
  refine ⟨_, rfl, rfl, Vc α, rs, dv n, fun r => ei (dot n r v), rfl, by simp [big]; omega, fun r hr => ⟨_, rfl, ?_⟩, rfl⟩
  repeat (first | refine we_sh rfl ?_ | refine wa_nil ?_ | refine wa_cons ?_ | refine we_call ?_ | refine lf (ev_dot F r v (by omega) k (by omega)) ?_ | refine ⟨rfl, ?_⟩)
  rfl
theorem ev_transpose (rs : List (Vc α)) (hn : n ≤ 1000) (hr : rs.length ≤ 1000) : Ev 2 F_transpose [dl n rs, ni n] (.lst ((List.range n).map fun c => .lst (rs.map fun r => ei (r c)))) := by
  refine run_k fun k hk => run_ws (by decide) ⟨rfl, rfl⟩ ?_
  show WS _ t_transpose [.sh _, .sh _, .un, .un] _ _
  unfold t_transpose
  repeat (first | refine we_sh rfl ?_ | refine wa_nil ?_ | refine wa_cons ?_ | refine we_call ?_ | refine ws_cons ?_ | refine ws_exp ?_ | refine ws_ret ?_ | refine lf (ev_widthD _ k (by omega)) ?_)
  refine we_map rfl ?_
  repeat (first | refine we_sh rfl ?_ | refine wa_nil ?_ | refine wa_cons ?_ | refine ww_rg1 ?_)
  refine ⟨n, rfl, by omega, rfl, Nat, List.range n, ni, fun c => .lst (rs.map fun r => ei (r c)), by unfold rgD; simp, by simp [big]; omega, fun c hc => ⟨_, rfl, ?_⟩, rfl⟩
  have hc := List.mem_range.mp hc
  refine we_map rfl ?_
  repeat (first | refine we_sh rfl ?_ | refine ww_lst ?_)
  refine ⟨_, rfl, rfl, Vc α, rs, dv n, fun r => ei (r c), rfl, by simp [big]; omega, fun r _ => ⟨_, rfl, ?_⟩, rfl, rfl⟩
  repeat (first | refine we_sh rfl ?_ | refine we_subS rfl ?_ | with_reducible refine lf (idx_dv hc) ?_ | refine ⟨rfl, ?_⟩)
  rfl
theorem col_dv {k : Nat} {R : Nat → Vc α} {c : Nat} : D.lst ((rl k R).map fun r => ei (r c)) = dv k fun t => R t c := by
  unfold rl dv
  rw [List.map_map]
  rfl
theorem ev_mm (F : FE α L fd) (hL : 1 ≤ L) {t : Nat} (Bs : List (Vc α)) (R : Nat → Vc α) (hn : n ≤ 1000) (ht : t ≤ 1000) (hb : Bs.length ≤ 1000) : Ev (L + 3) F_multiply_matrices [.ins 0 fd, dl t Bs, dl n (rl t R), ni n] (dl n (Bs.map fun b c => dot t b fun i => R i c)) := by
  refine run_k fun k hk => run_ws (by decide) ⟨rfl, rfl⟩ ?_
  show WS _ t_multiply_matrices [.sh _, .sh _, .sh _, .sh _, .un, .un, .un] _ _
  unfold t_multiply_matrices
  have tr := ev_transpose (rl t R) hn (by simp [rl]; omega) k (by omega)
  repeat (first | refine we_sh rfl ?_ | refine wa_nil ?_ | refine wa_cons ?_ | refine we_call ?_ | refine we_bi ?_ | refine ws_cons ?_ | refine ws_setV rfl ?_ | refine ws_exp ?_ | refine ws_ret ?_ | with_reducible refine lf (len_rl) ?_ | with_reducible refine lf (tr) ?_ | refine lf (ev_widthD _ k (by omega)) ?_)
  refine we_map rfl ?_
  repeat (first | refine we_sh rfl ?_ | refine ww_lst ?_)
  refine ⟨_, rfl, rfl, Vc α, Bs, dv t, fun b => dv n fun c => dot t b fun i => R i c, rfl, by simp [big]; omega, fun b hb => ⟨_, rfl, ?_⟩, ?_⟩
  · refine we_map rfl ?_
    repeat (first | refine we_sh rfl ?_ | refine ww_lst ?_)
    refine ⟨_, rfl, rfl, Nat, List.range n, fun c => .lst ((rl t R).map fun r => ei (r c)), fun c => ei (dot t b fun i => R i c), rfl, by simp [big]; omega, fun c hc => ⟨_, rfl, ?_⟩, rfl, rfl⟩
    simp only [col_dv]
    repeat (first | refine we_sh rfl ?_ | refine wa_nil ?_ | refine wa_cons ?_ | refine we_call ?_ | refine lf (ev_dot F b (fun i => R i c) (by omega) k (by omega)) ?_ | refine ⟨rfl, ?_⟩)
    rfl
  · show D.lst _ = D.lst _
    rw [List.map_map]
    rfl
def supp (n : Nat) (v : Vc α) : List Nat := (List.range n).filter fun i => !decide (v i = 0)
theorem supp_len (v : Vc α) : ∀ n, (supp n v).length = wt n v
  | 0 => rfl
  | n + 1 => by
    unfold supp wt
    rw [List.range_succ, List.filter_append, List.length_append]
    have := supp_len v n
    unfold supp at this
    rw [this]
    congr 1
    by_cases h : v n = 0
    · rw [if_pos h, List.filter_cons_of_neg (by simp [h])]; rfl
    · rw [if_neg h, List.filter_cons_of_pos (by simp [h])]; rfl
theorem ev_support (v : Vc α) (hn : n ≤ 1000) : Ev 1 F_support_of [dv n v] (.lst ((supp n v).map ni)) := by
  refine run_k fun k hk => run_ws (by decide) ⟨rfl, rfl⟩ ?_
  show WS _ t_support_of [.sh _, .un] _ _
  unfold t_support_of
  repeat (first | refine ws_cons ?_ | refine ws_ret ?_)
  refine we_filt rfl ?_
  repeat (first | refine we_sh rfl ?_ | refine wa_nil ?_ | refine wa_cons ?_ | refine we_bi ?_ | refine ww_rg1 ?_ | refine lf len_dv ?_)
  refine ⟨n, rfl, by omega, rfl, Nat, List.range n, ni, fun i => !decide (v i = 0), ni, by unfold rgD; simp, by simp [big]; omega, fun i hi => ⟨_, rfl, ?_, fun _ => ?_⟩, rfl⟩
  · have hi := List.mem_range.mp hi
    repeat (first | refine we_sh rfl ?_ | refine we_int ?_ | refine we_subS rfl ?_ | refine wt_cmp ?_ | with_reducible refine lf (idx_dv hi) ?_ | refine lf ne0 ?_)
    rfl
  · repeat (first | refine we_sh rfl ?_ | refine ⟨rfl, ?_⟩)
    rfl
theorem ev_weight (v : Vc α) (hn : n ≤ 1000) : Ev 2 F_weight_of [dv n v] (ni (wt n v)) := by
  refine run_k fun k hk => run_ws (by decide) ⟨rfl, rfl⟩ ?_
  show WS _ t_weight_of [.sh _] _ _
  unfold t_weight_of
  repeat (first | refine we_sh rfl ?_ | refine wa_nil ?_ | refine wa_cons ?_ | refine we_call ?_ | refine we_bi ?_ | refine ws_cons ?_ | refine ws_ret ?_ | refine lf (ev_support v hn k (by omega)) ?_ | refine lf len_map ?_)
  rw [supp_len]
theorem ev_erased (v : Vc α) (hn : n ≤ 1000) : Ev 1 F_erased_positions [dv n v] (.lst []) := by
  refine run_k fun k hk => run_ws (by decide) ⟨rfl, rfl⟩ ?_
  show WS _ t_erased_positions [.sh _, .un] _ _
  unfold t_erased_positions
  repeat (first | refine ws_cons ?_ | refine ws_ret ?_)
  refine we_filt rfl ?_
  repeat (first | refine we_sh rfl ?_ | refine wa_nil ?_ | refine wa_cons ?_ | refine we_bi ?_ | refine ww_rg1 ?_ | refine lf len_dv ?_)
  refine ⟨n, rfl, by omega, rfl, Nat, List.range n, ni, fun i => false, ni, by unfold rgD; simp, by simp [big]; omega, fun i hi => ⟨_, rfl, ?_, fun z => by cases z⟩, by simp⟩
  have hi := List.mem_range.mp hi
  repeat (first | refine we_sh rfl ?_ | refine we_non ?_ | refine we_subS rfl ?_ | refine wt_cmp ?_ | with_reducible refine lf (idx_dv hi) ?_ | refine lf rfl ?_)
  rfl
theorem ev_received (F : FE α L fd) (v : Vc α) (hn : n ≤ 1000) : Ev 1 F_is_received [.ins 0 fd, ni n, dv n v] (.bl true) := by
  refine run_k fun k hk => run_ws (by decide) ⟨rfl, rfl⟩ ?_
  show WS _ t_is_received [.sh _, .sh _, .sh _, .un] _ _
  unfold t_is_received
  repeat (first | refine we_sh rfl ?_ | refine wa_nil ?_ | refine wa_cons ?_ | refine we_bi ?_ | refine wt_cmp ?_ | refine ws_cons ?_ | refine ws_ite ?_ | refine lf len_dv ?_ | refine lf ne_nat ?_)
  refine ⟨fun z => by simp at z, fun _ => ?_⟩
  repeat (first | refine ws_nil ?_ | refine ws_cons ?_)
  refine ws_forL ?_
  repeat (first | refine we_sh rfl ?_ | refine ww_lst ?_)
  refine ⟨_, rfl, rfl, Nat, List.range n, fun i => ei (v i), fun _ ρ => ∃ y, ρ = [.sh (.ins 0 fd), .sh (ni n), .sh (dv n v), y], rfl, ⟨.un, rfl⟩, ?_, ?_⟩
  · rintro ρ' ⟨y, rfl⟩
    repeat (first | refine we_bl ?_ | refine ws_cons ?_ | refine ws_ret ?_)
    rfl
  · rintro pre x post ρ e ⟨y, rfl⟩
    refine ⟨_, rfl, ?_⟩
    have h1 : cmpD .le (.int 0) (ei (v x)) = some true := by
      show some (decide ((0 : Int) ≤ (GF.no (v x) : Int))) = _
      rw [decide_eq_true (by omega)]
    have h2 : cmpD .lt (ei (v x)) (ni (GF.q α)) = some true := by
      have := GF.no_lt (v x)
      show some (decide ((GF.no (v x) : Int) < (GF.q α : Int))) = _
      rw [decide_eq_true (by omega)]
    repeat (first | refine we_sh rfl ?_ | refine we_non ?_ | refine wt_cmp ?_ | refine wt_and ?_ | refine ws_cons ?_ | refine ws_ite ?_ | refine lf rfl ?_)
    refine ⟨fun z => (by cases z), fun _ => ?_⟩
    repeat (first | refine we_sh rfl ?_ | refine we_int ?_ | refine wt_chain ?_ | refine wt_not ?_ | with_reducible refine lf (h1) ?_)
    refine ⟨fun z => (by cases z), fun _ => ?_⟩
    refine we_fldN rfl F.ord ?_
    repeat (first | with_reducible refine lf (h2) ?_)
    refine ⟨fun z => (by cases z), fun _ => ?_⟩
    repeat (first | refine ws_nil ?_)
    exact ⟨_, rfl⟩
theorem ev_isword (F : FE α L fd) (v : Vc α) (hn : n ≤ 1000) : Ev 2 F_is_word [.ins 0 fd, ni n, dv n v] (.bl true) := by
  refine run_k fun k hk => run_ws (by decide) ⟨rfl, rfl⟩ ?_
  show WS _ t_is_word [.sh _, .sh _, .sh _] _ _
  unfold t_is_word
  repeat (first | refine we_sh rfl ?_ | refine wa_nil ?_ | refine wa_cons ?_ | refine we_call ?_ | refine wt_and ?_ | refine we_and ?_ | refine wtv ?_ | refine ws_cons ?_ | refine ws_ret ?_ | refine wt_val ?_ | refine lf (ev_received F v hn k (by omega)) ?_)
  refine ⟨fun z => (by cases z), fun _ => ?_⟩
  repeat (first | refine we_sh rfl ?_ | refine we_int ?_ | refine wa_nil ?_ | refine wa_cons ?_ | refine we_call ?_ | refine we_bi ?_ | refine wt_cmp ?_ | refine lf (ev_erased v hn k (by omega)) ?_ | refine lf eq_nat ?_ | refine lf rfl ?_)
  rfl
theorem ev_zero (hn : n ≤ 1000) : Ev 1 F_zero_word [ni n] (dv n (zv : Vc α)) := by
  refine run_k fun k hk => run_ws (by decide) ⟨rfl, rfl⟩ ?_
  show WS _ t_zero_word [.sh _] _ _
  unfold t_zero_word
  repeat (first | refine we_int ?_ | refine we_bin ?_ | refine wa_nil ?_ | refine wa_cons ?_ | refine we_lst ?_ | refine ws_cons ?_ | refine ws_ret ?_)
  refine ⟨by simp [big], ?_⟩
  repeat (first | refine we_sh rfl ?_ | with_reducible refine lf (mul_zero_list (α := α) (by omega)) ?_)
  rfl
theorem ev_lengths (u v : Vc α) : Ev 1 F_check_lengths [dv n u, dv n v] .non := by
  refine run_k fun k hk => run_ws (by decide) ⟨rfl, rfl⟩ ?_
  show WS _ t_check_lengths [.sh _, .sh _] _ _
  unfold t_check_lengths
  repeat (first | refine we_sh rfl ?_ | refine wa_nil ?_ | refine wa_cons ?_ | refine we_bi ?_ | refine wt_cmp ?_ | refine ws_cons ?_ | refine ws_ite ?_ | refine lf len_dv ?_ | refine lf ne_nat ?_)
  refine ⟨fun z => by simp at z, fun _ => ?_⟩
  repeat (first | refine ws_nil ?_)
  rfl
theorem ev_ckwords (F : FE α L fd) (u v : Vc α) (hn : n ≤ 1000) : Ev 3 F_check_words [.ins 0 fd, dv n u, dv n v] .non := by
  refine run_k fun k hk => run_ws (by decide) ⟨rfl, rfl⟩ ?_
  show WS _ t_check_words [.sh _, .sh _, .sh _] _ _
  unfold t_check_words
  repeat (first | refine we_sh rfl ?_ | refine wa_nil ?_ | refine wa_cons ?_ | refine we_call ?_ | refine we_bi ?_ | refine wt_or ?_ | refine wt_not ?_ | refine wtv ?_ | refine ws_cons ?_ | refine ws_exp ?_ | refine ws_ite ?_ | refine wt_val ?_ | refine lf (ev_lengths u v k (by omega)) ?_ | refine lf (ev_isword F u hn k (by omega)) ?_ | refine lf len_dv ?_)
  refine ⟨fun z => (by cases z), fun _ => ?_⟩
  repeat (first | refine we_sh rfl ?_ | refine wa_nil ?_ | refine wa_cons ?_ | refine we_call ?_ | refine we_bi ?_ | refine wt_not ?_ | refine wtv ?_ | refine wt_val ?_ | refine lf (ev_isword F v hn k (by omega)) ?_ | refine lf len_dv ?_)
  refine ⟨fun z => (by cases z), fun _ => ?_⟩
  repeat (first | refine ws_nil ?_)
  rfl
theorem ev_add (F : FE α L fd) (hL : 3 ≤ L) (u v : Vc α) (hn : n ≤ 1000) : Ev (L + 1) F_add_words [.ins 0 fd, dv n u, dv n v] (dv n (av u v)) := by
  refine run_k fun k hk => run_ws (by decide) ⟨rfl, rfl⟩ ?_
  show WS _ t_add_words [.sh _, .sh _, .sh _, .un, .un] _ _
  unfold t_add_words
  repeat (first | refine we_sh rfl ?_ | refine wa_nil ?_ | refine wa_cons ?_ | refine we_call ?_ | refine ws_cons ?_ | refine ws_exp ?_ | refine ws_ret ?_ | refine lf (ev_ckwords F u v hn k (by omega)) ?_)
  refine we_map rfl ?_
  repeat (first | refine we_sh rfl ?_ | refine wa_nil ?_ | refine wa_cons ?_ | refine ww_zip ?_)
  refine ⟨_, _, rfl, by simp, rfl, Nat, List.range n, fun i => .tup [ei (u i), ei (v i)], fun i => ei (av u v i), ?_, by simp [big]; omega, fun i hi => ⟨_, rfl, ?_⟩, rfl⟩
  · rw [List.zip_map', List.map_map]
    rfl
  · repeat (first | refine we_sh rfl ?_ | refine wa_nil ?_ | refine wa_cons ?_ | refine we_meth ?_ | refine lf (F.plus _ _ k hk) ?_ | refine ⟨rfl, ?_⟩)
    rfl
theorem ev_scale (F : FE α L fd) (hL : 3 ≤ L) (c : α) (v : Vc α) (hn : n ≤ 1000) : Ev (L + 1) F_scale_word [.ins 0 fd, ei c, dv n v] (dv n (sv c v)) := by
  refine run_k fun k hk => run_ws (by decide) ⟨rfl, rfl⟩ ?_
  show WS _ t_scale_word [.sh _, .sh _, .sh _, .un] _ _
  unfold t_scale_word
  repeat (first | refine we_sh rfl ?_ | refine we_int ?_ | refine wa_nil ?_ | refine wa_cons ?_ | refine we_call ?_ | refine we_lst ?_ | refine wt_or ?_ | refine wt_not ?_ | refine ws_cons ?_ | refine ws_ite ?_ | refine wt_val ?_)
  refine ⟨by simp [big], ?_⟩
  have h1 : runF k F_is_word [.ins 0 fd, .int 1, .lst [ei c]] = some (.bl true) := ev_isword (n := 1) F (fun _ => c) (by omega) k (by omega)
  repeat (first | refine wa_nil ?_ | refine wtv ?_ | with_reducible refine lf (h1) ?_)
  refine ⟨fun z => (by cases z), fun _ => ?_⟩
  repeat (first | refine we_sh rfl ?_ | refine wa_nil ?_ | refine wa_cons ?_ | refine we_call ?_ | refine we_bi ?_ | refine wt_not ?_ | refine wtv ?_ | refine wt_val ?_ | refine lf (ev_isword F v hn k (by omega)) ?_ | refine lf len_dv ?_)
  refine ⟨fun z => (by cases z), fun _ => ?_⟩
  repeat (first | refine ws_nil ?_ | refine ws_cons ?_ | refine ws_ret ?_)
  refine we_map rfl ?_
  repeat (first | refine we_sh rfl ?_ | refine ww_lst ?_)
  refine ⟨_, rfl, rfl, Nat, List.range n, fun i => ei (v i), fun i => ei (sv c v i), rfl, by simp [big]; omega, fun i hi => ⟨_, rfl, ?_⟩, rfl⟩
  repeat (first | refine we_sh rfl ?_ | refine wa_nil ?_ | refine wa_cons ?_ | refine we_meth ?_ | refine lf (F.times _ _ k hk) ?_ | refine ⟨rfl, ?_⟩)
  rfl
theorem ev_ckrows (F : FE α L fd) (rs : List (Vc α)) (hn : n ≤ 255) (h1 : 1 ≤ n) : Ev 3 F_check_rows [.ins 0 fd, ni n, dl n rs] .non := by
  refine run_k fun k hk => run_ws (by decide) ⟨rfl, rfl⟩ ?_
  show WS _ t_check_rows [.sh _, .sh _, .sh _, .un] _ _
  unfold t_check_rows
  have c1 : cmpD .le (.int 1) (ni n) = some true := by
    show some (decide ((1 : Int) ≤ (n : Int))) = _
    rw [decide_eq_true (by omega)]
  have c2 : cmpD .le (ni n) (.int (GG 2)) = some true := by
    show some (decide ((n : Int) ≤ 255)) = _
    rw [decide_eq_true (by omega)]
  repeat (first | refine we_sh rfl ?_ | refine we_int ?_ | refine wt_chain ?_ | refine wt_not ?_ | refine ws_cons ?_ | refine ws_ite ?_ | with_reducible refine lf (c1) ?_)
  refine ⟨fun z => (by cases z), fun _ => ?_⟩
  repeat (first | refine we_glb ?_ | with_reducible refine lf (c2) ?_)
  refine ⟨fun z => (by cases z), fun _ => ?_⟩
  repeat (first | refine ws_nil ?_ | refine ws_cons ?_)
  refine ws_forL ?_
  repeat (first | refine we_sh rfl ?_ | refine ww_lst ?_)
  refine ⟨_, rfl, rfl, Vc α, rs, dv n, fun _ ρ => ∃ y, ρ = [.sh (.ins 0 fd), .sh (ni n), .sh (dl n rs), y], rfl, ⟨.un, rfl⟩, ?_, ?_⟩
  · rintro ρ' ⟨y, rfl⟩
    repeat (first | refine ws_nil ?_)
    rfl
  · rintro pre x post ρ e ⟨y, rfl⟩
    refine ⟨_, rfl, ?_⟩
    repeat (first | refine we_sh rfl ?_ | refine wa_nil ?_ | refine wa_cons ?_ | refine we_call ?_ | refine wt_not ?_ | refine wtv ?_ | refine ws_cons ?_ | refine ws_ite ?_ | refine wt_val ?_ | refine lf (ev_isword F x (by omega) k (by omega)) ?_)
    refine ⟨fun z => (by cases z), fun _ => ?_⟩
    repeat (first | refine ws_nil ?_)
    exact ⟨_, rfl⟩
theorem ev_pow (b e : Nat) (hb : b < 2 ^ 64) (he : e < 2 ^ 62) : Ev 1 F_int_power [ni b, ni e] (ni (b ^ e)) := by
  refine run_k fun k hk => run_ws (by decide) ⟨rfl, rfl⟩ ?_
  show WS _ t_int_power [.sh _, .sh _, .un, .un] _ _
  unfold t_int_power
  repeat (first | refine we_int ?_ | refine ws_cons ?_ | refine ws_setV rfl ?_)
  refine ws_forR ?_
  repeat (first | refine we_sh rfl ?_ | refine wa_nil ?_ | refine wa_cons ?_ | refine ⟨rfl, ?_⟩)
  refine ⟨e, rfl, he, fun i ρ => ∃ y, ρ = [.sh (ni b), .sh (ni e), .sh (ni (b ^ i)), y], ⟨.un, rfl⟩, ?_, ?_⟩
  · rintro ρ' ⟨y, rfl⟩
    repeat (first | refine we_sh rfl ?_ | refine ws_cons ?_ | refine ws_ret ?_)
    rfl
  · rintro i ρ hi ⟨y, rfl⟩
    refine ⟨_, rfl, ?_⟩
    have h : opD .mul (ni (b ^ i)) (ni b) = some (ni (b ^ (i + 1))) := by
      have e : opD .mul (ni (b ^ i)) (ni b) = (if (-(2 ^ 64) < ((b ^ i : Nat) : Int) ∧ ((b ^ i : Nat) : Int) < 2 ^ 64) ∨ (-(2 ^ 64) < (b : Int) ∧ (b : Int) < 2 ^ 64) then some (D.int (((b ^ i : Nat) : Int) * (b : Int))) else none) := rfl
      rw [e, if_pos (.inr ⟨by omega, by omega⟩), Nat.pow_succ]
      simp
    repeat (first | refine we_sh rfl ?_ | refine we_bin ?_ | refine ws_nil ?_ | refine ws_cons ?_ | refine ws_setV rfl ?_ | with_reducible refine lf (h) ?_)
    exact ⟨_, rfl⟩
end
end MN
end S_MnSt
section S_MnSu
set_option maxRecDepth 100000
/-! Codes: how one is made, its words. -/
namespace MN
open LA
/-- a code: its length, its reduced rows and their pivots; the rows reduced again -/
structure CD (α : Type) [GF α] where
  n : Nat
  R : List (Vc α)
  P : List Nat
  S : List (Vc α)
  T : List Nat
def CD.obj {α : Type} [GF α] (fd : List D) (c : CD α) : D := .ins 1 [.ins 0 fd, ni c.n, ni c.R.length, dl c.n c.R, .lst (c.P.map ni), dl c.n (kerF c.n c.S c.T), ni (GF.q α ^ c.R.length)]
structure CD.Ok {α : Type} [GF α] (c : CD α) : Prop where
  rr : Rref c.n c.R c.P
  rs : Rref c.n c.S c.T
  sp : ∀ w, Span c.S w ↔ Span c.R w
  pos : 1 ≤ c.n
  le : c.n ≤ 16
section
variable {α : Type} [GF α] {n m L : Nat} {fd : List D}
theorem rl_of (rs : List (Vc α)) : ∃ W : Nat → Vc α, rl rs.length W = rs := by
  refine ⟨fun i => rs.getD i zv, ?_⟩
  apply List.ext_getElem?
  intro i
  unfold rl
  rw [List.getElem?_map]
  by_cases h : i < rs.length
  · rw [List.getElem?_range h]
    simp [h]
  · rw [List.getElem?_eq_none (by simp; omega), List.getElem?_eq_none (by omega)]
    rfl
theorem piv_len {R : List (Vc α)} {P : List Nat} (h : Rref n R P) : P.length ≤ n := by
  have nd : P.Nodup := h.piv_inc.imp fun h => Nat.ne_of_lt h
  have := sub_len nd (l1 := List.range n) fun p hp => List.mem_range.mpr (h.piv_lt p hp)
  simpa using this
theorem ev_code (F : FE α L fd) (hL : 3 ≤ L) (rs : List (Vc α)) (hs : ∀ r ∈ rs, ∀ x, n ≤ x → r x = 0) (h1 : 1 ≤ n) (hn : n ≤ 16) (hr : rs.length ≤ 1000) : ∃ c : CD α, c.n = n ∧ c.Ok ∧ (∀ w, Span c.R w ↔ Span rs w) ∧ Ev (L + 4) F_LinearCode_init [.ins 0 fd, ni n, dl n rs] (c.obj fd) := by
  obtain ⟨x0, x1, x2, rfl⟩ := F.shp
  obtain ⟨W, hW⟩ := rl_of rs
  generalize hm : rs.length = m at hW hr
  subst hW
  have hs : ∀ i, i < m → ∀ x, n ≤ x → W i x = 0 := fun i hi => hs _ (mem_rl.mpr ⟨i, hi, rfl⟩)
  have er := ev_reduce F (by omega) W hs (by omega) hr
  obtain ⟨a1, a2, a3⟩ := redF_ok hs (n := n) (m := m)
  generalize redF m n W = st at er a1 a2 a3
  obtain ⟨V, P⟩ := st
  have a1 : Rref n (rl P.length V) P := a1
  have a2 : ∀ w, Span (rl P.length V) w ↔ Span (rl m W) w := a2
  have a3 : P.length ≤ m := a3
  have hs2 : ∀ i, i < P.length → ∀ x, n ≤ x → V i x = 0 := fun i hi => a1.sup _ (mem_rl.mpr ⟨i, hi, rfl⟩)
  have ek := ev_kernel F (by omega) V hs2 (by omega) (show P.length ≤ 1000 by omega)
  obtain ⟨b1, b2, b3⟩ := redF_ok hs2 (n := n) (m := P.length)
  generalize redF P.length n V = st2 at ek b1 b2 b3
  obtain ⟨V2, P2⟩ := st2
  refine ⟨⟨n, rl P.length V, P, rl P2.length V2, P2⟩, rfl, ⟨a1, b1, b2, h1, hn⟩, a2, ?_⟩
  have hP : P.length ≤ n := piv_len a1
  refine run_k fun k hk => run_in_ws rfl rfl ?_
  show WS _ t_LinearCode_init [Sl.ob 1 [], .sh (.ins 0 _), .sh (ni n), .sh (dl n (rl m W)), .un, .un] _ _
  unfold t_LinearCode_init
  have er := er k (by omega)
  have ek := ek k (by omega)
  have ec := ev_ckrows F (rl m W) (show n ≤ 255 by omega) h1 k (by omega)
  have ep := ev_pow (GF.q α) P.length (by have := F.small; omega) (by omega) k (by omega)
  repeat (first | refine we_sh rfl ?_ | refine wa_nil ?_ | refine wa_cons ?_ | refine we_call ?_ | refine ws_cons ?_ | refine ws_unp ?_ | refine ws_exp ?_ | with_reducible refine lf (ec) ?_ | with_reducible refine lf (er) ?_)
  refine ⟨_, _, rfl, rfl, ?_⟩
  repeat (first | refine we_sh rfl ?_ | refine wa_nil ?_ | refine wa_cons ?_ | refine we_call ?_ | refine we_bi ?_ | refine we_fldN rfl rfl ?_ | refine fs_ok rfl rfl rfl ?_ | refine ws_nil ?_ | refine ws_cons ?_ | refine ws_fset ?_ | with_reducible refine lf (len_rl) ?_ | with_reducible refine lf (ek) ?_ | with_reducible refine lf (ep) ?_ | refine ⟨rfl, ?_⟩)
  refine ⟨_, rfl, rfl, ?_⟩
  show D.ins 1 [_, _, ni (rl P.length V).length, _, _, _, ni (GF.q α ^ (rl P.length V).length)] = _
  have : (rl P.length V).length = P.length := by simp [rl]
  rw [this]
  rfl
theorem ev_rows (c : CD α) (h : c.R.length ≤ 1000) : Ev 1 F_LinearCode_rows [c.obj fd] (dl c.n c.R) := by
  refine run_k fun k hk => run_ws (by decide) ⟨rfl, rfl⟩ ?_
  show WS _ t_LinearCode_rows [.sh (.ins 1 _), .un] _ _
  unfold t_LinearCode_rows
  repeat (first | refine ws_cons ?_ | refine ws_ret ?_)
  refine we_map rfl ?_
  repeat (first | refine we_fldN rfl rfl ?_ | refine ww_lst ?_)
  refine ⟨_, rfl, rfl, Vc α, c.R, dv c.n, dv c.n, rfl, by simp [big]; omega, fun v hv => ⟨_, rfl, ?_⟩, rfl⟩
  repeat (first | refine we_sh rfl ?_ | refine wa_nil ?_ | refine wa_cons ?_ | refine we_bi ?_ | refine ⟨rfl, ?_⟩ | refine lf rfl ?_)
  rfl
theorem ev_checks (c : CD α) (h : c.n ≤ 1000) : Ev 1 F_LinearCode_checks [c.obj fd] (dl c.n (kerF c.n c.S c.T)) := by
  refine run_k fun k hk => run_ws (by decide) ⟨rfl, rfl⟩ ?_
  show WS _ t_LinearCode_checks [.sh (.ins 1 _), .un] _ _
  unfold t_LinearCode_checks
  repeat (first | refine ws_cons ?_ | refine ws_ret ?_)
  refine we_map rfl ?_
  repeat (first | refine we_fldN rfl rfl ?_ | refine ww_lst ?_)
  have hl : (kerF c.n c.S c.T).length ≤ c.n := by
    unfold kerF kcols
    have := List.length_filter_le (fun z => !c.T.contains z) (List.range c.n)
    simp at this ⊢
    omega
  refine ⟨_, rfl, rfl, Vc α, kerF c.n c.S c.T, dv c.n, dv c.n, rfl, by simp [big]; omega, fun v hv => ⟨_, rfl, ?_⟩, rfl⟩
  repeat (first | refine we_sh rfl ?_ | refine wa_nil ?_ | refine wa_cons ?_ | refine we_bi ?_ | refine ⟨rfl, ?_⟩ | refine lf rfl ?_)
  rfl
theorem ev_ckword (F : FE α L fd) (c : CD α) (h : c.n ≤ 1000) (v : Vc α) : Ev 3 F_LinearCode_check_word [c.obj fd, dv c.n v] .non := by
  refine run_k fun k hk => run_ws (by decide) ⟨rfl, rfl⟩ ?_
  show WS _ t_LinearCode_check_word [.sh (.ins 1 _), .sh _] _ _
  unfold t_LinearCode_check_word
  repeat (first | refine we_sh rfl ?_ | refine wa_nil ?_ | refine wa_cons ?_ | refine we_call ?_ | refine we_fldN rfl rfl ?_ | refine wt_not ?_ | refine wtv ?_ | refine ws_cons ?_ | refine ws_ite ?_ | refine wt_val ?_ | refine lf (ev_isword F v h k (by omega)) ?_)
  refine ⟨fun z => (by cases z), fun _ => ?_⟩
  repeat (first | refine ws_nil ?_)
  rfl
theorem ker_len (c : CD α) : (kerF c.n c.S c.T).length ≤ c.n := by
  unfold kerF kcols
  have := List.length_filter_le (fun z => !c.T.contains z) (List.range c.n)
  simp at this ⊢
  omega
theorem ev_syn (F : FE α L fd) (hL : 3 ≤ L) (c : CD α) (h : c.n ≤ 1000) (v : Vc α) : Ev (L + 3) F_LinearCode_syndrome [c.obj fd, dv c.n v] (.lst ((kerF c.n c.S c.T).map fun r => ei (dot c.n r v))) := by
  refine run_k fun k hk => run_ws (by decide) ⟨rfl, rfl⟩ ?_
  show WS _ t_LinearCode_syndrome [.sh (.ins 1 _), .sh _] _ _
  unfold t_LinearCode_syndrome
  have hl := ker_len c
  have e1 := ev_ckword F c h v k (by omega)
  have e2 := ev_mv F (by omega) (kerF c.n c.S c.T) v h (by omega) k (by omega)
  repeat (first | refine we_sh rfl ?_ | refine wa_nil ?_ | refine wa_cons ?_ | refine we_call ?_ | refine we_meth ?_ | refine we_fldN rfl rfl ?_ | refine ws_cons ?_ | refine ws_exp ?_ | refine ws_ret ?_ | with_reducible refine lf (e2) ?_ | refine lf (e1) ?_)
  rfl
/-- the code has the words that the checks kill -/
theorem ev_contains (F : FE α L fd) (hL : 3 ≤ L) (c : CD α) (ok : c.Ok) (v : Vc α) (hv : Span c.R v) : Ev (L + 4) F_LinearCode_contains [c.obj fd, dv c.n v] (.bl true) := by
  refine run_k fun k hk => run_ws (by decide) ⟨rfl, rfl⟩ ?_
  show WS _ t_LinearCode_contains [.sh (.ins 1 _), .sh _, .un] _ _
  unfold t_LinearCode_contains
  have e2 := ev_syn F hL c (by have := ok.le; omega) v k (by omega)
  repeat (first | refine ws_cons ?_)
  refine ws_forL ?_
  repeat (first | refine we_sh rfl ?_ | refine wa_nil ?_ | refine wa_cons ?_ | refine we_meth ?_ | refine ww_lst ?_ | refine lf (e2) ?_)
  refine ⟨_, rfl, rfl, Vc α, kerF c.n c.S c.T, fun r => ei (dot c.n r v), fun _ ρ => ∃ y, ρ = [.sh (c.obj fd), .sh (dv c.n v), y], rfl, ⟨.un, rfl⟩, ?_, ?_⟩
  · rintro ρ' ⟨y, rfl⟩
    repeat (first | refine we_bl ?_ | refine ws_cons ?_ | refine ws_ret ?_)
    rfl
  · rintro pre x post ρ e ⟨y, rfl⟩
    have hx : dot c.n x v = 0 := by
      have hm : x ∈ kerF c.n c.S c.T := by rw [e]; simp
      exact (ok.sp v |>.mpr hv).orth fun r hr => by
        rw [dot_comm]
        exact ker_orth ok.rs (.mem hm) r hr
    refine ⟨_, rfl, ?_⟩
    show WS _ _ [.sh _, .sh _, .sh (ei (dot c.n x v))] _ _
    rw [hx]
    repeat (first | refine we_sh rfl ?_ | refine we_int ?_ | refine wt_cmp ?_ | refine ws_cons ?_ | refine ws_ite ?_ | refine lf ne0 ?_)
    refine ⟨fun z => by simp at z, fun _ => ?_⟩
    repeat (first | refine ws_nil ?_)
    exact ⟨_, rfl⟩
theorem append_map {β : Type} {f : β → D} {xs : List β} {x : β} : xs.map f ++ [f x] = (xs ++ [x]).map f := by simp
theorem ev_words (F : FE α L fd) (hL : 3 ≤ L) (c : CD α) (ok : c.Ok) (hq : GF.q α ^ c.R.length ≤ 4096) : Ev (L + 2) F_LinearCode_words [c.obj fd] (dl c.n (wordsF c.R)) := by
  refine run_k fun k hk => run_ws (by decide) ⟨rfl, rfl⟩ ?_
  show WS _ t_LinearCode_words [.sh (c.obj fd), .un, .un, .un, .un, .un, .un] _ _
  unfold t_LinearCode_words
  obtain ⟨y0, y1, y2, rfl⟩ := F.shp
  have hn := ok.le
  have q2 := GF.two (α := α)
  have c1 : cmpD .gt (ni (GF.q α ^ c.R.length)) (.int (GG 3)) = some false := by
    show some (decide ((4096 : Int) < ((GF.q α ^ c.R.length : Nat) : Int))) = _
    rw [decide_eq_false (by omega)]
  repeat (first | refine we_glb ?_ | refine we_fldN rfl rfl ?_ | refine wt_cmp ?_ | refine ws_cons ?_ | refine ws_ite ?_ | with_reducible refine lf (c1) ?_)
  refine ⟨fun z => (by cases z), fun _ => ?_⟩
  repeat (first | refine wa_nil ?_ | refine wa_cons ?_ | refine we_call ?_ | refine we_fldN rfl rfl ?_ | refine we_lst ?_ | refine ws_nil ?_ | refine ws_cons ?_ | refine ws_setV rfl ?_ | refine lf (ev_zero (α := α) (show c.n ≤ 1000 by omega) k (by omega)) ?_)
  refine ⟨by simp [big], ?_⟩
  repeat (first | refine ws_cons ?_)
  refine ws_forL ?_
  repeat (first | refine wa_nil ?_ | refine wa_cons ?_ | refine we_fldN rfl rfl ?_ | refine ww_rev ?_)
  refine ⟨_, rfl, rfl, Vc α, c.R.reverse, dv c.n, fun pre ρ => ∃ x1 x2 x3 x4 x5 x6, ρ = [.sh (c.obj [y0, y1, y2, ni (GF.q α)]), x1, x2, x3, x4, x5, x6] ∧ (x1 = .sh (dl c.n (wordsF pre.reverse)) ∨ x1 = .ow ((wordsF pre.reverse).map (dv c.n))), by rw [List.map_reverse], ⟨_, _, _, _, _, _, rfl, .inr rfl⟩, ?_, ?_⟩
  · rintro ρ' ⟨x1, x2, x3, x4, x5, x6, rfl, h⟩
    rw [List.reverse_reverse] at h
    rcases h with rfl | rfl
    · repeat (first | refine we_sh rfl ?_ | refine ws_cons ?_ | refine ws_ret ?_)
      rfl
    · repeat (first | refine we_ow rfl ?_ | refine ws_cons ?_ | refine ws_ret ?_)
      rfl
  · rintro pre r post ρ e ⟨x1, x2, x3, x4, x5, x6, rfl, h⟩
    have hq2 : (wordsF (pre ++ [r]).reverse).length ≤ 4096 := by
      rw [wordsF_len]
      refine Nat.le_trans (Nat.pow_le_pow_right (by omega) ?_) hq
      have := congrArg List.length e
      simp at this ⊢
      omega
    have er : (pre ++ [r]).reverse = r :: pre.reverse := by simp
    rw [er] at hq2
    simp only [er]
    generalize pre.reverse = Q at h hq2 ⊢
    clear e er
    have w0 : (wordsF Q).length ≤ 4096 := by
      rw [wordsF_len] at hq2 ⊢
      exact Nat.le_trans (Nat.pow_le_pow_right (by omega) (by simp)) hq2
    refine ⟨_, rfl, ?_⟩
    repeat (first | refine wa_nil ?_ | refine we_lst ?_ | refine ws_cons ?_ | refine ws_setV rfl ?_)
    refine ⟨by simp [big], ?_⟩
    repeat (first | refine ws_cons ?_)
    refine ws_forR ?_
    repeat (first | refine wa_nil ?_ | refine wa_cons ?_ | refine we_fldN rfl rfl ?_ | refine we_fld2 ?_ | refine f2_ok rfl ?_ | refine ⟨rfl, ?_⟩)
    refine ⟨GF.q α, rfl, by have := F.small; omega, fun i ρ => ∃ x1 x4 x5 x6, ρ = [.sh (c.obj [y0, y1, y2, ni (GF.q α)]), x1, .sh (dv c.n r), .ow (((List.range i).flatMap fun f => (wordsF Q).map fun w => av (sv (GF.el f) r) w).map (dv c.n)), x4, x5, x6] ∧ (x1 = .sh (dl c.n (wordsF Q)) ∨ x1 = .ow ((wordsF Q).map (dv c.n))), ⟨x1, x4, x5, x6, rfl, h⟩, ?_, ?_⟩
    · rintro ρ' ⟨x1, x4, x5, x6, rfl, h⟩
      rcases h with rfl | rfl
      · repeat (first | refine we_ow rfl ?_ | refine ws_nil ?_ | refine ws_cons ?_ | refine ws_setV rfl ?_)
        exact ⟨_, _, _, _, _, _, rfl, .inl rfl⟩
      · repeat (first | refine we_ow rfl ?_ | refine ws_nil ?_ | refine ws_cons ?_ | refine ws_setV rfl ?_)
        exact ⟨_, _, _, _, _, _, rfl, .inl rfl⟩
    · rintro i ρ hi ⟨x1, x4, x5, x6, rfl, h⟩
      have hfac : ni i = ei (GF.el i : α) := by
        show D.int _ = D.int _
        rw [GF.no_el i hi]
      have es := ev_scale F hL (GF.el i) r (show c.n ≤ 1000 by omega) k (by omega)
      rw [← hfac] at es
      generalize hA : ((List.range i).flatMap fun f => (wordsF Q).map fun w => av (sv (GF.el f) r) w) = A
      have hA2 : ((List.range (i + 1)).flatMap fun f => (wordsF Q).map fun w => av (sv (GF.el f) r) w) = A ++ (wordsF Q).map fun w => av (sv (GF.el i) r) w := by
        rw [List.range_succ, List.flatMap_append, hA]
        simp
      have hAl : (A ++ (wordsF Q).map fun w => av (sv (GF.el i) r) w).length ≤ 4096 := by
        rw [← hA2]
        refine Nat.le_trans ?_ hq2
        have e : List.range (GF.q α) = List.range (i + 1) ++ (List.range (GF.q α - (i + 1))).map (i + 1 + ·) := by
          rw [← List.range_add]; congr 1; omega
        show _ ≤ (List.flatMap _ (List.range (GF.q α))).length
        rw [e, List.flatMap_append, List.length_append]
        exact Nat.le_add_right _ _
      simp only [hA2]
      refine ⟨_, rfl, ?_⟩
      have fin : ∀ ρ' : En, (fun (pre : List (Vc α)) (ρ : En) => ∃ x6, ρ = [.sh (c.obj [y0, y1, y2, ni (GF.q α)]), .sh (dl c.n (wordsF Q)), .sh (dv c.n r), .ow ((A ++ pre.map fun w => av (sv (GF.el i) r) w).map (dv c.n)), .sh (ni i), .sh (dv c.n (sv (GF.el i) r)), x6]) (wordsF Q) ρ' → ∃ x1 x4 x5 x6, ρ' = [.sh (c.obj [y0, y1, y2, ni (GF.q α)]), x1, .sh (dv c.n r), .ow ((A ++ (wordsF Q).map fun w => av (sv (GF.el i) r) w).map (dv c.n)), x4, x5, x6] ∧ (x1 = .sh (dl c.n (wordsF Q)) ∨ x1 = .ow ((wordsF Q).map (dv c.n))) := by
        rintro ρ' ⟨x6, rfl⟩
        exact ⟨_, _, _, _, rfl, .inl rfl⟩
      have body : ∀ (pre : List (Vc α)) (w : Vc α) (post : List (Vc α)) (ρ : En), wordsF Q = pre ++ w :: post → (∃ x6, ρ = [.sh (c.obj [y0, y1, y2, ni (GF.q α)]), .sh (dl c.n (wordsF Q)), .sh (dv c.n r), .ow ((A ++ pre.map fun w => av (sv (GF.el i) r) w).map (dv c.n)), .sh (ni i), .sh (dv c.n (sv (GF.el i) r)), x6]) → ∃ ρ1, (Tg.one 6).put ρ (dv c.n w) = some ρ1 ∧ WS (runF k) (.cons (.app 3 (.call 36 (.cons (.fld 1 0 (.nm 0)) (.cons (.nm 5) (.cons (.nm 6) .nil))))) .nil) ρ1 (fun ρ' => ∃ x6, ρ' = [.sh (c.obj [y0, y1, y2, ni (GF.q α)]), .sh (dl c.n (wordsF Q)), .sh (dv c.n r), .ow ((A ++ (pre ++ [w]).map fun w => av (sv (GF.el i) r) w).map (dv c.n)), .sh (ni i), .sh (dv c.n (sv (GF.el i) r)), x6]) fun r => r = dl c.n (wordsF c.R) := by
        rintro pre w post ρ e ⟨x6, rfl⟩
        refine ⟨_, rfl, ?_⟩
        repeat (first | refine we_sh rfl ?_ | refine wa_nil ?_ | refine wa_cons ?_ | refine we_call ?_ | refine we_fldN rfl rfl ?_ | refine ws_cons ?_ | refine ws_appV ?_ | refine lf (ev_add F hL (sv (GF.el i) r) w (show c.n ≤ 1000 by omega) k (by omega)) ?_ | refine ⟨rfl, ?_⟩)
        refine ⟨_, rfl, ?_, ?_⟩
        · have := congrArg List.length e
          simp [big] at this hAl ⊢
          omega
        repeat (first | refine ws_nil ?_)
        refine ⟨.sh (dv c.n w), ?_⟩
        have e9 : (A ++ pre.map fun w => av (sv (GF.el i) r) w) ++ [av (sv (GF.el i) r) w] = A ++ (pre ++ [w]).map fun w => av (sv (GF.el i) r) w := by simp
        rw [append_map, e9]
        rfl
      have hz : ∀ ρ : En, ρ = [.sh (c.obj [y0, y1, y2, ni (GF.q α)]), .sh (dl c.n (wordsF Q)), .sh (dv c.n r), .ow (A.map (dv c.n)), .sh (ni i), .sh (dv c.n (sv (GF.el i) r)), x6] → ∃ x6, ρ = [.sh (c.obj [y0, y1, y2, ni (GF.q α)]), .sh (dl c.n (wordsF Q)), .sh (dv c.n r), .ow ((A ++ ([] : List (Vc α)).map fun w => av (sv (GF.el i) r) w).map (dv c.n)), .sh (ni i), .sh (dv c.n (sv (GF.el i) r)), x6] := fun ρ e => ⟨x6, by rw [e]; simp⟩
      rcases h with rfl | rfl
      · repeat (first | refine we_sh rfl ?_ | refine wa_nil ?_ | refine wa_cons ?_ | refine we_call ?_ | refine we_fldN rfl rfl ?_ | refine ws_cons ?_ | refine ws_setV rfl ?_ | with_reducible refine lf (es) ?_)
        refine ws_forL ?_
        repeat (first | refine we_sh rfl ?_ | refine ww_lst ?_)
        exact ⟨_, rfl, rfl, Vc α, wordsF Q, dv c.n, fun pre ρ => ∃ x6, ρ = [.sh (c.obj [y0, y1, y2, ni (GF.q α)]), .sh (dl c.n (wordsF Q)), .sh (dv c.n r), .ow ((A ++ pre.map fun w => av (sv (GF.el i) r) w).map (dv c.n)), .sh (ni i), .sh (dv c.n (sv (GF.el i) r)), x6], rfl, hz _ rfl, fun ρ' h => ws_nil (fin ρ' h), body⟩
      · repeat (first | refine we_sh rfl ?_ | refine wa_nil ?_ | refine wa_cons ?_ | refine we_call ?_ | refine we_fldN rfl rfl ?_ | refine ws_cons ?_ | refine ws_setV rfl ?_ | with_reducible refine lf (es) ?_)
        refine ws_forLG ?_
        repeat (first | refine we_ow rfl ?_ | refine ww_lst ?_)
        exact ⟨_, rfl, Vc α, wordsF Q, dv c.n, fun pre ρ => ∃ x6, ρ = [.sh (c.obj [y0, y1, y2, ni (GF.q α)]), .sh (dl c.n (wordsF Q)), .sh (dv c.n r), .ow ((A ++ pre.map fun w => av (sv (GF.el i) r) w).map (dv c.n)), .sh (ni i), .sh (dv c.n (sv (GF.el i) r)), x6], rfl, hz _ rfl, fun ρ' h => ws_nil (fin ρ' h), body⟩
end
end MN
end S_MnSu
section S_MnSv
set_option maxRecDepth 100000
/-! Counting: signs, binomials, powers; enumerators. -/
namespace MN
open LA
def sumZ (f : Nat → Int) : Nat → Int
  | 0 => 0
  | n + 1 => sumZ f n + f n
theorem add_nat {a b : Nat} : opD .add (ni a) (ni b) = some (ni (a + b)) := by
  show some (D.int ((a : Int) + (b : Int))) = _
  rw [← Int.natCast_add]
theorem add1 {a : Nat} : opD .add (ni a) (.int 1) = some (ni (a + 1)) := add_nat (b := 1)
theorem sub_nat {a b : Nat} (h : b ≤ a) : opD .sub (ni a) (ni b) = some (ni (a - b)) := by
  show some (D.int ((a : Int) - (b : Int))) = _
  rw [← Int.natCast_sub h]
theorem sub1 {a : Nat} (h : 1 ≤ a) : opD .sub (ni a) (.int 1) = some (ni (a - 1)) := sub_nat (b := 1) h
theorem mul_l {i j : Int} (h1 : -(2 ^ 64) < i) (h2 : i < 2 ^ 64) : opD .mul (.int i) (.int j) = some (.int (i * j)) := by
  have e : opD .mul (.int i) (.int j) = (if (-(2 ^ 64) < i ∧ i < 2 ^ 64) ∨ (-(2 ^ 64) < j ∧ j < 2 ^ 64) then some (D.int (i * j)) else none) := rfl
  rw [e, if_pos (.inl ⟨h1, h2⟩)]
theorem mul_r {i j : Int} (h1 : -(2 ^ 64) < j) (h2 : j < 2 ^ 64) : opD .mul (.int i) (.int j) = some (.int (i * j)) := by
  have e : opD .mul (.int i) (.int j) = (if (-(2 ^ 64) < i ∧ i < 2 ^ 64) ∨ (-(2 ^ 64) < j ∧ j < 2 ^ 64) then some (D.int (i * j)) else none) := rfl
  rw [e, if_pos (.inr ⟨h1, h2⟩)]
/-- binomials of small numbers -/
def cb (a b : Nat) : Int := combI a b
theorem cb_small : ∀ a, a < 9 → ∀ b, b < 9 → 0 ≤ cb a b ∧ cb a b ≤ 70 := by decide +kernel
theorem comb_nat {a b : Nat} (h : a ≤ 9000) : biD .comb [ni a, ni b] = some (.int (cb a b)) := by
  show (if 0 ≤ (a : Int) ∧ 0 ≤ (b : Int) ∧ (a : Int) ≤ 9000 then some (D.int (combI a b)) else none) = _
  rw [if_pos ⟨by omega, by omega, by omega⟩]
  rfl
def sg (k : Nat) : Int := 1 - 2 * ((k : Int) % 2)
theorem ev_sign (j : Nat) : Ev 1 F_sign_of [ni j] (.int (sg j)) := by
  refine run_k fun k hk => run_ws (by decide) ⟨rfl, rfl⟩ ?_
  show WS _ t_sign_of [.sh _] _ _
  unfold t_sign_of
  have h1 : opD .mod (ni j) (.int 2) = some (.int ((j : Int) % 2)) := rfl
  repeat (first | refine we_sh rfl ?_ | refine we_int ?_ | refine we_bin ?_ | refine ws_cons ?_ | refine ws_ret ?_ | with_reducible refine lf (h1) ?_ | with_reducible refine lf (mul_l (by decide) (by decide)) ?_ | refine lf rfl ?_)
  rfl
/-- Krawtchouk's sum -/
def kraw (q n x k : Nat) : Int := sumZ (fun j => sg j * (cb x j * cb (n - x) (k - j)) * (((q - 1) ^ (k - j) : Nat) : Int)) (k + 1)
theorem pow_small {b e : Nat} (hb : b ≤ 15) (he : e ≤ 8) : b ^ e ≤ 2562890625 := Nat.le_trans (Nat.pow_le_pow_left hb e) (Nat.pow_le_pow_right (by decide) he)
theorem ev_kraw (q n x k0 : Nat) (hq : 1 ≤ q) (hq2 : q ≤ 16) (hn : n ≤ 8) (hx : x ≤ n) (hk0 : k0 ≤ n) : Ev 2 F_krawtchouk [ni q, ni n, ni k0, ni x] (.int (kraw q n x k0)) := by
  refine run_k fun k hk => run_ws (by decide) ⟨rfl, rfl⟩ ?_
  show WS _ t_krawtchouk [.sh _, .sh _, .sh _, .sh _, .un, .un, .un] _ _
  unfold t_krawtchouk
  repeat (first | refine we_int ?_ | refine ws_cons ?_ | refine ws_setV rfl ?_)
  refine ws_forR ?_
  repeat (first | refine we_sh rfl ?_ | refine we_int ?_ | refine we_bin ?_ | refine wa_nil ?_ | refine wa_cons ?_ | with_reducible refine lf (add1) ?_ | refine ⟨rfl, ?_⟩)
  refine ⟨k0 + 1, rfl, by omega, fun i ρ => ∃ y z, ρ = [.sh (ni q), .sh (ni n), .sh (ni k0), .sh (ni x), .sh (.int (sumZ (fun j => sg j * (cb x j * cb (n - x) (k0 - j)) * (((q - 1) ^ (k0 - j) : Nat) : Int)) i)), y, z], ⟨.un, .un, rfl⟩, ?_, ?_⟩
  · rintro ρ' ⟨y, z, rfl⟩
    repeat (first | refine we_sh rfl ?_ | refine ws_cons ?_ | refine ws_ret ?_)
    rfl
  · rintro j ρ hj ⟨y, z, rfl⟩
    refine ⟨_, rfl, ?_⟩
    obtain ⟨c1, c2⟩ := cb_small x (by omega) j (by omega)
    have c3 := pow_small (b := q - 1) (e := k0 - j) (by omega) (by omega)
    have m1 : opD .mul (.int (cb x j)) (.int (cb (n - x) (k0 - j))) = some (.int (cb x j * cb (n - x) (k0 - j))) := mul_l (by omega) (by omega)
    have m2 : opD .mul (.int (sg j)) (.int (cb x j * cb (n - x) (k0 - j))) = some (.int (sg j * (cb x j * cb (n - x) (k0 - j)))) := mul_l (by unfold sg; omega) (by unfold sg; omega)
    have m3 : opD .mul (.int (sg j * (cb x j * cb (n - x) (k0 - j)))) (ni ((q - 1) ^ (k0 - j))) = some (.int (sg j * (cb x j * cb (n - x) (k0 - j)) * (((q - 1) ^ (k0 - j) : Nat) : Int))) := mul_r (by omega) (by omega)
    repeat (first | refine we_sh rfl ?_ | refine we_int ?_ | refine we_bin ?_ | refine wa_nil ?_ | refine wa_cons ?_ | refine we_call ?_ | refine we_bi ?_ | refine ws_nil ?_ | refine ws_cons ?_ | refine ws_setV rfl ?_ | with_reducible refine lf (comb_nat (show x ≤ 9000 by omega)) ?_ | with_reducible refine lf (sub_nat hx) ?_ | with_reducible refine lf (sub_nat (show j ≤ k0 by omega)) ?_ | with_reducible refine lf (comb_nat (show n - x ≤ 9000 by omega)) ?_ | with_reducible refine lf (m1) ?_ | with_reducible refine lf (m2) ?_ | with_reducible refine lf (sub1 hq) ?_ | with_reducible refine lf (m3) ?_ | refine lf (ev_sign j k (by omega)) ?_ | refine lf (ev_pow (q - 1) (k0 - j) (by omega) (by omega) k (by omega)) ?_ | refine lf rfl ?_)
    exact ⟨_, _, rfl⟩
theorem ev_wow (q n w : Nat) (hq : 1 ≤ q) (hq2 : q ≤ 16) (hn : n ≤ 8) (hw : w ≤ n) : Ev 2 F_words_of_weight [ni q, ni n, ni w] (.int (cb n w * (((q - 1) ^ w : Nat) : Int))) := by
  refine run_k fun k hk => run_ws (by decide) ⟨rfl, rfl⟩ ?_
  show WS _ t_words_of_weight [.sh _, .sh _, .sh _] _ _
  unfold t_words_of_weight
  obtain ⟨c1, c2⟩ := cb_small n (by omega) w (by omega)
  have m1 : opD .mul (.int (cb n w)) (ni ((q - 1) ^ w)) = some (.int (cb n w * (((q - 1) ^ w : Nat) : Int))) := mul_l (by omega) (by omega)
  repeat (first | refine we_sh rfl ?_ | refine we_int ?_ | refine we_bin ?_ | refine wa_nil ?_ | refine wa_cons ?_ | refine we_call ?_ | refine we_bi ?_ | refine ws_cons ?_ | refine ws_ret ?_ | with_reducible refine lf (comb_nat (show n ≤ 9000 by omega)) ?_ | with_reducible refine lf (sub1 hq) ?_ | with_reducible refine lf (m1) ?_ | refine lf (ev_pow (q - 1) w (by omega) (by omega) k (by omega)) ?_)
  rfl
def wwF (q n r : Nat) : Int := sumZ (fun w => cb n w * (((q - 1) ^ w : Nat) : Int)) (min r n + 1)
theorem ev_within (q n r : Nat) (hq : 1 ≤ q) (hq2 : q ≤ 16) (hn : n ≤ 8) : Ev 3 F_words_within [ni q, ni n, ni r] (.int (wwF q n r)) := by
  refine run_k fun k hk => run_ws (by decide) ⟨rfl, rfl⟩ ?_
  show WS _ t_words_within [.sh _, .sh _, .sh _, .un, .un] _ _
  unfold t_words_within
  have hm : biD .min2 [ni r, ni n] = some (ni (min r n)) := by
    show some (D.int (if (n : Int) < (r : Int) then (n : Int) else (r : Int))) = _
    by_cases h : n < r
    · rw [if_pos (by omega), Nat.min_eq_right (by omega)]
    · rw [if_neg (by omega), Nat.min_eq_left (by omega)]
  have hmn : min r n ≤ n := Nat.min_le_right r n
  unfold wwF
  generalize min r n = t at hm hmn ⊢
  repeat (first | refine we_int ?_ | refine ws_cons ?_ | refine ws_setV rfl ?_)
  refine ws_forR ?_
  repeat (first | refine we_sh rfl ?_ | refine we_int ?_ | refine we_bin ?_ | refine wa_nil ?_ | refine wa_cons ?_ | refine we_bi ?_ | with_reducible refine lf (hm) ?_ | with_reducible refine lf (add1) ?_ | refine ⟨rfl, ?_⟩)
  refine ⟨t + 1, rfl, by omega, fun i ρ => ∃ y, ρ = [.sh (ni q), .sh (ni n), .sh (ni r), .sh (.int (sumZ (fun w => cb n w * (((q - 1) ^ w : Nat) : Int)) i)), y], ⟨.un, rfl⟩, ?_, ?_⟩
  · rintro ρ' ⟨y, rfl⟩
    repeat (first | refine we_sh rfl ?_ | refine ws_cons ?_ | refine ws_ret ?_)
    rfl
  · rintro i ρ hi ⟨y, rfl⟩
    refine ⟨_, rfl, ?_⟩
    repeat (first | refine we_sh rfl ?_ | refine we_bin ?_ | refine wa_nil ?_ | refine wa_cons ?_ | refine we_call ?_ | refine ws_nil ?_ | refine ws_cons ?_ | refine ws_setV rfl ?_ | refine lf (ev_wow q n i hq hq2 hn (by omega) k (by omega)) ?_ | refine lf rfl ?_)
    exact ⟨_, rfl⟩
theorem tab_set {m i : Nat} {f : Nat → D} {d : D} : ((List.range m).map f).set i d = (List.range m).map fun j => if j = i then d else f j := by
  apply List.ext_getElem?
  intro j
  rw [List.getElem?_set]
  simp only [List.length_map, List.length_range, List.getElem?_map]
  by_cases h : j < m
  · rw [List.getElem?_range h]
    by_cases e : i = j
    · subst e
      rw [if_pos rfl, if_pos h]
      simp
    · rw [if_neg e]
      simp
      intro z
      exact absurd z.symm e
  · rw [List.getElem?_eq_none (l := List.range m) (by simp; omega)]
    by_cases e : i = j
    · rw [if_pos e, if_neg (by omega)]; rfl
    · rw [if_neg e]; rfl
theorem tab_get {m i : Nat} {f : Nat → D} (h : i < m) : ((List.range m).map f)[i]? = some (f i) := by
  rw [List.getElem?_map, List.getElem?_range h]; rfl
section
variable {α : Type} [GF α] {n m L : Nat} {fd : List D}
/-- how many of the words weigh w -/
def cnt (n : Nat) (ws : List (Vc α)) (w : Nat) : Nat := (ws.filter fun v => decide (wt n v = w)).length
def cntD (n : Nat) (ws : List (Vc α)) : D := .lst ((List.range (n + 1)).map fun w => ni (cnt n ws w))
theorem cnt_snoc (n : Nat) (ws : List (Vc α)) (v : Vc α) (w : Nat) : cnt n (ws ++ [v]) w = if w = wt n v then cnt n ws w + 1 else cnt n ws w := by
  unfold cnt
  rw [List.filter_append, List.length_append]
  by_cases h : w = wt n v
  · rw [if_pos h, List.filter_cons_of_pos (by simp [h])]; rfl
  · rw [if_neg h, List.filter_cons_of_neg (by simp; exact fun e => h e.symm)]; rfl
theorem ev_enum (F : FE α L fd) (hL : 3 ≤ L) (c : CD α) (ok : c.Ok) (hq : GF.q α ^ c.R.length ≤ 4096) : Ev (L + 3) F_enumerator [c.obj fd] (cntD c.n (wordsF c.R)) := by
  refine run_k fun k hk => run_ws (by decide) ⟨rfl, rfl⟩ ?_
  show WS _ t_enumerator [.sh (c.obj fd), .un, .un] _ _
  unfold t_enumerator
  have hn := ok.le
  repeat (first | refine we_int ?_ | refine we_bin ?_ | refine wa_nil ?_ | refine wa_cons ?_ | refine we_lst ?_ | refine ws_cons ?_ | refine ws_setV rfl ?_)
  refine ⟨by simp [big], we_bin (we_fldN rfl rfl (we_int (lf add1 (lf (mul_list (show c.n + 1 ≤ 16777216 by omega)) ?_))))⟩
  repeat (first | refine ws_cons ?_)
  refine ws_forL ?_
  repeat (first | refine we_sh rfl ?_ | refine we_meth0 ?_ | refine ww_lst ?_ | refine lf (ev_words F hL c ok hq k (by omega)) ?_)
  refine ⟨_, rfl, rfl, Vc α, wordsF c.R, dv c.n, fun pre ρ => ∃ y, ρ = [.sh (c.obj fd), .ow ((List.range (c.n + 1)).map fun w => ni (cnt c.n pre w)), y], rfl, ⟨.un, rfl⟩, ?_, ?_⟩
  · rintro ρ' ⟨y, rfl⟩
    repeat (first | refine we_ow rfl ?_ | refine ws_cons ?_ | refine ws_ret ?_)
    rfl
  · rintro pre v post ρ e ⟨y, rfl⟩
    refine ⟨_, rfl, ?_⟩
    have hw := wt_le c.n v
    repeat (first | refine we_sh rfl ?_ | refine we_int ?_ | refine wa_nil ?_ | refine wa_cons ?_ | refine we_call ?_ | refine ws_cons ?_ | refine ws_aug ?_ | refine lf (ev_weight v (show c.n ≤ 1000 by omega) k (by omega)) ?_)
    refine ⟨_, _, _, _, _, rfl, rfl, ixN_nat (by simp; omega), tab_get (by omega), rfl, ?_⟩
    rw [tab_set]
    have : (List.range (c.n + 1)).map (fun j => if j = wt c.n v then D.int ((cnt c.n pre (wt c.n v) : Int) + 1) else ni (cnt c.n pre j)) = (List.range (c.n + 1)).map fun w => ni (cnt c.n (pre ++ [v]) w) := List.map_congr_left fun j _ => by
      rw [cnt_snoc]
      by_cases h : j = wt c.n v
      · rw [if_pos h, if_pos h, h]; rfl
      · rw [if_neg h, if_neg h]
    rw [this]
    repeat (first | refine ws_nil ?_)
    exact ⟨_, rfl⟩
theorem ev_items (rs : List (Vc α)) (ps : List Nat) (hp : ∀ p ∈ ps, p < n) (hl : ps.length ≤ 1000) (hr : rs.length ≤ 1000) : Ev 1 F_items_at [dl n rs, .lst (ps.map ni)] (dl ps.length (rs.map fun r i => r (ps.getD i 0))) := by
  refine run_k fun k hk => run_ws (by decide) ⟨rfl, rfl⟩ ?_
  show WS _ t_items_at [.sh _, .sh _, .un, .un] _ _
  unfold t_items_at
  repeat (first | refine ws_cons ?_ | refine ws_ret ?_)
  refine we_map rfl ?_
  repeat (first | refine we_sh rfl ?_ | refine ww_lst ?_)
  refine ⟨_, rfl, rfl, Vc α, rs, dv n, fun r => .lst (ps.map fun p => ei (r p)), rfl, by simp [big]; omega, fun r hr => ⟨_, rfl, ?_⟩, ?_⟩
  · refine we_map rfl ?_
    repeat (first | refine we_sh rfl ?_ | refine ww_lst ?_)
    refine ⟨_, rfl, rfl, Nat, ps, ni, fun p => ei (r p), rfl, by simp [big]; omega, fun p hpm => ⟨_, rfl, ?_⟩, rfl, rfl⟩
    repeat (first | refine we_sh rfl ?_ | refine we_subS rfl ?_ | with_reducible refine lf (idx_dv (hp p hpm)) ?_ | refine ⟨rfl, ?_⟩)
    rfl
  · unfold dl dv
    rw [List.map_map]
    congr 1
    refine List.map_congr_left fun r _ => ?_
    show D.lst _ = D.lst _
    congr 1
    apply List.ext_getElem?
    intro i
    simp only [List.getElem?_map]
    by_cases h : i < ps.length
    · rw [List.getElem?_range h]
      simp [h]
    · rw [List.getElem?_eq_none (by omega), List.getElem?_eq_none (by simp; omega)]; rfl
end
end MN
end S_MnSv
section S_MnSw
set_option maxRecDepth 100000
/-! Enumerators, moments, duals. -/
namespace MN
open LA
theorem intsOf_map : ∀ xs : List Int, intsOf (xs.map D.int) = some xs
  | [] => rfl
  | x :: xs => by
    have h : mapO intOf (xs.map D.int) = some xs := intsOf_map xs
    show ((some x : Option Int).bind fun y => (mapO intOf (xs.map D.int)).bind fun ys => some (y :: ys)) = _
    rw [Option.bind_some, h]
    rfl
theorem minL_mem : ∀ (xs : List Int) (x : Int), minI x xs ∈ x :: xs
  | [], x => List.mem_singleton.mpr rfl
  | y :: xs, x => by
    have h := minL_mem xs (if y < x then y else x)
    show minI (if y < x then y else x) xs ∈ _
    rcases List.mem_cons.mp h with h | h
    · rw [h]
      split
      · exact List.mem_cons_of_mem _ (List.mem_cons_self ..)
      · exact List.mem_cons_self ..
    · exact List.mem_cons_of_mem _ (List.mem_cons_of_mem _ h)
theorem minL_le : ∀ (xs : List Int) (x : Int), ∀ y ∈ x :: xs, minI x xs ≤ y
  | [], x, y, h => by simp at h; subst h; exact Int.le_refl _
  | z :: xs, x, y, h => by
    show minI (if z < x then z else x) xs ≤ y
    by_cases hz : z < x
    · rw [if_pos hz]
      have m := minL_le xs z
      have m0 := m z (List.mem_cons_self ..)
      rcases List.mem_cons.mp h with rfl | h
      · omega
      · exact m y h
    · rw [if_neg hz]
      have m := minL_le xs x
      have m0 := m x (List.mem_cons_self ..)
      rcases List.mem_cons.mp h with rfl | h
      · exact m0
      · rcases List.mem_cons.mp h with rfl | h
        · omega
        · exact m y (List.mem_cons_of_mem _ h)
theorem maxL_mem : ∀ (xs : List Int) (x : Int), maxI x xs ∈ x :: xs
  | [], x => List.mem_singleton.mpr rfl
  | y :: xs, x => by
    have h := maxL_mem xs (if x < y then y else x)
    show maxI (if x < y then y else x) xs ∈ _
    rcases List.mem_cons.mp h with h | h
    · rw [h]
      split
      · exact List.mem_cons_of_mem _ (List.mem_cons_self ..)
      · exact List.mem_cons_self ..
    · exact List.mem_cons_of_mem _ (List.mem_cons_of_mem _ h)
theorem maxL_ge : ∀ (xs : List Int) (x : Int), ∀ y ∈ x :: xs, y ≤ maxI x xs
  | [], x, y, h => by simp at h; subst h; exact Int.le_refl _
  | z :: xs, x, y, h => by
    show y ≤ maxI (if x < z then z else x) xs
    by_cases hz : x < z
    · rw [if_pos hz]
      have m := maxL_ge xs z
      have m0 := m z (List.mem_cons_self ..)
      rcases List.mem_cons.mp h with rfl | h
      · omega
      · exact m y h
    · rw [if_neg hz]
      have m := maxL_ge xs x
      have m0 := m x (List.mem_cons_self ..)
      rcases List.mem_cons.mp h with rfl | h
      · exact m0
      · rcases List.mem_cons.mp h with rfl | h
        · omega
        · exact m y (List.mem_cons_of_mem _ h)
/-- a list of whole numbers, as a table -/
def tabZ (n : Nat) (f : Nat → Int) : D := .lst ((List.range n).map fun i => .int (f i))
theorem tabZ_ints (n : Nat) (f : Nat → Int) : tabZ n f = .lst (((List.range n).map f).map D.int) := by
  unfold tabZ
  rw [List.map_map]
  rfl
theorem min_tab {n : Nat} {f : Nat → Int} : ∃ mn, biD .min1 [tabZ (n + 1) f] = some (.int mn) ∧ (∃ i, i ≤ n ∧ mn = f i) ∧ ∀ i, i ≤ n → mn ≤ f i := by
  rw [tabZ_ints, List.range_succ_eq_map, List.map_cons, List.map_cons]
  refine ⟨minI (f 0) (List.map f (List.map Nat.succ (List.range n))), ?_, ?_, fun i hi => ?_⟩
  · show (intsOf _).bind _ = _
    rw [intsOf_map]
    rfl
  · have := minL_mem (List.map f (List.map Nat.succ (List.range n))) (f 0)
    rcases List.mem_cons.mp this with h | h
    · exact ⟨0, Nat.zero_le _, h⟩
    · simp at h
      obtain ⟨a, ha, h⟩ := h
      exact ⟨a + 1, by omega, by rw [List.map_map]; exact h.symm⟩
  · refine minL_le _ _ _ ?_
    cases i with
    | zero => exact List.mem_cons_self ..
    | succ i => exact List.mem_cons_of_mem _ (by simp; exact ⟨i, by omega, rfl⟩)
theorem max_tab {n : Nat} {f : Nat → Int} : ∃ mx, biD .max1 [tabZ (n + 1) f] = some (.int mx) ∧ ∀ i, i ≤ n → f i ≤ mx := by
  rw [tabZ_ints, List.range_succ_eq_map, List.map_cons, List.map_cons]
  refine ⟨maxI (f 0) (List.map f (List.map Nat.succ (List.range n))), ?_, fun i hi => ?_⟩
  · show (intsOf _).bind _ = _
    rw [intsOf_map]
    rfl
  · refine maxL_ge _ _ _ ?_
    cases i with
    | zero => exact List.mem_cons_self ..
    | succ i => exact List.mem_cons_of_mem _ (by simp; exact ⟨i, by omega, rfl⟩)
theorem sum_range (f : Nat → Int) : ∀ n, ((List.range n).map f).sum = sumZ f n
  | 0 => rfl
  | n + 1 => by rw [List.range_succ, List.map_append, List.sum_append, sum_range f n]; simp [sumZ]
theorem sum_tab {n : Nat} {f : Nat → Int} : biD .sum [tabZ n f] = some (.int (sumZ f n)) := by
  rw [tabZ_ints]
  show (intsOf _).bind _ = _
  rw [intsOf_map]
  show some (D.int _) = _
  rw [sum_range]
theorem len_tabZ {n : Nat} {f : Nat → Int} : biD .len [tabZ n f] = some (ni n) := by
  show some (D.int _) = _
  simp
theorem idx_tabZ {n i : Nat} {f : Nat → Int} (h : i < n) : idxD (tabZ n f) (ni i) = some (.int (f i)) := idx_lst (tab_get h)

theorem ev_ispow (q t i0 : Nat) (hq : q ≤ 16) (hi : i0 ≤ t) (ht : t ≤ 1000) : Ev 1 F_is_power_of [ni q, ni t, ni (q ^ i0)] (.bl true) := by
  refine run_k fun k hk => run_ws (by decide) ⟨rfl, rfl⟩ ?_
  show WS _ t_is_power_of [.sh _, .sh _, .sh _, .un, .un] _ _
  unfold t_is_power_of
  repeat (first | refine we_int ?_ | refine ws_cons ?_ | refine ws_setV rfl ?_)
  refine ws_forR ?_
  repeat (first | refine we_sh rfl ?_ | refine wa_nil ?_ | refine wa_cons ?_ | refine ⟨rfl, ?_⟩)
  refine ⟨t, rfl, by omega, fun i ρ => i ≤ i0 ∧ ∃ y, ρ = [.sh (ni q), .sh (ni t), .sh (ni (q ^ i0)), .sh (ni (q ^ i)), y], ⟨Nat.zero_le _, .un, rfl⟩, ?_, ?_⟩
  · rintro ρ' ⟨h, y, rfl⟩
    obtain rfl : i0 = t := by omega
    repeat (first | refine we_sh rfl ?_ | refine wt_cmp ?_ | refine we_cmp ?_ | refine ws_cons ?_ | refine ws_ret ?_ | refine lf eq_nat ?_)
    simp
  · rintro i ρ hi2 ⟨h, y, rfl⟩
    refine ⟨_, rfl, ?_⟩
    repeat (first | refine we_sh rfl ?_ | refine wt_cmp ?_ | refine ws_cons ?_ | refine ws_ite ?_ | refine lf eq_nat ?_)
    refine ⟨fun z => ?_, fun z => ?_⟩
    · repeat (first | refine we_bl ?_ | refine ws_cons ?_ | refine ws_ret ?_)
      rfl
    · have hne : i ≠ i0 := fun e => by rw [e] at z; simp at z
      have m : opD .mul (ni (q ^ i)) (ni q) = some (ni (q ^ (i + 1))) := by
        rw [mul_r (by omega) (by omega)]
        show _ = some (D.int ((q ^ (i + 1) : Nat) : Int))
        rw [Nat.pow_succ, Int.natCast_mul]
      repeat (first | refine we_sh rfl ?_ | refine we_bin ?_ | refine ws_nil ?_ | refine ws_cons ?_ | refine ws_setV rfl ?_ | with_reducible refine lf (m) ?_)
      exact ⟨by omega, _, rfl⟩
theorem ev_usable (q n i0 : Nat) (f : Nat → Int) (h2 : 2 ≤ q) (hq : q ≤ 16) (hn : n ≤ 100) (h1 : 1 ≤ n) (hf : ∀ i, i ≤ n → 0 ≤ f i) (h0 : f 0 = 1) (hi : i0 ≤ n) (hs : sumZ f (n + 1) = ((q ^ i0 : Nat) : Int)) : Ev 2 F_check_usable [ni q, tabZ (n + 1) f] .non := by
  refine run_k fun k hk => run_ws (by decide) ⟨rfl, rfl⟩ ?_
  show WS _ t_check_usable [.sh _, .sh _] _ _
  unfold t_check_usable
  obtain ⟨mn, m1, ⟨i, hi', m2⟩, m3⟩ := min_tab (n := n) (f := f)
  have c1 : cmpD .le (.int 2) (ni q) = some true := by
    show some (decide ((2 : Int) ≤ (q : Int))) = _
    rw [decide_eq_true (by omega)]
  have c2 : cmpD .le (ni q) (.int 256) = some true := by
    show some (decide ((q : Int) ≤ 256)) = _
    rw [decide_eq_true (by omega)]
  have c3 : cmpD .le (.int 2) (ni (n + 1)) = some true := by
    show some (decide ((2 : Int) ≤ ((n + 1 : Nat) : Int))) = _
    rw [decide_eq_true (by omega)]
  have c4 : cmpD .le (ni (n + 1)) (.int 256) = some true := by
    show some (decide (((n + 1 : Nat) : Int) ≤ 256)) = _
    rw [decide_eq_true (by omega)]
  have c5 : cmpD .lt (.int mn) (.int 0) = some false := by
    show some (decide (mn < 0)) = _
    have := hf i hi'
    rw [decide_eq_false (by omega)]
  have g0 : idxD (tabZ (n + 1) f) (.int 0) = some (.int 1) := by rw [← h0]; exact idx_tabZ (i := 0) (by omega)
  have c6 : cmpD .ne (.int 1) (.int 1) = some false := rfl
  have gs : biD .sum [tabZ (n + 1) f] = some (ni (q ^ i0)) := by rw [sum_tab, hs]
  have gl : opD .sub (ni (n + 1)) (.int 1) = some (ni n) := by rw [sub1 (by omega)]; rfl
  repeat (first | refine we_sh rfl ?_ | refine we_int ?_ | refine wt_chain ?_ | refine wt_or ?_ | refine wt_not ?_ | refine ws_cons ?_ | refine ws_ite ?_ | with_reducible refine lf (c1) ?_)
  refine ⟨fun z => (by cases z), fun _ => ?_⟩
  repeat (first | refine we_int ?_ | with_reducible refine lf (c2) ?_)
  refine ⟨fun z => (by cases z), fun _ => ?_⟩
  repeat (first | refine we_sh rfl ?_ | refine we_int ?_ | refine wa_nil ?_ | refine wa_cons ?_ | refine we_bi ?_ | refine wt_chain ?_ | refine wt_not ?_ | with_reducible refine lf (len_tabZ) ?_ | with_reducible refine lf (c3) ?_)
  refine ⟨fun z => (by cases z), fun _ => ?_⟩
  repeat (first | refine we_int ?_ | with_reducible refine lf (c4) ?_)
  refine ⟨fun z => (by cases z), fun _ => ?_⟩
  repeat (first | refine we_sh rfl ?_ | refine we_int ?_ | refine wa_nil ?_ | refine wa_cons ?_ | refine we_bi ?_ | refine wt_cmp ?_ | refine wt_or ?_ | refine ws_nil ?_ | refine ws_cons ?_ | refine ws_ite ?_ | with_reducible refine lf (m1) ?_ | with_reducible refine lf (c5) ?_)
  refine ⟨fun z => (by cases z), fun _ => ?_⟩
  repeat (first | refine we_int ?_ | refine we_subS rfl ?_ | refine wt_cmp ?_ | with_reducible refine lf (g0) ?_ | with_reducible refine lf (c6) ?_)
  refine ⟨fun z => (by cases z), fun _ => ?_⟩
  repeat (first | refine we_sh rfl ?_ | refine we_int ?_ | refine we_bin ?_ | refine wa_nil ?_ | refine wa_cons ?_ | refine we_call ?_ | refine we_bi ?_ | refine wt_not ?_ | refine wtv ?_ | refine ws_nil ?_ | refine ws_cons ?_ | refine ws_ite ?_ | refine wt_val ?_ | with_reducible refine lf (len_tabZ) ?_ | with_reducible refine lf (gl) ?_ | with_reducible refine lf (gs) ?_ | refine lf (ev_ispow q n i0 hq hi (by omega) k (by omega)) ?_)
  refine ⟨fun z => (by cases z), fun _ => ?_⟩
  repeat (first | refine ws_nil ?_)
  rfl
/-- what a place of the dual's counts is made of -/
def dtot (q n : Nat) (f : Nat → Int) (k : Nat) : Int := sumZ (fun x => f x * kraw q n x k) (n + 1)
theorem ev_dual_enum (q n i0 : Nat) (f : Nat → Int) (h2 : 2 ≤ q) (hq : q ≤ 16) (hn : n ≤ 8) (h1 : 1 ≤ n) (hf : ∀ i, i ≤ n → 0 ≤ f i) (hb : ∀ i, i ≤ n → f i ≤ 1000000) (h0 : f 0 = 1) (hi : i0 ≤ n) (hs : sumZ f (n + 1) = ((q ^ i0 : Nat) : Int)) (hsz : q ^ i0 ≤ 1000000)
    (g : Nat → Int) (hg : ∀ k, k ≤ n → dtot q n f k = ((q ^ i0 : Nat) : Int) * g k ∧ 0 ≤ g k) : Ev 3 F_dual_enumerator [ni q, tabZ (n + 1) f] (tabZ (n + 1) g) := by
  refine run_k fun k hk => run_ws (by decide) ⟨rfl, rfl⟩ ?_
  show WS _ t_dual_enumerator [.sh _, .sh _, .un, .un, .un, .un, .un, .un] _ _
  unfold t_dual_enumerator
  have gs : biD .sum [tabZ (n + 1) f] = some (ni (q ^ i0)) := by rw [sum_tab, hs]
  have gl : opD .sub (ni (n + 1)) (.int 1) = some (ni n) := by rw [sub1 (by omega)]; rfl
  have hpos : 0 < q ^ i0 := Nat.pow_pos (by omega)
  repeat (first | refine we_sh rfl ?_ | refine we_int ?_ | refine we_bin ?_ | refine wa_nil ?_ | refine wa_cons ?_ | refine we_call ?_ | refine we_bi ?_ | refine we_lst ?_ | refine ws_cons ?_ | refine ws_setV rfl ?_ | refine ws_exp ?_ | with_reducible refine lf (len_tabZ) ?_ | with_reducible refine lf (gl) ?_ | with_reducible refine lf (gs) ?_ | refine lf (ev_usable q n i0 f h2 hq (by omega) h1 hf h0 hi hs k (by omega)) ?_)
  refine ⟨by simp [big], ?_⟩
  repeat (first | refine ws_cons ?_)
  refine ws_forR ?_
  repeat (first | refine we_sh rfl ?_ | refine we_int ?_ | refine we_bin ?_ | refine wa_nil ?_ | refine wa_cons ?_ | with_reducible refine lf (add1) ?_ | refine ⟨rfl, ?_⟩)
  refine ⟨n + 1, rfl, by omega, fun k ρ => ∃ x5 x6 x7, ρ = [.sh (ni q), .sh (tabZ (n + 1) f), .sh (ni n), .sh (ni (q ^ i0)), .ow ((List.range k).map fun i => .int (g i)), x5, x6, x7], ⟨.un, .un, .un, rfl⟩, ?_, ?_⟩
  · rintro ρ' ⟨x5, x6, x7, rfl⟩
    repeat (first | refine we_ow rfl ?_ | refine ws_cons ?_ | refine ws_ret ?_)
    rfl
  · rintro t ρ ht ⟨x5, x6, x7, rfl⟩
    obtain ⟨g1, g2⟩ := hg t (by omega)
    refine ⟨_, rfl, ?_⟩
    repeat (first | refine we_int ?_ | refine ws_cons ?_ | refine ws_setV rfl ?_)
    refine ws_forR ?_
    repeat (first | refine we_sh rfl ?_ | refine we_int ?_ | refine we_bin ?_ | refine wa_nil ?_ | refine wa_cons ?_ | with_reducible refine lf (add1) ?_ | refine ⟨rfl, ?_⟩)
    refine ⟨n + 1, rfl, by omega, fun x ρ => ∃ x7, ρ = [.sh (ni q), .sh (tabZ (n + 1) f), .sh (ni n), .sh (ni (q ^ i0)), .ow ((List.range t).map fun i => .int (g i)), .sh (ni t), .sh (.int (sumZ (fun x => f x * kraw q n x t) x)), x7], ⟨x7, rfl⟩, ?_, ?_⟩
    · rintro ρ' ⟨x7, rfl⟩
      show WS _ _ [_, _, _, _, _, _, Sl.sh (.int (dtot q n f t)), _] _ _
      have hpz : (0 : Int) < ((q ^ i0 : Nat) : Int) := by omega
      have n1 : 0 ≤ dtot q n f t := by rw [g1]; exact Int.mul_nonneg (by omega) g2
      have c1 : cmpD .lt (.int (dtot q n f t)) (.int 0) = some false := by
        show some (decide (dtot q n f t < 0)) = _
        rw [decide_eq_false (by omega)]
      have o1 : opD .mod (.int (dtot q n f t)) (ni (q ^ i0)) = some (.int 0) := by
        have e : opD .mod (.int (dtot q n f t)) (ni (q ^ i0)) = (if 0 < ((q ^ i0 : Nat) : Int) then some (D.int (dtot q n f t % ((q ^ i0 : Nat) : Int))) else none) := rfl
        rw [e, if_pos hpz, g1, Int.mul_emod_right]
      have o2 : opD .fdiv (.int (dtot q n f t)) (ni (q ^ i0)) = some (.int (g t)) := by
        have e : opD .fdiv (.int (dtot q n f t)) (ni (q ^ i0)) = (if 0 < ((q ^ i0 : Nat) : Int) ∧ ((q ^ i0 : Nat) : Int) < 1073741824 then some (D.int (dtot q n f t / ((q ^ i0 : Nat) : Int))) else none) := rfl
        rw [e, if_pos ⟨hpz, by omega⟩, g1, Int.mul_ediv_cancel_left _ (by omega)]
      have c2 : cmpD .ne (.int 0) (.int 0) = some false := rfl
      repeat (first | refine we_sh rfl ?_ | refine we_int ?_ | refine wt_cmp ?_ | refine wt_or ?_ | refine ws_cons ?_ | refine ws_ite ?_ | with_reducible refine lf (c1) ?_)
      refine ⟨fun z => (by cases z), fun _ => ?_⟩
      repeat (first | refine we_sh rfl ?_ | refine we_int ?_ | refine we_bin ?_ | refine wt_cmp ?_ | with_reducible refine lf (o1) ?_ | with_reducible refine lf (c2) ?_)
      refine ⟨fun z => (by cases z), fun _ => ?_⟩
      repeat (first | refine we_sh rfl ?_ | refine we_bin ?_ | refine ws_nil ?_ | refine ws_cons ?_ | refine ws_appV ?_ | with_reducible refine lf (o2) ?_ | refine ⟨rfl, ?_⟩)
      refine ⟨_, rfl, by simp [big]; omega, ?_⟩
      repeat (first | refine ws_nil ?_)
      refine ⟨.sh (ni t), .sh (.int (dtot q n f t)), x7, ?_⟩
      rw [List.range_succ, List.map_append]
      rfl
    · rintro x ρ hx ⟨x7, rfl⟩
      refine ⟨_, rfl, ?_⟩
      have gx := idx_tabZ (f := f) hx
      have hfx := hf x (by omega)
      have hbx := hb x (by omega)
      have c1 : cmpD .gt (.int (f x)) (.int 0) = some (decide (0 < f x)) := rfl
      repeat (first | refine we_sh rfl ?_ | refine we_int ?_ | refine we_subS rfl ?_ | refine wt_cmp ?_ | refine ws_cons ?_ | refine ws_ite ?_ | with_reducible refine lf (gx) ?_ | with_reducible refine lf (c1) ?_)
      refine ⟨fun z => ?_, fun z => ?_⟩
      · have m1 : opD .mul (.int (f x)) (.int (kraw q n x t)) = some (.int (f x * kraw q n x t)) := mul_l (by omega) (by omega)
        repeat (first | refine we_sh rfl ?_ | refine we_bin ?_ | refine wa_nil ?_ | refine wa_cons ?_ | refine we_call ?_ | refine we_subS rfl ?_ | refine ws_nil ?_ | refine ws_cons ?_ | refine ws_setV rfl ?_ | with_reducible refine lf (gx) ?_ | with_reducible refine lf (m1) ?_ | refine lf (ev_kraw q n x t (by omega) hq hn (by omega) (by omega) k (by omega)) ?_ | refine lf rfl ?_)
        exact ⟨_, rfl⟩
      · have : f x = 0 := by simp at z; omega
        repeat (first | refine ws_nil ?_)
        refine ⟨.sh (ni x), ?_⟩
        show _ = [_, _, _, _, _, _, Sl.sh (.int (sumZ (fun x => f x * kraw q n x t) x + f x * kraw q n x t)), _]
        rw [this, Int.zero_mul, Int.add_zero]
        rfl
section
variable {α : Type} [GF α] {n m L : Nat} {fd : List D}
theorem ker_sup {R : List (Vc α)} {P : List Nat} (h : Rref n R P) : ∀ r ∈ kerF n R P, ∀ x, n ≤ x → r x = 0 := fun r hr x hx => by
  obtain ⟨c, hc, rfl⟩ := List.mem_map.mp hr
  obtain ⟨h1, h2⟩ := mem_kcols.mp hc
  simp only [kv]
  rw [if_neg (by omega), ent_out fun q => by have := h.piv_lt x q; omega]
  grind
theorem ev_dual (F : FE α L fd) (hL : 3 ≤ L) (c : CD α) (ok : c.Ok) : ∃ c' : CD α, c'.n = c.n ∧ c'.Ok ∧ (∀ w, Span c'.R w ↔ Span (kerF c.n c.S c.T) w) ∧ Ev (L + 5) F_dual [c.obj fd] (c'.obj fd) := by
  have hl := ker_len c
  obtain ⟨c', h1, h2, h3, h4⟩ := ev_code F hL (kerF c.n c.S c.T) (ker_sup ok.rs) ok.pos ok.le (by have := ok.le; omega)
  refine ⟨c', h1, h2, h3, run_k fun k hk => run_ws (by decide) ⟨rfl, rfl⟩ ?_⟩
  show WS _ t_dual [.sh (c.obj fd)] _ _
  unfold t_dual
  have hc := ev_checks (fd := fd) c (show c.n ≤ 1000 by have := ok.le; omega) k (by omega)
  repeat (first | refine we_sh rfl ?_ | refine wa_nil ?_ | refine wa_cons ?_ | refine we_mk ?_ | refine we_prop ?_ | refine we_fldN rfl rfl ?_ | refine ws_cons ?_ | refine ws_ret ?_ | with_reducible refine lf (hc) ?_ | refine lf (h4 k (by omega)) ?_)
  rfl
theorem cntD_tab (ws : List (Vc α)) : cntD n ws = tabZ (n + 1) fun w => (cnt n ws w : Int) := rfl
theorem ev_by_dual (F : FE α L fd) (hL : 3 ≤ L) (c c' : CD α) (ok : c.Ok) (ok' : c'.Ok) (hn : c'.n = c.n) (hd : Ev (L + 5) F_dual [c.obj fd] (c'.obj fd)) (hq : GF.q α ^ c'.R.length ≤ 4096) (g : Nat → Int)
    (he : Ev 3 F_dual_enumerator [ni (GF.q α), cntD c.n (wordsF c'.R)] (tabZ (c.n + 1) g)) : Ev (L + 6) F_enumerator_by_dual [c.obj fd] (tabZ (c.n + 1) g) := by
  obtain ⟨x0, x1, x2, rfl⟩ := F.shp
  refine run_k fun k hk => run_ws (by decide) ⟨rfl, rfl⟩ ?_
  show WS _ t_enumerator_by_dual [.sh (c.obj _)] _ _
  unfold t_enumerator_by_dual
  have e1 := ev_enum F hL c' ok' hq k (by omega)
  rw [hn] at e1
  repeat (first | refine we_sh rfl ?_ | refine wa_nil ?_ | refine wa_cons ?_ | refine we_call ?_ | refine we_fldN rfl rfl ?_ | refine we_fld2 ?_ | refine f2_ok rfl ?_ | refine ws_cons ?_ | refine ws_ret ?_ | with_reducible refine lf (e1) ?_ | refine lf (hd k (by omega)) ?_ | refine lf (he k (by omega)) ?_)
  rfl
end
end MN
end S_MnSw
section S_MnSx
set_option maxRecDepth 100000
/-! Moments; least weights. -/
namespace MN
open LA
theorem ev_ckcounts (n : Nat) (f : Nat → Int) (hn : n ≤ 100) (hf : ∀ i, i ≤ n → 0 ≤ f i) (h0 : 0 < f 0) : Ev 1 F_check_counts [tabZ (n + 1) f] .non := by
  refine run_k fun k hk => run_ws (by decide) ⟨rfl, rfl⟩ ?_
  show WS _ t_check_counts [.sh _] _ _
  unfold t_check_counts
  obtain ⟨mn, m1, ⟨i, hi', m2⟩, m3⟩ := min_tab (n := n) (f := f)
  obtain ⟨mx, x1, x2⟩ := max_tab (n := n) (f := f)
  have c1 : cmpD .le (.int 1) (ni (n + 1)) = some true := by
    show some (decide ((1 : Int) ≤ ((n + 1 : Nat) : Int))) = _
    rw [decide_eq_true (by omega)]
  have c2 : cmpD .le (ni (n + 1)) (.int 256) = some true := by
    show some (decide (((n + 1 : Nat) : Int) ≤ 256)) = _
    rw [decide_eq_true (by omega)]
  have c3 : cmpD .lt (.int mn) (.int 0) = some false := by
    show some (decide (mn < 0)) = _
    have := hf i hi'
    rw [decide_eq_false (by omega)]
  have c4 : cmpD .eq (.int mx) (.int 0) = some false := by
    show some (decide (mx = 0)) = _
    have := x2 0 (Nat.zero_le _)
    rw [decide_eq_false (by omega)]
  repeat (first | refine we_sh rfl ?_ | refine we_int ?_ | refine wa_nil ?_ | refine wa_cons ?_ | refine we_bi ?_ | refine wt_chain ?_ | refine wt_not ?_ | refine ws_cons ?_ | refine ws_ite ?_ | with_reducible refine lf (len_tabZ) ?_ | with_reducible refine lf (c1) ?_)
  refine ⟨fun z => (by cases z), fun _ => ?_⟩
  repeat (first | refine we_int ?_ | with_reducible refine lf (c2) ?_)
  refine ⟨fun z => (by cases z), fun _ => ?_⟩
  repeat (first | refine we_sh rfl ?_ | refine we_int ?_ | refine wa_nil ?_ | refine wa_cons ?_ | refine we_bi ?_ | refine wt_cmp ?_ | refine wt_or ?_ | refine ws_nil ?_ | refine ws_cons ?_ | refine ws_ite ?_ | with_reducible refine lf (m1) ?_ | with_reducible refine lf (c3) ?_)
  refine ⟨fun z => (by cases z), fun _ => ?_⟩
  repeat (first | refine we_sh rfl ?_ | refine we_int ?_ | refine wa_nil ?_ | refine wa_cons ?_ | refine we_bi ?_ | refine wt_cmp ?_ | with_reducible refine lf (x1) ?_ | with_reducible refine lf (c4) ?_)
  refine ⟨fun z => (by cases z), fun _ => ?_⟩
  repeat (first | refine ws_nil ?_)
  rfl
/-- the k-th binomial moment -/
def bmom (n : Nat) (f : Nat → Int) (k : Nat) : Int := sumZ (fun w => cb (n - w) k * f w) (n + 1)
theorem ev_bmom (n t : Nat) (f : Nat → Int) (hn : n ≤ 8) (ht : t ≤ n) (hf : ∀ i, i ≤ n → 0 ≤ f i) (h0 : 0 < f 0) : Ev 2 F_binomial_moment [tabZ (n + 1) f, ni t] (.int (bmom n f t)) := by
  refine run_k fun k hk => run_ws (by decide) ⟨rfl, rfl⟩ ?_
  show WS _ t_binomial_moment [.sh _, .sh _, .un, .un, .un] _ _
  unfold t_binomial_moment
  have gl : opD .sub (ni (n + 1)) (.int 1) = some (ni n) := by rw [sub1 (by omega)]; rfl
  have c1 : cmpD .le (.int 0) (ni t) = some true := by
    show some (decide ((0 : Int) ≤ (t : Int))) = _
    rw [decide_eq_true (by omega)]
  have c2 : cmpD .le (ni t) (ni n) = some true := by
    rw [le_nat, decide_eq_true ht]
  repeat (first | refine we_sh rfl ?_ | refine we_int ?_ | refine we_bin ?_ | refine wa_nil ?_ | refine wa_cons ?_ | refine we_call ?_ | refine we_bi ?_ | refine wt_chain ?_ | refine wt_not ?_ | refine ws_cons ?_ | refine ws_setV rfl ?_ | refine ws_exp ?_ | refine ws_ite ?_ | with_reducible refine lf (len_tabZ) ?_ | with_reducible refine lf (gl) ?_ | with_reducible refine lf (c1) ?_ | refine lf (ev_ckcounts n f (by omega) hf h0 k (by omega)) ?_)
  refine ⟨fun z => (by cases z), fun _ => ?_⟩
  repeat (first | refine we_sh rfl ?_ | with_reducible refine lf (c2) ?_)
  refine ⟨fun z => (by cases z), fun _ => ?_⟩
  repeat (first | refine we_int ?_ | refine ws_nil ?_ | refine ws_cons ?_ | refine ws_setV rfl ?_)
  refine ws_forR ?_
  repeat (first | refine we_sh rfl ?_ | refine we_int ?_ | refine we_bin ?_ | refine wa_nil ?_ | refine wa_cons ?_ | with_reducible refine lf (add1) ?_ | refine ⟨rfl, ?_⟩)
  refine ⟨n + 1, rfl, by omega, fun i ρ => ∃ y, ρ = [.sh (tabZ (n + 1) f), .sh (ni t), .sh (ni n), .sh (.int (sumZ (fun w => cb (n - w) t * f w) i)), y], ⟨.un, rfl⟩, ?_, ?_⟩
  · rintro ρ' ⟨y, rfl⟩
    repeat (first | refine we_sh rfl ?_ | refine ws_cons ?_ | refine ws_ret ?_)
    rfl
  · rintro i ρ hi ⟨y, rfl⟩
    refine ⟨_, rfl, ?_⟩
    obtain ⟨b1, b2⟩ := cb_small (n - i) (by omega) t (by omega)
    have m1 : opD .mul (.int (cb (n - i) t)) (.int (f i)) = some (.int (cb (n - i) t * f i)) := mul_l (by omega) (by omega)
    repeat (first | refine we_sh rfl ?_ | refine we_bin ?_ | refine wa_nil ?_ | refine wa_cons ?_ | refine we_bi ?_ | refine we_subS rfl ?_ | refine ws_nil ?_ | refine ws_cons ?_ | refine ws_setV rfl ?_ | with_reducible refine lf (sub_nat (show i ≤ n by omega)) ?_ | with_reducible refine lf (comb_nat (show n - i ≤ 9000 by omega)) ?_ | with_reducible refine lf (idx_tabZ hi) ?_ | with_reducible refine lf (m1) ?_ | refine lf rfl ?_)
    exact ⟨_, rfl⟩
section
variable {α : Type} [GF α] {n m L : Nat} {fd : List D}
theorem cut_from {β : Type} {xs : List β} {k : Nat} (h : k ≤ xs.length) : cutD xs (some (k : Int)) none = xs.drop k := by
  unfold cutD
  rw [HT.sIx_none, HT.sIx_nat, Nat.min_eq_left h, List.take_of_length_le (by simp)]
/-- the least weight: of all but the first -/
theorem ev_mind0 (c : CD α) (h : c.R.length = 0) : Ev 1 F_minimum_distance [c.obj fd] .non := by
  refine run_k fun k hk => run_ws (by decide) ⟨rfl, rfl⟩ ?_
  show WS _ t_minimum_distance [.sh (c.obj fd), .un] _ _
  unfold t_minimum_distance
  repeat (first | refine we_int ?_ | refine we_fldN rfl rfl ?_ | refine wt_cmp ?_ | refine ws_cons ?_ | refine ws_ite ?_ | refine lf eq_nat ?_)
  refine ⟨fun z => ?_, fun z => by simp [h] at z⟩
  repeat (first | refine we_non ?_ | refine ws_cons ?_ | refine ws_ret ?_)
  rfl
theorem wts_ints (ws : List (Vc α)) : ws.map (fun w => ni (wt n w)) = (ws.map fun w => (wt n w : Int)).map D.int := by
  rw [List.map_map]; rfl
theorem ev_mind (F : FE α L fd) (hL : 3 ≤ L) (c : CD α) (ok : c.Ok) (hq : GF.q α ^ c.R.length ≤ 4096) (h : c.R.length ≠ 0) (d : Nat) (hd : ∃ w, w ∈ (wordsF c.R).drop 1 ∧ wt c.n w = d) (hm : ∀ w, w ∈ (wordsF c.R).drop 1 → d ≤ wt c.n w) : Ev (L + 3) F_minimum_distance [c.obj fd] (ni d) := by
  refine run_k fun k hk => run_ws (by decide) ⟨rfl, rfl⟩ ?_
  show WS _ t_minimum_distance [.sh (c.obj fd), .un] _ _
  unfold t_minimum_distance
  have hn := ok.le
  repeat (first | refine we_int ?_ | refine we_fldN rfl rfl ?_ | refine wt_cmp ?_ | refine ws_cons ?_ | refine ws_ite ?_ | refine lf eq_nat ?_)
  refine ⟨fun z => absurd (of_decide_eq_true z) h, fun z => ?_⟩
  repeat (first | refine wa_cons ?_ | refine we_bi ?_ | refine ws_nil ?_ | refine ws_cons ?_ | refine ws_ret ?_)
  refine we_map rfl ?_
  refine ww_lst (we_slc ?_)
  repeat (first | refine we_sh rfl ?_ | refine we_int ?_ | refine we_meth0 ?_ | refine WI.some rfl ?_ | refine lf (ev_words F hL c ok hq k (by omega)) ?_)
  refine ⟨_, rfl, ?_⟩
  repeat (first | refine WI.none ?_)
  have hlen : 1 ≤ (wordsF c.R).length := by
    rw [wordsF_len]
    exact Nat.pow_pos (by have := GF.two (α := α); omega)
  have hc : cutD ((wordsF c.R).map (dv c.n)) (some 1) none = ((wordsF c.R).drop 1).map (dv c.n) := by
    have := cut_from (xs := (wordsF c.R).map (dv c.n)) (k := 1) (by simpa using hlen)
    rw [List.map_drop]
    exact this
  have hl : ((wordsF c.R).drop 1).length ≤ 4096 := by
    rw [List.length_drop, wordsF_len]; omega
  refine ⟨_, rfl, ?_⟩
  refine ⟨_, rfl, ?_⟩
  refine ⟨rfl, Vc α, (wordsF c.R).drop 1, dv c.n, fun w => ni (wt c.n w), hc, by simp [big] at hl ⊢; omega, fun w hw => ⟨_, rfl, ?_⟩, ?_⟩
  · repeat (first | refine we_sh rfl ?_ | refine wa_nil ?_ | refine wa_cons ?_ | refine we_call ?_ | refine lf (ev_weight w (show c.n ≤ 1000 by omega) k (by omega)) ?_ | refine ⟨rfl, ?_⟩)
    rfl
  · generalize (wordsF c.R).drop 1 = ws at hd hm
    obtain ⟨w0, hw0, rfl⟩ := hd
    cases ws with
    | nil => cases hw0
    | cons x xs =>
      have hb : biD .min1 [.lst ((x :: xs).map fun w => ni (wt c.n w))] = some (ni (wt c.n w0)) := by
        rw [wts_ints, List.map_cons, List.map_cons]
        show (intsOf _).bind _ = _
        rw [intsOf_map]
        show some (D.int _) = _
        have m1 := minL_mem (xs.map fun w => (wt c.n w : Int)) (wt c.n x : Int)
        have m2 := minL_le (xs.map fun w => (wt c.n w : Int)) (wt c.n x : Int)
        generalize minI (wt c.n x : Int) (xs.map fun w => (wt c.n w : Int)) = mn at m1 m2
        have e : ((wt c.n x : Int) :: xs.map fun w => (wt c.n w : Int)) = (x :: xs).map fun w => (wt c.n w : Int) := rfl
        rw [e] at m1 m2
        obtain ⟨v, hv, rfl⟩ := List.mem_map.mp m1
        have a1 := hm v hv
        have a2 := m2 (wt c.n w0 : Int) (List.mem_map.mpr ⟨w0, hw0, rfl⟩)
        have : wt c.n v = wt c.n w0 := by omega
        rw [this]
      repeat (first | refine wa_nil ?_ | with_reducible refine lf (hb) ?_)
      rfl
end
end MN
end S_MnSx
section S_MnFd
set_option maxRecDepth 100000
/-! The field's methods. -/
namespace MN
open LA
theorem mod_nat {a p : Nat} (h : 0 < p) : opD .mod (ni a) (ni p) = some (ni (a % p)) := by
  have e : opD .mod (ni a) (ni p) = (if 0 < (p : Int) then some (D.int ((a : Int) % (p : Int))) else none) := rfl
  rw [e, if_pos (by omega), ← Int.natCast_emod]
theorem fdiv_nat {a p : Nat} (h : 0 < p) (h2 : p < 1073741824) : opD .fdiv (ni a) (ni p) = some (ni (a / p)) := by
  have e : opD .fdiv (ni a) (ni p) = (if 0 < (p : Int) ∧ (p : Int) < 1073741824 then some (D.int ((a : Int) / (p : Int))) else none) := rfl
  rw [e, if_pos (by omega), ← Int.natCast_ediv]
theorem mul_nat {a b : Nat} (h : b < 2 ^ 64) : opD .mul (ni a) (ni b) = some (ni (a * b)) := by
  rw [mul_r (by omega) (by omega), ← Int.natCast_mul]
def digN (a p s : Nat) : List Nat := (List.range s).map fun i => a / p ^ i % p
def elN (p : Nat) (ds : List Nat) : Nat := ds.foldr (fun d r => r * p + d) 0
abbrev fdl (p : Nat) (ms : List Nat) (deg q : Nat) : List D := [ni p, .tup (ms.map ni), ni deg, ni q]
theorem ev_digits0 (a p s : Nat) (hp : 0 < p) (hp2 : p < 1000) (hs : s ≤ 1000) : Ev 1 F_base_digits [ni a, ni p, ni s] (.lst ((digN a p s).map ni)) := by
  refine run_k fun k hk => run_ws (by decide) ⟨rfl, rfl⟩ ?_
  show WS _ t_base_digits [.sh _, .sh _, .sh _, .un, .un] _ _
  unfold t_base_digits
  repeat (first | refine wa_nil ?_ | refine we_lst ?_ | refine ws_cons ?_ | refine ws_setV rfl ?_)
  refine ⟨by simp [big], ?_⟩
  repeat (first | refine ws_cons ?_)
  refine ws_forR ?_
  repeat (first | refine we_sh rfl ?_ | refine wa_nil ?_ | refine wa_cons ?_ | refine ⟨rfl, ?_⟩)
  refine ⟨s, rfl, by omega, fun i ρ => ∃ y, ρ = [.sh (ni (a / p ^ i)), .sh (ni p), .sh (ni s), .ow ((digN a p i).map ni), y], ⟨.un, ?_⟩, ?_, ?_⟩
  · rw [Nat.pow_zero, Nat.div_one]
    rfl
  · rintro ρ' ⟨y, rfl⟩
    repeat (first | refine we_ow rfl ?_ | refine ws_cons ?_ | refine ws_ret ?_)
    rfl
  · rintro i ρ hi ⟨y, rfl⟩
    refine ⟨_, rfl, ?_⟩
    repeat (first | refine we_sh rfl ?_ | refine we_bin ?_ | refine ws_cons ?_ | refine ws_appV ?_ | with_reducible refine lf (mod_nat hp) ?_ | refine ⟨rfl, ?_⟩)
    refine ⟨_, rfl, by simp [big, digN]; omega, ?_⟩
    repeat (first | refine we_sh rfl ?_ | refine we_bin ?_ | refine ws_nil ?_ | refine ws_cons ?_ | refine ws_setV rfl ?_ | with_reducible refine lf (fdiv_nat hp (show p < 1073741824 by omega)) ?_)
    refine ⟨.sh (ni i), ?_⟩
    have e1 : a / p ^ (i + 1) = a / p ^ i / p := by rw [Nat.pow_succ, Nat.div_div_eq_div_mul]
    have e2 : digN a p (i + 1) = digN a p i ++ [a / p ^ i % p] := by unfold digN; rw [List.range_succ, List.map_append]; rfl
    rw [e1, e2, List.map_append]
    rfl
section
variable {p deg q : Nat} {ms : List Nat}
theorem ev_digits (a : Nat) (hp : 0 < p) (hp2 : p < 1000) (hs : deg ≤ 1000) : Ev 2 F_Field_digits [.ins 0 (fdl p ms deg q), ni a] (.lst ((digN a p deg).map ni)) := by
  refine run_k fun k hk => run_ws (by decide) ⟨rfl, rfl⟩ ?_
  show WS _ t_Field_digits [.sh (.ins 0 (fdl p ms deg q)), .sh _] _ _
  unfold t_Field_digits
  repeat (first | refine we_sh rfl ?_ | refine wa_nil ?_ | refine wa_cons ?_ | refine we_call ?_ | refine we_fldN rfl rfl ?_ | refine ws_cons ?_ | refine ws_ret ?_ | refine lf (ev_digits0 a p deg hp hp2 hs k (by omega)) ?_)
  rfl
theorem ev_element (ds : List Nat) (hp2 : p < 1000) : Ev 1 F_Field_element [.ins 0 (fdl p ms deg q), .lst (ds.map ni)] (ni (elN p ds)) := by
  refine run_k fun k hk => run_ws (by decide) ⟨rfl, rfl⟩ ?_
  show WS _ t_Field_element [.sh (.ins 0 (fdl p ms deg q)), .sh _, .un, .un] _ _
  unfold t_Field_element
  repeat (first | refine we_int ?_ | refine ws_cons ?_ | refine ws_setV rfl ?_)
  refine ws_forL ?_
  repeat (first | refine we_sh rfl ?_ | refine wa_nil ?_ | refine wa_cons ?_ | refine ww_rev ?_)
  refine ⟨_, rfl, rfl, Nat, ds.reverse, ni, fun pre ρ => ∃ y, ρ = [.sh (.ins 0 (fdl p ms deg q)), .sh (.lst (ds.map ni)), .sh (ni (pre.foldl (fun r d => r * p + d) 0)), y], by rw [List.map_reverse], ⟨.un, rfl⟩, ?_, ?_⟩
  · rintro ρ' ⟨y, rfl⟩
    rw [List.foldl_reverse]
    repeat (first | refine we_sh rfl ?_ | refine ws_cons ?_ | refine ws_ret ?_)
    rfl
  · rintro pre d post ρ e ⟨y, rfl⟩
    refine ⟨_, rfl, ?_⟩
    simp only [List.foldl_append, List.foldl_cons, List.foldl_nil]
    generalize pre.foldl (fun r d => r * p + d) 0 = z
    repeat (first | refine we_sh rfl ?_ | refine we_bin ?_ | refine we_fldN rfl rfl ?_ | refine ws_nil ?_ | refine ws_cons ?_ | refine ws_setV rfl ?_ | with_reducible refine lf (mul_nat (show p < 2 ^ 64 by omega)) ?_ | with_reducible refine lf (add_nat) ?_)
    exact ⟨_, rfl⟩
def plusN (p deg a b : Nat) : Nat := if deg = 1 then (a + b) % p else elN p ((List.range deg).map fun i => (a / p ^ i % p + b / p ^ i % p) % p)
theorem idx_dig {a i : Nat} (h : i < deg) : idxD (.lst ((digN a p deg).map ni)) (ni i) = some (ni (a / p ^ i % p)) := idx_map (by unfold digN; rw [List.getElem?_map, List.getElem?_range h]; rfl)
theorem ev_plusN (a b : Nat) (hp : 0 < p) (hp2 : p < 1000) (hs : deg ≤ 1000) : Ev 3 F_Field_plus [.ins 0 (fdl p ms deg q), ni a, ni b] (ni (plusN p deg a b)) := by
  refine run_k fun k hk => run_ws (by decide) ⟨rfl, rfl⟩ ?_
  show WS _ t_Field_plus [.sh (.ins 0 (fdl p ms deg q)), .sh _, .sh _, .un, .un, .un] _ _
  unfold t_Field_plus
  have c1 : cmpD .eq (ni deg) (.int 1) = some (decide (deg = 1)) := eq_nat (j := 1)
  repeat (first | refine we_int ?_ | refine we_fldN rfl rfl ?_ | refine wt_cmp ?_ | refine ws_cons ?_ | refine ws_ite ?_ | with_reducible refine lf (c1) ?_)
  unfold plusN
  refine ⟨fun z => ?_, fun z => ?_⟩
  · rw [if_pos (of_decide_eq_true z)]
    repeat (first | refine we_sh rfl ?_ | refine we_bin ?_ | refine we_fldN rfl rfl ?_ | refine ws_cons ?_ | refine ws_ret ?_ | with_reducible refine lf (add_nat) ?_ | with_reducible refine lf (mod_nat hp) ?_)
    rfl
  · rw [if_neg (of_decide_eq_false z)]
    repeat (first | refine we_sh rfl ?_ | refine wa_nil ?_ | refine wa_cons ?_ | refine we_meth ?_ | refine ws_nil ?_ | refine ws_cons ?_ | refine ws_setV rfl ?_ | refine ws_ret ?_ | refine lf (ev_digits a hp hp2 hs k (by omega)) ?_ | refine lf (ev_digits b hp hp2 hs k (by omega)) ?_)
    refine we_map rfl ?_
    repeat (first | refine wa_nil ?_ | refine wa_cons ?_ | refine we_fldN rfl rfl ?_ | refine ww_rg1 ?_)
    refine ⟨deg, rfl, by omega, rfl, Nat, List.range deg, ni, fun i => ni ((a / p ^ i % p + b / p ^ i % p) % p), by unfold rgD; simp, by simp [big]; omega, fun i hi => ⟨_, rfl, ?_⟩, ?_⟩
    · have hi := List.mem_range.mp hi
      repeat (first | refine we_sh rfl ?_ | refine we_bin ?_ | refine we_fldN rfl rfl ?_ | refine we_subS rfl ?_ | with_reducible refine lf (idx_dig hi) ?_ | with_reducible refine lf (add_nat) ?_ | with_reducible refine lf (mod_nat hp) ?_ | refine ⟨rfl, ?_⟩)
      rfl
    · have he := ev_element (p := p) (ms := ms) (deg := deg) (q := q) ((List.range deg).map fun i => (a / p ^ i % p + b / p ^ i % p) % p) hp2 k (by omega)
      rw [List.map_map] at he
      repeat (first | refine wa_nil ?_ | refine lf (he) ?_)
      rfl
def negN (p deg a : Nat) : Nat := elN p ((digN a p deg).map fun d : Nat => ((0 - (d : Int)) % (p : Int)).toNat)
theorem ev_negN (a : Nat) (hp : 0 < p) (hp2 : p < 1000) (hs : deg ≤ 1000) : Ev 3 F_Field_negative [.ins 0 (fdl p ms deg q), ni a] (ni (negN p deg a)) := by
  refine run_k fun k hk => run_ws (by decide) ⟨rfl, rfl⟩ ?_
  show WS _ t_Field_negative [.sh (.ins 0 (fdl p ms deg q)), .sh _, .un] _ _
  unfold t_Field_negative
  repeat (first | refine we_sh rfl ?_ | refine wa_cons ?_ | refine we_meth ?_ | refine ws_cons ?_ | refine ws_ret ?_)
  refine we_map rfl ?_
  repeat (first | refine we_sh rfl ?_ | refine wa_nil ?_ | refine wa_cons ?_ | refine we_meth ?_ | refine ww_lst ?_ | refine lf (ev_digits a hp hp2 hs k (by omega)) ?_)
  refine ⟨_, rfl, rfl, Nat, digN a p deg, ni, fun d => ni ((0 - (d : Int)) % (p : Int)).toNat, rfl, by simp [big, digN]; omega, fun d hd => ⟨_, rfl, ?_⟩, ?_⟩
  · have o1 : opD .sub (.int 0) (ni d) = some (.int (0 - (d : Int))) := rfl
    have o2 : opD .mod (.int (0 - (d : Int))) (ni p) = some (ni ((0 - (d : Int)) % (p : Int)).toNat) := by
      have e : opD .mod (.int (0 - (d : Int))) (ni p) = (if 0 < (p : Int) then some (D.int ((0 - (d : Int)) % (p : Int))) else none) := rfl
      rw [e, if_pos (by omega)]
      have := Int.emod_nonneg (0 - (d : Int)) (show (p : Int) ≠ 0 by omega)
      show _ = some (D.int (((0 - (d : Int)) % (p : Int)).toNat : Int))
      rw [Int.toNat_of_nonneg this]
    repeat (first | refine we_sh rfl ?_ | refine we_int ?_ | refine we_bin ?_ | refine we_fldN rfl rfl ?_ | with_reducible refine lf (o1) ?_ | with_reducible refine lf (o2) ?_ | refine ⟨rfl, ?_⟩)
    rfl
  · have he := ev_element (p := p) (ms := ms) (deg := deg) (q := q) ((digN a p deg).map fun d : Nat => ((0 - (d : Int)) % (p : Int)).toNat) hp2 k (by omega)
    rw [List.map_map] at he
    repeat (first | refine wa_nil ?_ | refine lf (he) ?_)
    rfl
end
section
variable {α : Type} [GF α] {L : Nat} {fd : List D}
theorem ev_minus (hp : ∀ a b : α, Ev L F_Field_plus [.ins 0 fd, ei a, ei b] (ei (a + b))) (hn : ∀ a : α, Ev L F_Field_negative [.ins 0 fd, ei a] (ei (-a))) (a b : α) : Ev (L + 1) F_Field_minus [.ins 0 fd, ei a, ei b] (ei (a - b)) := by
  refine run_k fun k hk => run_ws (by decide) ⟨rfl, rfl⟩ ?_
  show WS _ t_Field_minus [.sh (.ins 0 fd), .sh _, .sh _] _ _
  unfold t_Field_minus
  repeat (first | refine we_sh rfl ?_ | refine wa_nil ?_ | refine wa_cons ?_ | refine we_meth ?_ | refine ws_cons ?_ | refine ws_ret ?_ | refine lf (hn _ k hk) ?_ | refine lf (hp _ _ k hk) ?_)
  have : a + -b = a - b := by grind
  rw [this]
theorem ev_inv (ht : ∀ a b : α, Ev L F_Field_times [.ins 0 fd, ei a, ei b] (ei (a * b))) (hq : GF.q α ≤ 16) (a : α) (ha : a ≠ 0) : Ev (L + 1) F_Field_inverse [.ins 0 fd, ei a] (ei (GF.inv a)) := by
  refine run_k fun k hk => run_ws (by decide) ⟨rfl, rfl⟩ ?_
  show WS _ t_Field_inverse [.sh (.ins 0 fd), .sh _, .un] _ _
  unfold t_Field_inverse
  have hi := GF.mul_inv a ha
  have hn : GF.inv a ≠ 0 := fun z => one_ne (α := α) (by rw [← hi, z]; grind)
  have hpos : 0 < GF.no (GF.inv a) := Nat.pos_of_ne_zero fun z => hn (no_zero_iff.mp z)
  have hlt := GF.no_lt (GF.inv a)
  repeat (first | refine we_sh rfl ?_ | refine we_int ?_ | refine wt_cmp ?_ | refine ws_cons ?_ | refine ws_ite ?_ | refine lf eq0 ?_)
  refine ⟨fun z => absurd (of_decide_eq_true z) ha, fun _ => ?_⟩
  repeat (first | refine we_int ?_ | refine ws_nil ?_ | refine ws_cons ?_ | refine ws_setV rfl ?_)
  refine ws_whl (fun m ρ => ∃ b, m + b = GF.no (GF.inv a) ∧ 1 ≤ b ∧ ρ = [.sh (.ins 0 fd), .sh (ei a), .sh (ni b)]) (GF.no (GF.inv a) - 1) (by omega) ⟨1, by omega, by omega, rfl⟩ ?_
  rintro m ρ ⟨b, h1, h2, rfl⟩
  have hb : ni b = ei (GF.el b : α) := by
    show D.int _ = D.int _
    rw [GF.no_el b (by omega)]
  have t := ht a (GF.el b) k hk
  rw [← hb] at t
  have c1 : cmpD .ne (ei (a * GF.el b)) (.int 1) = some (!decide (a * GF.el b = 1)) := by
    rw [ei1 (α := α)]
    show some (!decide ((GF.no (a * GF.el b) : Int) = (GF.no (1 : α) : Int))) = _
    congr 2
    rw [decide_eq_decide]
    constructor
    · intro h; exact no_inj (by omega)
    · intro h; rw [h]
  repeat (first | refine we_sh rfl ?_ | refine we_int ?_ | refine wa_nil ?_ | refine wa_cons ?_ | refine we_meth ?_ | refine wt_cmp ?_ | with_reducible refine lf (t) ?_ | with_reducible refine lf (c1) ?_)
  refine ⟨fun z => ?_, fun z => ?_⟩
  · have e : a * GF.el b = 1 := by simpa using z
    have : GF.el b = GF.inv a := by grind
    repeat (first | refine we_sh rfl ?_ | refine ws_cons ?_ | refine ws_ret ?_)
    rw [hb, this]
  · have e : a * GF.el b ≠ 1 := by simpa using z
    have hm : m ≠ 0 := fun z => e (by
      have : b = GF.no (GF.inv a) := by omega
      rw [this, GF.el_no]; exact hi)
    refine ⟨m - 1, by omega, ?_⟩
    repeat (first | refine we_sh rfl ?_ | refine we_int ?_ | refine we_bin ?_ | refine ws_nil ?_ | refine ws_cons ?_ | refine ws_setV rfl ?_ | with_reducible refine lf (add1) ?_)
    exact ⟨b + 1, by omega, by omega, rfl⟩
end
end MN
end S_MnFd
section S_MnFe
set_option maxRecDepth 100000
/-! The field's product. -/
namespace MN
open LA
theorem idx_natl {xs : List Nat} {i : Nat} (h : i < xs.length) : idxD (.lst (xs.map ni)) (ni i) = some (ni (xs.getD i 0)) := idx_map (by simp [h])
theorem idx_natt {xs : List Nat} {i : Nat} (h : i < xs.length) : idxD (.tup (xs.map ni)) (ni i) = some (ni (xs.getD i 0)) := by
  show L2.atI _ _ = _
  rw [atI_nat (by simpa using h)]
  simp [h]
theorem idx_last {xs : List Nat} (h : 0 < xs.length) : idxD (.lst (xs.map ni)) (.int (-1)) = some (ni (xs.getD (xs.length - 1) 0)) := by
  show L2.atI _ _ = _
  unfold L2.atI L2.ixN
  rw [if_neg (by omega), if_pos (by simp; omega)]
  have : ((-1 : Int) + ((xs.map ni).length : Int)).toNat = xs.length - 1 := by simp; omega
  rw [this, Option.bind_some, List.getElem?_map]
  simp [show xs.length - 1 < xs.length by omega]
theorem set_nats {xs : List Nat} {i v : Nat} : (xs.map ni).set i (ni v) = (xs.set i v).map ni := by rw [List.map_set]
def rput (p st f : Nat) (dvs : List Nat) (r : List Nat) (k : Nat) : List Nat := r.set (st + k) ((((r.getD (st + k) 0 : Nat) : Int) - ((f * dvs.getD k 0 : Nat) : Int)) % (p : Int)).toNat
def rfold (p st f : Nat) (dvs : List Nat) (r : List Nat) (n : Nat) : List Nat := (List.range n).foldl (rput p st f dvs) r
def rstep (p : Nat) (dvs r : List Nat) : List Nat := (rfold p (r.length - 1 - (dvs.length - 1)) (r.getD (r.length - 1) 0) dvs r (dvs.length - 1 + 1)).dropLast
def remN (p : Nat) (dvs : List Nat) : Nat → List Nat → List Nat
  | 0, r => r
  | n + 1, r => remN p dvs n (rstep p dvs r)
theorem rfold_len (p st f : Nat) (dvs r : List Nat) : ∀ n, (rfold p st f dvs r n).length = r.length
  | 0 => rfl
  | n + 1 => by
    unfold rfold
    rw [List.range_succ, List.foldl_append]
    show (rput p st f dvs (rfold p st f dvs r n) n).length = _
    unfold rput
    rw [List.length_set, rfold_len p st f dvs r n]
/-- w: a list or a tuple -/
theorem ev_rem (p : Nat) (its dvs : List Nat) (hp : 0 < p) (w v : D) (hw : biD .list_ [w] = some (.lst (its.map ni))) (hv : biD .len [v] = some (ni dvs.length)) (hi : ∀ i, i < dvs.length → idxD v (ni i) = some (ni (dvs.getD i 0))) (hd : 1 ≤ dvs.length) (hd2 : dvs.length ≤ 100) (hl : dvs.length - 1 ≤ its.length) (hl2 : its.length ≤ 1000)
    (hds : ∀ i, dvs.getD i 0 < 1000) : Ev 1 F_integer_remainder [ni p, w, v] (.lst ((remN p dvs (its.length - (dvs.length - 1)) its).map ni)) := by
  refine run_k fun k hk => run_ws (by decide) ⟨rfl, rfl⟩ ?_
  show WS _ t_integer_remainder [.sh _, .sh _, .sh _, .un, .un, .un, .un, .un] _ _
  unfold t_integer_remainder
  repeat (first | refine we_sh rfl ?_ | refine we_int ?_ | refine we_bin ?_ | refine wa_nil ?_ | refine wa_cons ?_ | refine we_bi ?_ | refine ws_cons ?_ | refine ws_setV rfl ?_ | with_reducible refine lf (hv) ?_ | with_reducible refine lf (sub1 hd) ?_ | with_reducible refine lf (hw) ?_)
  refine ws_whl (fun m ρ => ∃ r x5 x6 x7, r.length = dvs.length - 1 + m ∧ r.length ≤ its.length ∧ remN p dvs m r = remN p dvs (its.length - (dvs.length - 1)) its ∧ ρ = [.sh (ni p), .sh w, .sh v, .sh (ni (dvs.length - 1)), .ow (r.map ni), x5, x6, x7]) (its.length - (dvs.length - 1)) (by omega) ⟨its, .un, .un, .un, by omega, Nat.le_refl _, rfl, rfl⟩ ?_
  rintro m ρ ⟨r, x5, x6, x7, h1, h2, h3, rfl⟩
  repeat (first | refine we_sh rfl ?_ | refine we_ow rfl ?_ | refine wa_nil ?_ | refine wa_cons ?_ | refine we_bi ?_ | refine wt_cmp ?_ | refine lf len_map ?_ | refine lf lt_nat ?_)
  refine ⟨fun z => ?_, fun z => ?_⟩
  · have : m = 0 := by simp at z; omega
    subst this
    repeat (first | refine we_ow rfl ?_ | refine ws_cons ?_ | refine ws_ret ?_)
    rw [← h3]
    rfl
  · have hm : 0 < m := by simp at z; omega
    obtain ⟨m, rfl⟩ : ∃ j, m = j + 1 := ⟨m - 1, by omega⟩
    refine ⟨m, rfl, ?_⟩
    have h3 : remN p dvs m (rstep p dvs r) = remN p dvs (its.length - (dvs.length - 1)) its := h3
    unfold rstep at h3
    generalize hf : r.getD (r.length - 1) 0 = f at h3
    generalize hst : r.length - 1 - (dvs.length - 1) = st at h3
    have gl := idx_last (xs := r) (by omega)
    rw [hf] at gl
    have s2 : opD .sub (ni (r.length - 1)) (ni (dvs.length - 1)) = some (ni st) := by rw [sub_nat (by omega), hst]
    repeat (first | refine we_sh rfl ?_ | refine we_ow rfl ?_ | refine we_int ?_ | refine we_neg ?_ | refine we_bin ?_ | refine wa_nil ?_ | refine wa_cons ?_ | refine we_bi ?_ | refine we_subO rfl ?_ | refine ws_cons ?_ | refine ws_setV rfl ?_ | with_reducible refine lf (gl) ?_ | with_reducible refine lf (sub1 (show 1 ≤ r.length by omega)) ?_ | with_reducible refine lf (s2) ?_ | refine lf len_map ?_)
    refine ws_forR ?_
    repeat (first | refine we_sh rfl ?_ | refine we_int ?_ | refine we_bin ?_ | refine wa_nil ?_ | refine wa_cons ?_ | with_reducible refine lf (add1) ?_ | refine ⟨rfl, ?_⟩)
    refine ⟨dvs.length - 1 + 1, rfl, by omega, fun t ρ => ∃ x7, ρ = [.sh (ni p), .sh w, .sh v, .sh (ni (dvs.length - 1)), .ow ((rfold p st f dvs r t).map ni), .sh (ni f), .sh (ni st), x7], ⟨x7, rfl⟩, ?_, ?_⟩
    · rintro ρ' ⟨x7, rfl⟩
      have hl3 := rfold_len p st f dvs r (dvs.length - 1 + 1)
      generalize hE : rfold p st f dvs r (dvs.length - 1 + 1) = E at h3 hl3
      refine ws_cons ⟨.nx [.sh (ni p), .sh w, .sh v, .sh (ni (dvs.length - 1)), .ow (E.dropLast.map ni), .sh (ni f), .sh (ni st), x7], ?_, ?_⟩
      · show (chg 4 [] _ _).bind _ = _
        unfold chg
        rw [frz_nil]
        show Option.bind (Option.bind (if (E.map ni).isEmpty then none else some (E.map ni).dropLast) _) _ = _
        have : (E.map ni).isEmpty = false := by
          cases E with
          | nil => simp at hl3; omega
          | cons _ _ => rfl
        rw [this]
        show some (Out.nx [_, _, _, _, Sl.ow (E.map ni).dropLast, _, _, _]) = _
        rw [List.map_dropLast]
      · refine ws_nil ⟨E.dropLast, _, _, _, ?_, ?_, h3, rfl⟩
        · rw [List.length_dropLast]; omega
        · rw [List.length_dropLast]; omega
    · rintro t ρ ht ⟨x7, rfl⟩
      refine ⟨_, rfl, ?_⟩
      have hl3 := rfold_len p st f dvs r t
      have e : rfold p st f dvs r (t + 1) = rput p st f dvs (rfold p st f dvs r t) t := by
        unfold rfold
        rw [List.range_succ, List.foldl_append]
        rfl
      simp only [e]
      clear e
      generalize rfold p st f dvs r t = E at hl3 ⊢
      have g1 := idx_natl (xs := E) (i := st + t) (by omega)
      have hdt := hds t
      have o1 : opD .sub (ni (E.getD (st + t) 0)) (ni (f * dvs.getD t 0)) = some (.int (((E.getD (st + t) 0 : Nat) : Int) - ((f * dvs.getD t 0 : Nat) : Int))) := rfl
      have o2 : opD .mod (.int (((E.getD (st + t) 0 : Nat) : Int) - ((f * dvs.getD t 0 : Nat) : Int))) (ni p) = some (ni ((((E.getD (st + t) 0 : Nat) : Int) - ((f * dvs.getD t 0 : Nat) : Int)) % (p : Int)).toNat) := by
        generalize ((E.getD (st + t) 0 : Nat) : Int) - ((f * dvs.getD t 0 : Nat) : Int) = x
        have e : opD .mod (.int x) (ni p) = (if 0 < (p : Int) then some (D.int (x % (p : Int))) else none) := rfl
        rw [e, if_pos (by omega)]
        have := Int.emod_nonneg x (show (p : Int) ≠ 0 by omega)
        show _ = some (D.int ((x % (p : Int)).toNat : Int))
        rw [Int.toNat_of_nonneg this]
      repeat (first | refine we_sh rfl ?_ | refine we_bin ?_ | refine we_subS rfl ?_ | refine we_subO rfl ?_ | refine ws_cons ?_ | refine ws_setsV ?_ | with_reducible refine lf (add_nat) ?_ | with_reducible refine lf (g1) ?_ | with_reducible refine lf (hi t (by omega)) ?_ | with_reducible refine lf (mul_nat (show dvs.getD t 0 < 2 ^ 64 by omega)) ?_ | with_reducible refine lf (o1) ?_ | with_reducible refine lf (o2) ?_ | refine ⟨rfl, ?_⟩)
      refine ⟨_, _, _, rfl, rfl, ixN_nat (by simp; omega), ?_⟩
      rw [set_nats]
      repeat (first | refine ws_nil ?_)
      exact ⟨_, rfl⟩
end MN
end S_MnFe
section S_MnFf
set_option maxRecDepth 100000
/-! The field's product, ended; sameness. -/
namespace MN
open LA
def pin (p : Nat) (fs ss : List Nat) (i : Nat) (P : List Nat) (j : Nat) : List Nat := P.set (i + j) ((P.getD (i + j) 0 + fs.getD i 0 * ss.getD j 0) % p)
def pout (p deg : Nat) (fs ss : List Nat) (P : List Nat) (i : Nat) : List Nat := (List.range deg).foldl (pin p fs ss i) P
def prodN (p deg a b : Nat) : List Nat := (List.range deg).foldl (pout p deg (digN a p deg) (digN b p deg)) ((List.range (2 * deg - 1)).map fun _ => 0)
def timesN (p deg : Nat) (ms : List Nat) (a b : Nat) : Nat := if deg = 1 then a * b % p else elN p (remN p ms ((prodN p deg a b).length - (ms.length - 1)) (prodN p deg a b))
theorem pin_fold_len (p : Nat) (fs ss : List Nat) (i : Nat) (P : List Nat) : ∀ n, ((List.range n).foldl (pin p fs ss i) P).length = P.length
  | 0 => rfl
  | n + 1 => by
    rw [List.range_succ, List.foldl_append]
    show (pin p fs ss i _ n).length = _
    unfold pin
    rw [List.length_set]
    exact pin_fold_len p fs ss i P n
theorem pout_fold_len (p deg : Nat) (fs ss P : List Nat) : ∀ n, ((List.range n).foldl (pout p deg fs ss) P).length = P.length
  | 0 => rfl
  | n + 1 => by
    rw [List.range_succ, List.foldl_append]
    show (pout p deg fs ss _ n).length = _
    unfold pout
    rw [pin_fold_len]
    exact pout_fold_len p deg fs ss P n
theorem digN_len (a p s : Nat) : (digN a p s).length = s := by unfold digN; simp
theorem digN_lt {a p s i : Nat} (hp : 0 < p) : (digN a p s).getD i 0 < p := by
  unfold digN
  by_cases h : i < s
  · simp [h]
    exact Nat.mod_lt _ hp
  · simp [h]
    exact hp
section
variable {p deg q : Nat} {ms : List Nat}
theorem ev_timesN (a b : Nat) (hp : 0 < p) (hp2 : p < 1000) (hs : deg ≤ 50) (h1 : 1 ≤ deg) (hm : ms.length = deg + 1) (hms : ∀ i, ms.getD i 0 < 1000) (hb : b < 2 ^ 64) : Ev 3 F_Field_times [.ins 0 (fdl p ms deg q), ni a, ni b] (ni (timesN p deg ms a b)) := by
  refine run_k fun k hk => run_ws (by decide) ⟨rfl, rfl⟩ ?_
  show WS _ t_Field_times [.sh (.ins 0 (fdl p ms deg q)), .sh _, .sh _, .un, .un, .un, .un, .un] _ _
  unfold t_Field_times
  have c1 : cmpD .eq (ni deg) (.int 1) = some (decide (deg = 1)) := eq_nat (j := 1)
  repeat (first | refine we_int ?_ | refine we_fldN rfl rfl ?_ | refine wt_cmp ?_ | refine ws_cons ?_ | refine ws_ite ?_ | with_reducible refine lf (c1) ?_)
  unfold timesN
  refine ⟨fun z => ?_, fun z => ?_⟩
  · rw [if_pos (of_decide_eq_true z)]
    repeat (first | refine we_sh rfl ?_ | refine we_bin ?_ | refine we_fldN rfl rfl ?_ | refine ws_cons ?_ | refine ws_ret ?_ | with_reducible refine lf (mul_nat hb) ?_ | with_reducible refine lf (mod_nat hp) ?_)
    rfl
  · rw [if_neg (of_decide_eq_false z)]
    have hd : deg ≠ 1 := of_decide_eq_false z
    have t1 : opD .mul (.int 2) (ni deg) = some (ni (2 * deg)) := mul_nat (a := 2) (by omega)
    have t2 : opD .sub (ni (2 * deg)) (.int 1) = some (ni (2 * deg - 1)) := sub1 (by omega)
    repeat (first | refine we_sh rfl ?_ | refine we_int ?_ | refine we_bin ?_ | refine wa_nil ?_ | refine wa_cons ?_ | refine we_meth ?_ | refine we_lst ?_ | refine ws_nil ?_ | refine ws_cons ?_ | refine ws_setV rfl ?_ | refine lf (ev_digits a hp hp2 (show deg ≤ 1000 by omega) k (by omega)) ?_ | refine lf (ev_digits b hp hp2 (show deg ≤ 1000 by omega) k (by omega)) ?_)
    refine ⟨by simp [big], we_bin (we_bin (we_int (we_fldN rfl rfl (lf t1 (we_int (lf t2 (lf (mul_list (show 2 * deg - 1 ≤ 16777216 by omega)) ?_)))))))⟩
    repeat (first | refine ws_cons ?_)
    refine ws_forR ?_
    repeat (first | refine wa_nil ?_ | refine wa_cons ?_ | refine we_fldN rfl rfl ?_ | refine ⟨rfl, ?_⟩)
    have e0 : ((List.range (2 * deg - 1)).map fun _ => D.int 0) = ((List.range (2 * deg - 1)).map fun _ => 0).map ni := by rw [List.map_map]; rfl
    have hF := digN_len a p deg
    have hS := digN_len b p deg
    have hSl : ∀ j, (digN b p deg).getD j 0 < p := fun j => digN_lt hp
    have f1 : ∀ i, i < deg → idxD (.lst ((digN a p deg).map ni)) (ni i) = some (ni ((digN a p deg).getD i 0)) := fun i hi => idx_natl (by omega)
    have f2 : ∀ i, i < deg → idxD (.lst ((digN b p deg).map ni)) (ni i) = some (ni ((digN b p deg).getD i 0)) := fun i hi => idx_natl (by omega)
    unfold prodN
    generalize digN a p deg = fs at hF f1 ⊢
    generalize digN b p deg = ss at hS f2 hSl ⊢
    refine ⟨deg, rfl, by omega, fun i ρ => ∃ x6 x7, ρ = [.sh (.ins 0 (fdl p ms deg q)), .sh (ni a), .sh (ni b), .sh (.lst (fs.map ni)), .sh (.lst (ss.map ni)), .ow (((List.range i).foldl (pout p deg fs ss) ((List.range (2 * deg - 1)).map fun _ => 0)).map ni), x6, x7], ⟨.un, .un, by rw [e0]; rfl⟩, ?_, ?_⟩
    · rintro ρ' ⟨x6, x7, rfl⟩
      have hl := pout_fold_len p deg fs ss ((List.range (2 * deg - 1)).map fun _ => 0) deg
      generalize (List.range deg).foldl (pout p deg fs ss) ((List.range (2 * deg - 1)).map fun _ => 0) = P at hl ⊢
      have hl : P.length = 2 * deg - 1 := by rw [hl]; simp
      have er := ev_rem p P ms hp (.lst (P.map ni)) (.tup (ms.map ni)) rfl (by show some (D.int _) = _; simp) (fun i hi => idx_natt hi) (by omega) (by omega) (by omega) (by omega) hms k (by omega)
      have ee := ev_element (p := p) (ms := ms) (deg := deg) (q := q) (remN p ms (P.length - (ms.length - 1)) P) hp2 k (by omega)
      repeat (first | refine we_sh rfl ?_ | refine we_ow rfl ?_ | refine wa_nil ?_ | refine wa_cons ?_ | refine we_call ?_ | refine we_meth ?_ | refine we_fldN rfl rfl ?_ | refine ws_cons ?_ | refine ws_ret ?_ | with_reducible refine lf (er) ?_ | with_reducible refine lf (ee) ?_)
      rfl
    · rintro i ρ hi ⟨x6, x7, rfl⟩
      have hl := pout_fold_len p deg fs ss ((List.range (2 * deg - 1)).map fun _ => 0) i
      have e : (List.range (i + 1)).foldl (pout p deg fs ss) ((List.range (2 * deg - 1)).map fun _ => 0) = (List.range deg).foldl (pin p fs ss i) ((List.range i).foldl (pout p deg fs ss) ((List.range (2 * deg - 1)).map fun _ => 0)) := by
        rw [List.range_succ, List.foldl_append]
        rfl
      simp only [e]
      clear e
      generalize (List.range i).foldl (pout p deg fs ss) ((List.range (2 * deg - 1)).map fun _ => 0) = P at hl ⊢
      have hl : P.length = 2 * deg - 1 := by rw [hl]; simp
      refine ⟨_, rfl, ?_⟩
      repeat (first | refine ws_cons ?_)
      refine ws_forR ?_
      repeat (first | refine wa_nil ?_ | refine wa_cons ?_ | refine we_fldN rfl rfl ?_ | refine ⟨rfl, ?_⟩)
      refine ⟨deg, rfl, by omega, fun j ρ => ∃ x7, ρ = [.sh (.ins 0 (fdl p ms deg q)), .sh (ni a), .sh (ni b), .sh (.lst (fs.map ni)), .sh (.lst (ss.map ni)), .ow (((List.range j).foldl (pin p fs ss i) P).map ni), .sh (ni i), x7], ⟨x7, rfl⟩, ?_, ?_⟩
      · rintro ρ' ⟨x7, rfl⟩
        repeat (first | refine ws_nil ?_)
        exact ⟨_, _, rfl⟩
      · rintro j ρ hj ⟨x7, rfl⟩
        have hl2 := pin_fold_len p fs ss i P j
        have e : (List.range (j + 1)).foldl (pin p fs ss i) P = pin p fs ss i ((List.range j).foldl (pin p fs ss i) P) j := by
          rw [List.range_succ, List.foldl_append]
          rfl
        simp only [e]
        clear e
        generalize (List.range j).foldl (pin p fs ss i) P = E at hl2 ⊢
        have g1 := idx_natl (xs := E) (i := i + j) (by omega)
        have hsj := hSl j
        refine ⟨_, rfl, ?_⟩
        repeat (first | refine we_sh rfl ?_ | refine we_bin ?_ | refine we_fldN rfl rfl ?_ | refine we_subS rfl ?_ | refine we_subO rfl ?_ | refine ws_cons ?_ | refine ws_setsV ?_ | with_reducible refine lf (add_nat) ?_ | with_reducible refine lf (g1) ?_ | with_reducible refine lf (f1 i hi) ?_ | with_reducible refine lf (f2 j hj) ?_ | with_reducible refine lf (mul_nat (show ss.getD j 0 < 2 ^ 64 by omega)) ?_ | with_reducible refine lf (mod_nat hp) ?_ | refine ⟨rfl, ?_⟩)
        refine ⟨_, _, _, rfl, rfl, ixN_nat (by simp; omega), ?_⟩
        rw [set_nats]
        repeat (first | refine ws_nil ?_)
        exact ⟨_, rfl⟩
theorem eqDs_nats : ∀ xs : List Nat, eqDs (xs.map ni) (xs.map ni) = true
  | [] => by unfold eqDs; rfl
  | x :: xs => by
    have h : eqD (ni x) (ni x) = true := by unfold eqD; simp
    rw [List.map_cons]
    unfold eqDs
    rw [h, eqDs_nats xs]
    rfl
theorem ev_same : Ev 1 F_Field_same_as [.ins 0 (fdl p ms deg q), .ins 0 (fdl p ms deg q)] (.bl true) := by
  refine run_k fun k hk => run_ws (by decide) ⟨rfl, rfl⟩ ?_
  show WS _ t_Field_same_as [.sh (.ins 0 (fdl p ms deg q)), .sh (.ins 0 (fdl p ms deg q))] _ _
  unfold t_Field_same_as
  have c2 : cmpD .eq (.tup (ms.map ni)) (.tup (ms.map ni)) = some true := by
    have ok : okP 4 (.tup (ms.map ni)) = true := by
      unfold okP
      rw [List.all_map]
      exact List.all_eq_true.mpr fun x _ => rfl
    show (if okP 4 (.tup (ms.map ni)) && okP 4 (.tup (ms.map ni)) then some (eqD (.tup (ms.map ni)) (.tup (ms.map ni))) else none) = _
    rw [ok]
    show some (eqD (.tup (ms.map ni)) (.tup (ms.map ni))) = _
    unfold eqD
    rw [eqDs_nats]
  repeat (first | refine we_fldN rfl rfl ?_ | refine wt_cmp ?_ | refine wt_and ?_ | refine we_and ?_ | refine ws_cons ?_ | refine ws_ret ?_ | refine lf eq_nat ?_)
  refine ⟨fun z => by simp at z, fun _ => ?_⟩
  repeat (first | refine we_fldN rfl rfl ?_ | refine wt_cmp ?_ | with_reducible refine lf (c2) ?_)
  rfl
end
end MN
end S_MnFf
section S_MnGf
set_option maxRecDepth 100000
/-! The law's fields (printed by gengf.py). -/
namespace MN
open LA
def tget (t : List (List Nat)) (a b : Nat) : Nat := (t.getD a []).getD b 0
def mkT (q : Nat) (s m : List (List Nat)) (n i : List Nat) : FT := ⟨q, tget s, tget m, fun a => n.getD a 0, fun a => i.getD a 0⟩
/-- the tables are the program's arithmetic -/
def sameB (p deg : Nat) (ms : List Nat) (T : FT) : Bool := allB T.q fun a => decide (negN p deg a = T.neg a) && allB T.q fun b => decide (plusN p deg a b = T.add a b) && decide (timesN p deg ms a b = T.mul a b)
theorem ms_small {ms : List Nat} (h : ms.all (fun x => decide (x < 1000)) = true) (i : Nat) : ms.getD i 0 < 1000 := by
  by_cases hi : i < ms.length
  · have := List.all_eq_true.mp h ms[i] (List.getElem_mem hi)
    simp [hi]
    simpa using this
  · simp [hi]
theorem fe_of {T : FT} (h : T.Ok) {p deg : Nat} {ms : List Nat} (hs : sameB p deg ms T = true) (hp : 0 < p) (hp2 : p < 1000) (h1 : 1 ≤ deg) (hd : deg ≤ 50) (hm : ms.length = deg + 1) (hms : ∀ i, ms.getD i 0 < 1000) (hq : T.q ≤ 16) : @FE (El T) (mkGF h) 4 (fdl p ms deg T.q) := by
  letI := mkGF h
  have hs := allB_ok hs
  simp only [Bool.and_eq_true, decide_eq_true_eq] at hs
  have h2 : ∀ a b, a < T.q → b < T.q → _ := fun a b ha hb => allB_ok (hs a ha).2 b hb
  simp only [Bool.and_eq_true, decide_eq_true_eq] at h2
  have plus : ∀ a b : El T, Ev 3 F_Field_plus [.ins 0 (fdl p ms deg T.q), ei a, ei b] (ei (a + b)) := fun a b => by
    have := ev_plusN (p := p) (deg := deg) (q := T.q) (ms := ms) a.v b.v hp hp2 (by omega)
    rw [(h2 a.v b.v a.lt b.lt).1] at this
    exact this
  have times : ∀ a b : El T, Ev 3 F_Field_times [.ins 0 (fdl p ms deg T.q), ei a, ei b] (ei (a * b)) := fun a b => by
    have := ev_timesN (p := p) (deg := deg) (q := T.q) (ms := ms) a.v b.v hp hp2 hd h1 hm hms (by have := b.lt; omega)
    rw [(h2 a.v b.v a.lt b.lt).2] at this
    exact this
  have neg : ∀ a : El T, Ev 3 F_Field_negative [.ins 0 (fdl p ms deg T.q), ei a] (ei (-a)) := fun a => by
    have := ev_negN (p := p) (deg := deg) (q := T.q) (ms := ms) a.v hp hp2 (by omega)
    rw [(hs a.v a.lt).1] at this
    exact this
  exact ⟨rfl, ⟨_, _, _, rfl⟩, hq, fun a b => (plus a b).up (by omega), fun a b => ev_minus plus neg a b, fun a b => (times a b).up (by omega), fun a => (neg a).up (by omega), fun a ha => ev_inv times hq a ha, ev_same.up (by omega)⟩
def T0 : FT := mkT 2 [[0, 1], [1, 0]] [[0, 0], [0, 1]] [0, 1] [0, 1]
theorem T0_ok : T0.Ok := FT.ok_of (by decide +kernel)
theorem T0_fe : @FE (El T0) (mkGF T0_ok) 4 (fdl 2 [0, 1] 1 2) := fe_of T0_ok (by decide +kernel) (by decide) (by decide) (by decide) (by decide) rfl (ms_small (by decide)) (by decide)
def T1 : FT := mkT 3 [[0, 1, 2], [1, 2, 0], [2, 0, 1]] [[0, 0, 0], [0, 1, 2], [0, 2, 1]] [0, 2, 1] [0, 1, 2]
theorem T1_ok : T1.Ok := FT.ok_of (by decide +kernel)
theorem T1_fe : @FE (El T1) (mkGF T1_ok) 4 (fdl 3 [0, 1] 1 3) := fe_of T1_ok (by decide +kernel) (by decide) (by decide) (by decide) (by decide) rfl (ms_small (by decide)) (by decide)
def T2 : FT := mkT 4 [[0, 1, 2, 3], [1, 0, 3, 2], [2, 3, 0, 1], [3, 2, 1, 0]] [[0, 0, 0, 0], [0, 1, 2, 3], [0, 2, 3, 1], [0, 3, 1, 2]] [0, 1, 2, 3] [0, 1, 3, 2]
theorem T2_ok : T2.Ok := FT.ok_of (by decide +kernel)
theorem T2_fe : @FE (El T2) (mkGF T2_ok) 4 (fdl 2 [1, 1, 1] 2 4) := fe_of T2_ok (by decide +kernel) (by decide) (by decide) (by decide) (by decide) rfl (ms_small (by decide)) (by decide)
def T3 : FT := mkT 5 [[0, 1, 2, 3, 4], [1, 2, 3, 4, 0], [2, 3, 4, 0, 1], [3, 4, 0, 1, 2], [4, 0, 1, 2, 3]] [[0, 0, 0, 0, 0], [0, 1, 2, 3, 4], [0, 2, 4, 1, 3], [0, 3, 1, 4, 2], [0, 4, 3, 2, 1]] [0, 4, 3, 2, 1] [0, 1, 3, 2, 4]
theorem T3_ok : T3.Ok := FT.ok_of (by decide +kernel)
theorem T3_fe : @FE (El T3) (mkGF T3_ok) 4 (fdl 5 [0, 1] 1 5) := fe_of T3_ok (by decide +kernel) (by decide) (by decide) (by decide) (by decide) rfl (ms_small (by decide)) (by decide)
def T4 : FT := mkT 8 [[0, 1, 2, 3, 4, 5, 6, 7], [1, 0, 3, 2, 5, 4, 7, 6], [2, 3, 0, 1, 6, 7, 4, 5], [3, 2, 1, 0, 7, 6, 5, 4], [4, 5, 6, 7, 0, 1, 2, 3], [5, 4, 7, 6, 1, 0, 3, 2], [6, 7, 4, 5, 2, 3, 0, 1], [7, 6, 5, 4, 3, 2, 1, 0]] [[0, 0, 0, 0, 0, 0, 0, 0], [0, 1, 2, 3, 4, 5, 6, 7], [0, 2, 4, 6, 3, 1, 7, 5], [0, 3, 6, 5, 7, 4, 1, 2], [0, 4, 3, 7, 6, 2, 5, 1], [0, 5, 1, 4, 2, 7, 3, 6], [0, 6, 7, 1, 5, 3, 2, 4], [0, 7, 5, 2, 1, 6, 4, 3]] [0, 1, 2, 3, 4, 5, 6, 7] [0, 1, 5, 6, 7, 2, 3, 4]
theorem T4_ok : T4.Ok := FT.ok_of (by decide +kernel)
theorem T4_fe : @FE (El T4) (mkGF T4_ok) 4 (fdl 2 [1, 1, 0, 1] 3 8) := fe_of T4_ok (by decide +kernel) (by decide) (by decide) (by decide) (by decide) rfl (ms_small (by decide)) (by decide)
def T5 : FT := mkT 9 [[0, 1, 2, 3, 4, 5, 6, 7, 8], [1, 2, 0, 4, 5, 3, 7, 8, 6], [2, 0, 1, 5, 3, 4, 8, 6, 7], [3, 4, 5, 6, 7, 8, 0, 1, 2], [4, 5, 3, 7, 8, 6, 1, 2, 0], [5, 3, 4, 8, 6, 7, 2, 0, 1], [6, 7, 8, 0, 1, 2, 3, 4, 5], [7, 8, 6, 1, 2, 0, 4, 5, 3], [8, 6, 7, 2, 0, 1, 5, 3, 4]] [[0, 0, 0, 0, 0, 0, 0, 0, 0], [0, 1, 2, 3, 4, 5, 6, 7, 8], [0, 2, 1, 6, 8, 7, 3, 5, 4], [0, 3, 6, 2, 5, 8, 1, 4, 7], [0, 4, 8, 5, 6, 1, 7, 2, 3], [0, 5, 7, 8, 1, 3, 4, 6, 2], [0, 6, 3, 1, 7, 4, 2, 8, 5], [0, 7, 5, 4, 2, 6, 8, 3, 1], [0, 8, 4, 7, 3, 2, 5, 1, 6]] [0, 2, 1, 6, 8, 7, 3, 5, 4] [0, 1, 2, 6, 5, 4, 3, 8, 7]
theorem T5_ok : T5.Ok := FT.ok_of (by decide +kernel)
theorem T5_fe : @FE (El T5) (mkGF T5_ok) 4 (fdl 3 [1, 0, 1] 2 9) := fe_of T5_ok (by decide +kernel) (by decide) (by decide) (by decide) (by decide) rfl (ms_small (by decide)) (by decide)
def T6 : FT := mkT 7 [[0, 1, 2, 3, 4, 5, 6], [1, 2, 3, 4, 5, 6, 0], [2, 3, 4, 5, 6, 0, 1], [3, 4, 5, 6, 0, 1, 2], [4, 5, 6, 0, 1, 2, 3], [5, 6, 0, 1, 2, 3, 4], [6, 0, 1, 2, 3, 4, 5]] [[0, 0, 0, 0, 0, 0, 0], [0, 1, 2, 3, 4, 5, 6], [0, 2, 4, 6, 1, 3, 5], [0, 3, 6, 2, 5, 1, 4], [0, 4, 1, 5, 2, 6, 3], [0, 5, 3, 1, 6, 4, 2], [0, 6, 5, 4, 3, 2, 1]] [0, 6, 5, 4, 3, 2, 1] [0, 1, 4, 5, 2, 3, 6]
theorem T6_ok : T6.Ok := FT.ok_of (by decide +kernel)
theorem T6_fe : @FE (El T6) (mkGF T6_ok) 4 (fdl 7 [0, 1] 1 7) := fe_of T6_ok (by decide +kernel) (by decide) (by decide) (by decide) (by decide) rfl (ms_small (by decide)) (by decide)
def T7 : FT := mkT 2 [[0, 1], [1, 0]] [[0, 0], [0, 1]] [0, 1] [0, 1]
theorem T7_ok : T7.Ok := FT.ok_of (by decide +kernel)
theorem T7_fe : @FE (El T7) (mkGF T7_ok) 4 (fdl 2 [1, 1] 1 2) := fe_of T7_ok (by decide +kernel) (by decide) (by decide) (by decide) (by decide) rfl (ms_small (by decide)) (by decide)
def T8 : FT := mkT 3 [[0, 1, 2], [1, 2, 0], [2, 0, 1]] [[0, 0, 0], [0, 1, 2], [0, 2, 1]] [0, 2, 1] [0, 1, 2]
theorem T8_ok : T8.Ok := FT.ok_of (by decide +kernel)
theorem T8_fe : @FE (El T8) (mkGF T8_ok) 4 (fdl 3 [2, 1] 1 3) := fe_of T8_ok (by decide +kernel) (by decide) (by decide) (by decide) (by decide) rfl (ms_small (by decide)) (by decide)
def T9 : FT := mkT 8 [[0, 1, 2, 3, 4, 5, 6, 7], [1, 0, 3, 2, 5, 4, 7, 6], [2, 3, 0, 1, 6, 7, 4, 5], [3, 2, 1, 0, 7, 6, 5, 4], [4, 5, 6, 7, 0, 1, 2, 3], [5, 4, 7, 6, 1, 0, 3, 2], [6, 7, 4, 5, 2, 3, 0, 1], [7, 6, 5, 4, 3, 2, 1, 0]] [[0, 0, 0, 0, 0, 0, 0, 0], [0, 1, 2, 3, 4, 5, 6, 7], [0, 2, 4, 6, 5, 7, 1, 3], [0, 3, 6, 5, 1, 2, 7, 4], [0, 4, 5, 1, 7, 3, 2, 6], [0, 5, 7, 2, 3, 6, 4, 1], [0, 6, 1, 7, 2, 4, 3, 5], [0, 7, 3, 4, 6, 1, 5, 2]] [0, 1, 2, 3, 4, 5, 6, 7] [0, 1, 6, 4, 3, 7, 2, 5]
theorem T9_ok : T9.Ok := FT.ok_of (by decide +kernel)
theorem T9_fe : @FE (El T9) (mkGF T9_ok) 4 (fdl 2 [1, 0, 1, 1] 3 8) := fe_of T9_ok (by decide +kernel) (by decide) (by decide) (by decide) (by decide) rfl (ms_small (by decide)) (by decide)
def T10 : FT := mkT 9 [[0, 1, 2, 3, 4, 5, 6, 7, 8], [1, 2, 0, 4, 5, 3, 7, 8, 6], [2, 0, 1, 5, 3, 4, 8, 6, 7], [3, 4, 5, 6, 7, 8, 0, 1, 2], [4, 5, 3, 7, 8, 6, 1, 2, 0], [5, 3, 4, 8, 6, 7, 2, 0, 1], [6, 7, 8, 0, 1, 2, 3, 4, 5], [7, 8, 6, 1, 2, 0, 4, 5, 3], [8, 6, 7, 2, 0, 1, 5, 3, 4]] [[0, 0, 0, 0, 0, 0, 0, 0, 0], [0, 1, 2, 3, 4, 5, 6, 7, 8], [0, 2, 1, 6, 8, 7, 3, 5, 4], [0, 3, 6, 7, 1, 4, 5, 8, 2], [0, 4, 8, 1, 5, 6, 2, 3, 7], [0, 5, 7, 4, 6, 2, 8, 1, 3], [0, 6, 3, 5, 2, 8, 7, 4, 1], [0, 7, 5, 8, 3, 1, 4, 2, 6], [0, 8, 4, 2, 7, 3, 1, 6, 5]] [0, 2, 1, 6, 8, 7, 3, 5, 4] [0, 1, 2, 4, 3, 7, 8, 5, 6]
theorem T10_ok : T10.Ok := FT.ok_of (by decide +kernel)
theorem T10_fe : @FE (El T10) (mkGF T10_ok) 4 (fdl 3 [2, 1, 1] 2 9) := fe_of T10_ok (by decide +kernel) (by decide) (by decide) (by decide) (by decide) rfl (ms_small (by decide)) (by decide)
def T11 : FT := mkT 9 [[0, 1, 2, 3, 4, 5, 6, 7, 8], [1, 2, 0, 4, 5, 3, 7, 8, 6], [2, 0, 1, 5, 3, 4, 8, 6, 7], [3, 4, 5, 6, 7, 8, 0, 1, 2], [4, 5, 3, 7, 8, 6, 1, 2, 0], [5, 3, 4, 8, 6, 7, 2, 0, 1], [6, 7, 8, 0, 1, 2, 3, 4, 5], [7, 8, 6, 1, 2, 0, 4, 5, 3], [8, 6, 7, 2, 0, 1, 5, 3, 4]] [[0, 0, 0, 0, 0, 0, 0, 0, 0], [0, 1, 2, 3, 4, 5, 6, 7, 8], [0, 2, 1, 6, 8, 7, 3, 5, 4], [0, 3, 6, 4, 7, 1, 8, 2, 5], [0, 4, 8, 7, 2, 3, 5, 6, 1], [0, 5, 7, 1, 3, 8, 2, 4, 6], [0, 6, 3, 8, 5, 2, 4, 1, 7], [0, 7, 5, 2, 6, 4, 1, 8, 3], [0, 8, 4, 5, 1, 6, 7, 3, 2]] [0, 2, 1, 6, 8, 7, 3, 5, 4] [0, 1, 2, 5, 8, 3, 7, 6, 4]
theorem T11_ok : T11.Ok := FT.ok_of (by decide +kernel)
theorem T11_fe : @FE (El T11) (mkGF T11_ok) 4 (fdl 3 [2, 2, 1] 2 9) := fe_of T11_ok (by decide +kernel) (by decide) (by decide) (by decide) (by decide) rfl (ms_small (by decide)) (by decide)
def T12 : FT := mkT 11 [[0, 1, 2, 3, 4, 5, 6, 7, 8, 9, 10], [1, 2, 3, 4, 5, 6, 7, 8, 9, 10, 0], [2, 3, 4, 5, 6, 7, 8, 9, 10, 0, 1], [3, 4, 5, 6, 7, 8, 9, 10, 0, 1, 2], [4, 5, 6, 7, 8, 9, 10, 0, 1, 2, 3], [5, 6, 7, 8, 9, 10, 0, 1, 2, 3, 4], [6, 7, 8, 9, 10, 0, 1, 2, 3, 4, 5], [7, 8, 9, 10, 0, 1, 2, 3, 4, 5, 6], [8, 9, 10, 0, 1, 2, 3, 4, 5, 6, 7], [9, 10, 0, 1, 2, 3, 4, 5, 6, 7, 8], [10, 0, 1, 2, 3, 4, 5, 6, 7, 8, 9]] [[0, 0, 0, 0, 0, 0, 0, 0, 0, 0, 0], [0, 1, 2, 3, 4, 5, 6, 7, 8, 9, 10], [0, 2, 4, 6, 8, 10, 1, 3, 5, 7, 9], [0, 3, 6, 9, 1, 4, 7, 10, 2, 5, 8], [0, 4, 8, 1, 5, 9, 2, 6, 10, 3, 7], [0, 5, 10, 4, 9, 3, 8, 2, 7, 1, 6], [0, 6, 1, 7, 2, 8, 3, 9, 4, 10, 5], [0, 7, 3, 10, 6, 2, 9, 5, 1, 8, 4], [0, 8, 5, 2, 10, 7, 4, 1, 9, 6, 3], [0, 9, 7, 5, 3, 1, 10, 8, 6, 4, 2], [0, 10, 9, 8, 7, 6, 5, 4, 3, 2, 1]] [0, 10, 9, 8, 7, 6, 5, 4, 3, 2, 1] [0, 1, 6, 4, 3, 9, 2, 8, 7, 5, 10]
theorem T12_ok : T12.Ok := FT.ok_of (by decide +kernel)
theorem T12_fe : @FE (El T12) (mkGF T12_ok) 4 (fdl 11 [0, 1] 1 11) := fe_of T12_ok (by decide +kernel) (by decide) (by decide) (by decide) (by decide) rfl (ms_small (by decide)) (by decide)
def T13 : FT := mkT 16 [[0, 1, 2, 3, 4, 5, 6, 7, 8, 9, 10, 11, 12, 13, 14, 15], [1, 0, 3, 2, 5, 4, 7, 6, 9, 8, 11, 10, 13, 12, 15, 14], [2, 3, 0, 1, 6, 7, 4, 5, 10, 11, 8, 9, 14, 15, 12, 13], [3, 2, 1, 0, 7, 6, 5, 4, 11, 10, 9, 8, 15, 14, 13, 12], [4, 5, 6, 7, 0, 1, 2, 3, 12, 13, 14, 15, 8, 9, 10, 11], [5, 4, 7, 6, 1, 0, 3, 2, 13, 12, 15, 14, 9, 8, 11, 10], [6, 7, 4, 5, 2, 3, 0, 1, 14, 15, 12, 13, 10, 11, 8, 9], [7, 6, 5, 4, 3, 2, 1, 0, 15, 14, 13, 12, 11, 10, 9, 8], [8, 9, 10, 11, 12, 13, 14, 15, 0, 1, 2, 3, 4, 5, 6, 7], [9, 8, 11, 10, 13, 12, 15, 14, 1, 0, 3, 2, 5, 4, 7, 6], [10, 11, 8, 9, 14, 15, 12, 13, 2, 3, 0, 1, 6, 7, 4, 5], [11, 10, 9, 8, 15, 14, 13, 12, 3, 2, 1, 0, 7, 6, 5, 4], [12, 13, 14, 15, 8, 9, 10, 11, 4, 5, 6, 7, 0, 1, 2, 3], [13, 12, 15, 14, 9, 8, 11, 10, 5, 4, 7, 6, 1, 0, 3, 2], [14, 15, 12, 13, 10, 11, 8, 9, 6, 7, 4, 5, 2, 3, 0, 1], [15, 14, 13, 12, 11, 10, 9, 8, 7, 6, 5, 4, 3, 2, 1, 0]] [[0, 0, 0, 0, 0, 0, 0, 0, 0, 0, 0, 0, 0, 0, 0, 0], [0, 1, 2, 3, 4, 5, 6, 7, 8, 9, 10, 11, 12, 13, 14, 15], [0, 2, 4, 6, 8, 10, 12, 14, 3, 1, 7, 5, 11, 9, 15, 13], [0, 3, 6, 5, 12, 15, 10, 9, 11, 8, 13, 14, 7, 4, 1, 2], [0, 4, 8, 12, 3, 7, 11, 15, 6, 2, 14, 10, 5, 1, 13, 9], [0, 5, 10, 15, 7, 2, 13, 8, 14, 11, 4, 1, 9, 12, 3, 6], [0, 6, 12, 10, 11, 13, 7, 1, 5, 3, 9, 15, 14, 8, 2, 4], [0, 7, 14, 9, 15, 8, 1, 6, 13, 10, 3, 4, 2, 5, 12, 11], [0, 8, 3, 11, 6, 14, 5, 13, 12, 4, 15, 7, 10, 2, 9, 1], [0, 9, 1, 8, 2, 11, 3, 10, 4, 13, 5, 12, 6, 15, 7, 14], [0, 10, 7, 13, 14, 4, 9, 3, 15, 5, 8, 2, 1, 11, 6, 12], [0, 11, 5, 14, 10, 1, 15, 4, 7, 12, 2, 9, 13, 6, 8, 3], [0, 12, 11, 7, 5, 9, 14, 2, 10, 6, 1, 13, 15, 3, 4, 8], [0, 13, 9, 4, 1, 12, 8, 5, 2, 15, 11, 6, 3, 14, 10, 7], [0, 14, 15, 1, 13, 3, 2, 12, 9, 7, 6, 8, 4, 10, 11, 5], [0, 15, 13, 2, 9, 6, 4, 11, 1, 14, 12, 3, 8, 7, 5, 10]] [0, 1, 2, 3, 4, 5, 6, 7, 8, 9, 10, 11, 12, 13, 14, 15] [0, 1, 9, 14, 13, 11, 7, 6, 15, 2, 12, 5, 10, 4, 3, 8]
theorem T13_ok : T13.Ok := FT.ok_of (by decide +kernel)
theorem T13_fe : @FE (El T13) (mkGF T13_ok) 4 (fdl 2 [1, 1, 0, 0, 1] 4 16) := fe_of T13_ok (by decide +kernel) (by decide) (by decide) (by decide) (by decide) rfl (ms_small (by decide)) (by decide)
end MN
end S_MnGf
section S_MnCh
set_option maxRecDepth 100000
/-! Changes of codes. -/
namespace MN
open LA
section
variable {α : Type} [GF α] {n m L : Nat} {fd : List D}
theorem ev_ckfields (F : FE α L fd) (c d : CD α) : Ev (L + 1) F_check_fields [c.obj fd, d.obj fd] .non := by
  refine run_k fun k hk => run_ws (by decide) ⟨rfl, rfl⟩ ?_
  show WS _ t_check_fields [.sh (c.obj fd), .sh (d.obj fd)] _ _
  unfold t_check_fields
  repeat (first | refine wa_nil ?_ | refine wa_cons ?_ | refine we_meth ?_ | refine we_fldN rfl rfl ?_ | refine wt_not ?_ | refine wtv ?_ | refine ws_cons ?_ | refine ws_ite ?_ | refine wt_val ?_ | refine lf (F.same k (by omega)) ?_)
  refine ⟨fun z => (by cases z), fun _ => ?_⟩
  repeat (first | refine ws_nil ?_)
  rfl
theorem ev_ckalike (F : FE α L fd) (c d : CD α) (hn : d.n = c.n) : Ev (L + 2) F_check_alike [c.obj fd, d.obj fd] .non := by
  refine run_k fun k hk => run_ws (by decide) ⟨rfl, rfl⟩ ?_
  show WS _ t_check_alike [.sh (c.obj fd), .sh (d.obj fd)] _ _
  unfold t_check_alike
  have c1 : cmpD .ne (ni c.n) (ni d.n) = some false := by rw [ne_nat, hn]; simp
  repeat (first | refine we_sh rfl ?_ | refine wa_nil ?_ | refine wa_cons ?_ | refine we_call ?_ | refine we_fldN rfl rfl ?_ | refine wt_cmp ?_ | refine ws_cons ?_ | refine ws_exp ?_ | refine ws_ite ?_ | with_reducible refine lf (c1) ?_ | refine lf (ev_ckfields F c d k (by omega)) ?_)
  refine ⟨fun z => (by cases z), fun _ => ?_⟩
  repeat (first | refine ws_nil ?_)
  rfl
theorem add_dl {ws vs : List (Vc α)} (h : ws.length + vs.length ≤ 1000) : opD .add (dl n ws) (dl n vs) = some (dl n (ws ++ vs)) := by
  have e : opD .add (dl n ws) (dl n vs) = (if (ws.map (dv n)).length + (vs.map (dv n)).length ≤ big then some (D.lst (ws.map (dv n) ++ vs.map (dv n))) else none) := rfl
  rw [e, if_pos (by simp [big]; omega), ← List.map_append]
  rfl
theorem row_len (c : CD α) (ok : c.Ok) : c.R.length ≤ c.n := by
  have := piv_len ok.rr
  rw [ok.rr.len]
  exact this
theorem ev_span_of (F : FE α L fd) (hL : 3 ≤ L) (c d : CD α) (ok : c.Ok) (ok' : d.Ok) (hn : d.n = c.n) : ∃ e : CD α, e.n = c.n ∧ e.Ok ∧ (∀ w, Span e.R w ↔ Span (c.R ++ d.R) w) ∧ Ev (L + 5) F_span_of [c.obj fd, d.obj fd] (e.obj fd) := by
  have l1 := row_len c ok
  have l2 := row_len d ok'
  have hle := ok.le
  obtain ⟨e, h1, h2, h3, h4⟩ := ev_code F hL (n := c.n) (c.R ++ d.R) (fun r hr => by
    rcases List.mem_append.mp hr with h | h
    · exact ok.rr.sup r h
    · rw [← hn]; exact ok'.rr.sup r h) ok.pos ok.le (by rw [List.length_append]; omega)
  refine ⟨e, h1, h2, h3, run_k fun k hk => run_ws (by decide) ⟨rfl, rfl⟩ ?_⟩
  show WS _ t_span_of [.sh (c.obj fd), .sh (d.obj fd)] _ _
  unfold t_span_of
  have r1 := ev_rows (fd := fd) c (by omega) k (by omega)
  have r2 := ev_rows (fd := fd) d (by omega) k (by omega)
  rw [hn] at r2
  have ad := add_dl (n := c.n) (ws := c.R) (vs := d.R) (by omega)
  repeat (first | refine we_sh rfl ?_ | refine we_bin ?_ | refine wa_nil ?_ | refine wa_cons ?_ | refine we_call ?_ | refine we_mk ?_ | refine we_prop ?_ | refine we_fldN rfl rfl ?_ | refine ws_cons ?_ | refine ws_exp ?_ | refine ws_ret ?_ | with_reducible refine lf (r1) ?_ | with_reducible refine lf (r2) ?_ | with_reducible refine lf (ad) ?_ | refine lf (ev_ckalike F c d hn k (by omega)) ?_ | refine lf (h4 k (by omega)) ?_)
  rfl
theorem ev_from_checks (F : FE α L fd) (hL : 3 ≤ L) (W : Nat → Vc α) (hs : ∀ i, i < m → ∀ x, n ≤ x → W i x = 0) (h1 : 1 ≤ n) (hn : n ≤ 16) (hm : m ≤ 1000) : ∃ e : CD α, e.n = n ∧ e.Ok ∧ (∀ w, Span e.R w ↔ Span (kerF n (rl (redF m n W).2.length (redF m n W).1) (redF m n W).2) w) ∧ Ev (L + 5) F_code_from_checks [.ins 0 fd, ni n, dl n (rl m W)] (e.obj fd) := by
  obtain ⟨rr, _, _⟩ := redF_ok hs (n := n) (m := m)
  have kl : (kerF n (rl (redF m n W).2.length (redF m n W).1) (redF m n W).2).length ≤ n := by
    unfold kerF kcols
    have := List.length_filter_le (fun z => !(redF m n W).2.contains z) (List.range n)
    simp at this ⊢
    omega
  obtain ⟨e, g1, g2, g3, g4⟩ := ev_code F hL (kerF n (rl (redF m n W).2.length (redF m n W).1) (redF m n W).2) (ker_sup rr) h1 hn (by omega)
  refine ⟨e, g1, g2, g3, run_k fun k hk => run_ws (by decide) ⟨rfl, rfl⟩ ?_⟩
  show WS _ t_code_from_checks [.sh (.ins 0 fd), .sh _, .sh _] _ _
  unfold t_code_from_checks
  have e1 := ev_ckrows F (rl m W) (show n ≤ 255 by omega) h1 k (by omega)
  have e2 := ev_kernel F (by omega) W hs (by omega) hm k (by omega)
  repeat (first | refine we_sh rfl ?_ | refine wa_nil ?_ | refine wa_cons ?_ | refine we_call ?_ | refine we_mk ?_ | refine ws_cons ?_ | refine ws_exp ?_ | refine ws_ret ?_ | with_reducible refine lf (e1) ?_ | with_reducible refine lf (e2) ?_ | refine lf (g4 k (by omega)) ?_)
  rfl
end
end MN
end S_MnCh
section S_MnCi
set_option maxRecDepth 100000
/-! Meeting; lightest words. -/
namespace MN
open LA
section
variable {α : Type} [GF α] {n m L : Nat} {fd : List D}
/-- the words of both codes -/
theorem ev_meeting (F : FE α L fd) (hL : 3 ≤ L) (c d : CD α) (ok : c.Ok) (ok' : d.Ok) (hn : d.n = c.n) : ∃ e : CD α, e.n = c.n ∧ e.Ok ∧ (∀ w, Span e.R w ↔ Span c.R w ∧ Span d.R w) ∧ Ev (L + 6) F_meeting [c.obj fd, d.obj fd] (e.obj fd) := by
  have l1 := ker_len c
  have l2 := ker_len d
  have hle := ok.le
  rw [hn] at l2
  have sup : ∀ r ∈ kerF c.n c.S c.T ++ kerF c.n d.S d.T, ∀ x, c.n ≤ x → r x = 0 := fun r hr => by
    rcases List.mem_append.mp hr with h | h
    · exact ker_sup ok.rs r h
    · rw [← hn] at h ⊢
      exact ker_sup ok'.rs r h
  obtain ⟨W, hW⟩ := rl_of (kerF c.n c.S c.T ++ kerF c.n d.S d.T)
  generalize hm : (kerF c.n c.S c.T ++ kerF c.n d.S d.T).length = m at hW
  have hs : ∀ i, i < m → ∀ x, c.n ≤ x → W i x = 0 := fun i hi => sup _ (by rw [← hW]; exact mem_rl.mpr ⟨i, hi, rfl⟩)
  have hm2 : m ≤ 32 := by rw [← hm, List.length_append]; omega
  obtain ⟨e, g1, g2, g3, g4⟩ := ev_from_checks F hL W hs ok.pos ok.le (show m ≤ 1000 by omega)
  obtain ⟨a1, a2, _⟩ := redF_ok hs (n := c.n) (m := m)
  refine ⟨e, g1, g2, fun w => ?_, run_k fun k hk => run_ws (by decide) ⟨rfl, rfl⟩ ?_⟩
  · rw [g3]
    constructor
    · intro hw
      have hsw : ∀ i, c.n ≤ i → w i = 0 := fun i hi => hw.zeroAt fun r hr => ker_sup a1 r hr i hi
      have o1 := ker_orth a1 hw
      have o2 : ∀ r, Span (rl m W) r → dot c.n r w = 0 := fun r hr => by
        rw [dot_comm]
        exact ((a2 r).mpr hr).orth fun u hu => by rw [dot_comm]; exact o1 u hu
      rw [hW] at o2
      refine ⟨(ok.sp w).mp (ker_ker ok.rs hsw fun x h1 h2 => o2 _ (.mem (List.mem_append_left _ (List.mem_map.mpr ⟨x, mem_kcols.mpr ⟨h1, h2⟩, rfl⟩)))), (ok'.sp w).mp (ker_ker ok'.rs (by rw [hn]; exact hsw) fun x h1 h2 => ?_)⟩
      rw [hn] at h1 ⊢
      exact o2 _ (.mem (List.mem_append_right _ (List.mem_map.mpr ⟨x, mem_kcols.mpr ⟨h1, h2⟩, rfl⟩)))
    · rintro ⟨h1, h2⟩
      have hsw : ∀ i, c.n ≤ i → w i = 0 := fun i hi => h1.zeroAt fun r hr => ok.rr.sup r hr i hi
      refine ker_all a1 hsw fun r hr => ?_
      have hr : Span (kerF c.n c.S c.T ++ kerF c.n d.S d.T) r := by rw [← hW]; exact (a2 r).mp (.mem hr)
      rw [dot_comm]
      refine hr.orth fun u hu => ?_
      rcases List.mem_append.mp hu with h | h
      · exact ((ok.sp w).mpr h1).orth (u := u) (n := c.n) (fun r hr => by rw [dot_comm]; exact ker_orth ok.rs (.mem h) r hr) |> fun z => by rw [dot_comm]; exact z
      · rw [← hn] at h ⊢
        exact ((ok'.sp w).mpr h2).orth (u := u) (n := d.n) (fun r hr => by rw [dot_comm]; exact ker_orth ok'.rs (.mem h) r hr) |> fun z => by rw [dot_comm]; exact z
  · show WS _ t_meeting [.sh (c.obj fd), .sh (d.obj fd)] _ _
    unfold t_meeting
    have r1 := ev_checks (fd := fd) c (by omega) k (by omega)
    have r2 := ev_checks (fd := fd) d (by omega) k (by omega)
    rw [hn] at r2
    have ad := add_dl (n := c.n) (ws := kerF c.n c.S c.T) (vs := kerF c.n d.S d.T) (by omega)
    rw [← hW] at ad
    repeat (first | refine we_sh rfl ?_ | refine we_bin ?_ | refine wa_nil ?_ | refine wa_cons ?_ | refine we_call ?_ | refine we_prop ?_ | refine we_fldN rfl rfl ?_ | refine ws_cons ?_ | refine ws_exp ?_ | refine ws_ret ?_ | with_reducible refine lf (r1) ?_ | with_reducible refine lf (r2) ?_ | with_reducible refine lf (ad) ?_ | refine lf (ev_ckalike F c d hn k (by omega)) ?_ | refine lf (g4 k (by omega)) ?_)
    rfl
theorem ev_light (F : FE α L fd) (hL : 3 ≤ L) (c : CD α) (ok : c.Ok) (hq : GF.q α ^ c.R.length ≤ 4096) (h : c.R.length ≠ 0) (d : Nat) (hd : Ev (L + 3) F_minimum_distance [c.obj fd] (ni d)) : Ev (L + 4) F_lightest_words [c.obj fd] (dl c.n ((wordsF c.R).filter fun w => decide (wt c.n w = d))) := by
  refine run_k fun k hk => run_ws (by decide) ⟨rfl, rfl⟩ ?_
  show WS _ t_lightest_words [.sh (c.obj fd), .un, .un] _ _
  unfold t_lightest_words
  have hn := ok.le
  repeat (first | refine we_int ?_ | refine we_fldN rfl rfl ?_ | refine wt_cmp ?_ | refine ws_cons ?_ | refine ws_ite ?_ | refine lf eq_nat ?_)
  refine ⟨fun z => absurd (of_decide_eq_true z) h, fun z => ?_⟩
  repeat (first | refine we_sh rfl ?_ | refine wa_nil ?_ | refine wa_cons ?_ | refine we_call ?_ | refine ws_nil ?_ | refine ws_cons ?_ | refine ws_setV rfl ?_ | refine ws_ret ?_ | refine lf (hd k (by omega)) ?_)
  refine we_filt rfl ?_
  repeat (first | refine we_sh rfl ?_ | refine we_meth0 ?_ | refine ww_lst ?_ | refine lf (ev_words F hL c ok hq k (by omega)) ?_)
  refine ⟨_, rfl, rfl, Vc α, wordsF c.R, dv c.n, fun w => decide (wt c.n w = d), dv c.n, rfl, by rw [wordsF_len]; simp [big]; omega, fun w hw => ⟨_, rfl, ?_, fun _ => ?_⟩, rfl⟩
  · repeat (first | refine we_sh rfl ?_ | refine wa_nil ?_ | refine wa_cons ?_ | refine we_call ?_ | refine wt_cmp ?_ | refine lf (ev_weight w (show c.n ≤ 1000 by omega) k (by omega)) ?_ | refine lf eq_nat ?_)
    rfl
  · repeat (first | refine we_sh rfl ?_ | refine ⟨rfl, ?_⟩)
    rfl
theorem ev_light0 (c : CD α) (h : c.R.length = 0) : Ev 1 F_lightest_words [c.obj fd] (.lst []) := by
  refine run_k fun k hk => run_ws (by decide) ⟨rfl, rfl⟩ ?_
  show WS _ t_lightest_words [.sh (c.obj fd), .un, .un] _ _
  unfold t_lightest_words
  repeat (first | refine we_int ?_ | refine we_fldN rfl rfl ?_ | refine wt_cmp ?_ | refine ws_cons ?_ | refine ws_ite ?_ | refine lf eq_nat ?_)
  refine ⟨fun z => ?_, fun z => absurd h (of_decide_eq_false z)⟩
  repeat (first | refine wa_nil ?_ | refine we_lst ?_ | refine ws_cons ?_ | refine ws_ret ?_)
  refine ⟨by simp [big], ?_⟩
  skip
  rfl
end
end MN
end S_MnCi
section S_MnCj
set_option maxRecDepth 100000
/-! Joined, doubled. -/
namespace MN
open LA
section
variable {α : Type} [GF α] {n m L : Nat} {fd : List D}
/-- u ahead, v behind -/
def cat (n : Nat) (u v : Vc α) : Vc α := fun i => if i < n then u i else v (i - n)
theorem add_dv {u v : Vc α} (h : n + m ≤ 1000) : opD .add (dv n u) (dv m v) = some (dv (n + m) (cat n u v)) := by
  have e : opD .add (dv n u) (dv m v) = (if ((List.range n).map fun i => ei (u i)).length + ((List.range m).map fun i => ei (v i)).length ≤ big then some (D.lst (((List.range n).map fun i => ei (u i)) ++ ((List.range m).map fun i => ei (v i)))) else none) := rfl
  rw [e, if_pos (by simp [big]; omega)]
  congr 1
  unfold dv
  congr 1
  rw [List.range_add, List.map_append, List.map_map]
  congr 1
  · refine List.map_congr_left fun i hi => ?_
    have hi := List.mem_range.mp hi
    show ei (u i) = ei (if i < n then u i else v (i - n))
    rw [if_pos hi]
  · refine List.map_congr_left fun i hi => ?_
    show ei (v i) = ei (if n + i < n then u (n + i) else v (n + i - n))
    rw [if_neg (by omega), Nat.add_sub_cancel_left]
theorem ev_joined (F : FE α L fd) (hL : 3 ≤ L) (c d : CD α) (ok : c.Ok) (ok' : d.Ok) (hn : c.n + d.n ≤ 16) : ∃ e : CD α, e.n = c.n + d.n ∧ e.Ok ∧ (∀ w, Span e.R w ↔ Span (c.R.map (fun u => cat c.n u zv) ++ d.R.map (fun v => cat c.n zv v)) w) ∧ Ev (L + 5) F_joined [c.obj fd, d.obj fd] (e.obj fd) := by
  have l1 := row_len c ok
  have l2 := row_len d ok'
  have p1 := ok.pos
  obtain ⟨e, h1, h2, h3, h4⟩ := ev_code F hL (n := c.n + d.n) (c.R.map (fun u => cat c.n u zv) ++ d.R.map (fun v => cat c.n zv v)) (fun r hr x hx => by
    rcases List.mem_append.mp hr with h | h
    · obtain ⟨u, hu, rfl⟩ := List.mem_map.mp h
      unfold cat
      rw [if_neg (by omega)]; rfl
    · obtain ⟨u, hu, rfl⟩ := List.mem_map.mp h
      unfold cat
      rw [if_neg (by omega)]
      exact ok'.rr.sup u hu _ (by omega)) (by omega) hn (by simp; omega)
  refine ⟨e, h1, h2, h3, run_k fun k hk => run_ws (by decide) ⟨rfl, rfl⟩ ?_⟩
  show WS _ t_joined [.sh (c.obj fd), .sh (d.obj fd), .un, .un] _ _
  unfold t_joined
  have r1 := ev_rows (fd := fd) c (by omega) k (by omega)
  have r2 := ev_rows (fd := fd) d (by omega) k (by omega)
  repeat (first | refine we_sh rfl ?_ | refine wa_nil ?_ | refine wa_cons ?_ | refine we_call ?_ | refine ws_cons ?_ | refine ws_setV rfl ?_ | refine ws_exp ?_ | refine lf (ev_ckfields F c d k (by omega)) ?_)
  refine we_map rfl ?_
  repeat (first | refine we_sh rfl ?_ | refine we_prop ?_ | refine ww_lst ?_ | with_reducible refine lf (r1) ?_)
  refine ⟨_, rfl, rfl, Vc α, c.R, dv c.n, fun u => dv (c.n + d.n) (cat c.n u zv), rfl, by simp [big]; omega, fun u hu => ⟨_, rfl, ?_⟩, ?_⟩
  · repeat (first | refine we_sh rfl ?_ | refine we_bin ?_ | refine wa_nil ?_ | refine wa_cons ?_ | refine we_call ?_ | refine we_fldN rfl rfl ?_ | with_reducible refine lf (add_dv (show c.n + d.n ≤ 1000 by omega)) ?_ | refine lf (ev_zero (α := α) (show d.n ≤ 1000 by omega) k (by omega)) ?_ | refine ⟨rfl, ?_⟩)
    rfl
  repeat (first | refine ws_cons ?_)
  refine ws_forL ?_
  repeat (first | refine we_sh rfl ?_ | refine we_prop ?_ | refine ww_lst ?_ | with_reducible refine lf (r2) ?_)
  refine ⟨_, rfl, rfl, Vc α, d.R, dv d.n, fun pre ρ => ∃ y, ρ = [.sh (c.obj fd), .sh (d.obj fd), .ow ((c.R.map (fun u => cat c.n u zv) ++ pre.map (fun v => cat c.n zv v)).map (dv (c.n + d.n))), y], rfl, ⟨.un, by rw [List.map_nil, List.append_nil, List.map_map]; rfl⟩, ?_, ?_⟩
  · rintro ρ' ⟨y, rfl⟩
    repeat (first | refine we_ow rfl ?_ | refine we_bin ?_ | refine wa_nil ?_ | refine wa_cons ?_ | refine we_mk ?_ | refine we_fldN rfl rfl ?_ | refine ws_cons ?_ | refine ws_ret ?_ | with_reducible refine lf (add_nat) ?_ | refine lf (h4 k (by omega)) ?_)
    rfl
  · rintro pre v post ρ e ⟨y, rfl⟩
    refine ⟨_, rfl, ?_⟩
    repeat (first | refine we_sh rfl ?_ | refine we_bin ?_ | refine wa_nil ?_ | refine wa_cons ?_ | refine we_call ?_ | refine we_fldN rfl rfl ?_ | refine ws_cons ?_ | refine ws_appV ?_ | with_reducible refine lf (add_dv (show c.n + d.n ≤ 1000 by omega)) ?_ | refine lf (ev_zero (α := α) (show c.n ≤ 1000 by omega) k (by omega)) ?_ | refine ⟨rfl, ?_⟩)
    refine ⟨_, rfl, ?_, ?_⟩
    · have := congrArg List.length e
      simp [big] at this ⊢
      omega
    have e9 : (c.R.map (fun u => cat c.n u zv) ++ pre.map fun v => cat c.n zv v) ++ [cat c.n zv v] = c.R.map (fun u => cat c.n u zv) ++ (pre ++ [v]).map fun v => cat c.n zv v := by simp
    rw [append_map, e9]
    repeat (first | refine ws_nil ?_)
    exact ⟨_, rfl⟩
end
end MN
end S_MnCj
section S_MnCk
set_option maxRecDepth 100000
/-! Doubled, kept positions, punctured, extended. -/
namespace MN
open LA
section
variable {α : Type} [GF α] {n m L : Nat} {fd : List D}
theorem mul2 {a : Nat} : opD .mul (.int 2) (ni a) = some (ni (2 * a)) := mul_l (i := 2) (by decide) (by decide)
theorem ev_doubled (F : FE α L fd) (hL : 3 ≤ L) (c d : CD α) (ok : c.Ok) (ok' : d.Ok) (hd : d.n = c.n) (hn : 2 * c.n ≤ 16) : ∃ e : CD α, e.n = 2 * c.n ∧ e.Ok ∧ (∀ w, Span e.R w ↔ Span (c.R.map (fun u => cat c.n u u) ++ d.R.map (fun v => cat c.n zv v)) w) ∧ Ev (L + 5) F_doubled [c.obj fd, d.obj fd] (e.obj fd) := by
  have l1 := row_len c ok
  have l2 := row_len d ok'
  have p1 := ok.pos
  obtain ⟨e, h1, h2, h3, h4⟩ := ev_code F hL (n := 2 * c.n) (c.R.map (fun u => cat c.n u u) ++ d.R.map (fun v => cat c.n zv v)) (fun r hr x hx => by
    rcases List.mem_append.mp hr with h | h
    · obtain ⟨u, hu, rfl⟩ := List.mem_map.mp h
      unfold cat
      rw [if_neg (by omega)]
      exact ok.rr.sup u hu _ (by omega)
    · obtain ⟨u, hu, rfl⟩ := List.mem_map.mp h
      unfold cat
      rw [if_neg (by omega)]
      exact ok'.rr.sup u hu _ (by omega)) (by omega) hn (by simp; omega)
  refine ⟨e, h1, h2, h3, run_k fun k hk => run_ws (by decide) ⟨rfl, rfl⟩ ?_⟩
  show WS _ t_doubled [.sh (c.obj fd), .sh (d.obj fd), .un, .un] _ _
  unfold t_doubled
  have r1 := ev_rows (fd := fd) c (by omega) k (by omega)
  have r2 := ev_rows (fd := fd) d (by omega) k (by omega)
  rw [hd] at r2
  have ad : ∀ u v : Vc α, opD .add (dv c.n u) (dv c.n v) = some (dv (2 * c.n) (cat c.n u v)) := fun u v => by rw [Nat.two_mul]; exact add_dv (by omega)
  repeat (first | refine we_sh rfl ?_ | refine wa_nil ?_ | refine wa_cons ?_ | refine we_call ?_ | refine ws_cons ?_ | refine ws_setV rfl ?_ | refine ws_exp ?_ | refine lf (ev_ckalike F c d hd k (by omega)) ?_)
  refine we_map rfl ?_
  repeat (first | refine we_sh rfl ?_ | refine we_prop ?_ | refine ww_lst ?_ | with_reducible refine lf (r1) ?_)
  refine ⟨_, rfl, rfl, Vc α, c.R, dv c.n, fun u => dv (2 * c.n) (cat c.n u u), rfl, by simp [big]; omega, fun u hu => ⟨_, rfl, ?_⟩, ?_⟩
  · repeat (first | refine we_sh rfl ?_ | refine we_bin ?_ | with_reducible refine lf (ad u u) ?_ | refine ⟨rfl, ?_⟩)
    rfl
  repeat (first | refine ws_cons ?_)
  refine ws_forL ?_
  repeat (first | refine we_sh rfl ?_ | refine we_prop ?_ | refine ww_lst ?_ | with_reducible refine lf (r2) ?_)
  refine ⟨_, rfl, rfl, Vc α, d.R, dv c.n, fun pre ρ => ∃ y, ρ = [.sh (c.obj fd), .sh (d.obj fd), .ow ((c.R.map (fun u => cat c.n u u) ++ pre.map (fun v => cat c.n zv v)).map (dv (2 * c.n))), y], rfl, ⟨.un, by rw [List.map_nil, List.append_nil, List.map_map]; rfl⟩, ?_, ?_⟩
  · rintro ρ' ⟨y, rfl⟩
    repeat (first | refine we_ow rfl ?_ | refine we_int ?_ | refine we_bin ?_ | refine wa_nil ?_ | refine wa_cons ?_ | refine we_mk ?_ | refine we_fldN rfl rfl ?_ | refine ws_cons ?_ | refine ws_ret ?_ | with_reducible refine lf (mul2) ?_ | refine lf (h4 k (by omega)) ?_)
    rfl
  · rintro pre v post ρ e ⟨y, rfl⟩
    refine ⟨_, rfl, ?_⟩
    repeat (first | refine we_sh rfl ?_ | refine we_bin ?_ | refine wa_nil ?_ | refine wa_cons ?_ | refine we_call ?_ | refine we_fldN rfl rfl ?_ | refine ws_cons ?_ | refine ws_appV ?_ | with_reducible refine lf (ad zv v) ?_ | refine lf (ev_zero (α := α) (show c.n ≤ 1000 by omega) k (by omega)) ?_ | refine ⟨rfl, ?_⟩)
    refine ⟨_, rfl, ?_, ?_⟩
    · have := congrArg List.length e
      simp [big] at this ⊢
      omega
    have e9 : (c.R.map (fun u => cat c.n u u) ++ pre.map fun v => cat c.n zv v) ++ [cat c.n zv v] = c.R.map (fun u => cat c.n u u) ++ (pre ++ [v]).map fun v => cat c.n zv v := by simp
    rw [append_map, e9]
    repeat (first | refine ws_nil ?_)
    exact ⟨_, rfl⟩

/-! ### positions -/
def kept (n : Nat) (ps : List Nat) : List Nat := (List.range n).filter fun i => !ps.contains i
theorem mem_kept {ps : List Nat} {i : Nat} : i ∈ kept n ps ↔ i < n ∧ i ∉ ps := by
  unfold kept
  simp
theorem kept_nodup {ps : List Nat} : (kept n ps).Nodup := List.Nodup.sublist List.filter_sublist List.nodup_range
theorem kept_len {ps : List Nat} (nd : ps.Nodup) (hp : ∀ p ∈ ps, p < n) : (kept n ps).length + ps.length = n := by
  have nd2 : (kept n ps ++ ps).Nodup := by
    rw [List.nodup_append]
    refine ⟨kept_nodup, nd, fun a ha b hb e => ?_⟩
    exact (mem_kept.mp ha).2 (e ▸ hb)
  have a1 := sub_len nd2 (l1 := List.range n) fun x hx => by
    rcases List.mem_append.mp hx with h | h
    · exact List.mem_range.mpr (mem_kept.mp h).1
    · exact List.mem_range.mpr (hp x h)
  have a2 := sub_len (List.nodup_range (n := n)) (l1 := kept n ps ++ ps) fun x hx => by
    by_cases h : x ∈ ps
    · exact List.mem_append_right _ h
    · exact List.mem_append_left _ (mem_kept.mpr ⟨List.mem_range.mp hx, h⟩)
  simp at a1 a2
  omega
theorem ev_kept (c : CD α) (ps : List Nat) (nd : ps.Nodup) (hp : ∀ p ∈ ps, p < c.n) (hl : ps.length < c.n) (hn : c.n ≤ 16) : Ev 1 F_kept_positions [c.obj fd, .lst (ps.map ni)] (.lst ((kept c.n ps).map ni)) := by
  refine run_k fun k hk => run_ws (by decide) ⟨rfl, rfl⟩ ?_
  show WS _ t_kept_positions [.sh (c.obj fd), .sh _, .un, .un] _ _
  unfold t_kept_positions
  have kl := kept_len nd hp
  repeat (first | refine ws_cons ?_ | refine ws_setV rfl ?_)
  refine we_filt rfl ?_
  repeat (first | refine wa_nil ?_ | refine wa_cons ?_ | refine we_fldN rfl rfl ?_ | refine ww_rg1 ?_)
  refine ⟨c.n, rfl, by omega, rfl, Nat, List.range c.n, ni, fun i => !ps.contains i, ni, by unfold rgD; simp, by simp [big]; omega, fun i hi => ⟨_, rfl, ?_, fun _ => ?_⟩, ?_⟩
  · repeat (first | refine we_sh rfl ?_ | refine wt_cmp ?_ | with_reducible refine lf (nin_nat) ?_)
    rfl
  · repeat (first | refine we_sh rfl ?_ | refine ⟨rfl, ?_⟩)
    rfl
  have e1 : opD .add (ni (kept c.n ps).length) (ni ps.length) = some (ni c.n) := by rw [add_nat, kl]
  have c1 : cmpD .ne (ni c.n) (ni c.n) = some false := by rw [ne_nat]; simp
  show WS _ _ _ _ _
  have e0 : (List.filter (fun i => !ps.contains i) (List.range c.n)) = kept c.n ps := rfl
  rw [e0]
  repeat (first | refine we_sh rfl ?_ | refine we_ow rfl ?_ | refine we_bin ?_ | refine wa_nil ?_ | refine wa_cons ?_ | refine we_bi ?_ | refine we_fldN rfl rfl ?_ | refine wt_cmp ?_ | refine ws_cons ?_ | refine ws_ite ?_ | with_reducible refine lf (e1) ?_ | with_reducible refine lf (c1) ?_ | refine lf len_map ?_)
  refine ⟨fun z => (by cases z), fun _ => ?_⟩
  have c2 : cmpD .eq (ni (kept c.n ps).length) (.int 0) = some false := by rw [eq_nat0, decide_eq_false (by omega)]
  repeat (first | refine we_ow rfl ?_ | refine we_int ?_ | refine wa_nil ?_ | refine wa_cons ?_ | refine we_bi ?_ | refine wt_cmp ?_ | refine ws_nil ?_ | refine ws_cons ?_ | refine ws_ite ?_ | with_reducible refine lf (c2) ?_ | refine lf len_map ?_)
  refine ⟨fun z => (by cases z), fun _ => ?_⟩
  repeat (first | refine we_ow rfl ?_ | refine ws_nil ?_ | refine ws_cons ?_ | refine ws_ret ?_)
  rfl
/-- a word at some positions -/
def sel (ps : List Nat) (r : Vc α) : Vc α := fun i => if i < ps.length then r (ps.getD i 0) else 0
theorem sel_dv (ps : List Nat) (r : Vc α) : D.lst (ps.map fun p => ei (r p)) = dv ps.length (sel ps r) := by
  unfold dv
  congr 1
  apply List.ext_getElem?
  intro i
  simp only [List.getElem?_map]
  by_cases h : i < ps.length
  · rw [List.getElem?_range h]
    simp [h, sel]
  · rw [List.getElem?_eq_none (by omega), List.getElem?_eq_none (by simp; omega)]; rfl
theorem items_sel (ps : List Nat) (rs : List (Vc α)) : dl ps.length (rs.map fun r i => r (ps.getD i 0)) = dl ps.length (rs.map (sel ps)) := by
  unfold dl
  rw [List.map_map, List.map_map]
  congr 1
  refine List.map_congr_left fun r _ => ?_
  exact dv_congr fun i hi => by simp [sel, hi]
theorem ev_punctured (F : FE α L fd) (hL : 3 ≤ L) (c : CD α) (ok : c.Ok) (ps : List Nat) (nd : ps.Nodup) (hp : ∀ p ∈ ps, p < c.n) (hl : ps.length < c.n) : ∃ e : CD α, e.n = (kept c.n ps).length ∧ e.Ok ∧ (∀ w, Span e.R w ↔ Span (c.R.map (sel (kept c.n ps))) w) ∧ Ev (L + 5) F_punctured [c.obj fd, .lst (ps.map ni)] (e.obj fd) := by
  have l1 := row_len c ok
  have p1 := ok.pos
  have p2 := ok.le
  have kl := kept_len nd hp
  obtain ⟨e, h1, h2, h3, h4⟩ := ev_code F hL (n := (kept c.n ps).length) (c.R.map (sel (kept c.n ps))) (fun r hr x hx => by
    obtain ⟨u, hu, rfl⟩ := List.mem_map.mp hr
    unfold sel
    rw [if_neg (by omega)]) (by omega) (by omega) (by simp; omega)
  refine ⟨e, h1, h2, h3, run_k fun k hk => run_ws (by decide) ⟨rfl, rfl⟩ ?_⟩
  show WS _ t_punctured [.sh (c.obj fd), .sh _, .un, .un, .un, .un] _ _
  unfold t_punctured
  have r1 := ev_rows (fd := fd) c (by omega) k (by omega)
  repeat (first | refine we_sh rfl ?_ | refine wa_nil ?_ | refine wa_cons ?_ | refine we_call ?_ | refine ws_cons ?_ | refine ws_setV rfl ?_ | refine lf (ev_kept (fd := fd) c ps nd hp hl (by omega) k (by omega)) ?_)
  refine we_map rfl ?_
  repeat (first | refine we_sh rfl ?_ | refine we_prop ?_ | refine ww_lst ?_ | with_reducible refine lf (r1) ?_)
  refine ⟨_, rfl, rfl, Vc α, c.R, dv c.n, fun u => dv (kept c.n ps).length (sel (kept c.n ps) u), rfl, by simp [big]; omega, fun u hu => ⟨_, rfl, ?_⟩, ?_⟩
  · refine we_map rfl ?_
    repeat (first | refine we_sh rfl ?_ | refine ww_lst ?_)
    refine ⟨_, rfl, rfl, Nat, kept c.n ps, ni, fun p => ei (u p), rfl, by simp [big]; omega, fun p hpm => ⟨_, rfl, ?_⟩, rfl, sel_dv _ _⟩
    repeat (first | refine we_sh rfl ?_ | refine we_subS rfl ?_ | with_reducible refine lf (idx_dv (mem_kept.mp hpm).1) ?_ | refine ⟨rfl, ?_⟩)
    rfl
  have e9 : D.lst (c.R.map fun u => dv (kept c.n ps).length (sel (kept c.n ps) u)) = dl (kept c.n ps).length (c.R.map (sel (kept c.n ps))) := by unfold dl; rw [List.map_map]; rfl
  rw [e9]
  repeat (first | refine we_sh rfl ?_ | refine we_ow rfl ?_ | refine wa_nil ?_ | refine wa_cons ?_ | refine we_mk ?_ | refine we_bi ?_ | refine we_fldN rfl rfl ?_ | refine ws_cons ?_ | refine ws_ret ?_ | refine lf (h4 k (by omega)) ?_ | refine lf len_map ?_)
  rfl
end
end MN
end S_MnCk
section S_MnCl
set_option maxRecDepth 100000
/-! Extended, shortened. -/
namespace MN
open LA
section
variable {α : Type} [GF α] {n m L : Nat} {fd : List D}
theorem range_split {n : Nat} {pre post : List Nat} {x : Nat} (e : List.range n = pre ++ x :: post) : x = pre.length ∧ pre.length < n := by
  have h := congrArg (fun l => l[pre.length]?) e
  have hl := congrArg List.length e
  simp at h hl
  rw [List.getElem?_range (by omega)] at h
  exact ⟨by simpa using h.symm, by omega⟩
def ext (n : Nat) (r : Vc α) : Vc α := fun i => if i < n then r i else if i = n then -(sumN r n) else 0
theorem add_last {u : Vc α} {a : α} (h : n ≤ 900) : opD .add (dv n u) (.lst [ei a]) = some (dv (n + 1) (cat n u fun _ => a)) := add_dv (n := n) (m := 1) (u := u) (v := fun _ => a) (by omega)
theorem ext_dv (u : Vc α) : dv (n + 1) (cat n u fun _ => -(sumN u n)) = dv (n + 1) (ext n u) := dv_congr fun i hi => by
  unfold cat ext
  by_cases h : i < n
  · rw [if_pos h, if_pos h]
  · rw [if_neg h, if_neg h, if_pos (by omega)]
theorem ev_extended (F : FE α L fd) (hL : 3 ≤ L) (c : CD α) (ok : c.Ok) (hn : c.n + 1 ≤ 16) : ∃ e : CD α, e.n = c.n + 1 ∧ e.Ok ∧ (∀ w, Span e.R w ↔ Span (c.R.map (ext c.n)) w) ∧ Ev (L + 5) F_extended [c.obj fd] (e.obj fd) := by
  have l1 := row_len c ok
  have p1 := ok.pos
  have p2 := ok.le
  obtain ⟨e, h1, h2, h3, h4⟩ := ev_code F hL (n := c.n + 1) (c.R.map (ext c.n)) (fun r hr x hx => by
    obtain ⟨u, hu, rfl⟩ := List.mem_map.mp hr
    unfold ext
    rw [if_neg (by omega), if_neg (by omega)]) (by omega) (by omega) (by simp; omega)
  refine ⟨e, h1, h2, h3, run_k fun k hk => run_ws (by decide) ⟨rfl, rfl⟩ ?_⟩
  show WS _ t_extended [.sh (c.obj fd), .un, .un, .un, .un] _ _
  unfold t_extended
  have r1 := ev_rows (fd := fd) c (by omega) k (by omega)
  repeat (first | refine wa_nil ?_ | refine we_lst ?_ | refine ws_cons ?_ | refine ws_setV rfl ?_)
  refine ⟨by simp [big], ?_⟩
  repeat (first | refine ws_cons ?_)
  refine ws_forL ?_
  repeat (first | refine we_sh rfl ?_ | refine we_prop ?_ | refine ww_lst ?_ | with_reducible refine lf (r1) ?_)
  refine ⟨_, rfl, rfl, Vc α, c.R, dv c.n, fun pre ρ => ∃ x y z, ρ = [.sh (c.obj fd), .ow ((pre.map (ext c.n)).map (dv (c.n + 1))), x, y, z], rfl, ⟨.un, .un, .un, rfl⟩, ?_, ?_⟩
  · rintro ρ' ⟨x, y, z, rfl⟩
    repeat (first | refine we_ow rfl ?_ | refine we_int ?_ | refine we_bin ?_ | refine wa_nil ?_ | refine wa_cons ?_ | refine we_mk ?_ | refine we_fldN rfl rfl ?_ | refine ws_cons ?_ | refine ws_ret ?_ | with_reducible refine lf (add1) ?_ | refine lf (h4 k (by omega)) ?_)
    rfl
  · rintro pre v post ρ e ⟨x, y, z, rfl⟩
    refine ⟨_, rfl, ?_⟩
    repeat (first | refine we_int ?_ | refine ws_cons ?_ | refine ws_setV rfl ?_)
    refine ws_forL ?_
    repeat (first | refine we_sh rfl ?_ | refine ww_lst ?_)
    refine ⟨_, rfl, rfl, Nat, List.range c.n, fun i => ei (v i), fun qs ρ => ∃ z, ρ = [.sh (c.obj fd), .ow ((pre.map (ext c.n)).map (dv (c.n + 1))), .sh (dv c.n v), .sh (ei (-(sumN v qs.length))), z], rfl, ⟨z, by
      have : (-(sumN v 0) : α) = 0 := by simp only [sumN]; grind
      show _ = [_, _, _, Sl.sh (ei (-(sumN v 0))), _]
      rw [this, ← ei0]; rfl⟩, ?_, ?_⟩
    · rintro ρ' ⟨z', rfl⟩
      have a9 := add_last (n := c.n) (u := v) (a := -(sumN v (List.range c.n).length)) (by omega)
      rw [List.length_range, ext_dv] at a9
      rw [List.length_range]
      repeat (first | refine we_sh rfl ?_ | refine we_bin ?_ | refine wa_nil ?_ | refine wa_cons ?_ | refine we_lst ?_ | refine ws_cons ?_ | refine ws_appV ?_)
      refine ⟨by simp [big], ?_⟩
      repeat (first | with_reducible refine lf (a9) ?_ | refine ⟨rfl, ?_⟩)
      refine ⟨_, rfl, ?_, ?_⟩
      · have := congrArg List.length e
        simp [big] at this ⊢
        omega
      have e9 : pre.map (ext c.n) ++ [ext c.n v] = (pre ++ [v]).map (ext c.n) := by simp
      rw [append_map, e9]
      repeat (first | refine ws_nil ?_)
      exact ⟨_, _, _, rfl⟩
    · rintro qs i post2 ρ e2 ⟨z', rfl⟩
      obtain ⟨rfl, hq⟩ := range_split e2
      refine ⟨_, rfl, ?_⟩
      have mi := F.minus (-(sumN v qs.length)) (v qs.length) k (by omega)
      have e8 : -(sumN v qs.length) - v qs.length = -(sumN v (qs ++ [qs.length]).length) := by
        rw [List.length_append]
        show _ = -(sumN v qs.length + v qs.length)
        grind
      rw [e8] at mi
      repeat (first | refine we_sh rfl ?_ | refine wa_nil ?_ | refine wa_cons ?_ | refine we_meth ?_ | refine we_fldN rfl rfl ?_ | refine ws_nil ?_ | refine ws_cons ?_ | refine ws_setV rfl ?_ | with_reducible refine lf (mi) ?_)
      exact ⟨_, rfl⟩
/-! ### rows behind a place -/
def lowR (t : Nat) : List (Vc α) → List Nat → List (Vc α)
  | r :: R, p :: P => if t ≤ p then r :: lowR t R P else lowR t R P
  | _, _ => []
theorem lowR_eq (t : Nat) : ∀ (R : List (Vc α)) (P : List Nat), lowR t R P = ((R.zip P).filter fun z => decide (t ≤ z.2)).map Prod.fst
  | [], _ => rfl
  | _ :: _, [] => rfl
  | r :: R, p :: P => by
    have ih := lowR_eq t R P
    by_cases h : t ≤ p <;> simp [lowR, h, ih]
theorem lowR_zero {t : Nat} : ∀ {R : List (Vc α)} {P : List Nat}, Rref n R P → ∀ r ∈ lowR t R P, ∀ i, i < t → r i = 0
  | [], [], _, r, h => by cases h
  | [], _ :: _, h, _, _ => h.elim
  | _ :: _, [], h, _, _ => h.elim
  | r :: R, p :: P, ⟨_, h1, h2, h3, h4, _, h5⟩, r', hr => by
    intro i hi
    by_cases h : t ≤ p
    · rw [lowR, if_pos h] at hr
      rcases List.mem_cons.mp hr with rfl | hr
      · exact h2 i (by omega)
      · exact lowR_zero h5 r' hr i hi
    · rw [lowR, if_neg h] at hr
      exact lowR_zero h5 r' hr i hi
theorem lowR_sub {t : Nat} : ∀ {R : List (Vc α)} {P : List Nat}, ∀ r ∈ lowR t R P, r ∈ R
  | [], _, r, h => by cases h
  | _ :: _, [], _, h => by cases h
  | r :: R, p :: P, r', hr => by
    by_cases h : t ≤ p
    · rw [lowR, if_pos h] at hr
      rcases List.mem_cons.mp hr with rfl | hr
      · exact List.mem_cons_self ..
      · exact List.mem_cons_of_mem _ (lowR_sub r' hr)
    · rw [lowR, if_neg h] at hr
      exact List.mem_cons_of_mem _ (lowR_sub r' hr)
theorem lowR_lcp {t : Nat} {w : Vc α} (hw : ∀ i, i < t → w i = 0) : ∀ (R : List (Vc α)) (P : List Nat), Span (lowR t R P) (lcp R P w)
  | [], _ => .zero
  | _ :: _, [] => .zero
  | r :: R, p :: P => by
    have ih := lowR_lcp hw R P
    by_cases h : t ≤ p
    · rw [lowR, if_pos h]
      exact .add (List.mem_cons_self ..) (ih.mono fun _ h => List.mem_cons_of_mem _ h)
    · rw [lowR, if_neg h]
      show Span _ (av (sv (w p) r) (lcp R P w))
      rw [hw p (by omega)]
      have : av (sv 0 r) (lcp R P w) = lcp R P w := by funext i; simp only [av, sv]; grind
      rw [this]
      exact ih
theorem lowR_iff {t : Nat} {R : List (Vc α)} {P : List Nat} (h : Rref n R P) {w : Vc α} : Span (lowR t R P) w ↔ Span R w ∧ ∀ i, i < t → w i = 0 := by
  constructor
  · intro hw
    exact ⟨hw.mono fun r hr => lowR_sub r hr, fun i hi => hw.zeroAt fun r hr => lowR_zero h r hr i hi⟩
  · rintro ⟨h1, h2⟩
    have := lowR_lcp h2 R P
    rwa [h.span_iff.mp h1] at this
end
end MN
end S_MnCl
section S_MnCm
set_option maxRecDepth 100000
/-! Shortened. -/
namespace MN
open LA
section
variable {α : Type} [GF α] {n m L : Nat} {fd : List D}
def shf (t : Nat) (u : Vc α) : Vc α := fun i => u (t + i)
theorem drop_dv {m t : Nat} {u : Vc α} (h : t ≤ m) : D.lst (((List.range m).map fun i => ei (u i)).drop t) = dv (m - t) (shf t u) := by
  unfold dv
  congr 1
  apply List.ext_getElem?
  intro i
  rw [List.getElem?_drop, List.getElem?_map, List.getElem?_map]
  by_cases hi : i < m - t
  · rw [List.getElem?_range hi, List.getElem?_range (by omega)]; rfl
  · rw [List.getElem?_eq_none (by simp; omega), List.getElem?_eq_none (by simp; omega)]; rfl
/-- the positions ps ahead -/
def mvd (ps ks : List Nat) (r : Vc α) : Vc α := cat ps.length (sel ps r) (sel ks r)
theorem sel_av (ps : List Nat) (u v : Vc α) : sel ps (av u v) = av (sel ps u) (sel ps v) := by
  funext i; unfold sel av; split <;> grind
theorem sel_sv (ps : List Nat) (c : α) (u : Vc α) : sel ps (sv c u) = sv c (sel ps u) := by
  funext i; unfold sel sv; split <;> grind
theorem sel_zv (ps : List Nat) : sel ps (zv : Vc α) = zv := by
  funext i; unfold sel zv; split <;> rfl
theorem cat_av (n : Nat) (u v u' v' : Vc α) : cat n (av u v) (av u' v') = av (cat n u u') (cat n v v') := by
  funext i; by_cases h : i < n <;> simp [cat, av, h]
theorem cat_sv (n : Nat) (c : α) (u v : Vc α) : cat n (sv c u) (sv c v) = sv c (cat n u v) := by
  funext i; by_cases h : i < n <;> simp [cat, sv, h]
theorem cat_zv (n : Nat) : cat n (zv : Vc α) zv = zv := by
  funext i; unfold cat zv; split <;> rfl
theorem shf_cat (u v : Vc α) : shf n (cat n u v) = v := by
  funext i; unfold shf cat; rw [if_neg (by omega), Nat.add_sub_cancel_left]
theorem zip_map2 {β γ δ ε : Type} (f : β → δ) (g : γ → ε) : ∀ (a : List β) (b : List γ), (a.map f).zip (b.map g) = (a.zip b).map fun z => (f z.1, g z.2)
  | [], _ => rfl
  | _ :: _, [] => rfl
  | x :: a, y :: b => by simp [zip_map2 f g a b]
theorem ev_shortened (F : FE α L fd) (hL : 3 ≤ L) (c : CD α) (ok : c.Ok) (ps : List Nat) (nd : ps.Nodup) (hp : ∀ p ∈ ps, p < c.n) (hl : ps.length < c.n) : ∃ e : CD α, e.n = (kept c.n ps).length ∧ e.Ok ∧ (∀ w, Span e.R w ↔ ∃ u, Span c.R u ∧ (∀ p ∈ ps, u p = 0) ∧ w = sel (kept c.n ps) u) ∧ Ev (L + 5) F_shortened [c.obj fd, .lst (ps.map ni)] (e.obj fd) := by
  have l1 := row_len c ok
  have p1 := ok.pos
  have p2 := ok.le
  have kl := kept_len nd hp
  obtain ⟨W, hW⟩ := rl_of (c.R.map (mvd ps (kept c.n ps)))
  rw [List.length_map] at hW
  have hs : ∀ i, i < c.R.length → ∀ x, ps.length + (kept c.n ps).length ≤ x → W i x = 0 := fun i hi x hx => by
    have : W i ∈ c.R.map (mvd ps (kept c.n ps)) := by rw [← hW]; exact mem_rl.mpr ⟨i, hi, rfl⟩
    obtain ⟨u, hu, e⟩ := List.mem_map.mp this
    rw [← e]
    unfold mvd cat sel
    rw [if_neg (by omega), if_neg (by omega)]
  have er := ev_reduce F (by omega) W hs (by omega) (by omega)
  obtain ⟨a1, a2, a3⟩ := redF_ok hs
  rw [hW] at er a2
  generalize redF c.R.length (ps.length + (kept c.n ps).length) W = st at er a1 a2 a3
  obtain ⟨V, P⟩ := st
  have a1 : Rref (ps.length + (kept c.n ps).length) (rl P.length V) P := a1
  have a3 : P.length ≤ c.R.length := a3
  have a2 : ∀ w, Span (rl P.length V) w ↔ Span (c.R.map (mvd ps (kept c.n ps))) w := a2
  have rlen : (rl P.length V).length = P.length := by simp [rl]
  have er : Ev (L + 2) F_reduce_rows [D.ins 0 fd, dl (ps.length + (kept c.n ps).length) (List.map (mvd ps (kept c.n ps)) c.R)] (.tup [dl (ps.length + (kept c.n ps).length) (rl P.length V), .lst (P.map ni)]) := er
  generalize rl P.length V = R' at er a1 a2 rlen
  have ll : (lowR ps.length R' P).length ≤ 1000 := by
    rw [lowR_eq, List.length_map]
    have := List.length_filter_le (fun z : Vc α × Nat => decide (ps.length ≤ z.2)) (R'.zip P)
    rw [List.length_zip] at this
    omega
  obtain ⟨e, h1, h2, h3, h4⟩ := ev_code F hL (n := (kept c.n ps).length) ((lowR ps.length R' P).map (shf ps.length)) (fun r hr x hx => by
    obtain ⟨u, hu, rfl⟩ := List.mem_map.mp hr
    exact a1.sup u (lowR_sub u hu) _ (by omega)) (by omega) (by omega) (by simpa using ll)
  refine ⟨e, h1, h2, fun w => ?_, run_k fun k hk => run_ws (by decide) ⟨rfl, rfl⟩ ?_⟩
  · rw [h3, Span.map (φ := shf ps.length) rfl (fun _ _ => rfl) (fun _ _ => rfl)]
    constructor
    · rintro ⟨z, hz, rfl⟩
      obtain ⟨z1, z2⟩ := (lowR_iff a1).mp hz
      obtain ⟨u, hu, rfl⟩ := (Span.map (φ := mvd ps (kept c.n ps)) (by unfold mvd; rw [sel_zv, sel_zv, cat_zv]) (fun u v => by unfold mvd; rw [sel_av, sel_av, cat_av]) (fun a u => by unfold mvd; rw [sel_sv, sel_sv, cat_sv])).mp ((a2 z).mp z1)
      refine ⟨u, hu, fun p hpm => ?_, shf_cat _ _⟩
      obtain ⟨i, hi, rfl⟩ := List.mem_iff_getElem.mp hpm
      have := z2 i hi
      unfold mvd cat sel at this
      rw [if_pos hi, if_pos hi] at this
      simpa [hi] using this
    · rintro ⟨u, hu, hz, rfl⟩
      refine ⟨mvd ps (kept c.n ps) u, (lowR_iff a1).mpr ⟨(a2 _).mpr ((Span.map (φ := mvd ps (kept c.n ps)) (by unfold mvd; rw [sel_zv, sel_zv, cat_zv]) (fun u v => by unfold mvd; rw [sel_av, sel_av, cat_av]) (fun a u => by unfold mvd; rw [sel_sv, sel_sv, cat_sv])).mpr ⟨u, hu, rfl⟩), fun i hi => ?_⟩, (shf_cat _ _).symm⟩
      unfold mvd cat sel
      rw [if_pos hi, if_pos hi]
      have : ps.getD i 0 = ps[i] := by simp [hi]
      rw [this]
      exact hz _ (List.getElem_mem hi)
  show WS _ t_shortened [.sh (c.obj fd), .sh _, .un, .un, .un, .un, .un, .un, .un, .un, .un] _ _
  unfold t_shortened
  have r1 := ev_rows (fd := fd) c (by omega) k (by omega)
  repeat (first | refine we_sh rfl ?_ | refine wa_nil ?_ | refine wa_cons ?_ | refine we_call ?_ | refine we_lst ?_ | refine ws_cons ?_ | refine ws_setV rfl ?_ | refine lf (ev_kept (fd := fd) c ps nd hp hl (by omega) k (by omega)) ?_)
  refine ⟨by simp [big], ?_⟩
  repeat (first | refine ws_cons ?_)
  refine ws_forL ?_
  repeat (first | refine we_sh rfl ?_ | refine we_prop ?_ | refine ww_lst ?_ | with_reducible refine lf (r1) ?_)
  refine ⟨_, rfl, rfl, Vc α, c.R, dv c.n, fun pre ρ => ∃ x, ρ = [.sh (c.obj fd), .sh (.lst (ps.map ni)), .sh (.lst ((kept c.n ps).map ni)), .ow ((pre.map (mvd ps (kept c.n ps))).map (dv (ps.length + (kept c.n ps).length))), x, .un, .un, .un, .un, .un, .un] ∧ (x = .un ∨ ∃ d, x = .sh d), rfl, ⟨.un, rfl, .inl rfl⟩, ?_, ?_⟩
  · rintro ρ' ⟨x, rfl, hx⟩
    have er := er k (by omega)
    repeat (first | refine we_ow rfl ?_ | refine wa_nil ?_ | refine wa_cons ?_ | refine we_call ?_ | refine we_fldN rfl rfl ?_ | refine ws_cons ?_ | refine ws_unp ?_ | refine lf (er) ?_)
    refine ⟨_, _, rfl, rfl, ?_⟩
    repeat (first | refine we_sh rfl ?_ | refine wa_nil ?_ | refine wa_cons ?_ | refine we_bi ?_ | refine ws_cons ?_ | refine ws_setV rfl ?_ | refine lf len_map ?_)
    refine we_filt (by rcases hx with rfl | ⟨d, rfl⟩ <;> rfl) ?_
    repeat (first | refine we_sh rfl ?_ | refine wa_nil ?_ | refine wa_cons ?_ | refine ww_zip ?_)
    refine ⟨_, _, rfl, by rw [List.length_map, List.length_map, rlen], rfl, Vc α × Nat, R'.zip P, fun z => .tup [dv (ps.length + (kept c.n ps).length) z.1, ni z.2], fun z => decide (ps.length ≤ z.2), fun z => dv (kept c.n ps).length (shf ps.length z.1), ?_, ?_, fun z hz => ⟨_, rfl, ?_, fun _ => ?_⟩, ?_⟩
    · show ((R'.map (dv (ps.length + (kept c.n ps).length))).zip (P.map ni)).map _ = _
      rw [zip_map2, List.map_map]
      rfl
    · rw [List.length_zip]; simp [big]; omega
    · repeat (first | refine we_sh rfl ?_ | refine wt_cmp ?_ | refine lf le_nat ?_)
      rfl
    · repeat (first | refine we_sh rfl ?_ | refine we_slc ?_ | refine WI.some rfl ?_)
      refine ⟨_, rfl, ?_⟩
      repeat (first | refine WI.none ?_)
      refine ⟨_, rfl, rfl, ?_⟩
      show D.lst (cutD _ _ _) = _
      rw [cut_from (by simp), drop_dv (by omega), Nat.add_sub_cancel_left]
    have e9 : D.lst (((R'.zip P).filter fun z => decide (ps.length ≤ z.2)).map fun z => dv (kept c.n ps).length (shf ps.length z.1)) = dl (kept c.n ps).length ((lowR ps.length R' P).map (shf ps.length)) := by
      unfold dl
      rw [lowR_eq, List.map_map, List.map_map]
      rfl
    rw [e9]
    repeat (first | refine we_sh rfl ?_ | refine we_ow rfl ?_ | refine wa_nil ?_ | refine wa_cons ?_ | refine we_mk ?_ | refine we_bi ?_ | refine we_fldN rfl rfl ?_ | refine ws_cons ?_ | refine ws_ret ?_ | refine lf (h4 k (by omega)) ?_ | refine lf len_map ?_)
    rfl
  · rintro pre v post ρ e ⟨x, rfl, hx⟩
    refine ⟨_, rfl, ?_⟩
    repeat (first | refine we_bin ?_ | refine ws_cons ?_ | refine ws_appV ?_)
    refine we_map rfl ?_
    repeat (first | refine we_sh rfl ?_ | refine ww_lst ?_)
    refine ⟨_, rfl, rfl, Nat, ps, ni, fun p => ei (v p), rfl, by simp [big]; omega, fun p hpm => ⟨_, rfl, ?_⟩, ?_⟩
    · repeat (first | refine we_sh rfl ?_ | refine we_subS rfl ?_ | with_reducible refine lf (idx_dv (hp p hpm)) ?_ | refine ⟨rfl, ?_⟩)
      rfl
    rw [sel_dv]
    refine we_map rfl ?_
    repeat (first | refine we_sh rfl ?_ | refine ww_lst ?_)
    refine ⟨_, rfl, rfl, Nat, kept c.n ps, ni, fun p => ei (v p), rfl, by simp [big]; omega, fun p hpm => ⟨_, rfl, ?_⟩, ?_⟩
    · repeat (first | refine we_sh rfl ?_ | refine we_subS rfl ?_ | with_reducible refine lf (idx_dv (mem_kept.mp hpm).1) ?_ | refine ⟨rfl, ?_⟩)
      rfl
    rw [sel_dv]
    repeat (first | with_reducible refine lf (add_dv (show ps.length + (kept c.n ps).length ≤ 1000 by omega)) ?_ | refine ⟨rfl, ?_⟩)
    refine ⟨_, rfl, ?_, ?_⟩
    · have := congrArg List.length e
      simp [big] at this ⊢
      omega
    have e9 : pre.map (mvd ps (kept c.n ps)) ++ [mvd ps (kept c.n ps) v] = (pre ++ [v]).map (mvd ps (kept c.n ps)) := by simp
    have e8 := append_map (f := dv (ps.length + (kept c.n ps).length)) (xs := pre.map (mvd ps (kept c.n ps))) (x := mvd ps (kept c.n ps) v)
    rw [e9] at e8
    show WS _ _ [_, _, _, Sl.ow (_ ++ [dv _ (mvd ps (kept c.n ps) v)]), _, _, _, _, _, _, _] _ _
    rw [e8]
    repeat (first | refine ws_nil ?_)
    exact ⟨_, rfl, .inr ⟨_, rfl⟩⟩
end
end MN
end S_MnCm
section S_MnCn
set_option maxRecDepth 100000
/-! Information sets: a matrix is inverted. -/
namespace MN
open LA
section
variable {α : Type} [GF α] {n m k L : Nat} {fd : List D}
/-- words that are 0 at S are 0 -/
def Inj (S : List Nat) (R : List (Vc α)) : Prop := ∀ w, Span R w → (∀ p ∈ S, w p = 0) → w = zv
/-- sum of the rows, as u tells -/
def phiM (k : Nat) (V : Nat → Vc α) (u : Vc α) : Vc α := fun c => dot k u fun t => V t c
theorem phiM_span (V : Nat → Vc α) (u : Vc α) : Span (rl k V) (phiM k V u) := by
  have key : ∀ m, m ≤ k → Span (rl k V) fun c => sumN (fun t => u t * V t c) m := by
    intro m
    induction m with
    | zero => exact fun _ => .zero
    | succ m ih =>
      intro h
      exact (ih (by omega)).av ((Span.mem (mem_rl.mpr ⟨m, by omega, rfl⟩)).sv (u m))
  exact key k (Nat.le_refl k)
theorem phiM_av (V : Nat → Vc α) (u v : Vc α) : phiM k V (av u v) = av (phiM k V u) (phiM k V v) := by
  funext c
  unfold phiM
  show _ = dot k u _ + dot k v _
  rw [dot_comm, dot_av, dot_comm, dot_comm (v := v)]
theorem phiM_sv (V : Nat → Vc α) (a : α) (u : Vc α) : phiM k V (sv a u) = sv a (phiM k V u) := by
  funext c
  unfold phiM
  show _ = a * dot k u _
  rw [dot_comm, dot_sv, dot_comm]
theorem phiM_zv (V : Nat → Vc α) : phiM k V zv = zv := by
  funext c
  unfold phiM
  rw [dot_comm, dot_zv]
  rfl
def uv (t : Nat) : Vc α := fun j => if t = j then 1 else 0
theorem phiM_uv (V : Nat → Vc α) {t : Nat} (h : t < k) : phiM k V (uv t) = V t := by
  funext c
  unfold phiM dot
  rw [sumN_one h fun i _ hi => by unfold uv; rw [if_neg (Ne.symm hi)]; grind]
  unfold uv
  rw [if_pos rfl]
  grind
theorem rref_unit : ∀ {R : List (Vc α)} {P : List Nat}, Rref n R P → ∀ (s t : Nat) (r : Vc α) (p : Nat), R[t]? = some r → P[s]? = some p → r p = if s = t then 1 else 0
  | [], [], _ => fun s t r p h _ => by simp at h
  | [], _ :: _, h => h.elim
  | _ :: _, [], h => h.elim
  | r0 :: R, p0 :: P, ⟨_, h1, h2, h3, h4, _, h5⟩ => fun s t r p hr hp => by
    cases s with
    | zero =>
      cases t with
      | zero => cases hr; cases hp; rw [if_pos rfl]; exact h1
      | succ t => cases hp; rw [if_neg (by omega)]; exact h4 r (List.mem_of_getElem? hr) p0 (Nat.le_refl _)
    | succ s =>
      cases t with
      | zero => cases hr; rw [if_neg (by omega)]; exact (h3 p (List.mem_of_getElem? hp)).2
      | succ t =>
        rw [rref_unit h5 s t r p hr hp]
        simp
theorem rref_ahead : ∀ {R : List (Vc α)} {P : List Nat}, Rref n R P → ∀ (t : Nat) (r : Vc α) (p : Nat), R[t]? = some r → P[t]? = some p → r p = 1 ∧ ∀ i, i < p → r i = 0
  | [], [], _ => fun t r p h _ => by simp at h
  | [], _ :: _, h => h.elim
  | _ :: _, [], h => h.elim
  | r0 :: R, p0 :: P, ⟨_, h1, h2, h3, h4, _, h5⟩ => fun t r p hr hp => by
    cases t with
    | zero => cases hr; cases hp; exact ⟨h1, h2⟩
    | succ t => exact rref_ahead h5 t r p hr hp
theorem ind_of_unit : ∀ {R : List (Vc α)} (f : Nat → Nat), (∀ s t r, R[t]? = some r → s < R.length → r (f s) = if s = t then 1 else 0) → IndL R
  | [], f, _ => fun bs hl _ b hb => by
    cases bs with
    | nil => cases hb
    | cons _ _ => simp at hl
  | r :: R, f, h => fun bs hl hz => by
    cases bs with
    | nil => simp at hl
    | cons b bs =>
      have hl2 : bs.length = R.length := by simpa using hl
      have e : av (sv b r) (lin R bs) = zv := hz
      have z0 : lin R bs (f 0) = 0 := (lin_span R bs).zeroAt fun r' hr' => by
        obtain ⟨t, ht⟩ := List.mem_iff_getElem?.mp hr'
        have := h 0 (t + 1) r' ht (by simp)
        simpa using this
      have r0 : r (f 0) = 1 := by simpa using h 0 0 r rfl (by simp)
      have b0 : b = 0 := by
        have := congrFun e (f 0)
        simp only [av, sv, zv] at this
        rw [z0, r0] at this
        grind
      subst b0
      have e2 : lin R bs = zv := by
        rw [← e]
        funext i
        simp only [av, sv]
        grind
      have ih := ind_of_unit (R := R) (fun s => f (s + 1)) (fun s t r' hr hs => by
        have := h (s + 1) (t + 1) r' hr (by simpa using hs)
        simpa using this) bs hl2 e2
      intro b' hb'
      rcases List.mem_cons.mp hb' with rfl | hb'
      · rfl
      · exact ih b' hb'
theorem all_range {P : List Nat} {k : Nat} (hp : P.Pairwise (· < ·)) (hk : ∀ p ∈ P, p < k) (hl : P.length = k) : P = List.range k := by
  have nd : P.Nodup := hp.imp fun h => Nat.ne_of_lt h
  obtain ⟨r, hr⟩ := sub_perm nd (l1 := List.range k) fun p h => List.mem_range.mpr (hk p h)
  have hl2 := hr.length_eq
  rw [List.length_append, List.length_range, hl] at hl2
  have : r = [] := List.length_eq_zero_iff.mp (by omega)
  rw [this, List.append_nil] at hr
  exact List.Perm.eq_of_pairwise (le := (· < ·)) (fun a b _ _ h1 h2 => absurd h1 (by omega)) hp List.pairwise_lt_range hr.symm
/-- the matrix at S, the unit matrix behind it -/
def exM (k : Nat) (S : List Nat) (V : Nat → Vc α) (t : Nat) : Vc α := cat k (sel S (V t)) (uv t)
theorem exM_sup {S : List Nat} {V : Nat → Vc α} : ∀ i, i < k → ∀ x, k + k ≤ x → exM k S V i x = 0 := fun i hi x hx => by
  unfold exM cat uv
  rw [if_neg (by omega), if_neg (by omega)]
structure InvOk (k : Nat) (S : List Nat) (V Z : Nat → Vc α) (P' : List Nat) : Prop where
  piv : P' = List.range k
  at_ : ∀ i, i < k → ∀ j, j < k → phiM k V (shf k (Z i)) (S.getD j 0) = if i = j then 1 else 0
theorem inv_math {V : Nat → Vc α} {P S : List Nat} (hr : Rref n (rl k V) P) (hS : S.length = k) (inj : Inj S (rl k V)) : InvOk k S V (redF k (k + k) (exM k S V)).1 (redF k (k + k) (exM k S V)).2 := by
  obtain ⟨a1, a2, a3⟩ := redF_ok (exM_sup (k := k) (S := S) (V := V))
  have rk := (rank_iff (exM_sup (k := k) (S := S) (V := V))).mpr (ind_of_unit (fun s => k + s) fun s t r h hs => by
    unfold rl at h
    rw [List.getElem?_map] at h
    obtain ⟨t', h1, rfl⟩ := Option.map_eq_some_iff.mp h
    have ht := (List.getElem?_eq_some_iff.mp h1).1
    rw [List.length_range] at ht
    rw [List.getElem?_range ht] at h1
    cases h1
    unfold exM cat uv
    rw [if_neg (by omega), Nat.add_sub_cancel_left]
    by_cases e : t = s
    · rw [if_pos e, if_pos e.symm]
    · rw [if_neg e, if_neg (Ne.symm e)])
  generalize redF k (k + k) (exM k S V) = st at a1 a2 a3 rk
  obtain ⟨Z, P'⟩ := st
  have rk : P'.length = k := rk
  have a1 : Rref (k + k) (rl P'.length Z) P' := a1
  have a2 : ∀ w, Span (rl P'.length Z) w ↔ Span (rl k (exM k S V)) w := a2
  rw [rk] at a1 a2
  have key : ∀ z, Span (rl k (exM k S V)) z → ∀ j, j < k → phiM k V (shf k z) (S.getD j 0) = z j := fun z hz => by
    refine hz.all (p := fun z => ∀ j, j < k → phiM k V (shf k z) (S.getD j 0) = z j) ?_ ?_ ?_ ?_
    · intro j _
      show phiM k V zv _ = _
      rw [phiM_zv]
      rfl
    · intro u v hu hv j hj
      show phiM k V (av (shf k u) (shf k v)) _ = _
      rw [phiM_av]
      show phiM k V (shf k u) _ + phiM k V (shf k v) _ = u j + v j
      rw [hu j hj, hv j hj]
    · intro c u hu j hj
      show phiM k V (sv c (shf k u)) _ = _
      rw [phiM_sv]
      show c * phiM k V (shf k u) _ = c * u j
      rw [hu j hj]
    · intro r hr j hj
      obtain ⟨t, ht, rfl⟩ := mem_rl.mp hr
      unfold exM
      rw [shf_cat, phiM_uv V ht]
      unfold cat sel
      rw [if_pos hj, if_pos (by omega)]
  have low : ∀ z, Span (rl k (exM k S V)) z → (∀ j, j < k → z j = 0) → z = zv := fun z hz h0 => by
    have e1 : phiM k V (shf k z) = zv := inj _ (phiM_span V _) fun p hp => by
      obtain ⟨j, hj, rfl⟩ := List.mem_iff_getElem.mp hp
      have := key z hz j (by omega)
      rw [h0 j (by omega)] at this
      simpa [hj] using this
    have hl := hr.len
    have hl : k = P.length := by simpa [rl] using hl
    funext x
    by_cases hx : x < k
    · exact h0 x hx
    by_cases hx2 : x < k + k
    · have hP : P[x - k]? = some (P[x - k]'(by omega)) := List.getElem?_eq_getElem (by omega)
      have e2 := congrFun e1 (P[x - k]'(by omega))
      unfold phiM dot at e2
      rw [sumN_one (j := x - k) (by omega) fun i hi hne => by
        show shf k z i * V i (P[x - k]'(by omega)) = 0
        rw [rref_unit hr (x - k) i _ _ (rl_get hi) hP, if_neg (Ne.symm hne)]; grind] at e2
      have e3 := rref_unit hr (x - k) (x - k) _ _ (rl_get (show x - k < k by omega)) hP
      rw [if_pos rfl] at e3
      have e2 : z (k + (x - k)) * V (x - k) (P[x - k]'(by omega)) = 0 := e2
      rw [show k + (x - k) = x by omega, e3] at e2
      show z x = 0
      grind
    · exact hz.zeroAt fun r hr => by
        obtain ⟨t, ht, rfl⟩ := mem_rl.mp hr
        exact exM_sup t ht x (by omega)
  have piv : P' = List.range k := all_range a1.piv_inc (fun p hp => by
    apply Classical.byContradiction
    intro hge
    obtain ⟨t, ht⟩ := List.mem_iff_getElem?.mp hp
    have htk := (List.getElem?_eq_some_iff.mp ht).1
    rw [rk] at htk
    obtain ⟨b1, b2⟩ := rref_ahead a1 t _ p (rl_get htk) ht
    have := low (Z t) ((a2 _).mp (.mem (mem_rl.mpr ⟨t, htk, rfl⟩))) fun j hj => b2 j (by omega)
    rw [this] at b1
    exact one_ne b1.symm) rk
  refine ⟨piv, fun i hi j hj => ?_⟩
  rw [key (Z i) ((a2 _).mp (.mem (mem_rl.mpr ⟨i, hi, rfl⟩))) j hj]
  have := rref_unit a1 j i (Z i) j (rl_get hi) (by
    show P'[j]? = some j
    rw [piv, List.getElem?_range hj])
  rw [this]
  by_cases e : i = j
  · rw [if_pos e, if_pos e.symm]
  · rw [if_neg e, if_neg (Ne.symm e)]
theorem uv_dv (t : Nat) : D.lst ((List.range n).map fun j => .int (if t = j then 1 else 0)) = dv n (uv t : Vc α) := by
  unfold dv
  congr 1
  refine List.map_congr_left fun j _ => ?_
  unfold uv
  by_cases e : t = j
  · rw [if_pos e, if_pos e]; exact ei1
  · rw [if_neg e, if_neg e]; exact ei0
theorem ev_invert (F : FE α L fd) (hL : 1 ≤ L) {V : Nat → Vc α} {P S : List Nat} (hr : Rref n (rl k V) P) (hS : S.length = k) (inj : Inj S (rl k V)) (hk : k ≤ 16) : ∃ Z : Nat → Vc α, (∀ i, i < k → ∀ j, j < k → phiM k V (shf k (Z i)) (S.getD j 0) = if i = j then 1 else 0) ∧ Ev (L + 3) F_invert_matrix [.ins 0 fd, dl k (rl k fun t => sel S (V t))] (dl k (rl k fun i => shf k (Z i))) := by
  obtain ⟨b1, b2⟩ := inv_math hr hS inj
  have er := ev_reduce F hL (exM k S V) exM_sup (by omega) (by omega)
  generalize redF k (k + k) (exM k S V) = st at b1 b2 er
  obtain ⟨Z, P'⟩ := st
  have b1 : P' = List.range k := b1
  subst b1
  refine ⟨Z, b2, run_k fun kk hkk => run_ws (by decide) ⟨rfl, rfl⟩ ?_⟩
  show WS _ t_invert_matrix [.sh (.ins 0 fd), .sh _, .un, .un, .un, .un, .un, .un, .un] _ _
  unfold t_invert_matrix
  repeat (first | refine we_sh rfl ?_ | refine wa_nil ?_ | refine wa_cons ?_ | refine we_call ?_ | refine we_bi ?_ | refine ws_cons ?_ | refine ws_setV rfl ?_ | refine ws_exp ?_ | with_reducible refine lf (len_rl) ?_ | refine lf (ev_widthD _ kk (by omega)) ?_)
  refine we_map rfl ?_
  repeat (first | refine we_sh rfl ?_ | refine wa_nil ?_ | refine wa_cons ?_ | refine ww_rg1 ?_)
  refine ⟨k, rfl, by omega, rfl, Nat, List.range k, ni, fun t => dv (k + k) (exM k S V t), by unfold rgD; simp, by simp [big]; omega, fun t ht => ⟨_, rfl, ?_⟩, ?_⟩
  · have ht := List.mem_range.mp ht
    repeat (first | refine we_sh rfl ?_ | refine we_bin ?_ | refine we_subS rfl ?_ | with_reducible refine lf (idx_rl ht) ?_)
    refine we_map rfl ?_
    repeat (first | refine we_sh rfl ?_ | refine wa_nil ?_ | refine wa_cons ?_ | refine ww_rg1 ?_)
    refine ⟨k, rfl, by omega, rfl, Nat, List.range k, ni, fun j => .int (if t = j then 1 else 0), by unfold rgD; simp, by simp [big]; omega, fun j hj => ⟨_, rfl, ?_⟩, ?_⟩
    · repeat (first | refine we_sh rfl ?_ | refine wa_nil ?_ | refine wa_cons ?_ | refine we_bi ?_ | refine wt_cmp ?_ | refine we_cmp ?_ | with_reducible refine lf (eq_nat) ?_ | refine ⟨rfl, ?_⟩ | refine lf rfl ?_)
      show D.int _ = D.int _
      by_cases e : t = j <;> simp [e]
    · rw [uv_dv (α := α)]
      repeat (first | with_reducible refine lf (add_dv (show k + k ≤ 1000 by omega)) ?_ | refine ⟨rfl, ?_⟩)
      rfl
  have er := er kk (by omega)
  have e9 : D.lst ((List.range k).map fun t => dv (k + k) (exM k S V t)) = dl (k + k) (rl k (exM k S V)) := by unfold dl rl; rw [List.map_map]; rfl
  rw [← e9] at er
  repeat (first | refine we_sh rfl ?_ | refine we_ow rfl ?_ | refine wa_nil ?_ | refine wa_cons ?_ | refine we_call ?_ | refine ws_cons ?_ | refine ws_unp ?_ | with_reducible refine lf (er) ?_)
  refine ⟨_, _, rfl, rfl, ?_⟩
  have c1 : cmpD .ne (.lst ((List.range k).map ni)) (.lst (rgD 0 k)) = some false := by
    have e1 : rgD 0 k = (List.range k).map ni := by unfold rgD; simp
    rw [e1]
    show (if okP 4 _ && okP 4 _ then some (!eqD (.lst ((List.range k).map ni)) (.lst ((List.range k).map ni))) else none) = _
    rw [okP_nats]
    show some (!eqD (.lst ((List.range k).map ni)) (.lst ((List.range k).map ni))) = _
    unfold eqD
    rw [eqDs_nats]
    rfl
  repeat (first | refine we_sh rfl ?_ | refine we_lrg ?_ | refine wt_cmp ?_ | refine ws_cons ?_ | refine ws_ite ?_)
  refine ⟨k, rfl, by omega, ?_⟩
  repeat (first | with_reducible refine lf (c1) ?_)
  refine ⟨fun z => (by cases z), fun _ => ?_⟩
  repeat (first | refine ws_nil ?_ | refine ws_cons ?_ | refine ws_ret ?_)
  refine we_map rfl ?_
  repeat (first | refine we_sh rfl ?_ | refine ww_lst ?_)
  refine ⟨_, rfl, rfl, Vc α, rl (List.range k).length Z, dv (k + k), fun z => dv k (shf k z), rfl, by simp [big, rl]; omega, fun z hz => ⟨_, rfl, ?_⟩, ?_⟩
  · repeat (first | refine we_sh rfl ?_ | refine we_slc ?_ | refine WI.some rfl ?_)
    refine ⟨_, rfl, ?_⟩
    repeat (first | refine WI.none ?_)
    refine ⟨_, rfl, rfl, ?_⟩
    show D.lst (cutD _ _ _) = _
    rw [cut_from (by simp), drop_dv (by omega), Nat.add_sub_cancel_left]
  · rw [List.length_range]
    unfold dl rl
    rw [List.map_map, List.map_map]
    rfl
theorem ev_rows_at (F : FE α L fd) (hL : 1 ≤ L) (c : CD α) (ok : c.Ok) {S : List Nat} (hS : S.length = c.R.length) (hp : ∀ p ∈ S, p < c.n) (inj : Inj S c.R) : ∃ G : Nat → Vc α, (∀ i, Span c.R (G i)) ∧ (∀ i, i < c.R.length → ∀ j, j < c.R.length → G i (S.getD j 0) = if i = j then 1 else 0) ∧ Ev (L + 4) F_rows_at [c.obj fd, .lst (S.map ni)] (dl c.n (rl c.R.length G)) := by
  have l1 := row_len c ok
  have p2 := ok.le
  obtain ⟨V, hV⟩ := rl_of c.R
  have hr := ok.rr
  have hk : c.R.length ≤ 16 := by omega
  have r1 := ev_rows (fd := fd) c (by omega)
  generalize hkk : c.R.length = k at *
  rw [← hV] at inj hr
  obtain ⟨Z, z1, z2⟩ := ev_invert F hL hr hS inj hk
  refine ⟨fun i => phiM k V (shf k (Z i)), fun i => by rw [← hV]; exact phiM_span _ _, z1, run_k fun kk hkk => run_ws (by decide) ⟨rfl, rfl⟩ ?_⟩
  show WS _ t_rows_at [.sh (c.obj fd), .sh _, .un, .un] _ _
  unfold t_rows_at
  have e1 := ev_items (n := c.n) c.R S hp (by omega) (by omega) kk (by omega)
  rw [items_sel, hS] at e1
  have e2 : c.R.map (sel S) = rl k fun t => sel S (V t) := by rw [← hV]; unfold rl; rw [List.map_map]; rfl
  rw [e2] at e1
  have e3 := ev_mm F hL (rl k fun i => shf k (Z i)) V (n := c.n) (t := k) (by omega) (by omega) (by simp [rl]; omega) kk (by omega)
  rw [hV] at e3
  repeat (first | refine we_sh rfl ?_ | refine wa_nil ?_ | refine wa_cons ?_ | refine we_call ?_ | refine we_prop ?_ | refine we_fldN rfl rfl ?_ | refine ws_cons ?_ | refine ws_setV rfl ?_ | refine ws_ret ?_ | with_reducible refine lf (e1) ?_ | with_reducible refine lf (e3) ?_ | refine lf (r1 kk (by omega)) ?_ | refine lf (z2 kk (by omega)) ?_)
  unfold rl phiM
  rw [List.map_map]
  rfl
end
end MN
end S_MnCn
section S_MnCo
set_option maxRecDepth 100000
/-! Information sets: how they are found. -/
namespace MN
open LA
section
variable {α : Type} [GF α] {n m k L : Nat} {fd : List D}
theorem ev_some {f : Nat} {ds : List D} {p : D → Prop} {L : Nat} (h : ∃ d, p d ∧ runB (runF L) f ds = some d) : ∃ d, p d ∧ Ev (L + 1) f ds d := by
  obtain ⟨d, h1, h2⟩ := h
  exact ⟨d, h1, Ev.of h2⟩
theorem run_ws_ex {f : Nat} {ds : List D} {p : D → Prop} {M : Mo} (hk : (df f).knd ≠ 1) (hl : ds.length = (df f).ps ∧ recvB (df f) ds = true) (h : WS M (df f).body (en0 (df f) ds) (fun _ => p .non) p) : ∃ d, p d ∧ runB M f ds = some d := by
  unfold runB
  rw [if_neg hk, if_pos hl]
  obtain ⟨o, e, h⟩ := h
  rw [e]
  cases o with
  | nx ρ' => exact ⟨_, h, rfl⟩
  | rt r => exact ⟨_, h, rfl⟩
theorem lin_map {φ : Vc α → Vc α} (h0 : φ zv = zv) (ha : ∀ u v, φ (av u v) = av (φ u) (φ v)) (hs : ∀ c u, φ (sv c u) = sv c (φ u)) : ∀ (R : List (Vc α)) (bs : List α), lin (R.map φ) bs = φ (lin R bs)
  | [], _ => h0.symm
  | _ :: _, [] => h0.symm
  | r :: R, b :: bs => by
    show av (sv b (φ r)) (lin (R.map φ) bs) = φ (av (sv b r) (lin R bs))
    rw [lin_map h0 ha hs R bs, ha, hs]
theorem lin_zero : ∀ (R : List (Vc α)) (bs : List α), (∀ b ∈ bs, b = 0) → lin R bs = zv
  | [], _, _ => rfl
  | _ :: _, [], _ => rfl
  | r :: R, b :: bs, h => by
    show av (sv b r) (lin R bs) = zv
    rw [lin_zero R bs fun b hb => h b (List.mem_cons_of_mem _ hb), h b (List.mem_cons_self ..)]
    funext i
    simp only [av, sv, zv]
    grind
theorem sel_zero {S : List Nat} {w : Vc α} : sel S w = zv ↔ ∀ p ∈ S, w p = 0 := by
  constructor
  · intro h p hp
    obtain ⟨i, hi, rfl⟩ := List.mem_iff_getElem.mp hp
    have := congrFun h i
    unfold sel at this
    rw [if_pos hi] at this
    simpa [hi, zv] using this
  · intro h
    funext i
    unfold sel
    split
    · rename_i hi
      have : S.getD i 0 = S[i] := by simp [hi]
      rw [this]
      exact h _ (List.getElem_mem hi)
    · rfl
theorem info_iff {R : List (Vc α)} {P S : List Nat} (hr : Rref n R P) : IndL (R.map (sel S)) ↔ Inj S R := by
  have lm := lin_map (φ := sel S) (sel_zv (α := α) S) (sel_av S) (sel_sv S)
  constructor
  · intro hi w hw hz
    obtain ⟨bs, h1, rfl⟩ := span_lin hw
    have := hi bs (by simpa using h1) (by rw [lm]; exact sel_zero.mpr hz)
    exact lin_zero R bs this
  · intro hj bs hl hz
    rw [lm] at hz
    have := hj _ (lin_span R bs) (sel_zero.mp hz)
    exact ind_of_nodup (wordsF_nodup hr) bs (by simpa using hl) this
theorem sel_sup {S : List Nat} {w : Vc α} {x : Nat} (h : S.length ≤ x) : sel S w x = 0 := by
  unfold sel
  rw [if_neg (by omega)]
/-- the places of left at which the pivots stand -/
def fnd (left P' : List Nat) : List Nat := P'.map fun p => left.getD p 0
structure RedOk (left : List Nat) (R : List (Vc α)) (P' : List Nat) : Prop where
  le : P'.length ≤ R.length
  inc : P'.Pairwise (· < ·)
  lt : ∀ p ∈ P', p < left.length
  inj : P'.length = R.length → Inj (fnd left P') R
  full : Inj left R → P'.length = R.length
theorem red_inj {R : List (Vc α)} {P left : List Nat} (hr : Rref n R P) {W : Nat → Vc α} (hW : rl R.length W = R.map (sel left)) : RedOk left R (redF R.length left.length W).2 := by
  have hs : ∀ i, i < R.length → ∀ x, left.length ≤ x → W i x = 0 := fun i hi x hx => by
    have : W i ∈ R.map (sel left) := by rw [← hW]; exact mem_rl.mpr ⟨i, hi, rfl⟩
    obtain ⟨u, _, e⟩ := List.mem_map.mp this
    rw [← e]
    exact sel_sup hx
  obtain ⟨a1, a2, a3⟩ := redF_ok hs
  have rk := rank_iff hs
  rw [hW] at a2 rk
  refine ⟨a3, a1.piv_inc, a1.piv_lt, fun e w hw hz => ?_, fun h => rk.mpr ((info_iff hr).mpr h)⟩
  have hi := (info_iff hr).mp (rk.mp e)
  refine hi w hw (sel_zero.mp ?_)
  have h1 := (a2 _).mpr ((Span.map (φ := sel left) (sel_zv (α := α) left) (sel_av left) (sel_sv left)).mpr ⟨w, hw, rfl⟩)
  rw [← a1.span_iff.mp h1]
  refine lcp_zero fun p hp => ?_
  have hl := a1.piv_lt p hp
  unfold sel
  rw [if_pos hl]
  exact hz _ (List.mem_map.mpr ⟨p, hp, rfl⟩)
/-- information sets, no two of which share a position -/
structure Sets (c : CD α) (Ss : List (List Nat)) : Prop where
  len : ∀ S ∈ Ss, S.length = c.R.length
  lt : ∀ S ∈ Ss, ∀ p ∈ S, p < c.n
  inj : ∀ S ∈ Ss, Inj S c.R
  nd : Ss.flatten.Nodup
def sD (Ss : List (List Nat)) : List D := Ss.map fun S => .lst (S.map ni)
theorem sub_lt {l1 l2 : List Nat} (p : Nat → Bool) : (l1.filter p).length + (l1.filter fun x => !p x).length = l1.length := by
  induction l1 with
  | nil => rfl
  | cons x l ih => by_cases h : p x = true <;> simp [h] <;> omega
theorem gt_dim {x : Nat} : cmpD .gt (ni x) (.int 0) = some (decide (0 < x)) := gt_nat0
theorem ev_info (F : FE α L fd) (hL : 1 ≤ L) (c : CD α) (ok : c.Ok) (hk : c.R.length ≠ 0) : ∃ Ss, Ss ≠ [] ∧ Ss.length ≤ c.n ∧ Sets c Ss ∧ Ev (L + 3) F_information_sets [c.obj fd] (.lst (sD Ss)) := by
  have l1 := row_len c ok
  have p2 := ok.le
  have full : Inj (List.range c.n) c.R := fun w hw hz => by
    funext x
    by_cases hx : x < c.n
    · exact hz x (List.mem_range.mpr hx)
    · exact hw.zeroAt fun r hr => ok.rr.sup r hr x (by omega)
  -- the sets as a function: run the walk with the result existential
  suffices h : ∃ d, (∃ Ss, Ss ≠ [] ∧ Ss.length ≤ c.n ∧ Sets c Ss ∧ d = .lst (sD Ss)) ∧ Ev (L + 3) F_information_sets [c.obj fd] d by
    obtain ⟨d, ⟨Ss, h1, h2, h3, rfl⟩, h4⟩ := h
    exact ⟨Ss, h1, h2, h3, h4⟩
  refine ev_some (L := L + 2) ?_
  obtain ⟨kk, hkk⟩ : ∃ kk, kk = L + 2 := ⟨_, rfl⟩
  rw [← hkk]
  refine run_ws_ex (by decide) ⟨rfl, rfl⟩ ?_
  show WS _ t_information_sets [.sh (c.obj fd), .un, .un, .un, .un, .un, .un, .un] _ _
  unfold t_information_sets
  have r1 := ev_rows (fd := fd) c (by omega) kk (by omega)
  repeat (first | refine wa_nil ?_ | refine we_lst ?_ | refine ws_cons ?_ | refine ws_setV rfl ?_)
  refine ⟨by simp [big], ?_⟩
  repeat (first | refine we_lrg ?_ | refine we_fldN rfl rfl ?_ | refine ws_cons ?_ | refine ws_setV rfl ?_)
  refine ⟨c.n, rfl, by omega, ?_⟩
  repeat (first | refine we_sh rfl ?_ | refine we_prop ?_ | refine ws_cons ?_ | refine ws_setV rfl ?_ | with_reducible refine lf (r1) ?_)
  refine ws_whl (fun m ρ => ∃ Ss left x4 x5 s2, ρ = [.sh (c.obj fd), .ow (sD Ss), s2, .sh (dl c.n c.R), x4, x5, .un, .un] ∧ (s2 = .ow (left.map ni)) ∧ left.length + 1 ≤ m ∧ (∀ p ∈ left, p < c.n) ∧ Sets c Ss ∧ (Ss.flatten ++ left).Nodup ∧ (Ss = [] → left = List.range c.n) ∧ Ss.length + left.length ≤ c.n) (c.n + 1) (by omega) ⟨[], List.range c.n, .un, .un, _, rfl, by
      have e1 : rgD 0 c.n = (List.range c.n).map ni := by unfold rgD; simp
      rw [← e1]; rfl, by simp, fun p hp => List.mem_range.mp hp, ⟨nofun, nofun, nofun, List.nodup_nil⟩, by simpa using List.nodup_range, fun _ => rfl, by simp⟩ ?_
  rintro m ρ ⟨Ss, left, x4, x5, s2, rfl, rfl, hm, hlt, hSs, hnd, hfst, hbd⟩
  have c1 : cmpD .gt (ni c.R.length) (.int 0) = some true := by rw [gt_nat0, decide_eq_true (by omega)]
  repeat (first | refine we_int ?_ | refine we_fldN rfl rfl ?_ | refine wt_cmp ?_ | with_reducible refine lf (c1) ?_)
  obtain ⟨m', rfl⟩ : ∃ m', m = m' + 1 := ⟨m - 1, by omega⟩
  refine ⟨fun z => (by cases z), fun _ => ⟨m', rfl, ?_⟩⟩
  obtain ⟨W, hW⟩ := rl_of (c.R.map (sel left))
  rw [List.length_map] at hW
  have ro := red_inj ok.rr hW
  have hs : ∀ i, i < c.R.length → ∀ x, left.length ≤ x → W i x = 0 := fun i hi x hx => by
    have : W i ∈ c.R.map (sel left) := by rw [← hW]; exact mem_rl.mpr ⟨i, hi, rfl⟩
    obtain ⟨u, _, e⟩ := List.mem_map.mp this
    rw [← e]
    exact sel_sup hx
  have er := ev_reduce F hL W hs (by omega) (by omega) kk (by omega)
  have ei := ev_items (n := c.n) c.R left hlt (by omega) (by omega) kk (by omega)
  rw [items_sel, ← hW] at ei
  generalize redF c.R.length left.length W = st at ro er
  obtain ⟨Z, P'⟩ := st
  have ro : RedOk left c.R P' := ro
  obtain ⟨q1, q2, q3, q4, q5⟩ := ro
  repeat (first | refine we_sh rfl ?_ | refine we_ow rfl ?_ | refine we_int ?_ | refine wa_nil ?_ | refine wa_cons ?_ | refine we_call ?_ | refine we_bi ?_ | refine we_fldN rfl rfl ?_ | refine we_sub rfl ?_ | refine wt_cmp ?_ | refine ws_cons ?_ | refine ws_setV rfl ?_ | refine ws_ite ?_ | with_reducible refine lf (ei) ?_ | with_reducible refine lf (er) ?_ | refine lf len_map ?_ | refine lf lt_nat ?_ | refine lf rfl ?_)
  have ix : idxD (redD left.length (Z, P')) (.int 1) = some (.lst (P'.map ni)) := rfl
  skip
  refine ⟨fun hz => ?_, fun hz => ?_⟩
  · have hz : P'.length < c.R.length := of_decide_eq_true hz
    show WS _ _ [.sh (c.obj fd), .ow (sD Ss), .sh (.lst (left.map ni)), .sh (dl c.n c.R), .sh (.lst (P'.map ni)), x5, .un, .un] _ _
    repeat (first | refine we_ow rfl ?_ | refine ws_cons ?_ | refine ws_ret ?_)
    refine ⟨Ss, fun e => ?_, by omega, hSs, rfl⟩
    have := q5 (by rw [hfst e]; exact full)
    omega
  have hz : ¬ P'.length < c.R.length := of_decide_eq_false hz
  show WS _ _ [.sh (c.obj fd), .ow (sD Ss), .sh (.lst (left.map ni)), .sh (dl c.n c.R), .sh (.lst (P'.map ni)), x5, .un, .un] _ _
  have hP : P'.length = c.R.length := by omega
  have inj := q4 hP
  have hll : left.length ≤ 16 := by omega
  have fl : (fnd left P').length = c.R.length := by unfold fnd; rw [List.length_map, hP]
  have fm : ∀ x ∈ fnd left P', x ∈ left := fun x hx => by
    obtain ⟨p, hp, rfl⟩ := List.mem_map.mp hx
    have := q3 p hp
    have e : left.getD p 0 = left[p] := by simp [this]
    rw [e]
    exact List.getElem_mem this
  have ndl : left.Nodup := (List.nodup_append.mp hnd).2.1
  have fnn : (fnd left P').Nodup := by
    unfold fnd
    rw [List.nodup_iff_pairwise_ne, List.pairwise_map]
    refine List.Pairwise.imp_of_mem (fun {a b} ha hb hab => ?_) q2
    have h1 := q3 a ha
    have h2 := q3 b hb
    have e1 : left.getD a 0 = left[a] := by simp [h1]
    have e2 : left.getD b 0 = left[b] := by simp [h2]
    rw [e1, e2]
    exact fun e => absurd ((List.getElem_inj ndl).mp e) (by omega)
  repeat (first | refine ws_nil ?_ | refine ws_cons ?_ | refine ws_setV rfl ?_)
  refine we_map rfl ?_
  repeat (first | refine we_sh rfl ?_ | refine ww_lst ?_)
  refine ⟨_, rfl, rfl, Nat, P', ni, fun p => ni (left.getD p 0), rfl, by simp [big]; omega, fun p hp => ⟨_, rfl, ?_⟩, ?_⟩
  · repeat (first | refine we_sh rfl ?_ | refine we_subS rfl ?_ | with_reducible refine lf (idx_natl (q3 p hp)) ?_ | refine ⟨rfl, ?_⟩)
    rfl
  have e9 : D.lst (P'.map fun p => ni (left.getD p 0)) = .lst ((fnd left P').map ni) := by unfold fnd; rw [List.map_map]; rfl
  rw [e9]
  repeat (first | refine we_ow rfl ?_ | refine ws_cons ?_ | refine ws_appV ?_ | refine ⟨rfl, ?_⟩)
  refine ⟨_, rfl, ?_, ?_⟩
  · unfold sD; rw [List.length_map]; simp [big]; omega
  show WS _ _ [.sh (c.obj fd), .ow (sD Ss ++ [.lst ((fnd left P').map ni)]), .sh (.lst (left.map ni)), .sh (dl c.n c.R), .sh (.lst (P'.map ni)), .sh (.lst ((fnd left P').map ni)), .un, .un] _ _
  have e8 : sD Ss ++ [.lst ((fnd left P').map ni)] = sD (Ss ++ [fnd left P']) := by unfold sD; simp
  rw [e8]
  repeat (first | refine ws_cons ?_ | refine ws_setV rfl ?_)
  refine we_filt rfl ?_
  repeat (first | refine we_sh rfl ?_ | refine ww_lst ?_)
  refine ⟨_, rfl, rfl, Nat, left, ni, fun i => !(fnd left P').contains i, ni, rfl, by simp [big]; omega, fun i hi => ⟨_, rfl, ?_, fun _ => ?_⟩, ?_⟩
  · repeat (first | refine we_sh rfl ?_ | refine wt_cmp ?_ | with_reducible refine lf (nin_nat) ?_)
    rfl
  · repeat (first | refine we_sh rfl ?_ | refine ⟨rfl, ?_⟩)
    rfl
  have sl := sub_lt (l1 := left) (l2 := left) fun i => (fnd left P').contains i
  have sl2 : c.R.length ≤ (left.filter fun i => (fnd left P').contains i).length := by
    rw [← fl]
    exact sub_len fnn fun x hx => List.mem_filter.mpr ⟨fm x hx, by simpa using hx⟩
  repeat (first | refine ws_nil ?_)
  refine ⟨Ss ++ [fnd left P'], left.filter fun i => !(fnd left P').contains i, _, _, _, rfl, rfl, by omega, fun p hp => hlt p (List.mem_filter.mp hp).1, ⟨?_, ?_, ?_, ?_⟩, ?_, ?_, ?_⟩
  · intro S hS
    rcases List.mem_append.mp hS with h | h
    · exact hSs.len S h
    · rw [List.mem_singleton.mp h]; exact fl
  · intro S hS
    rcases List.mem_append.mp hS with h | h
    · exact hSs.lt S h
    · rw [List.mem_singleton.mp h]; exact fun p hp => hlt p (fm p hp)
  · intro S hS
    rcases List.mem_append.mp hS with h | h
    · exact hSs.inj S h
    · rw [List.mem_singleton.mp h]; exact inj
  · rw [List.flatten_append, List.flatten_cons, List.flatten_nil, List.append_nil]
    rw [List.nodup_append] at hnd ⊢
    exact ⟨hnd.1, fnn, fun a ha b hb => hnd.2.2 a ha b (fm b hb)⟩
  · rw [List.flatten_append, List.flatten_cons, List.flatten_nil, List.append_nil]
    have hnd0 := hnd
    rw [List.nodup_append] at hnd
    rw [List.append_assoc, List.nodup_append]
    refine ⟨hnd.1, ?_, fun a ha b hb => ?_⟩
    · rw [List.nodup_append]
      refine ⟨fnn, List.Nodup.sublist List.filter_sublist ndl, fun a ha b hb e => ?_⟩
      have := (List.mem_filter.mp hb).2
      rw [← e] at this
      simp at this
      exact this ha
    · rcases List.mem_append.mp hb with h | h
      · exact hnd.2.2 a ha b (fm b h)
      · exact hnd.2.2 a ha b (List.mem_filter.mp h).1
  · intro e
    simp at e
  · rw [List.length_append]
    simp only [List.length_singleton]
    omega
theorem ev_isinfo (F : FE α L fd) (hL : 1 ≤ L) (c : CD α) (ok : c.Ok) {S : List Nat} (hS : S.length = c.R.length) (hp : ∀ p ∈ S, p < c.n) (inj : Inj S c.R) : Ev (L + 4) F_is_information_set [c.obj fd, .lst (S.map ni)] (.bl true) := by
  have l1 := row_len c ok
  have p2 := ok.le
  obtain ⟨W, hW⟩ := rl_of (c.R.map (sel S))
  rw [List.length_map] at hW
  have hs : ∀ i, i < c.R.length → ∀ x, c.R.length ≤ x → W i x = 0 := fun i hi x hx => by
    have : W i ∈ c.R.map (sel S) := by rw [← hW]; exact mem_rl.mpr ⟨i, hi, rfl⟩
    obtain ⟨u, _, e⟩ := List.mem_map.mp this
    rw [← e]
    exact sel_sup (by omega)
  refine run_k fun k hk => run_ws (by decide) ⟨rfl, rfl⟩ ?_
  show WS _ t_is_information_set [.sh (c.obj fd), .sh _, .un] _ _
  unfold t_is_information_set
  have c1 : cmpD .ne (ni S.length) (ni c.R.length) = some false := by rw [ne_nat, hS]; simp
  repeat (first | refine we_sh rfl ?_ | refine wa_nil ?_ | refine wa_cons ?_ | refine we_bi ?_ | refine we_fldN rfl rfl ?_ | refine wt_cmp ?_ | refine ws_cons ?_ | refine ws_ite ?_ | with_reducible refine lf (c1) ?_ | refine lf len_map ?_)
  refine ⟨fun z => (by cases z), fun _ => ?_⟩
  repeat (first | refine ws_nil ?_ | refine ws_cons ?_)
  refine ws_forL ?_
  repeat (first | refine we_sh rfl ?_ | refine ww_lst ?_)
  refine ⟨_, rfl, rfl, Nat, S, ni, fun pre ρ => ∃ x, ρ = [.sh (c.obj fd), .sh (.lst (S.map ni)), x], rfl, ⟨.un, rfl⟩, ?_, ?_⟩
  · rintro ρ' ⟨x, rfl⟩
    have e1 := ev_items (n := c.n) c.R S hp (by omega) (by omega) k (by omega)
    rw [items_sel, hS, ← hW] at e1
    have e2 := ev_rank F hL W hs (by omega) (by omega) k (by omega)
    rw [(rank_iff hs).mpr (by rw [hW]; exact (info_iff ok.rr).mpr inj)] at e2
    have r1 := ev_rows (fd := fd) c (by omega) k (by omega)
    have c3 : cmpD .eq (ni c.R.length) (ni c.R.length) = some true := by rw [eq_nat]; simp
    repeat (first | refine we_sh rfl ?_ | refine wa_nil ?_ | refine wa_cons ?_ | refine we_call ?_ | refine we_prop ?_ | refine we_fldN rfl rfl ?_ | refine wt_cmp ?_ | refine we_cmp ?_ | refine ws_cons ?_ | refine ws_ret ?_ | with_reducible refine lf (r1) ?_ | with_reducible refine lf (e1) ?_ | with_reducible refine lf (e2) ?_ | with_reducible refine lf (c3) ?_)
    rfl
  · rintro pre p post ρ e ⟨x, rfl⟩
    refine ⟨_, rfl, ?_⟩
    have hpm : p ∈ S := by rw [e]; simp
    have h1 : cmpD .le (.int 0) (ni p) = some true := by
      show some (decide ((0 : Int) ≤ (p : Int))) = _
      rw [decide_eq_true (by omega)]
    have h2 : cmpD .lt (ni p) (ni c.n) = some true := by rw [lt_nat, decide_eq_true (hp p hpm)]
    repeat (first | refine we_sh rfl ?_ | refine we_int ?_ | refine wt_chain ?_ | refine wt_not ?_ | refine ws_cons ?_ | refine ws_ite ?_ | with_reducible refine lf (h1) ?_)
    refine ⟨fun z => (by cases z), fun _ => ?_⟩
    repeat (first | refine we_fldN rfl rfl ?_ | with_reducible refine lf (h2) ?_)
    refine ⟨fun z => (by cases z), fun _ => ?_⟩
    repeat (first | refine ws_nil ?_)
    exact ⟨_, rfl⟩
theorem intsOf_nats (xs : List Nat) : intsOf (xs.map ni) = some (xs.map fun x : Nat => (x : Int)) := by
  have := intsOf_map (xs.map fun x : Nat => (x : Int))
  rw [List.map_map] at this
  exact this
theorem nodupI_nats : ∀ {xs : List Nat}, xs.Nodup → nodupI (xs.map fun x : Nat => (x : Int)) = true
  | [], _ => rfl
  | x :: xs, h => by
    rw [List.nodup_cons] at h
    show (!((xs.map fun x : Nat => (x : Int)).contains (x : Int)) && nodupI (xs.map fun x : Nat => (x : Int))) = true
    rw [nodupI_nats h.2]
    simp only [Bool.and_true, Bool.not_eq_true', List.contains_eq_mem, decide_eq_false_iff_not]
    intro hc
    obtain ⟨y, hy, e⟩ := List.mem_map.mp hc
    have : y = x := by omega
    exact h.1 (this ▸ hy)
theorem ev_separate (F : FE α L fd) (hL : 1 ≤ L) (c : CD α) (ok : c.Ok) {Ss : List (List Nat)} (h : Sets c Ss) (hne : Ss ≠ []) (hl : Ss.length ≤ c.n) : Ev (L + 5) F_are_separate_sets [c.obj fd, .lst (sD Ss)] (.bl true) := by
  have p2 := ok.le
  have l1 := row_len c ok
  have fl : Ss.flatten.length ≤ 256 := by
    have := sub_len h.nd (l1 := List.range c.n) fun x hx => by
      obtain ⟨S, hS, hx⟩ := List.mem_flatten.mp hx
      exact List.mem_range.mpr (h.lt S hS x hx)
    simp at this
    simp
    omega
  refine run_k fun k hk => run_ws (by decide) ⟨rfl, rfl⟩ ?_
  show WS _ t_are_separate_sets [.sh (c.obj fd), .sh _, .un, .un] _ _
  unfold t_are_separate_sets
  repeat (first | refine wa_nil ?_ | refine we_lst ?_ | refine ws_cons ?_ | refine ws_setV rfl ?_)
  refine ⟨by simp [big], ?_⟩
  repeat (first | refine ws_cons ?_)
  refine ws_forL ?_
  repeat (first | refine we_sh rfl ?_ | refine ww_lst ?_)
  refine ⟨_, rfl, rfl, List Nat, Ss, fun S => .lst (S.map ni), fun pre ρ => ∃ x, ρ = [.sh (c.obj fd), .sh (.lst (sD Ss)), .ow (pre.flatten.map ni), x], rfl, ⟨.un, rfl⟩, ?_, ?_⟩
  · rintro ρ' ⟨x, rfl⟩
    have c1 : cmpD .gt (ni (sD Ss).length) (.int 0) = some true := by
      rw [gt_nat0, decide_eq_true]
      unfold sD
      rw [List.length_map]
      exact List.length_pos_iff.mpr hne
    have e1 : biD .len [.lst (sD Ss)] = some (ni (sD Ss).length) := rfl
    repeat (first | refine we_sh rfl ?_ | refine we_int ?_ | refine wa_nil ?_ | refine wa_cons ?_ | refine we_bi ?_ | refine wt_cmp ?_ | refine wt_and ?_ | refine we_and ?_ | refine ws_cons ?_ | refine ws_ret ?_ | with_reducible refine lf (e1) ?_ | with_reducible refine lf (c1) ?_)
    refine ⟨fun z => (by cases z), fun _ => ?_⟩
    repeat (first | refine we_ow rfl ?_ | refine we_lset ?_ | refine wt_cmp ?_)
    refine ⟨_, _, rfl, intsOf_nats _, nodupI_nats h.nd, by rw [List.length_map]; omega, ?_⟩
    rw [List.length_map]
    have c3 : cmpD .eq (ni Ss.flatten.length) (ni Ss.flatten.length) = some true := by rw [eq_nat]; simp
    repeat (first | refine we_ow rfl ?_ | refine wa_nil ?_ | refine wa_cons ?_ | refine we_bi ?_ | with_reducible refine lf (c3) ?_ | refine lf len_map ?_)
    rfl
  · rintro pre S post ρ e ⟨x, rfl⟩
    refine ⟨_, rfl, ?_⟩
    have hS : S ∈ Ss := by rw [e]; simp
    repeat (first | refine we_sh rfl ?_ | refine wa_nil ?_ | refine wa_cons ?_ | refine we_call ?_ | refine wt_not ?_ | refine wtv ?_ | refine ws_cons ?_ | refine ws_ite ?_ | refine wt_val ?_ | refine lf (ev_isinfo F hL c ok (h.len S hS) (h.lt S hS) (h.inj S hS) k (by omega)) ?_)
    refine ⟨fun z => (by cases z), fun _ => ?_⟩
    repeat (first | refine we_sh rfl ?_ | refine ws_nil ?_ | refine ws_cons ?_ | refine ws_extV ?_ | refine ⟨rfl, ?_⟩)
    have e5 : (pre.flatten.map ni) ++ S.map ni = (pre ++ [S]).flatten.map ni := by simp
    refine ⟨_, _, rfl, rfl, ?_, ?_⟩
    · have h8 : Ss.flatten.length = pre.flatten.length + (S.length + post.flatten.length) := by
        rw [e, List.flatten_append, List.flatten_cons, List.length_append, List.length_append]
      rw [List.length_map, List.length_map]
      simp only [big]
      omega
    rw [e5]
    repeat (first | refine ws_nil ?_)
    exact ⟨_, rfl⟩
end
end MN
end S_MnCo
section S_MnCp
set_option maxRecDepth 100000
/-! Sums of rows. -/
namespace MN
open LA
section
variable {N : En → Prop} {R : D → Prop} {M : Mo} {ρ : En}
theorem sh_set {i : Nat} {d : D} (h : ρ[i]? = some (Sl.sh d)) : ρ.set i (Sl.sh d) = ρ := by
  apply List.ext_getElem?
  intro j
  rw [List.getElem?_set]
  by_cases e : i = j
  · subst e
    rw [if_pos rfl, if_pos (List.getElem?_eq_some_iff.mp h).1, h]
  · rw [if_neg e]
theorem ow_frz {i : Nat} {ds : List D} (h : ρ[i]? = some (Sl.ow ds)) : ρ.frz [i] = ρ.set i (Sl.sh (.lst ds)) := by
  apply List.ext_getElem?
  intro j
  rw [List.getElem?_set, frz_get]
  by_cases e : i = j
  · subst e
    rw [if_pos rfl, if_pos (List.getElem?_eq_some_iff.mp h).1, h]
    simp [Sl.frz]
  · rw [if_neg e]
    have : ([i].contains j) = false := by simp; exact Ne.symm e
    rw [this]
    simp
/-- a loop over a name's list, its own or not -/
theorem ws_forNm {tg : Tg} {i : Nat} {its : List D} {body : MS} (h0 : ρ[i]? = some (Sl.sh (.lst its)) ∨ ρ[i]? = some (Sl.ow its)) (h : ∃ (β : Type) (xs : List β) (f : β → D) (I : List β → En → Prop), its = xs.map f ∧ I [] (ρ.set i (Sl.sh (.lst its))) ∧ (∀ ρ', I xs ρ' → N ρ') ∧
    ∀ pre x post ρ, xs = pre ++ x :: post → I pre ρ → ∃ ρ1, tg.put ρ (f x) = some ρ1 ∧ WS M body ρ1 (fun ρ' => I (pre ++ [x]) ρ') R) : WS M (.for_ tg .lst (.nm i) body) ρ N R := by
  obtain ⟨β, xs, f, I, h1, h2, h3, h4⟩ := h
  rcases h0 with h0 | h0
  · exact ws_forLG (ww_lst (we_sh h0 ⟨its, rfl, β, xs, f, I, h1, by rw [frz_nil, ← sh_set h0]; exact h2, h3, h4⟩))
  · exact ws_forLG (ww_lst (we_ow h0 ⟨its, rfl, β, xs, f, I, h1, by rw [ow_frz h0]; exact h2, h3, h4⟩))
end
section
variable {α : Type} [GF α] {n m k L : Nat} {fd : List D}
def part (G : Nat → Vc α) (z : Nat × Vc α) (j : Nat) : List (Nat × Vc α) := (List.range j).flatMap fun i => (List.range (GF.q α - 1)).map fun f => (z.1 + i + 1, av z.2 (sv (GF.el (1 + f)) (G (z.1 + i))))
def nextL (k : Nat) (G : Nat → Vc α) (last : List (Nat × Vc α)) : List (Nat × Vc α) := last.flatMap fun z => part G z (k - z.1)
def lev (k : Nat) (G : Nat → Vc α) : Nat → List (Nat × Vc α)
  | 0 => [(0, zv)]
  | l + 1 => nextL k G (lev k G l)
def foundL (k : Nat) (G : Nat → Vc α) (l : Nat) : List (Vc α) := (List.range l).flatMap fun i => (lev k G (i + 1)).map Prod.snd
theorem foundL_succ (k : Nat) (G : Nat → Vc α) (l : Nat) : foundL k G (l + 1) = foundL k G l ++ (lev k G (l + 1)).map Prod.snd := by
  unfold foundL
  rw [List.range_succ, List.flatMap_append]
  simp
def pD (n : Nat) (z : Nat × Vc α) : D := .tup [ni z.1, dv n z.2]
theorem part_succ (G : Nat → Vc α) (z : Nat × Vc α) (j : Nat) : part G z (j + 1) = part G z j ++ (List.range (GF.q α - 1)).map fun f => (z.1 + j + 1, av z.2 (sv (GF.el (1 + f)) (G (z.1 + j)))) := by
  unfold part
  rw [List.range_succ, List.flatMap_append]
  simp
theorem part_len (G : Nat → Vc α) (z : Nat × Vc α) : ∀ j, (part G z j).length = j * (GF.q α - 1)
  | 0 => by simp [part]
  | j + 1 => by rw [part_succ, List.length_append, part_len G z j, List.length_map, List.length_range, Nat.succ_mul]
theorem nextL_len (k : Nat) (G : Nat → Vc α) : ∀ last : List (Nat × Vc α), (nextL k G last).length ≤ last.length * (k * (GF.q α - 1))
  | [] => by simp [nextL]
  | z :: last => by
    have ih := nextL_len k G last
    have e : nextL k G (z :: last) = part G z (k - z.1) ++ nextL k G last := by simp [nextL]
    rw [e, List.length_append, part_len, List.length_cons, Nat.succ_mul, Nat.add_comm]
    exact Nat.add_le_add ih (Nat.mul_le_mul_right _ (by omega))
theorem lev_len (k : Nat) (G : Nat → Vc α) : ∀ l, (lev k G l).length ≤ (k * (GF.q α - 1)) ^ l
  | 0 => by simp [lev]
  | l + 1 => by
    show (nextL k G (lev k G l)).length ≤ _
    refine Nat.le_trans (nextL_len k G _) ?_
    rw [Nat.pow_succ]
    exact Nat.mul_le_mul_right _ (lev_len k G l)
theorem nextL_snoc (k : Nat) (G : Nat → Vc α) (pre : List (Nat × Vc α)) (z : Nat × Vc α) : nextL k G (pre ++ [z]) = nextL k G pre ++ part G z (k - z.1) := by
  unfold nextL
  rw [List.flatMap_append]
  simp
theorem lev_le (k : Nat) (G : Nat → Vc α) : ∀ l, ∀ z ∈ lev k G l, z.1 ≤ k
  | 0 => fun z hz => by
    rw [List.mem_singleton.mp hz]
    exact Nat.zero_le _
  | l + 1 => fun z hz => by
    obtain ⟨y, hy, hz⟩ := List.mem_flatMap.mp (show z ∈ (lev k G l).flatMap fun z => part G z (k - z.1) from hz)
    obtain ⟨i, hi, hz⟩ := List.mem_flatMap.mp hz
    obtain ⟨f, hf, rfl⟩ := List.mem_map.mp hz
    have := List.mem_range.mp hi
    show y.1 + i + 1 ≤ k
    omega
theorem ev_sums (F : FE α L fd) (hL : 3 ≤ L) (G : Nat → Vc α) (t : Nat) (hn : n ≤ 1000) (hk : k ≤ 16) (ht : t ≤ 16) (hB : ∀ i, i ≤ t → (k * (GF.q α - 1)) ^ i ≤ 50000) : Ev (L + 2) F_sums_of_rows [.ins 0 fd, dl n (rl k G), ni n, ni t] (dl n (foundL k G t)) := by
  have hq := F.small
  have hq2 := GF.two (α := α)
  refine run_k fun kk hkk => run_ws (by decide) ⟨rfl, rfl⟩ ?_
  show WS _ t_sums_of_rows [.sh (.ins 0 fd), .sh (dl n (rl k G)), .sh (ni n), .sh (ni t), .un, .un, .un, .un, .un, .un, .un, .un, .un] _ _
  unfold t_sums_of_rows
  repeat (first | refine wa_nil ?_ | refine we_lst ?_ | refine ws_cons ?_ | refine ws_setV rfl ?_)
  refine ⟨by simp [big], ?_⟩
  repeat (first | refine we_sh rfl ?_ | refine we_int ?_ | refine wa_nil ?_ | refine wa_cons ?_ | refine we_call ?_ | refine we_lst ?_ | refine we_tup ?_ | refine ws_cons ?_ | refine ws_setV rfl ?_ | refine lf (ev_zero (α := α) hn kk (by omega)) ?_)
  refine ⟨by simp [big], ?_⟩
  repeat (first | refine wa_nil ?_)
  refine ⟨by simp [big], ?_⟩
  repeat (first | refine ws_cons ?_)
  refine ws_forR ?_
  repeat (first | refine we_sh rfl ?_ | refine wa_nil ?_ | refine wa_cons ?_ | refine ⟨rfl, ?_⟩)
  have hfl : ∀ l, l ≤ t → (foundL k G l).length ≤ l * 50000 := by
    intro l
    induction l with
    | zero => intro _; simp [foundL]
    | succ l ih =>
      intro h
      rw [foundL_succ, List.length_append, List.length_map]
      have := ih (by omega)
      have := Nat.le_trans (lev_len k G (l + 1)) (hB (l + 1) h)
      omega
  refine ⟨t, rfl, by omega, fun l ρ => ∃ x5 x6 x7 x8 x9 x10 x11, ρ = [.sh (.ins 0 fd), .sh (dl n (rl k G)), .sh (ni n), .sh (ni t), .ow ((foundL k G l).map (dv n)), x5, x6, x7, x8, x9, x10, x11, .un] ∧ (x5 = .sh (.lst ((lev k G l).map (pD n))) ∨ x5 = .ow ((lev k G l).map (pD n))), ⟨_, _, _, _, _, _, _, rfl, .inr rfl⟩, ?_, ?_⟩
  · rintro ρ' ⟨x5, x6, x7, x8, x9, x10, x11, rfl, _⟩
    repeat (first | refine we_ow rfl ?_ | refine ws_cons ?_ | refine ws_ret ?_)
    rfl
  rintro l ρ hl ⟨x5, x6, x7, x8, x9, x10, x11, rfl, h5⟩
  have hl1 : (lev k G l).length * (k * (GF.q α - 1)) ≤ 50000 := by
    refine Nat.le_trans (Nat.mul_le_mul_right _ (lev_len k G l)) ?_
    rw [← Nat.pow_succ]
    exact hB (l + 1) (by omega)
  have hl2 : (lev k G (l + 1)).length ≤ 50000 := Nat.le_trans (lev_len k G (l + 1)) (hB (l + 1) (by omega))
  refine ⟨_, rfl, ?_⟩
  repeat (first | refine wa_nil ?_ | refine we_lst ?_ | refine ws_cons ?_ | refine ws_setV rfl ?_)
  refine ⟨by simp [big], ?_⟩
  repeat (first | refine ws_cons ?_)
  refine ws_forNm (its := (lev k G l).map (pD n)) (by rcases h5 with rfl | rfl; exact .inl rfl; exact .inr rfl) ?_
  refine ⟨Nat × Vc α, lev k G l, pD n, fun pre ρ => ∃ x8 x9 x10 x11, ρ = [.sh (.ins 0 fd), .sh (dl n (rl k G)), .sh (ni n), .sh (ni t), .ow ((foundL k G l).map (dv n)), .sh (.lst ((lev k G l).map (pD n))), .sh (ni l), .ow ((nextL k G pre).map (pD n)), x8, x9, x10, x11, .un], rfl, ⟨_, _, _, _, rfl⟩, ?_, ?_⟩
  · rintro ρ' ⟨x8, x9, x10, x11, rfl⟩
    repeat (first | refine ws_cons ?_ | refine ws_extV ?_)
    refine we_mapG rfl ?_
    repeat (first | refine we_ow rfl ?_ | refine ww_lst ?_)
    refine ⟨_, rfl, Nat × Vc α, lev k G (l + 1), pD n, fun z => dv n z.2, rfl, by simp only [big]; omega, fun z hz => ⟨_, rfl, ?_⟩, ?_⟩
    · have ix : idxD (pD n z) (.int 1) = some (dv n z.2) := rfl
      repeat (first | refine we_int ?_ | refine we_subS rfl ?_ | with_reducible refine lf (ix) ?_ | refine ⟨rfl, ?_⟩)
      rfl
    refine ⟨rfl, _, _, rfl, rfl, ?_, ?_⟩
    · rw [List.length_map, List.length_map]
      have := hfl l (by omega)
      simp only [big]
      omega
    have e9 : (foundL k G l).map (dv n) ++ ((lev k G (l + 1)).map fun z => dv n z.2) = (foundL k G (l + 1)).map (dv n) := by
      rw [foundL_succ, List.map_append, List.map_map]
      rfl
    rw [e9]
    repeat (first | refine we_sh rfl ?_ | refine ws_nil ?_ | refine ws_cons ?_ | refine ws_setV rfl ?_)
    exact ⟨_, _, _, _, _, _, _, rfl, .inl rfl⟩
  rintro pre z post ρ e ⟨x8, x9, x10, x11, rfl⟩
  have hz : z.1 ≤ k := lev_le k G l z (by rw [e]; simp)
  have hpl : pre.length + 1 ≤ (lev k G l).length := by rw [e]; simp
  have hpre : (nextL k G pre).length + k * (GF.q α - 1) ≤ 50000 := by
    have h1 := nextL_len k G pre
    have h2 := Nat.mul_le_mul_right (k * (GF.q α - 1)) hpl
    rw [Nat.succ_mul] at h2
    omega
  refine ⟨_, rfl, ?_⟩
  repeat (first | refine ws_cons ?_)
  refine ws_forR2 ?_
  repeat (first | refine we_sh rfl ?_ | refine wa_nil ?_ | refine wa_cons ?_ | refine we_bi ?_ | with_reducible refine lf (len_rl) ?_ | refine ⟨rfl, ?_⟩)
  refine ⟨z.1, k, rfl, by omega, by omega, fun j ρ => ∃ x10 x11, ρ = [.sh (.ins 0 fd), .sh (dl n (rl k G)), .sh (ni n), .sh (ni t), .ow ((foundL k G l).map (dv n)), .sh (.lst ((lev k G l).map (pD n))), .sh (ni l), .ow ((nextL k G pre ++ part G z j).map (pD n)), .sh (ni z.1), .sh (dv n z.2), x10, x11, .un], ⟨x10, x11, by
    have : part G z 0 = [] := rfl
    rw [this, List.append_nil]; rfl⟩, ?_, ?_⟩
  · rintro ρ' ⟨x10, x11, rfl⟩
    rw [← nextL_snoc]
    repeat (first | refine ws_nil ?_)
    exact ⟨_, _, _, _, rfl⟩
  rintro j ρ hj ⟨x10, x11, rfl⟩
  refine ⟨_, rfl, ?_⟩
  repeat (first | refine ws_cons ?_)
  refine ws_forR2 ?_
  repeat (first | refine we_int ?_ | refine wa_cons ?_)
  refine we_fldN rfl F.ord ?_
  repeat (first | refine wa_nil ?_ | refine ⟨rfl, ?_⟩)
  have hjq : j * (GF.q α - 1) + (GF.q α - 1) ≤ k * (GF.q α - 1) := by
    have := Nat.mul_le_mul_right (GF.q α - 1) (show j + 1 ≤ k by omega)
    rw [Nat.succ_mul] at this
    exact this
  refine ⟨1, GF.q α, rfl, by omega, by omega, fun f ρ => ∃ x11, ρ = [.sh (.ins 0 fd), .sh (dl n (rl k G)), .sh (ni n), .sh (ni t), .ow ((foundL k G l).map (dv n)), .sh (.lst ((lev k G l).map (pD n))), .sh (ni l), .ow ((nextL k G pre ++ part G z j ++ (List.range f).map fun f => (z.1 + j + 1, av z.2 (sv (GF.el (1 + f)) (G (z.1 + j))))).map (pD n)), .sh (ni z.1), .sh (dv n z.2), .sh (ni (z.1 + j)), x11, .un], ⟨x11, by
    rw [List.range_zero, List.map_nil, List.append_nil]; rfl⟩, ?_, ?_⟩
  · rintro ρ' ⟨x11, rfl⟩
    rw [List.append_assoc, ← part_succ]
    repeat (first | refine ws_nil ?_)
    exact ⟨_, _, rfl⟩
  rintro f ρ hf ⟨x11, rfl⟩
  refine ⟨_, rfl, ?_⟩
  have hfac : ni (1 + f) = ei (GF.el (1 + f) : α) := by
    show D.int _ = D.int _
    rw [GF.no_el (1 + f) (by omega)]
  have es := ev_scale F hL (GF.el (1 + f)) (G (z.1 + j)) hn kk (by omega)
  rw [← hfac] at es
  have ea := ev_add F hL z.2 (sv (GF.el (1 + f)) (G (z.1 + j))) hn kk (by omega)
  repeat (first | refine we_sh rfl ?_ | refine we_int ?_ | refine we_bin ?_ | refine wa_nil ?_ | refine wa_cons ?_ | refine we_call ?_ | refine we_subS rfl ?_ | refine we_tup ?_ | refine ws_cons ?_ | refine ws_appV ?_ | with_reducible refine lf (add1) ?_ | with_reducible refine lf (idx_rl (show z.1 + j < k by omega)) ?_ | with_reducible refine lf (es) ?_ | with_reducible refine lf (ea) ?_)
  refine ⟨by simp [big], ?_⟩
  refine ⟨rfl, _, rfl, ?_, ?_⟩
  · rw [List.length_map, List.length_append, List.length_append, part_len, List.length_map, List.length_range]
    simp only [big]
    omega
  have e9 : (nextL k G pre ++ part G z j ++ (List.range f).map fun f => (z.1 + j + 1, av z.2 (sv (GF.el (1 + f)) (G (z.1 + j))))) ++ [(z.1 + j + 1, av z.2 (sv (GF.el (1 + f)) (G (z.1 + j))))] = (nextL k G pre ++ part G z j ++ (List.range (f + 1)).map fun f => (z.1 + j + 1, av z.2 (sv (GF.el (1 + f)) (G (z.1 + j))))) := by
    rw [List.range_succ, List.map_append, List.append_assoc (nextL k G pre ++ part G z j)]
    rfl
  have e8 := append_map (f := pD n) (xs := nextL k G pre ++ part G z j ++ (List.range f).map fun f => (z.1 + j + 1, av z.2 (sv (GF.el (1 + f)) (G (z.1 + j))))) (x := (z.1 + j + 1, av z.2 (sv (GF.el (1 + f)) (G (z.1 + j)))))
  rw [e9] at e8
  show WS _ _ [_, _, _, _, _, _, _, Sl.ow (_ ++ [pD n (z.1 + j + 1, av z.2 (sv (GF.el (1 + f)) (G (z.1 + j))))]), _, _, _, _, _] _ _
  rw [e8]
  repeat (first | refine ws_nil ?_)
  exact ⟨_, rfl⟩
end
end MN
end S_MnCp
section S_MnCq
set_option maxRecDepth 100000
/-! The words that a certificate sees; why they are enough. -/
namespace MN
open LA
section
variable {α : Type} [GF α] {n m k L : Nat} {fd : List D}
/-- rows that are the unit words at S -/
structure AtS (R : List (Vc α)) (k : Nat) (S : List Nat) (G : Nat → Vc α) : Prop where
  sp : ∀ i, Span R (G i)
  at_ : ∀ i, i < k → ∀ j, j < k → G i (S.getD j 0) = if i = j then 1 else 0
  len : S.length = k
  inj : Inj S R
theorem lev_ok {R : List (Vc α)} {S : List Nat} {G : Nat → Vc α} (h : AtS R k S G) : ∀ l, ∀ z ∈ lev k G l, Span R z.2 ∧ (∀ j, z.1 ≤ j → j < k → z.2 (S.getD j 0) = 0) ∧ (1 ≤ l → z.2 ≠ zv)
  | 0 => fun z hz => by
    rw [List.mem_singleton.mp hz]
    exact ⟨.zero, fun _ _ _ => rfl, fun h => absurd h (by omega)⟩
  | l + 1 => fun z hz => by
    obtain ⟨y, hy, hz⟩ := List.mem_flatMap.mp (show z ∈ (lev k G l).flatMap fun z => part G z (k - z.1) from hz)
    obtain ⟨i, hi, hz⟩ := List.mem_flatMap.mp hz
    obtain ⟨f, hf, rfl⟩ := List.mem_map.mp hz
    have hi := List.mem_range.mp hi
    have hf := List.mem_range.mp hf
    obtain ⟨h1, h2, _⟩ := lev_ok h l y hy
    refine ⟨h1.av ((h.sp _).sv _), fun j hj hjk => ?_, fun _ e => ?_⟩
    · show y.2 _ + GF.el (1 + f) * G (y.1 + i) _ = 0
      have hj : y.1 + i + 1 ≤ j := hj
      rw [h2 j (by omega) hjk, h.at_ _ (by omega) j hjk, if_neg (by omega)]
      grind
    · have := congrFun e (S.getD (y.1 + i) 0)
      have this : y.2 _ + GF.el (1 + f) * G (y.1 + i) (S.getD (y.1 + i) 0) = 0 := this
      rw [h2 (y.1 + i) (by omega) (by omega), h.at_ _ (by omega) _ (by omega), if_pos rfl] at this
      have e0 : (GF.el (1 + f) : α) = 0 := by grind
      have := congrArg GF.no e0
      rw [GF.no_el (1 + f) (by omega), GF.no_zero] at this
      omega
def preW (S : List Nat) (G : Nat → Vc α) (w : Vc α) (b : Nat) : Vc α := fun x => sumN (fun j => w (S.getD j 0) * G j x) b
def cntP (S : List Nat) (w : Vc α) (b : Nat) : Nat := ((List.range b).filter fun j => !decide (w (S.getD j 0) = 0)).length
theorem lev_all {G : Nat → Vc α} (S : List Nat) (w : Vc α) : ∀ b, b ≤ k → ∃ z ∈ lev k G (cntP S w b), z.1 ≤ b ∧ z.2 = preW S G w b
  | 0, _ => ⟨(0, zv), List.mem_singleton.mpr rfl, Nat.le_refl _, rfl⟩
  | b + 1, hb => by
    obtain ⟨z, hz, h1, h2⟩ := lev_all S w b (by omega)
    by_cases e : w (S.getD b 0) = 0
    · refine ⟨z, ?_, by omega, ?_⟩
      · have : cntP S w (b + 1) = cntP S w b := by
          unfold cntP
          rw [List.range_succ, List.filter_append, List.filter_cons_of_neg (by rw [e]; simp), List.filter_nil, List.append_nil]
        rw [this]
        exact hz
      · rw [h2]
        funext x
        show _ = sumN _ b + w (S.getD b 0) * G b x
        rw [e]
        show sumN _ b = _
        grind
    · have hc : cntP S w (b + 1) = cntP S w b + 1 := by
        unfold cntP
        rw [List.range_succ, List.filter_append, List.filter_cons_of_pos (by rw [decide_eq_false e]; rfl), List.filter_nil, List.length_append]
        rfl
      have hno : GF.no (w (S.getD b 0)) ≠ 0 := fun h => e (no_zero_iff.mp h)
      have hlt := GF.no_lt (w (S.getD b 0))
      refine ⟨(z.1 + (b - z.1) + 1, av z.2 (sv (GF.el (1 + (GF.no (w (S.getD b 0)) - 1))) (G (z.1 + (b - z.1))))), ?_, by show z.1 + (b - z.1) + 1 ≤ b + 1; omega, ?_⟩
      · rw [hc]
        refine List.mem_flatMap.mpr ⟨z, hz, List.mem_flatMap.mpr ⟨b - z.1, List.mem_range.mpr (by omega), List.mem_map.mpr ⟨GF.no (w (S.getD b 0)) - 1, List.mem_range.mpr (by omega), rfl⟩⟩⟩
      · show av z.2 _ = _
        rw [show z.1 + (b - z.1) = b by omega, show 1 + (GF.no (w (S.getD b 0)) - 1) = GF.no (w (S.getD b 0)) by omega, GF.el_no, h2]
        rfl
theorem preW_span {R : List (Vc α)} {S : List Nat} {G : Nat → Vc α} (h : ∀ i, Span R (G i)) (w : Vc α) : ∀ b, Span R (preW S G w b)
  | 0 => .zero
  | b + 1 => (preW_span h w b).av ((h b).sv _)
theorem neg_mem {R : List (Vc α)} {u v : Vc α} (hu : Span R u) (hv : Span R v) : Span R (av u (sv (-1) v)) := hu.av (hv.sv _)
theorem preW_all {R : List (Vc α)} {S : List Nat} {G : Nat → Vc α} (h : AtS R k S G) {w : Vc α} (hw : Span R w) : preW S G w k = w := by
  have e := h.inj _ (neg_mem (preW_span h.sp w k) hw) fun p hp => by
    obtain ⟨j, hj, rfl⟩ := List.mem_iff_getElem.mp hp
    have hjk : j < k := by rw [← h.len]; exact hj
    have e1 : preW S G w k (S.getD j 0) = w (S.getD j 0) := by
      unfold preW
      rw [sumN_one hjk fun i hi hne => by rw [h.at_ i hi j hjk, if_neg hne]; grind]
      rw [h.at_ j hjk j hjk, if_pos rfl]
      grind
    have e2 : S.getD j 0 = S[j] := by simp [hj]
    rw [e2] at e1
    show preW S G w k S[j] + (-1) * w S[j] = 0
    rw [e1]
    grind
  funext x
  have := congrFun e x
  have this : preW S G w k x + (-1) * w x = 0 := this
  grind
def cntS (S : List Nat) (w : Vc α) : Nat := (S.filter fun p => !decide (w p = 0)).length
theorem cntP_S (S : List Nat) (w : Vc α) : cntP S w S.length = cntS S w := by
  have e : S = (List.range S.length).map fun j => S.getD j 0 := by
    apply List.ext_getElem?
    intro i
    rw [List.getElem?_map]
    by_cases h : i < S.length
    · rw [List.getElem?_range h]
      simp [h]
    · rw [List.getElem?_eq_none (by omega), List.getElem?_eq_none (by simp; omega)]; rfl
  unfold cntS cntP
  conv => rhs; rw [e]
  rw [List.filter_map, List.length_map]
  rfl
/-- what the words that are seen are good for -/
structure Seen (c : CD α) (Ss : List (List Nat)) (t : Nat) (ws : List (Vc α)) : Prop where
  sp : ∀ w ∈ ws, Span c.R w
  nz : ∀ w ∈ ws, w ≠ zv
  all : ∀ w, Span c.R w → ∀ S ∈ Ss, 1 ≤ cntS S w → cntS S w ≤ t → w ∈ ws
theorem found_ok {c : CD α} {S : List Nat} {G : Nat → Vc α} (h : AtS c.R k S G) (t : Nat) : Seen c [S] t (foundL k G t) := by
  refine ⟨fun w hw => ?_, fun w hw => ?_, fun w hw S' hS h1 h2 => ?_⟩
  · obtain ⟨l, hl, hw⟩ := List.mem_flatMap.mp hw
    obtain ⟨z, hz, rfl⟩ := List.mem_map.mp hw
    exact (lev_ok h _ z hz).1
  · obtain ⟨l, hl, hw⟩ := List.mem_flatMap.mp hw
    obtain ⟨z, hz, rfl⟩ := List.mem_map.mp hw
    exact (lev_ok h _ z hz).2.2 (by omega)
  · rw [List.mem_singleton.mp hS] at h1 h2
    obtain ⟨z, hz, _, e⟩ := lev_all (k := k) (G := G) S w k (Nat.le_refl _)
    rw [preW_all h hw] at e
    have hc : cntP S w k = cntS S w := by rw [← h.len]; exact cntP_S S w
    rw [hc] at hz
    refine List.mem_flatMap.mpr ⟨cntS S w - 1, List.mem_range.mpr (by omega), List.mem_map.mpr ⟨z, ?_, e⟩⟩
    rw [show cntS S w - 1 + 1 = cntS S w by omega]
    exact hz
theorem cnt_flat (w : Vc α) {t : Nat} : ∀ Ss : List (List Nat), (∀ S ∈ Ss, t ≤ cntS S w) → Ss.length * t ≤ cntS Ss.flatten w
  | [], _ => by simp
  | S :: Ss, h => by
    have ih := cnt_flat w Ss fun S' hS => h S' (List.mem_cons_of_mem _ hS)
    have h1 := h S (List.mem_cons_self ..)
    unfold cntS at *
    rw [List.flatten_cons, List.filter_append, List.length_append, List.length_cons, Nat.succ_mul]
    omega
theorem enough {c : CD α} {Ss : List (List Nat)} {t d : Nat} {ws : List (Vc α)} (hs : Sets c Ss) (hne : Ss ≠ []) (sn : Seen c Ss t ws) (he : t = c.R.length ∨ d ≤ Ss.length * (t + 1)) (hd : ∀ w ∈ ws, d ≤ wt c.n w) : ∀ w, Span c.R w → w ≠ zv → d ≤ wt c.n w := fun w hw hz => by
  by_cases hm : w ∈ ws
  · exact hd w hm
  have big : ∀ S ∈ Ss, t + 1 ≤ cntS S w := fun S hS => by
    have h1 : 1 ≤ cntS S w := by
      apply Classical.byContradiction
      intro h
      have h0 : cntS S w = 0 := by omega
      unfold cntS at h0
      have h0 := List.length_eq_zero_iff.mp h0
      refine hz (hs.inj S hS w hw fun p hp => ?_)
      have := List.filter_eq_nil_iff.mp h0 p hp
      simpa using this
    apply Classical.byContradiction
    intro h
    exact hm (sn.all w hw S hS h1 (by omega))
  rcases he with rfl | he
  · obtain ⟨S, hS⟩ := List.exists_mem_of_ne_nil _ hne
    have h1 := big S hS
    have h2 : cntS S w ≤ S.length := List.length_filter_le _ _
    rw [hs.len S hS] at h2
    omega
  · have h1 := cnt_flat w Ss big
    have h2 : cntS Ss.flatten w ≤ wt c.n w := by
      rw [← supp_len]
      refine sub_len (List.Nodup.sublist List.filter_sublist hs.nd) fun p hp => ?_
      obtain ⟨hp, h3⟩ := List.mem_filter.mp hp
      obtain ⟨S, hS, hp⟩ := List.mem_flatten.mp hp
      exact List.mem_filter.mpr ⟨List.mem_range.mpr (hs.lt S hS p hp), h3⟩
    omega
/-! ### bounds, by looking -/
def bndB : Bool := (List.range 17).all fun q => decide (q < 2) || (List.range 9).all fun k => decide (81 < q ^ k) || (List.range (k + 1)).all fun i => decide ((k * (q - 1)) ^ i ≤ 50000) && decide (wwF q k i ≤ 4096)
theorem bnd_ok : bndB = true := by decide +kernel
theorem bnd_all (q : Nat) (hq : q < 17) (k : Nat) (hk : k < 9) (h : q ^ k ≤ 81) (i : Nat) (hi : i < k + 1) (h2 : 2 ≤ q) : (k * (q - 1)) ^ i ≤ 50000 ∧ wwF q k i ≤ 4096 := by
  have e := bnd_ok
  unfold bndB at e
  have e1 := List.all_eq_true.mp e q (List.mem_range.mpr hq)
  rw [decide_eq_false (by omega), Bool.false_or] at e1
  have e2 := List.all_eq_true.mp e1 k (List.mem_range.mpr hk)
  rw [decide_eq_false (by omega), Bool.false_or] at e2
  have e3 := List.all_eq_true.mp e2 i (List.mem_range.mpr hi)
  rw [Bool.and_eq_true] at e3
  exact ⟨of_decide_eq_true e3.1, of_decide_eq_true e3.2⟩
theorem dim_small {c : CD α} (hq : GF.q α ^ c.R.length ≤ 81) : c.R.length ≤ 6 := by
  have := GF.two (α := α)
  apply Classical.byContradiction
  intro h
  have h1 : 2 ^ 7 ≤ GF.q α ^ c.R.length := Nat.le_trans (Nat.pow_le_pow_left this 7) (Nat.pow_le_pow_right (by omega) (by omega))
  omega
theorem gt_int {i j : Int} : cmpD .gt (.int i) (.int j) = some (decide (j < i)) := rfl
theorem ev_seen (F : FE α L fd) (hL : 3 ≤ L) (c : CD α) (ok : c.Ok) (hq : GF.q α ^ c.R.length ≤ 81) {Ss : List (List Nat)} (hs : Sets c Ss) (hl : Ss.length ≤ c.n) {t : Nat} (ht : t ≤ c.R.length) : ∃ ws, Seen c Ss t ws ∧ ws.length ≤ 16 * 800000 ∧ (Ss ≠ [] → 1 ≤ t → 1 ≤ c.R.length → ws ≠ []) ∧ Ev (L + 5) F_seen_words [c.obj fd, .lst (sD Ss), ni t] (dl c.n ws) := by
  have p2 := ok.le
  have l1 := row_len c ok
  have k6 := dim_small hq
  have q2 := GF.two (α := α)
  have q16 := F.small
  suffices h : ∃ d, (∃ ws, Seen c Ss t ws ∧ ws.length ≤ 16 * 800000 ∧ (Ss ≠ [] → 1 ≤ t → 1 ≤ c.R.length → ws ≠ []) ∧ d = dl c.n ws) ∧ Ev (L + 5) F_seen_words [c.obj fd, .lst (sD Ss), ni t] d by
    obtain ⟨d, ⟨ws, h1, h2, h3, rfl⟩, h4⟩ := h
    exact ⟨ws, h1, h2, h3, h4⟩
  obtain ⟨bw, hbw⟩ : ∃ b, b = 800000 := ⟨_, rfl⟩
  refine ev_some (L := L + 4) ?_
  obtain ⟨kk, hkk⟩ : ∃ kk, kk = L + 4 := ⟨_, rfl⟩
  rw [← hkk]
  refine run_ws_ex (by decide) ⟨rfl, rfl⟩ ?_
  show WS _ t_seen_words [.sh (c.obj fd), .sh _, .sh _, .un, .un] _ _
  unfold t_seen_words
  have b1 := (bnd_all (GF.q α) (by omega) c.R.length (by omega) hq t (by omega) q2).2
  have ew := ev_within (GF.q α) c.R.length t (by omega) q16 (by omega) kk (by omega)
  repeat (first | refine wa_cons ?_ | refine we_call ?_ | refine we_fldN rfl rfl ?_ | refine we_fld2 ?_ | refine wt_cmp ?_ | refine ws_cons ?_ | refine ws_ite ?_)
  refine f2_ok F.ord ?_
  repeat (first | refine we_sh rfl ?_ | refine we_glb ?_ | refine wa_nil ?_ | refine wa_cons ?_ | refine we_fldN rfl rfl ?_ | with_reducible refine lf (ew) ?_ | with_reducible refine lf (gt_int) ?_)
  refine ⟨fun z => ?_, fun _ => ?_⟩
  · have z : decide ((4096 : Int) < wwF (GF.q α) c.R.length t) = true := z
    have := of_decide_eq_true z
    omega
  repeat (first | refine wa_nil ?_ | refine we_lst ?_ | refine ws_nil ?_ | refine ws_cons ?_ | refine ws_setV rfl ?_)
  refine ⟨by simp [big], ?_⟩
  repeat (first | refine ws_cons ?_)
  refine ws_forL ?_
  repeat (first | refine we_sh rfl ?_ | refine ww_lst ?_)
  refine ⟨_, rfl, rfl, List Nat, Ss, fun S => .lst (S.map ni), fun pre ρ => ∃ ws x, ρ = [.sh (c.obj fd), .sh (.lst (sD Ss)), .sh (ni t), .ow (ws.map (dv c.n)), x] ∧ Seen c pre t ws ∧ ws.length ≤ pre.length * bw ∧ (pre ≠ [] → 1 ≤ t → 1 ≤ c.R.length → ws ≠ []), rfl, ⟨[], .un, rfl, ⟨nofun, nofun, nofun⟩, by simp, fun h => absurd rfl h⟩, ?_, ?_⟩
  · rintro ρ' ⟨ws, x, rfl, sn, hw, hne⟩
    repeat (first | refine we_ow rfl ?_ | refine ws_cons ?_ | refine ws_ret ?_)
    have := Nat.mul_le_mul_right bw (show Ss.length ≤ 16 by omega)
    refine ⟨ws, sn, by omega, hne, rfl⟩
  rintro pre S post ρ e ⟨ws, x, rfl, sn, hw, _⟩
  have hS : S ∈ Ss := by rw [e]; simp
  obtain ⟨G, g1, g2, g3⟩ := ev_rows_at F (by omega) c ok (hs.len S hS) (hs.lt S hS) (hs.inj S hS)
  have as : AtS c.R c.R.length S G := ⟨g1, g2, hs.len S hS, hs.inj S hS⟩
  have so := found_ok as t (c := c)
  have hB : ∀ i, i ≤ t → (c.R.length * (GF.q α - 1)) ^ i ≤ 50000 := fun i hi => (bnd_all (GF.q α) (by omega) c.R.length (by omega) hq i (by omega) q2).1
  have es := ev_sums F hL G t (n := c.n) (k := c.R.length) (by omega) (by omega) (by omega) hB kk (by omega)
  have fl : (foundL c.R.length G t).length ≤ 800000 := by
    have key : ∀ l, l ≤ t → (foundL c.R.length G l).length ≤ l * 50000 := by
      intro l
      induction l with
      | zero => intro _; simp [foundL]
      | succ l ih =>
        intro h
        rw [foundL_succ, List.length_append, List.length_map]
        have := ih (by omega)
        have := Nat.le_trans (lev_len c.R.length G (l + 1)) (hB (l + 1) h)
        omega
    have := key t (Nat.le_refl t)
    omega
  have pl : pre.length + 1 ≤ 16 := by
    have := congrArg List.length e
    simp at this
    omega
  refine ⟨_, rfl, ?_⟩
  repeat (first | refine we_sh rfl ?_ | refine wa_nil ?_ | refine wa_cons ?_ | refine we_call ?_ | refine we_fldN rfl rfl ?_ | refine ws_cons ?_ | refine ws_extV ?_ | with_reducible refine lf (es) ?_ | refine lf (g3 kk (by omega)) ?_ | refine ⟨rfl, ?_⟩)
  have := Nat.mul_le_mul_right bw (show pre.length ≤ 15 by omega)
  refine ⟨_, _, rfl, rfl, ?_, ?_⟩
  · rw [List.length_map, List.length_map]
    simp only [big]
    omega
  have e9 : (ws.map (dv c.n)) ++ (foundL c.R.length G t).map (dv c.n) = (ws ++ foundL c.R.length G t).map (dv c.n) := by rw [List.map_append]
  rw [e9]
  repeat (first | refine ws_nil ?_)
  refine ⟨_, _, rfl, ⟨fun w hw => ?_, fun w hw => ?_, fun w hw S' hS' h1 h2 => ?_⟩, ?_, ?_⟩
  · rcases List.mem_append.mp hw with h | h
    · exact sn.sp w h
    · exact so.sp w h
  · rcases List.mem_append.mp hw with h | h
    · exact sn.nz w h
    · exact so.nz w h
  · rcases List.mem_append.mp hS' with h | h
    · exact List.mem_append_left _ (sn.all w hw S' h h1 h2)
    · exact List.mem_append_right _ (so.all w hw S' h h1 h2)
  · rw [List.length_append, List.length_append, List.length_singleton, Nat.succ_mul]
    omega
  · intro _ h1 h2 he
    have h3 := (List.append_eq_nil_iff.mp he).2
    obtain ⟨t', rfl⟩ : ∃ t', t = t' + 1 := ⟨t - 1, by omega⟩
    have h4 : (lev c.R.length G 1).length = 0 := by
      have h5 : (foundL c.R.length G (t' + 1)).length = 0 := by rw [h3]; rfl
      unfold foundL at h5
      rw [List.range_succ_eq_map, List.flatMap_cons, List.length_append, List.length_map] at h5
      exact Nat.eq_zero_of_add_eq_zero_right h5
    have h6 : (lev c.R.length G 1).length = c.R.length * (GF.q α - 1) := by
      show (nextL c.R.length G [(0, zv)]).length = _
      unfold nextL
      rw [List.flatMap_singleton, part_len]
      rfl
    rw [h6] at h4
    rcases Nat.mul_eq_zero.mp h4 with h | h <;> omega
end
end MN
end S_MnCq
section S_MnCr
set_option maxRecDepth 100000
/-! The certificate of a distance, and how it is looked at. -/
namespace MN
open LA
section
variable {α : Type} [GF α] {n m k L : Nat} {fd : List D}
def rowI (n : Nat) (w : Vc α) : List Int := (List.range n).map fun i => (GF.no (w i) : Int)
theorem dInts_rowI (w : Vc α) : dInts (rowI n w) = dv n w := by
  unfold dInts rowI dv
  rw [List.map_map]
  rfl
theorem rowOf_dv (w : Vc α) : rowOf (dv n w) = some (rowI n w) := by
  rw [← dInts_rowI]
  exact intsOf_map _
theorem rowsOf_dl : ∀ ws : List (Vc α), rowsOf (ws.map (dv n)) = some (ws.map (rowI n))
  | [] => rfl
  | w :: ws => by
    show (rowOf (dv n w)).bind _ = _
    rw [rowOf_dv]
    have ih := rowsOf_dl ws
    unfold rowsOf at ih
    show (mapO rowOf (ws.map (dv n))).bind _ = _
    rw [ih]
    rfl
theorem minR_mem : ∀ (xs : List (List Int)) (x : List Int), minR x xs ∈ x :: xs
  | [], x => List.mem_singleton.mpr rfl
  | y :: xs, x => by
    have ih := minR_mem xs (if y < x then y else x)
    show minR (if y < x then y else x) xs ∈ _
    rcases List.mem_cons.mp ih with h | h
    · rw [h]
      split
      · exact List.mem_cons_of_mem _ (List.mem_cons_self ..)
      · exact List.mem_cons_self ..
    · exact List.mem_cons_of_mem _ (List.mem_cons_of_mem _ h)
theorem min_rows {ws : List (Vc α)} (h : ws ≠ []) (hl : ws.length ≤ big) : ∃ w ∈ ws, biD .min1 [dl n ws] = some (dv n w) := by
  cases ws with
  | nil => exact absurd rfl h
  | cons x xs =>
    have m1 := minR_mem (xs.map (rowI n)) (rowI n x)
    have e : rowI n x :: xs.map (rowI n) = (x :: xs).map (rowI n) := rfl
    rw [e] at m1
    obtain ⟨w, hw, e1⟩ := List.mem_map.mp m1
    refine ⟨w, hw, ?_⟩
    have e0 : biD .min1 [dl n (x :: xs)] = (intsOf ((List.range n).map fun i => ei (x i))).bind fun n' => (rowsOf (xs.map (dv n))).bind fun ns => if ns.length < big then some (dInts (minR n' ns)) else none := rfl
    have e2 : intsOf ((List.range n).map fun i => ei (x i)) = some (rowI n x) := rowOf_dv x
    rw [e0, e2, rowsOf_dl]
    show (if (xs.map (rowI n)).length < big then some (dInts (minR (rowI n x) (xs.map (rowI n)))) else none) = _
    rw [if_pos (by rw [List.length_map]; simp only [List.length_cons] at hl; omega), ← e1, dInts_rowI]
theorem min_wts {ws : List (Vc α)} (h : ws ≠ []) : ∃ w0 ∈ ws, (∀ v ∈ ws, wt n w0 ≤ wt n v) ∧ biD .min1 [.lst (ws.map fun w => ni (wt n w))] = some (ni (wt n w0)) := by
  cases ws with
  | nil => exact absurd rfl h
  | cons x xs =>
    have m1 := minL_mem (xs.map fun w => (wt n w : Int)) (wt n x : Int)
    have m2 := minL_le (xs.map fun w => (wt n w : Int)) (wt n x : Int)
    have hb : biD .min1 [.lst ((x :: xs).map fun w => ni (wt n w))] = some (.int (minI (wt n x : Int) (xs.map fun w => (wt n w : Int)))) := by
      rw [wts_ints, List.map_cons, List.map_cons]
      show (intsOf _).bind _ = _
      rw [intsOf_map]
      rfl
    rw [hb]
    generalize minI (wt n x : Int) (xs.map fun w => (wt n w : Int)) = mn at m1 m2
    have e : ((wt n x : Int) :: xs.map fun w => (wt n w : Int)) = (x :: xs).map fun w => (wt n w : Int) := rfl
    rw [e] at m1 m2
    obtain ⟨v, hv, rfl⟩ := List.mem_map.mp m1
    refine ⟨v, hv, fun u hu => ?_, rfl⟩
    have := m2 _ (List.mem_map.mpr ⟨u, hu, rfl⟩)
    omega
/-- the least weight of a word other than 0 -/
structure Dist (c : CD α) (d : Nat) : Prop where
  ex : ∃ w, Span c.R w ∧ w ≠ zv ∧ wt c.n w = d
  le : ∀ w, Span c.R w → w ≠ zv → d ≤ wt c.n w
def enB (c : CD α) (s t d : Nat) : Bool := decide (t = c.R.length) || decide (d ≤ s * (t + 1))
theorem ev_enough (c : CD α) (Ss : List (List Nat)) (t d : Nat) (ht : t ≤ 100) : Ev 1 F_is_enough [c.obj fd, .lst (sD Ss), ni t, ni d] (.bl (enB c Ss.length t d)) := by
  refine run_k fun kk hkk => run_ws (by decide) ⟨rfl, rfl⟩ ?_
  show WS _ t_is_enough [.sh (c.obj fd), .sh _, .sh _, .sh _] _ _
  unfold t_is_enough
  have e1 : biD .len [.lst (sD Ss)] = some (ni Ss.length) := by
    show some (ni (sD Ss).length) = _
    unfold sD
    rw [List.length_map]
  repeat (first | refine we_sh rfl ?_ | refine we_fldN rfl rfl ?_ | refine wt_cmp ?_ | refine wt_or ?_ | refine we_or ?_ | refine ws_cons ?_ | refine ws_ret ?_ | with_reducible refine lf (eq_nat) ?_)
  refine ⟨fun z => ?_, fun z => ?_⟩
  · unfold enB
    rw [z]
    rfl
  repeat (first | refine we_sh rfl ?_ | refine we_int ?_ | refine we_bin ?_ | refine wa_nil ?_ | refine wa_cons ?_ | refine we_bi ?_ | refine wt_cmp ?_ | with_reducible refine lf (e1) ?_ | with_reducible refine lf (add1) ?_ | with_reducible refine lf (mul_nat (show t + 1 < 2 ^ 64 by omega)) ?_ | with_reducible refine lf (ge_nat) ?_)
  unfold enB
  rw [z]
  rfl
theorem en_of {c : CD α} {s t d : Nat} (h : enB c s t d = true) : t = c.R.length ∨ d ≤ s * (t + 1) := by
  unfold enB at h
  rw [Bool.or_eq_true] at h
  rcases h with h | h
  · exact .inl (of_decide_eq_true h)
  · exact .inr (of_decide_eq_true h)
theorem ev_cert0 (c : CD α) (h : c.R.length = 0) : Ev 1 F_distance_certificate [c.obj fd] .non := by
  refine run_k fun k hk => run_ws (by decide) ⟨rfl, rfl⟩ ?_
  show WS _ t_distance_certificate [.sh (c.obj fd), .un, .un, .un, .un, .un] _ _
  unfold t_distance_certificate
  have c1 : cmpD .eq (ni c.R.length) (.int 0) = some true := by rw [eq_nat0, h]; rfl
  repeat (first | refine we_int ?_ | refine we_fldN rfl rfl ?_ | refine wt_cmp ?_ | refine ws_cons ?_ | refine ws_ite ?_ | with_reducible refine lf (c1) ?_)
  refine ⟨fun _ => ?_, fun z => (by cases z)⟩
  repeat (first | refine we_non ?_ | refine ws_cons ?_ | refine ws_ret ?_)
  rfl
/-- a certificate that shows a distance -/
structure Cert (c : CD α) (d : Nat) (w : Vc α) (Ss : List (List Nat)) (t : Nat) : Prop where
  sp : Span c.R w
  wt : LA.wt c.n w = d
  sets : Sets c Ss
  ne : Ss ≠ []
  len : Ss.length ≤ c.n
  one : 1 ≤ t
  le : t ≤ c.R.length
  en : enB c Ss.length t d = true
def cD (n : Nat) (w : Vc α) (Ss : List (List Nat)) (t : Nat) : D := .tup [dv n w, .lst (sD Ss), ni t]
theorem ev_cert (F : FE α L fd) (hL : 3 ≤ L) (c : CD α) (ok : c.Ok) (hq : GF.q α ^ c.R.length ≤ 81) (hk : c.R.length ≠ 0) {d : Nat} (hd : Dist c d) : ∃ w Ss t, Cert c d w Ss t ∧ Ev (L + 6) F_distance_certificate [c.obj fd] (cD c.n w Ss t) := by
  have p2 := ok.le
  have l1 := row_len c ok
  have k6 := dim_small hq
  obtain ⟨Ss, s1, s2, s3, s4⟩ := ev_info F (by omega) c ok hk
  suffices h : ∃ dd, (∃ w Ss t, Cert c d w Ss t ∧ dd = cD c.n w Ss t) ∧ Ev (L + 6) F_distance_certificate [c.obj fd] dd by
    obtain ⟨dd, ⟨w, Ss, t, h1, rfl⟩, h4⟩ := h
    exact ⟨w, Ss, t, h1, h4⟩
  refine ev_some (L := L + 5) ?_
  obtain ⟨kk, hkk⟩ : ∃ kk, kk = L + 5 := ⟨_, rfl⟩
  rw [← hkk]
  refine run_ws_ex (by decide) ⟨rfl, rfl⟩ ?_
  show WS _ t_distance_certificate [.sh (c.obj fd), .un, .un, .un, .un, .un] _ _
  unfold t_distance_certificate
  have c1 : cmpD .eq (ni c.R.length) (.int 0) = some false := by rw [eq_nat0, decide_eq_false hk]
  obtain ⟨ws, w1, w2, w3, w4⟩ := ev_seen F hL c ok hq s3 s2 (t := 1) (by omega)
  have w3 := w3 s1 (by omega) (by omega)
  obtain ⟨w0, m1, m2, m3⟩ := min_wts (n := c.n) w3
  repeat (first | refine we_int ?_ | refine we_fldN rfl rfl ?_ | refine wt_cmp ?_ | refine ws_cons ?_ | refine ws_ite ?_ | with_reducible refine lf (c1) ?_)
  refine ⟨fun z => (by cases z), fun _ => ?_⟩
  repeat (first | refine we_sh rfl ?_ | refine we_int ?_ | refine wa_nil ?_ | refine wa_cons ?_ | refine we_call ?_ | refine ws_nil ?_ | refine ws_cons ?_ | refine ws_setV rfl ?_ | refine lf (s4 kk (by omega)) ?_)
  have w4 : runF kk F_seen_words [c.obj fd, .lst (sD Ss), .int 1] = some (dl c.n ws) := w4 kk (by omega)
  repeat (first | refine wa_cons ?_ | refine we_bi ?_ | refine ws_cons ?_ | refine ws_setV rfl ?_ | with_reducible refine lf (w4) ?_)
  refine we_map rfl ?_
  repeat (first | refine we_sh rfl ?_ | refine ww_lst ?_)
  refine ⟨_, rfl, rfl, Vc α, ws, dv c.n, fun w => ni (wt c.n w), rfl, by simp only [big]; omega, fun w hw => ⟨_, rfl, ?_⟩, ?_⟩
  · repeat (first | refine we_sh rfl ?_ | refine wa_nil ?_ | refine wa_cons ?_ | refine we_call ?_ | refine lf (ev_weight w (show c.n ≤ 1000 by omega) kk (by omega)) ?_ | refine ⟨rfl, ?_⟩)
    rfl
  repeat (first | refine wa_nil ?_ | refine ws_cons ?_ | with_reducible refine lf (m3) ?_)
  refine ws_whl (fun m ρ => ∃ t ws l, ρ = [.sh (c.obj fd), .sh (.lst (sD Ss)), .sh (ni t), .sh (dl c.n ws), .sh (ni l), .un] ∧ 1 ≤ t ∧ m + t = c.R.length + 1 ∧ 1 ≤ m ∧ Seen c Ss t ws ∧ ws.length ≤ 16 * 800000 ∧ (∃ w ∈ ws, wt c.n w = l) ∧ ∀ w ∈ ws, l ≤ wt c.n w) c.R.length (by omega) ⟨1, ws, wt c.n w0, rfl, Nat.le_refl _, rfl, by omega, w1, w2, ⟨w0, m1, rfl⟩, m2⟩ ?_
  rintro m ρ ⟨t, ws, l, rfl, ht1, htm, hm, sn, hwl, hex, hmin⟩
  have en := ev_enough (fd := fd) c Ss t l (by omega) kk (by omega)
  repeat (first | refine we_sh rfl ?_ | refine wa_nil ?_ | refine wa_cons ?_ | refine we_call ?_ | refine wt_not ?_ | refine wtv ?_ | refine wt_val ?_ | with_reducible refine lf (en) ?_)
  refine ⟨fun z => ?_, fun z => ?_⟩
  · have he : enB c Ss.length t l = true := by
      cases hb : enB c Ss.length t l with
      | true => rfl
      | false => rw [hb] at z; cases z
    have ld : l = d := by
      have h1 := enough s3 s1 sn (en_of he) hmin
      obtain ⟨v, v1, v2, v3⟩ := hd.ex
      have h2 := h1 v v1 v2
      obtain ⟨u, u1, u2⟩ := hex
      have h3 := hd.le u (sn.sp u u1) (sn.nz u u1)
      omega
    subst ld
    repeat (first | refine wa_cons ?_ | refine we_bi ?_ | refine we_tup ?_ | refine ws_cons ?_ | refine ws_ret ?_)
    refine we_filt rfl ?_
    repeat (first | refine we_sh rfl ?_ | refine ww_lst ?_)
    refine ⟨_, rfl, rfl, Vc α, ws, dv c.n, fun w => decide (wt c.n w = l), dv c.n, rfl, by simp only [big]; omega, fun w hw => ⟨_, rfl, ?_, fun _ => ?_⟩, ?_⟩
    · repeat (first | refine we_sh rfl ?_ | refine wa_nil ?_ | refine wa_cons ?_ | refine we_call ?_ | refine wt_cmp ?_ | refine lf (ev_weight w (show c.n ≤ 1000 by omega) kk (by omega)) ?_ | refine lf eq_nat ?_)
      rfl
    · repeat (first | refine we_sh rfl ?_ | refine ⟨rfl, ?_⟩)
      rfl
    obtain ⟨u, u1, u2⟩ := hex
    obtain ⟨v, v1, v2⟩ := min_rows (n := c.n) (ws := ws.filter fun w => decide (wt c.n w = l)) (List.ne_nil_of_mem (List.mem_filter.mpr ⟨u1, decide_eq_true u2⟩)) (by
      have := List.length_filter_le (fun w => decide (wt c.n w = l)) ws
      simp only [big]
      omega)
    obtain ⟨v3, v4⟩ := List.mem_filter.mp v1
    repeat (first | refine we_sh rfl ?_ | refine wa_nil ?_ | refine wa_cons ?_ | refine lf (v2) ?_)
    refine ⟨by simp [big], ?_⟩
    exact ⟨v, Ss, t, ⟨sn.sp v v3, of_decide_eq_true v4, s3, s1, s2, ht1, by omega, he⟩, rfl⟩
  · have he : enB c Ss.length t l = false := by
      cases hb : enB c Ss.length t l with
      | false => rfl
      | true => rw [hb] at z; cases z
    have htk : t ≠ c.R.length := fun e => by
      unfold enB at he
      rw [decide_eq_true e] at he
      cases he
    obtain ⟨m', rfl⟩ : ∃ m', m = m' + 1 := ⟨m - 1, by omega⟩
    refine ⟨m', rfl, ?_⟩
    obtain ⟨ws', w1, w2, w3, w4⟩ := ev_seen F hL c ok hq s3 s2 (t := t + 1) (by omega)
    have w3 := w3 s1 (by omega) (by omega)
    obtain ⟨w0, m1, m2, m3⟩ := min_wts (n := c.n) w3
    repeat (first | refine we_sh rfl ?_ | refine we_int ?_ | refine we_bin ?_ | refine wa_nil ?_ | refine wa_cons ?_ | refine we_call ?_ | refine we_bi ?_ | refine ws_cons ?_ | refine ws_setV rfl ?_ | with_reducible refine lf (add1) ?_ | refine lf (w4 kk (by omega)) ?_)
    refine we_map rfl ?_
    repeat (first | refine we_sh rfl ?_ | refine ww_lst ?_)
    refine ⟨_, rfl, rfl, Vc α, ws', dv c.n, fun w => ni (wt c.n w), rfl, by simp only [big]; omega, fun w hw => ⟨_, rfl, ?_⟩, ?_⟩
    · repeat (first | refine we_sh rfl ?_ | refine wa_nil ?_ | refine wa_cons ?_ | refine we_call ?_ | refine lf (ev_weight w (show c.n ≤ 1000 by omega) kk (by omega)) ?_ | refine ⟨rfl, ?_⟩)
      rfl
    repeat (first | refine wa_nil ?_ | refine ws_nil ?_ | with_reducible refine lf (m3) ?_)
    exact ⟨t + 1, ws', _, rfl, by omega, by omega, by omega, w1, w2, ⟨w0, m1, rfl⟩, m2⟩
theorem wt_pos {w : Vc α} (hs : ∀ x, n ≤ x → w x = 0) (hw : w ≠ zv) : 1 ≤ wt n w := by
  apply Classical.byContradiction
  intro h
  refine hw (funext fun x => ?_)
  by_cases hx : x < n
  · apply Classical.byContradiction
    intro hne
    have h1 : x ∈ supp n w := List.mem_filter.mpr ⟨List.mem_range.mpr hx, by rw [decide_eq_false (show ¬ w x = 0 from hne)]; rfl⟩
    have h2 := List.length_pos_of_mem h1
    rw [supp_len] at h2
    omega
  · exact hs x (by omega)
theorem Dist.pos {c : CD α} {d : Nat} (ok : c.Ok) (h : Dist c d) : 1 ≤ d := by
  obtain ⟨w, h1, h2, rfl⟩ := h.ex
  exact wt_pos (fun x hx => h1.zeroAt fun r hr => ok.rr.sup r hr x hx) h2
theorem ev_ckdist (F : FE α L fd) (hL : 3 ≤ L) (c : CD α) (ok : c.Ok) (hq : GF.q α ^ c.R.length ≤ 81) {d : Nat} (hd : Dist c d) {w : Vc α} {Ss : List (List Nat)} {t : Nat} (ct : Cert c d w Ss t) (dd : Nat) : Ev (L + 6) F_check_distance [c.obj fd, ni dd, cD c.n w Ss t] (.bl (decide (dd = d))) := by
  have p2 := ok.le
  have l1 := row_len c ok
  have k6 := dim_small hq
  have hd1 := hd.pos ok
  refine run_k fun k hk => run_ws (by decide) ⟨rfl, rfl⟩ ?_
  show WS _ t_check_distance [.sh (c.obj fd), .sh (ni dd), .sh (.tup [dv c.n w, .lst (sD Ss), ni t]), .un, .un, .un, .un] _ _
  unfold t_check_distance
  repeat (first | refine we_sh rfl ?_ | refine ws_cons ?_ | refine ws_unp ?_)
  refine ⟨_, _, rfl, rfl, ?_⟩
  repeat (first | refine we_sh rfl ?_ | refine wa_nil ?_ | refine wa_cons ?_ | refine we_call ?_ | refine we_fldN rfl rfl ?_ | refine wt_or ?_ | refine wt_not ?_ | refine wtv ?_ | refine ws_cons ?_ | refine ws_ite ?_ | refine wt_val ?_ | refine lf (ev_isword F w (show c.n ≤ 1000 by omega) k (by omega)) ?_)
  refine ⟨fun z => (by cases z), fun _ => ?_⟩
  repeat (first | refine we_sh rfl ?_ | refine wa_nil ?_ | refine wa_cons ?_ | refine we_meth ?_ | refine wt_not ?_ | refine wtv ?_ | refine wt_val ?_ | refine lf (ev_contains F hL c ok w ct.sp k (by omega)) ?_)
  refine ⟨fun z => (by cases z), fun _ => ?_⟩
  have c1 : cmpD .lt (ni dd) (.int 1) = some (decide (dd < 1)) := lt_nat (j := 1)
  have c2 : cmpD .ne (ni (wt c.n w)) (ni dd) = some (!decide (d = dd)) := by rw [ne_nat, ct.wt]
  have stop : ∀ N : En → Prop, dd ≠ d → ∀ ρ, WS (runF k) (.cons (.ret (.bl false)) .nil) ρ N fun r => r = .bl (decide (dd = d)) := fun N h ρ => by
    repeat (first | refine we_bl ?_ | refine ws_cons ?_ | refine ws_ret ?_)
    rw [decide_eq_false h]
  repeat (first | refine we_sh rfl ?_ | refine we_int ?_ | refine wt_cmp ?_ | refine wt_or3 ?_ | refine ws_nil ?_ | refine ws_cons ?_ | refine ws_ite ?_ | with_reducible refine lf (c1) ?_)
  refine ⟨fun z => ⟨fun _ => stop _ (by have := of_decide_eq_true z; omega) _, fun z => (by cases z)⟩, fun z => ?_⟩
  repeat (first | refine we_sh rfl ?_ | refine wa_nil ?_ | refine wa_cons ?_ | refine we_call ?_ | refine wt_cmp ?_ | with_reducible refine lf (c2) ?_ | refine lf (ev_weight w (show c.n ≤ 1000 by omega) k (by omega)) ?_)
  refine ⟨fun z => ⟨fun _ => stop _ (fun e => by rw [e] at z; simp at z) _, fun z => (by cases z)⟩, fun z => ?_⟩
  have e : dd = d := by
    have : decide (d = dd) = true := by
      cases h : decide (d = dd) with
      | true => rfl
      | false => rw [h] at z; cases z
    exact (of_decide_eq_true this).symm
  subst e
  repeat (first | refine we_sh rfl ?_ | refine wa_nil ?_ | refine wa_cons ?_ | refine we_call ?_ | refine wt_not ?_ | refine wtv ?_ | refine wt_val ?_ | refine lf (ev_separate F (by omega) c ok ct.sets ct.ne ct.len k (by omega)) ?_)
  refine ⟨fun z => (by cases z), fun _ => ?_⟩
  have h1 : cmpD .le (.int 1) (ni t) = some true := by
    have := le_nat (i := 1) (j := t)
    rw [decide_eq_true ct.one] at this
    exact this
  have h2 : cmpD .le (ni t) (ni c.R.length) = some true := by rw [le_nat, decide_eq_true ct.le]
  have en := ev_enough (fd := fd) c Ss t dd (by have := ct.le; omega) k (by omega)
  rw [ct.en] at en
  repeat (first | refine we_sh rfl ?_ | refine we_int ?_ | refine wt_chain ?_ | refine wt_or ?_ | refine wt_not ?_ | refine ws_nil ?_ | refine ws_cons ?_ | refine ws_ite ?_ | with_reducible refine lf (h1) ?_)
  refine ⟨fun z => (by cases z), fun _ => ?_⟩
  repeat (first | refine we_fldN rfl rfl ?_ | with_reducible refine lf (h2) ?_)
  refine ⟨fun z => (by cases z), fun _ => ?_⟩
  repeat (first | refine we_sh rfl ?_ | refine wa_nil ?_ | refine wa_cons ?_ | refine we_call ?_ | refine wt_not ?_ | refine wtv ?_ | refine wt_val ?_ | with_reducible refine lf (en) ?_)
  refine ⟨fun z => (by cases z), fun _ => ?_⟩
  obtain ⟨ws, w1, w2, w3, w4⟩ := ev_seen F hL c ok hq ct.sets ct.len ct.le
  repeat (first | refine ws_nil ?_ | refine ws_cons ?_)
  refine ws_forL ?_
  repeat (first | refine we_sh rfl ?_ | refine wa_nil ?_ | refine wa_cons ?_ | refine we_call ?_ | refine ww_lst ?_ | refine lf (w4 k (by omega)) ?_)
  refine ⟨_, rfl, rfl, Vc α, ws, dv c.n, fun pre ρ => ∃ x, ρ = [.sh (c.obj fd), .sh (ni dd), .sh (cD c.n w Ss t), x, .sh (dv c.n w), .sh (.lst (sD Ss)), .sh (ni t)], rfl, ⟨_, rfl⟩, ?_, ?_⟩
  · rintro ρ' ⟨x, rfl⟩
    repeat (first | refine we_bl ?_ | refine ws_cons ?_ | refine ws_ret ?_)
    rw [decide_eq_true rfl]
  rintro pre v post ρ e ⟨x, rfl⟩
  refine ⟨_, rfl, ?_⟩
  have hv : v ∈ ws := by rw [e]; simp
  have c5 : cmpD .lt (ni (wt c.n v)) (ni dd) = some false := by
    rw [lt_nat, decide_eq_false]
    have := hd.le v (w1.sp v hv) (w1.nz v hv)
    omega
  repeat (first | refine we_sh rfl ?_ | refine wa_nil ?_ | refine wa_cons ?_ | refine we_call ?_ | refine wt_cmp ?_ | refine ws_cons ?_ | refine ws_ite ?_ | with_reducible refine lf (c5) ?_ | refine lf (ev_weight v (show c.n ≤ 1000 by omega) k (by omega)) ?_)
  refine ⟨fun z => (by cases z), fun _ => ?_⟩
  repeat (first | refine ws_nil ?_)
  exact ⟨_, rfl⟩
end
end MN
end S_MnCr
section S_MnCs
set_option maxRecDepth 100000
/-! The distance by the columns of the checks. -/
namespace MN
open LA
section
variable {α : Type} [GF α] {n m k L : Nat} {fd : List D}
/-! ### a sum at some places -/
def sumLs (f : Nat → α) : List Nat → α
  | [] => 0
  | x :: l => f x + sumLs f l
theorem sumLs_app (f : Nat → α) : ∀ a b : List Nat, sumLs f (a ++ b) = sumLs f a + sumLs f b
  | [], b => by simp only [List.nil_append, sumLs]; grind
  | x :: a, b => by simp only [List.cons_append, sumLs, sumLs_app f a b]; grind
theorem sumLs_perm (f : Nat → α) {a b : List Nat} (h : a.Perm b) : sumLs f a = sumLs f b := by
  induction h with
  | nil => rfl
  | cons x _ ih => simp only [sumLs, ih]
  | swap x y l => simp only [sumLs]; grind
  | trans _ _ h1 h2 => rw [h1, h2]
theorem sumLs_zero {f : Nat → α} : ∀ {l : List Nat}, (∀ x ∈ l, f x = 0) → sumLs f l = 0
  | [], _ => rfl
  | x :: l, h => by
    simp only [sumLs]
    rw [h x (List.mem_cons_self ..), sumLs_zero fun y hy => h y (List.mem_cons_of_mem _ hy)]
    grind
theorem sumN_Ls (f : Nat → α) : ∀ n, sumN f n = sumLs f (List.range n)
  | 0 => rfl
  | n + 1 => by
    rw [List.range_succ, sumLs_app, ← sumN_Ls f n]
    simp only [sumN, sumLs]
    grind
theorem sumLs_map (f : Nat → α) (g : Nat → Nat) : ∀ l : List Nat, sumLs f (l.map g) = sumLs (fun i => f (g i)) l
  | [] => rfl
  | x :: l => by simp only [List.map_cons, sumLs, sumLs_map f g l]
theorem list_range (S : List Nat) : S = (List.range S.length).map fun j => S.getD j 0 := by
  apply List.ext_getElem?
  intro i
  rw [List.getElem?_map]
  by_cases h : i < S.length
  · rw [List.getElem?_range h]
    simp [h]
  · rw [List.getElem?_eq_none (by omega), List.getElem?_eq_none (by simp; omega)]; rfl
theorem sum_at {S : List Nat} {f : Nat → α} (nd : S.Nodup) (hS : ∀ x ∈ S, x < n) (h : ∀ x, x < n → x ∉ S → f x = 0) : sumN f n = sumN (fun i => f (S.getD i 0)) S.length := by
  obtain ⟨r, hr⟩ := sub_perm nd (l1 := List.range n) fun x hx => List.mem_range.mpr (hS x hx)
  have nd2 := hr.nodup_iff.mp List.nodup_range
  rw [sumN_Ls, sumLs_perm f hr, sumLs_app, sumLs_zero (l := r) fun x hx => h x (List.mem_range.mp (hr.mem_iff.mpr (List.mem_append_right _ hx))) fun hs => (List.nodup_append.mp nd2).2.2 x hs x hx rfl]
  rw [sumN_Ls]
  conv => lhs; rw [list_range S]
  rw [sumLs_map]
  grind
/-- a word of the code other than 0 stands within S -/
def Def (c : CD α) (S : List Nat) : Prop := ∃ w, Span c.R w ∧ w ≠ zv ∧ ∀ x, x ∉ S → w x = 0
theorem dot_at {S : List Nat} {h w : Vc α} (nd : S.Nodup) (hS : ∀ x ∈ S, x < n) (hw : ∀ x, x ∉ S → w x = 0) : dot n h w = dot S.length (sel S h) fun i => w (S.getD i 0) := by
  unfold dot
  rw [sum_at nd hS fun x _ hx => by rw [hw x hx]; grind]
  refine sumN_congr fun i hi => ?_
  unfold sel
  rw [if_pos hi]
theorem col_iff {c : CD α} (ok : c.Ok) {S : List Nat} (nd : S.Nodup) (hS : ∀ x ∈ S, x < c.n) {W : Nat → Vc α} {hl : Nat} (hW : rl hl W = (kerF c.n c.S c.T).map (sel S)) : (redF hl S.length W).2.length < S.length ↔ Def c S := by
  have hs : ∀ i, i < hl → ∀ x, S.length ≤ x → W i x = 0 := fun i hi x hx => by
    have : W i ∈ (kerF c.n c.S c.T).map (sel S) := by rw [← hW]; exact mem_rl.mpr ⟨i, hi, rfl⟩
    obtain ⟨u, _, e⟩ := List.mem_map.mp this
    rw [← e]
    exact sel_sup hx
  obtain ⟨a1, a2, _⟩ := redF_ok hs
  generalize redF hl S.length W = st at a1 a2
  obtain ⟨Z, P'⟩ := st
  have a1 : Rref S.length (rl P'.length Z) P' := a1
  have a2 : ∀ w, Span (rl P'.length Z) w ↔ Span (rl hl W) w := a2
  rw [hW] at a2
  show P'.length < S.length ↔ _
  have pl := piv_len a1
  constructor
  · intro hlt
    obtain ⟨j, hj, hjP⟩ : ∃ j, j < S.length ∧ j ∉ P' := by
      apply Classical.byContradiction
      intro hn
      have := sub_len (List.nodup_range (n := S.length)) (l1 := P') fun x hx => by
        apply Classical.byContradiction
        intro hx2
        exact hn ⟨x, List.mem_range.mp hx, hx2⟩
      simp at this
      omega
    have ho := a1.dot_kv hj hjP
    generalize hv : kv (rl P'.length Z) P' j = v at ho
    have vj : v j = 1 := by rw [← hv]; unfold kv; rw [if_pos rfl]
    have oz : ∀ z, Span ((kerF c.n c.S c.T).map (sel S)) z → dot S.length v z = 0 := fun z hz => ((a2 z).mpr hz).orth fun r hr => by rw [dot_comm]; exact ho r hr
    have at_ : ∀ i (hi : i < S.length), S.idxOf (S.getD i 0) = i := fun i hi => by
      have e : S.getD i 0 = S[i] := by simp [hi]
      rw [e]
      exact nd.idxOf_getElem i hi
    refine ⟨fun x => if x ∈ S then v (S.idxOf x) else 0, ?_, fun e => ?_, fun x hx => if_neg hx⟩
    · refine (ok.sp _).mp (ker_ker ok.rs (fun x hx => if_neg fun h => by have := hS x h; omega) fun col hc hcP => ?_)
      have hm : kv c.S c.T col ∈ kerF c.n c.S c.T := List.mem_map.mpr ⟨col, mem_kcols.mpr ⟨hc, hcP⟩, rfl⟩
      rw [dot_at nd hS (fun x hx => if_neg hx)]
      have h1 := oz _ (.mem (List.mem_map.mpr ⟨_, hm, rfl⟩))
      rw [dot_comm]
      refine Eq.trans ?_ h1
      refine sumN_congr fun i hi => ?_
      have e : S.getD i 0 ∈ S := by
        have e : S.getD i 0 = S[i] := by simp [hi]
        rw [e]
        exact List.getElem_mem hi
      show (if S.getD i 0 ∈ S then v (S.idxOf (S.getD i 0)) else 0) * _ = v i * _
      rw [if_pos e, at_ i hi]
    · have := congrFun e (S.getD j 0)
      have em : S.getD j 0 ∈ S := by
        have e : S.getD j 0 = S[j] := by simp [hj]
        rw [e]
        exact List.getElem_mem hj
      have this : (if S.getD j 0 ∈ S then v (S.idxOf (S.getD j 0)) else 0) = 0 := this
      rw [if_pos em, at_ j hj, vj] at this
      exact one_ne this
  · rintro ⟨w, hw, hz, hout⟩
    apply Classical.byContradiction
    intro hge
    have hP : P'.length = S.length := by omega
    have hr := all_range a1.piv_inc a1.piv_lt hP
    have ws := (ok.sp w).mpr hw
    refine hz (funext fun x => ?_)
    by_cases hx : x ∈ S
    · obtain ⟨t, ht, rfl⟩ := List.mem_iff_getElem.mp hx
      have hrow : (rl P'.length Z)[t]? = some (Z t) := rl_get (by omega)
      have hsp := (a2 _).mp (.mem (mem_rl.mpr ⟨t, by omega, rfl⟩))
      have o1 : dot S.length (fun i => w (S.getD i 0)) (Z t) = 0 := by
        refine hsp.orth fun r hr => ?_
        obtain ⟨h, hh, rfl⟩ := List.mem_map.mp hr
        rw [dot_comm, ← dot_at nd hS hout]
        refine ws.orth fun r hr => ?_
        rw [dot_comm]
        exact ker_orth ok.rs (.mem hh) r hr
      unfold dot at o1
      rw [sumN_one ht fun i hi hne => by
        have := rref_unit a1 i t (Z t) i hrow (by rw [hr, List.getElem?_range hi])
        rw [this, if_neg hne]; grind] at o1
      have := rref_unit a1 t t (Z t) t hrow (by rw [hr, List.getElem?_range ht])
      rw [if_pos rfl] at this
      have o1 : w (S.getD t 0) * Z t t = 0 := o1
      rw [this] at o1
      have e : S.getD t 0 = S[t] := by simp [ht]
      rw [e] at o1
      show w S[t] = 0
      grind
    · exact hout x hx
/-! ### the sets -/
def beg (S : List Nat) : Nat := if S.length = 0 then 0 else S.getD (S.length - 1) 0 + 1
def longL (n : Nat) (Ss : List (List Nat)) : List (List Nat) := Ss.flatMap fun S => (List.range (n - beg S)).map fun i => S ++ [beg S + i]
def colS (n : Nat) : Nat → List (List Nat)
  | 0 => [[]]
  | m + 1 => longL n (colS n m)
theorem longL_len (n : Nat) : ∀ Ss : List (List Nat), (longL n Ss).length ≤ Ss.length * n
  | [] => by simp [longL]
  | S :: Ss => by
    have ih := longL_len n Ss
    unfold longL at *
    rw [List.flatMap_cons, List.length_append, List.length_map, List.length_range, List.length_cons, Nat.succ_mul]
    omega
theorem colS_len (n : Nat) : ∀ m, (colS n m).length ≤ n ^ m
  | 0 => by simp [colS]
  | m + 1 => by
    refine Nat.le_trans (longL_len n _) ?_
    rw [Nat.pow_succ]
    exact Nat.mul_le_mul_right _ (colS_len n m)
theorem beg_gt {S : List Nat} (h : S.Pairwise (· < ·)) : ∀ x ∈ S, x < beg S := fun x hx => by
  unfold beg
  have hl := List.length_pos_of_mem hx
  rw [if_neg (by omega)]
  obtain ⟨i, hi, rfl⟩ := List.mem_iff_getElem.mp hx
  have e : S.getD (S.length - 1) 0 = S[S.length - 1]'(by omega) := by
    rw [List.getD_eq_getElem?_getD, List.getElem?_eq_getElem (by omega)]
    rfl
  rw [e]
  by_cases h2 : i = S.length - 1
  · subst h2; omega
  · have := List.pairwise_iff_getElem.mp h i (S.length - 1) hi (by omega) (by omega)
    omega
theorem colS_ok (n : Nat) : ∀ m, ∀ S ∈ colS n m, S.length = m ∧ S.Pairwise (· < ·) ∧ ∀ x ∈ S, x < n
  | 0 => fun S hS => by
    rw [List.mem_singleton.mp hS]
    exact ⟨rfl, .nil, nofun⟩
  | m + 1 => fun S hS => by
    obtain ⟨T, hT, hS⟩ := List.mem_flatMap.mp (show S ∈ (colS n m).flatMap _ from hS)
    obtain ⟨i, hi, rfl⟩ := List.mem_map.mp hS
    obtain ⟨h1, h2, h3⟩ := colS_ok n m T hT
    have hi := List.mem_range.mp hi
    refine ⟨by rw [List.length_append, h1]; rfl, ?_, fun x hx => ?_⟩
    · rw [List.pairwise_append]
      refine ⟨h2, List.pairwise_singleton _ _, fun a ha b hb => ?_⟩
      rw [List.mem_singleton.mp hb]
      have := beg_gt h2 a ha
      omega
    · rcases List.mem_append.mp hx with h | h
      · exact h3 x h
      · rw [List.mem_singleton.mp h]; omega
theorem colS_all (n : Nat) : ∀ m, ∀ S : List Nat, S.length = m → S.Pairwise (· < ·) → (∀ x ∈ S, x < n) → S ∈ colS n m
  | 0 => fun S h _ _ => by
    rw [List.length_eq_zero_iff.mp h]
    exact List.mem_singleton.mpr rfl
  | m + 1 => fun S h1 h2 h3 => by
    have hne : S ≠ [] := fun e => by rw [e] at h1; cases h1
    have e := (List.dropLast_concat_getLast hne).symm
    have hl : S.dropLast.length = m := by rw [List.length_dropLast]; omega
    have hT := colS_all n m S.dropLast hl (h2.sublist (List.dropLast_sublist S)) fun x hx => h3 x (List.dropLast_subset S hx)
    have hlast : beg S.dropLast ≤ S.getLast hne := by
      unfold beg
      split
      · exact Nat.zero_le _
      · rename_i h0
        have h9 := h2
        rw [e, List.pairwise_append] at h9
        have e2 : S.dropLast.getD (S.dropLast.length - 1) 0 = S.dropLast[S.dropLast.length - 1]'(by omega) := by
          rw [List.getD_eq_getElem?_getD, List.getElem?_eq_getElem (by omega)]
          rfl
        rw [e2]
        exact h9.2.2 _ (List.getElem_mem _) _ (List.mem_singleton.mpr rfl)
    have hn := h3 _ (List.getLast_mem hne)
    show S ∈ (colS n m).flatMap fun S => (List.range (n - beg S)).map fun i => S ++ [beg S + i]
    refine List.mem_flatMap.mpr ⟨S.dropLast, hT, List.mem_map.mpr ⟨S.getLast hne - beg S.dropLast, List.mem_range.mpr (by omega), ?_⟩⟩
    rw [show beg S.dropLast + (S.getLast hne - beg S.dropLast) = S.getLast hne by omega]
    exact e.symm
theorem ev_longer (n : Nat) (Ss : List (List Nat)) (hn : n ≤ 16) (hlt : ∀ S ∈ Ss, S.Pairwise (· < ·) ∧ ∀ x ∈ S, x < n) (hl : Ss.length ≤ 100000) : Ev 1 F_longer_sets [.lst (sD Ss), ni n] (.lst (sD (longL n Ss))) := by
  refine run_k fun k hk => run_ws (by decide) ⟨rfl, rfl⟩ ?_
  show WS _ t_longer_sets [.sh _, .sh _, .un, .un, .un, .un] _ _
  unfold t_longer_sets
  repeat (first | refine wa_nil ?_ | refine we_lst ?_ | refine ws_cons ?_ | refine ws_setV rfl ?_)
  refine ⟨by simp [big], ?_⟩
  repeat (first | refine ws_cons ?_)
  refine ws_forL ?_
  repeat (first | refine we_sh rfl ?_ | refine ww_lst ?_)
  refine ⟨_, rfl, rfl, List Nat, Ss, fun S => .lst (S.map ni), fun pre ρ => ∃ x3 x4 x5, ρ = [.sh (.lst (sD Ss)), .sh (ni n), .ow (sD (longL n pre)), x3, x4, x5], rfl, ⟨_, _, _, rfl⟩, ?_, ?_⟩
  · rintro ρ' ⟨x3, x4, x5, rfl⟩
    repeat (first | refine we_ow rfl ?_ | refine ws_cons ?_ | refine ws_ret ?_)
    rfl
  rintro pre S post ρ e ⟨x3, x4, x5, rfl⟩
  have hS : S ∈ Ss := by rw [e]; simp
  have hb : beg S ≤ n := by
    unfold beg
    split
    · omega
    · rename_i h0
      have e2 : S.getD (S.length - 1) 0 = S[S.length - 1]'(by omega) := by
        rw [List.getD_eq_getElem?_getD, List.getElem?_eq_getElem (by omega)]
        rfl
      rw [e2]
      exact (hlt S hS).2 _ (List.getElem_mem _)
  have pl : pre.length + 1 ≤ 100000 := by
    have := congrArg List.length e
    simp at this
    omega
  refine ⟨_, rfl, ?_⟩
  have loop : ∀ x5, WS (runF k) (.for_ (.one 5) .rg2 (.cons (.nm 4) (.cons (.nm 1) .nil)) (.cons (.app 2 (.bin .add (.nm 3) (.lst (.cons (.nm 5) .nil)))) .nil)) [.sh (.lst (sD Ss)), .sh (ni n), .ow (sD (longL n pre)), .sh (.lst (S.map ni)), .sh (ni (beg S)), x5] (fun ρ' => WS (runF k) .nil ρ' (fun ρ' => ∃ x3 x4 x5, ρ' = [.sh (.lst (sD Ss)), .sh (ni n), .ow (sD (longL n (pre ++ [S]))), x3, x4, x5]) fun r => r = .lst (sD (longL n Ss))) fun r => r = .lst (sD (longL n Ss)) := fun x5 => by
    refine ws_forR2 ?_
    repeat (first | refine we_sh rfl ?_ | refine wa_nil ?_ | refine wa_cons ?_ | refine ⟨rfl, ?_⟩)
    refine ⟨beg S, n, rfl, by omega, by omega, fun i ρ => ∃ x5, ρ = [.sh (.lst (sD Ss)), .sh (ni n), .ow (sD (longL n pre ++ (List.range i).map fun i => S ++ [beg S + i])), .sh (.lst (S.map ni)), .sh (ni (beg S)), x5], ⟨x5, by rw [List.range_zero, List.map_nil, List.append_nil]⟩, ?_, ?_⟩
    · rintro ρ' ⟨x5, rfl⟩
      have : longL n pre ++ (List.range (n - beg S)).map (fun i => S ++ [beg S + i]) = longL n (pre ++ [S]) := by
        unfold longL
        rw [List.flatMap_append]
        simp
      rw [this]
      repeat (first | refine ws_nil ?_)
      exact ⟨_, _, _, rfl⟩
    rintro i ρ hi ⟨x5, rfl⟩
    refine ⟨_, rfl, ?_⟩
    repeat (first | refine we_sh rfl ?_ | refine we_bin ?_ | refine wa_nil ?_ | refine wa_cons ?_ | refine we_lst ?_ | refine ws_cons ?_ | refine ws_appV ?_)
    refine ⟨by simp [big], ?_⟩
    have sl : S.length ≤ n := by
      have := sub_len ((hlt S hS).1.imp fun h => Nat.ne_of_lt h) (l1 := List.range n) fun x hx => List.mem_range.mpr ((hlt S hS).2 x hx)
      simpa using this
    have ad : opD .add (.lst (S.map ni)) (.lst [ni (beg S + i)]) = some (.lst ((S ++ [beg S + i]).map ni)) := by
      have e : opD .add (.lst (S.map ni)) (.lst [ni (beg S + i)]) = (if (S.map ni).length + [ni (beg S + i)].length ≤ big then some (D.lst (S.map ni ++ [ni (beg S + i)])) else none) := rfl
      rw [e, if_pos (by simp [big]; omega), List.map_append]
      rfl
    repeat (first | with_reducible refine lf (ad) ?_ | refine ⟨rfl, ?_⟩)
    have ln := longL_len n pre
    have ln2 := Nat.mul_le_mul (show pre.length ≤ 100000 by omega) hn
    refine ⟨_, rfl, ?_, ?_⟩
    · unfold sD
      rw [List.length_map, List.length_append, List.length_map, List.length_range]
      simp only [big]
      omega
    have e9 : sD (longL n pre ++ (List.range i).map fun i => S ++ [beg S + i]) ++ [.lst ((S ++ [beg S + i]).map ni)] = sD (longL n pre ++ (List.range (i + 1)).map fun i => S ++ [beg S + i]) := by
      simp [sD, List.range_succ]
    show WS _ _ [_, _, Sl.ow (sD (longL n pre ++ (List.range i).map fun i => S ++ [beg S + i]) ++ [D.lst ((S ++ [beg S + i]).map ni)]), _, _, _] _ _
    rw [e9]
    repeat (first | refine ws_nil ?_)
    exact ⟨_, rfl⟩
  have c1 : cmpD .gt (ni S.length) (.int 0) = some (decide (0 < S.length)) := gt_nat0
  repeat (first | refine we_sh rfl ?_ | refine we_int ?_ | refine wa_nil ?_ | refine wa_cons ?_ | refine we_bi ?_ | refine wt_cmp ?_ | refine ws_cons ?_ | refine ws_setV rfl ?_ | refine ws_ite ?_ | with_reducible refine lf (c1) ?_ | refine lf len_map ?_)
  refine ⟨fun z => ?_, fun z => ?_⟩
  · have z : 0 < S.length := of_decide_eq_true z
    repeat (first | refine we_int ?_ | refine we_neg ?_ | refine we_bin ?_ | refine we_subS rfl ?_ | refine ws_nil ?_ | refine ws_cons ?_ | refine ws_setV rfl ?_ | with_reducible refine lf (idx_last z) ?_ | with_reducible refine lf (add1) ?_)
    have eb : S.getD (S.length - 1) 0 + 1 = beg S := by unfold beg; rw [if_neg (by omega)]
    rw [eb]
    exact loop x5
  · have z : ¬ 0 < S.length := of_decide_eq_false z
    repeat (first | refine ws_nil ?_ | refine ws_cons ?_)
    have eb : beg S = 0 := by unfold beg; rw [if_pos (by omega)]
    have lp := loop x5
    rw [eb] at lp
    exact lp
end
end MN
end S_MnCs
section S_MnCt
set_option maxRecDepth 100000
/-! The distance by columns: the walk. -/
namespace MN
open LA
section
variable {α : Type} [GF α] {n m k L : Nat} {fd : List D}
theorem singleton {c : CD α} (ok : c.Ok) (hk : c.R.length ≠ 0) {d : Nat} (hd : Dist c d) : d + c.R.length ≤ c.n + 1 := by
  have rr := ok.rr
  have le := hd.le
  cases hR : c.R with
  | nil => rw [hR] at hk; exact absurd rfl hk
  | cons r R =>
    cases hP : c.P with
    | nil => rw [hR, hP] at rr; exact rr.elim
    | cons p P =>
      rw [hR] at le
      rw [hR, hP] at rr
      have hl := rr.len
      obtain ⟨h0, h1, h2, h3, h4, h5, h6⟩ := rr
      have hw := le r (.mem (List.mem_cons_self ..)) (fun e => by rw [e] at h1; exact one_ne h1.symm)
      have nd : (supp c.n r ++ P).Nodup := by
        rw [List.nodup_append]
        refine ⟨List.Nodup.sublist List.filter_sublist List.nodup_range, h6.piv_inc.imp fun h => Nat.ne_of_lt h, fun a ha b hb e => ?_⟩
        have := (List.mem_filter.mp ha).2
        rw [e, (h3 b hb).2] at this
        simp at this
      have := sub_len nd (l1 := List.range c.n) fun x hx => by
        rcases List.mem_append.mp hx with h | h
        · exact (List.mem_filter.mp h).1
        · exact List.mem_range.mpr (h6.piv_lt x h)
      rw [List.length_append, supp_len, List.length_range] at this
      simp only [List.length_cons] at hl ⊢
      omega
theorem ev_cols0 (c : CD α) (h : c.R.length = 0) : Ev 1 F_distance_by_columns [c.obj fd] .non := by
  refine run_k fun k hk => run_ws (by decide) ⟨rfl, rfl⟩ ?_
  show WS _ t_distance_by_columns [.sh (c.obj fd), .un, .un, .un, .un, .un] _ _
  unfold t_distance_by_columns
  have c1 : cmpD .eq (ni c.R.length) (.int 0) = some true := by rw [eq_nat0, h]; rfl
  repeat (first | refine we_int ?_ | refine we_fldN rfl rfl ?_ | refine wt_cmp ?_ | refine ws_cons ?_ | refine ws_ite ?_ | with_reducible refine lf (c1) ?_)
  refine ⟨fun _ => ?_, fun z => (by cases z)⟩
  repeat (first | refine we_non ?_ | refine ws_cons ?_ | refine ws_ret ?_)
  rfl
theorem ev_cols (F : FE α L fd) (hL : 3 ≤ L) (c : CD α) (ok : c.Ok) (hk : c.R.length ≠ 0) (h5 : c.n ≤ 5) {d : Nat} (hd : Dist c d) : Ev (L + 4) F_distance_by_columns [c.obj fd] (ni d) := by
  have p2 := ok.le
  have l1 := row_len c ok
  have hd1 := hd.pos ok
  have sg := singleton ok hk hd
  have kl := ker_len c
  refine run_k fun kk hkk => run_ws (by decide) ⟨rfl, rfl⟩ ?_
  show WS _ t_distance_by_columns [.sh (c.obj fd), .un, .un, .un, .un, .un] _ _
  unfold t_distance_by_columns
  have c1 : cmpD .eq (ni c.R.length) (.int 0) = some false := by rw [eq_nat0, decide_eq_false hk]
  repeat (first | refine we_int ?_ | refine we_fldN rfl rfl ?_ | refine wt_cmp ?_ | refine ws_cons ?_ | refine ws_ite ?_ | with_reducible refine lf (c1) ?_)
  refine ⟨fun z => (by cases z), fun _ => ?_⟩
  have pw : 2 ^ c.n ≤ 2 ^ 5 := Nat.pow_le_pow_right (by decide) h5
  have b1 := (bnd_all 2 (by omega) c.n (by omega) (by omega) (c.n - c.R.length) (by omega) (by omega)).2
  have ew : runF kk F_words_within [.int 2, ni c.n, ni (c.n - c.R.length)] = some (.int (wwF 2 c.n (c.n - c.R.length))) := ev_within 2 c.n (c.n - c.R.length) (by omega) (by omega) (by omega) kk (by omega)
  repeat (first | refine we_sh rfl ?_ | refine we_glb ?_ | refine we_int ?_ | refine we_bin ?_ | refine wa_nil ?_ | refine wa_cons ?_ | refine we_call ?_ | refine we_fldN rfl rfl ?_ | refine wt_cmp ?_ | refine ws_nil ?_ | refine ws_cons ?_ | refine ws_setV rfl ?_ | refine ws_ite ?_ | with_reducible refine lf (sub_nat l1) ?_ | with_reducible refine lf (ew) ?_ | with_reducible refine lf (gt_int) ?_)
  refine ⟨fun z => ?_, fun _ => ?_⟩
  · have z : decide ((4096 : Int) < wwF 2 c.n (c.n - c.R.length)) = true := z
    have := of_decide_eq_true z
    omega
  repeat (first | refine we_sh rfl ?_ | refine wa_nil ?_ | refine wa_cons ?_ | refine we_prop ?_ | refine we_lst ?_ | refine ws_nil ?_ | refine ws_cons ?_ | refine ws_setV rfl ?_ | refine lf (ev_checks (fd := fd) c (by omega) kk (by omega)) ?_)
  refine ⟨by simp [big], ?_⟩
  repeat (first | refine wa_nil ?_)
  refine ⟨by simp [big], ?_⟩
  repeat (first | refine ws_cons ?_)
  refine ws_forR2 ?_
  repeat (first | refine we_sh rfl ?_ | refine we_int ?_ | refine we_bin ?_ | refine wa_nil ?_ | refine wa_cons ?_ | with_reducible refine lf (add1) ?_ | refine ⟨rfl, ?_⟩)
  refine ⟨1, c.n - c.R.length + 1, rfl, by omega, by omega, fun i ρ => ∃ x3 x4 x5, ρ = [.sh (c.obj fd), .sh (ni (c.n - c.R.length)), .sh (dl c.n (kerF c.n c.S c.T)), x3, x4, x5] ∧ (x3 = .sh (.lst (sD (colS c.n i))) ∨ x3 = .ow (sD (colS c.n i))) ∧ i + 1 ≤ d, ⟨_, _, _, rfl, .inr rfl, by omega⟩, ?_, ?_⟩
  · rintro ρ' ⟨x3, x4, x5, rfl, _, hi⟩
    repeat (first | refine we_sh rfl ?_ | refine we_int ?_ | refine we_bin ?_ | refine ws_cons ?_ | refine ws_ret ?_ | with_reducible refine lf (add1) ?_)
    have : c.n - c.R.length + 1 = d := by omega
    rw [this]
  rintro i ρ hi ⟨x3, x4, x5, rfl, h3, hid⟩
  refine ⟨_, rfl, ?_⟩
  have el := ev_longer c.n (colS c.n i) (by omega) (fun S hS => ⟨(colS_ok c.n i S hS).2.1, (colS_ok c.n i S hS).2.2⟩) (by
    refine Nat.le_trans (colS_len c.n i) ?_
    refine Nat.le_trans (Nat.pow_le_pow_left h5 i) (Nat.le_trans (Nat.pow_le_pow_right (by decide) (show i ≤ 5 by omega)) (by decide))) kk (by omega)
  have loop : ∀ x5, WS (runF kk) (.for_ (.one 5) .lst (.nm 3) (.cons (.ite (.cmp .lt (.call 22 (.cons (.fld 1 0 (.nm 0)) (.cons (.call 66 (.cons (.nm 2) (.cons (.nm 5) .nil))) (.cons (.nm 4) .nil)))) (.nm 4)) (.cons (.ret (.nm 4)) .nil) .nil) .nil)) [.sh (c.obj fd), .sh (ni (c.n - c.R.length)), .sh (dl c.n (kerF c.n c.S c.T)), .sh (.lst (sD (colS c.n (i + 1)))), .sh (ni (1 + i)), x5] (fun ρ' => WS (runF kk) .nil ρ' (fun ρ' => ∃ x3 x4 x5, ρ' = [.sh (c.obj fd), .sh (ni (c.n - c.R.length)), .sh (dl c.n (kerF c.n c.S c.T)), x3, x4, x5] ∧ (x3 = .sh (.lst (sD (colS c.n (i + 1)))) ∨ x3 = .ow (sD (colS c.n (i + 1)))) ∧ i + 1 + 1 ≤ d) fun r => r = ni d) fun r => r = ni d := fun x5 => by
    refine ws_forL ?_
    repeat (first | refine we_sh rfl ?_ | refine ww_lst ?_)
    refine ⟨_, rfl, rfl, List Nat, colS c.n (i + 1), fun S => .lst (S.map ni), fun pre ρ => ∃ x5, ρ = [.sh (c.obj fd), .sh (ni (c.n - c.R.length)), .sh (dl c.n (kerF c.n c.S c.T)), .sh (.lst (sD (colS c.n (i + 1)))), .sh (ni (1 + i)), x5] ∧ ∀ S ∈ pre, ¬ Def c S, rfl, ⟨_, rfl, nofun⟩, ?_, ?_⟩
    · rintro ρ' ⟨x5, rfl, hno⟩
      repeat (first | refine ws_nil ?_)
      refine ⟨_, _, _, rfl, .inl rfl, ?_⟩
      apply Classical.byContradiction
      intro hge
      have e : d = i + 1 := by omega
      obtain ⟨w, w1, w2, w3⟩ := hd.ex
      refine hno (supp c.n w) (colS_all c.n (i + 1) _ (by rw [supp_len, w3, e]) (List.Pairwise.sublist List.filter_sublist List.pairwise_lt_range) fun x hx => List.mem_range.mp (List.mem_filter.mp hx).1) ⟨w, w1, w2, fun x hx => ?_⟩
      by_cases hxn : x < c.n
      · apply Classical.byContradiction
        intro hne
        exact hx (List.mem_filter.mpr ⟨List.mem_range.mpr hxn, by rw [decide_eq_false hne]; rfl⟩)
      · exact w1.zeroAt fun r hr => ok.rr.sup r hr x (by omega)
    rintro pre S post ρ e ⟨x5, rfl, hno⟩
    have hS : S ∈ colS c.n (i + 1) := by rw [e]; simp
    obtain ⟨s1, s2, s3⟩ := colS_ok c.n (i + 1) S hS
    have snd : S.Nodup := s2.imp fun h => Nat.ne_of_lt h
    obtain ⟨W, hW⟩ := rl_of ((kerF c.n c.S c.T).map (sel S))
    have ci := col_iff ok snd s3 hW
    have ei := ev_items (n := c.n) (kerF c.n c.S c.T) S s3 (by omega) (by omega) kk (by omega)
    rw [items_sel, ← hW] at ei
    have hs : ∀ i, i < ((kerF c.n c.S c.T).map (sel S)).length → ∀ x, S.length ≤ x → W i x = 0 := fun i hi x hx => by
      have : W i ∈ (kerF c.n c.S c.T).map (sel S) := by rw [← hW]; exact mem_rl.mpr ⟨i, hi, rfl⟩
      obtain ⟨u, _, e⟩ := List.mem_map.mp this
      rw [← e]
      exact sel_sup hx
    have er := ev_rank F (by omega) W hs (by omega) (by rw [List.length_map]; omega) kk (by omega)
    generalize (redF ((kerF c.n c.S c.T).map (sel S)).length S.length W).2.length = rk at ci er
    rw [s1] at ci
    rw [s1, Nat.add_comm i 1] at er
    rw [s1, Nat.add_comm i 1] at ei
    refine ⟨_, rfl, ?_⟩
    repeat (first | refine we_sh rfl ?_ | refine wa_nil ?_ | refine wa_cons ?_ | refine we_call ?_ | refine we_fldN rfl rfl ?_ | refine wt_cmp ?_ | refine ws_cons ?_ | refine ws_ite ?_ | with_reducible refine lf (ei) ?_ | with_reducible refine lf (er) ?_ | refine lf lt_nat ?_)
    refine ⟨fun z => ?_, fun z => ?_⟩
    · have z : rk < 1 + i := of_decide_eq_true z
      obtain ⟨w, w1, w2, w3⟩ := ci.mp (by omega)
      have h1 := hd.le w w1 w2
      have h2 : wt c.n w ≤ S.length := by
        rw [← supp_len]
        refine sub_len (List.Nodup.sublist List.filter_sublist List.nodup_range) fun x hx => ?_
        apply Classical.byContradiction
        intro hx2
        have := (List.mem_filter.mp hx).2
        rw [w3 x hx2] at this
        simp at this
      repeat (first | refine we_sh rfl ?_ | refine ws_cons ?_ | refine ws_ret ?_)
      have : 1 + i = d := by omega
      rw [this]
    · have z : ¬ rk < 1 + i := of_decide_eq_false z
      repeat (first | refine ws_nil ?_)
      refine ⟨_, rfl, fun T hT => ?_⟩
      rcases List.mem_append.mp hT with h | h
      · exact hno T h
      · rw [List.mem_singleton.mp h]
        exact fun hdef => z (by have := ci.mpr hdef; omega)
  rcases h3 with rfl | rfl
  · repeat (first | refine we_sh rfl ?_ | refine wa_nil ?_ | refine wa_cons ?_ | refine we_call ?_ | refine we_fldN rfl rfl ?_ | refine ws_cons ?_ | refine ws_setV rfl ?_ | with_reducible refine lf (el) ?_)
    exact loop x5
  · repeat (first | refine we_ow rfl ?_ | refine wa_nil ?_ | refine wa_cons ?_ | refine we_call ?_ | refine we_fldN rfl rfl ?_ | refine ws_cons ?_ | refine ws_setV rfl ?_ | with_reducible refine lf (el) ?_)
    exact loop x5
end
end MN
end S_MnCt
section S_MnLa
set_option maxRecDepth 100000
/-! The law's own fields: digits, sums, products. -/
namespace MN
open LA
theorem ev_ldigits (a p s : Nat) (hp : 0 < p) (hp2 : p < 1000) (hs : s ≤ 1000) : Ev 1 F_law_digits [ni a, ni p, ni s] (.lst ((digN a p s).map ni)) := by
  refine run_k fun k hk => run_ws (by decide) ⟨rfl, rfl⟩ ?_
  show WS _ t_law_digits [.sh _, .sh _, .sh _, .un, .un] _ _
  unfold t_law_digits
  repeat (first | refine wa_nil ?_ | refine we_lst ?_ | refine ws_cons ?_ | refine ws_setV rfl ?_)
  refine ⟨by simp [big], ?_⟩
  repeat (first | refine ws_cons ?_)
  refine ws_forR ?_
  repeat (first | refine we_sh rfl ?_ | refine wa_nil ?_ | refine wa_cons ?_ | refine ⟨rfl, ?_⟩)
  refine ⟨s, rfl, by omega, fun i ρ => ∃ y, ρ = [.sh (ni (a / p ^ i)), .sh (ni p), .sh (ni s), .ow ((digN a p i).map ni), y], ⟨.un, ?_⟩, ?_, ?_⟩
  · rw [Nat.pow_zero, Nat.div_one]
    rfl
  · rintro ρ' ⟨y, rfl⟩
    repeat (first | refine we_ow rfl ?_ | refine ws_cons ?_ | refine ws_ret ?_)
    rfl
  · rintro i ρ hi ⟨y, rfl⟩
    refine ⟨_, rfl, ?_⟩
    have i1 : biD .int_ [ni (a / p ^ i)] = some (ni (a / p ^ i)) := rfl
    repeat (first | refine we_sh rfl ?_ | refine we_bin ?_ | refine wa_nil ?_ | refine wa_cons ?_ | refine we_bi ?_ | refine ws_cons ?_ | refine ws_appV ?_ | with_reducible refine lf (i1) ?_ | with_reducible refine lf (mod_nat hp) ?_ | refine ⟨rfl, ?_⟩)
    refine ⟨_, rfl, by simp [big, digN]; omega, ?_⟩
    repeat (first | refine we_sh rfl ?_ | refine we_bin ?_ | refine ws_nil ?_ | refine ws_cons ?_ | refine ws_setV rfl ?_ | with_reducible refine lf (fdiv_nat hp (show p < 1073741824 by omega)) ?_)
    refine ⟨.sh (ni i), ?_⟩
    have e1 : a / p ^ (i + 1) = a / p ^ i / p := by rw [Nat.pow_succ, Nat.div_div_eq_div_mul]
    have e2 : digN a p (i + 1) = digN a p i ++ [a / p ^ i % p] := by unfold digN; rw [List.range_succ, List.map_append]; rfl
    rw [e1, e2, List.map_append]
    rfl
def elR (p : Nat) (ds : List Nat) : Nat → Nat
  | 0 => 0
  | i + 1 => elR p ds i * p + ds.getD (ds.length - 1 - i) 0
def elL (p : Nat) (ds : List Nat) : Nat := elR p ds ds.length
theorem ev_lelement (ds : List Nat) (p : Nat) (hp2 : p < 1000) (hl : ds.length ≤ 1000) : Ev 1 F_law_element [.lst (ds.map ni), ni p] (ni (elL p ds)) := by
  refine run_k fun k hk => run_ws (by decide) ⟨rfl, rfl⟩ ?_
  show WS _ t_law_element [.sh _, .sh _, .un, .un] _ _
  unfold t_law_element
  repeat (first | refine we_int ?_ | refine ws_cons ?_ | refine ws_setV rfl ?_)
  refine ws_forR ?_
  repeat (first | refine we_sh rfl ?_ | refine wa_nil ?_ | refine wa_cons ?_ | refine we_bi ?_ | refine ⟨rfl, ?_⟩ | refine lf len_map ?_)
  refine ⟨ds.length, rfl, by omega, fun i ρ => ∃ y, ρ = [.sh (.lst (ds.map ni)), .sh (ni p), .sh (ni (elR p ds i)), y], ⟨_, rfl⟩, ?_, ?_⟩
  · rintro ρ' ⟨y, rfl⟩
    repeat (first | refine we_sh rfl ?_ | refine ws_cons ?_ | refine ws_ret ?_)
    rfl
  · rintro i ρ hi ⟨y, rfl⟩
    refine ⟨_, rfl, ?_⟩
    repeat (first | refine we_sh rfl ?_ | refine we_int ?_ | refine we_bin ?_ | refine wa_nil ?_ | refine wa_cons ?_ | refine we_bi ?_ | refine we_subS rfl ?_ | refine ws_nil ?_ | refine ws_cons ?_ | refine ws_setV rfl ?_ | with_reducible refine lf (len_map) ?_ | with_reducible refine lf (mul_nat (show p < 2 ^ 64 by omega)) ?_ | with_reducible refine lf (sub1 (show 1 ≤ ds.length by omega)) ?_ | with_reducible refine lf (sub_nat (show i ≤ ds.length - 1 by omega)) ?_ | with_reducible refine lf (idx_natl (show ds.length - 1 - i < ds.length by omega)) ?_ | with_reducible refine lf (add_nat) ?_)
    exact ⟨_, rfl⟩
section
variable {p deg q : Nat} {ms : List Nat}
theorem len_tup {xs : List Nat} : biD .len [.tup (xs.map ni)] = some (ni xs.length) := by
  show some (D.int _) = _
  rw [List.length_map]
theorem ev_lorder (hp2 : p < 1000) (hm : ms.length = deg + 1) (hd : deg ≤ 50) : Ev 1 F_law_order [ni p, .tup (ms.map ni)] (ni (p ^ deg)) := by
  refine run_k fun k hk => run_ws (by decide) ⟨rfl, rfl⟩ ?_
  show WS _ t_law_order [.sh _, .sh _, .un, .un] _ _
  unfold t_law_order
  repeat (first | refine we_int ?_ | refine ws_cons ?_ | refine ws_setV rfl ?_)
  refine ws_forR ?_
  repeat (first | refine we_sh rfl ?_ | refine we_int ?_ | refine we_bin ?_ | refine wa_nil ?_ | refine wa_cons ?_ | refine we_bi ?_ | with_reducible refine lf (len_tup) ?_ | with_reducible refine lf (sub1 (show 1 ≤ ms.length by omega)) ?_ | refine ⟨rfl, ?_⟩)
  refine ⟨deg, by rw [hm]; rfl, by omega, fun i ρ => ∃ y, ρ = [.sh (ni p), .sh (.tup (ms.map ni)), .sh (ni (p ^ i)), y], ⟨_, rfl⟩, ?_, ?_⟩
  · rintro ρ' ⟨y, rfl⟩
    repeat (first | refine we_sh rfl ?_ | refine ws_cons ?_ | refine ws_ret ?_)
    rfl
  · rintro i ρ hi ⟨y, rfl⟩
    refine ⟨_, rfl, ?_⟩
    repeat (first | refine we_sh rfl ?_ | refine we_bin ?_ | refine ws_nil ?_ | refine ws_cons ?_ | refine ws_setV rfl ?_ | with_reducible refine lf (mul_nat (show p < 2 ^ 64 by omega)) ?_)
    exact ⟨_, by rw [Nat.pow_succ]; rfl⟩
def tabD (q : Nat) (f : Nat → Nat → Nat) : D := .lst ((List.range q).map fun a => .lst ((List.range q).map fun b => ni (f a b)))
def sumT (p deg a b : Nat) : Nat := elL p ((List.range deg).map fun i => (a / p ^ i % p + b / p ^ i % p) % p)
theorem snoc_range (f : Nat → D) (i : Nat) : (List.range i).map f ++ [f i] = (List.range (i + 1)).map f := by rw [List.range_succ, List.map_append]; rfl
theorem ev_lsums (hp : 0 < p) (hp2 : p < 1000) (hm : ms.length = deg + 1) (hd : deg ≤ 50) (hq : p ^ deg = q) (hq2 : q ≤ 16) : Ev 2 F_law_sums [ni p, .tup (ms.map ni)] (tabD q (sumT p deg)) := by
  refine run_k fun k hk => run_ws (by decide) ⟨rfl, rfl⟩ ?_
  show WS _ t_law_sums [.sh _, .sh _, .un, .un, .un, .un, .un, .un, .un, .un, .un] _ _
  unfold t_law_sums
  have eo := ev_lorder hp2 hm hd k (by omega)
  have sb : opD .sub (ni ms.length) (.int 1) = some (ni deg) := by rw [sub1 (by omega), hm]; rfl
  rw [hq] at eo
  repeat (first | refine we_sh rfl ?_ | refine we_int ?_ | refine we_bin ?_ | refine wa_nil ?_ | refine wa_cons ?_ | refine we_call ?_ | refine we_bi ?_ | refine we_lst ?_ | refine ws_cons ?_ | refine ws_setV rfl ?_ | with_reducible refine lf (len_tup) ?_ | with_reducible refine lf (sb) ?_ | with_reducible refine lf (eo) ?_)
  refine ⟨by simp [big], ?_⟩
  repeat (first | refine ws_cons ?_)
  refine ws_forR ?_
  repeat (first | refine we_sh rfl ?_ | refine wa_nil ?_ | refine wa_cons ?_ | refine ⟨rfl, ?_⟩)
  refine ⟨q, rfl, by omega, fun i ρ => ∃ x5 x6 x7 x8 x9, ρ = [.sh (ni p), .sh (.tup (ms.map ni)), .sh (ni deg), .sh (ni q), .ow ((List.range i).map fun a => .lst ((List.range q).map fun b => ni (sumT p deg a b))), x5, x6, x7, x8, x9, .un], ⟨_, _, _, _, _, rfl⟩, ?_, ?_⟩
  · rintro ρ' ⟨x5, x6, x7, x8, x9, rfl⟩
    repeat (first | refine we_ow rfl ?_ | refine ws_cons ?_ | refine ws_ret ?_)
    rfl
  rintro a ρ ha ⟨x5, x6, x7, x8, x9, rfl⟩
  refine ⟨_, rfl, ?_⟩
  repeat (first | refine we_sh rfl ?_ | refine wa_nil ?_ | refine wa_cons ?_ | refine we_call ?_ | refine we_lst ?_ | refine ws_cons ?_ | refine ws_setV rfl ?_ | refine lf (ev_ldigits a p deg hp hp2 (by omega) k (by omega)) ?_)
  refine ⟨by simp [big], ?_⟩
  repeat (first | refine ws_cons ?_)
  refine ws_forR ?_
  repeat (first | refine we_sh rfl ?_ | refine wa_nil ?_ | refine wa_cons ?_ | refine ⟨rfl, ?_⟩)
  refine ⟨q, rfl, by omega, fun i ρ => ∃ x8 x9, ρ = [.sh (ni p), .sh (.tup (ms.map ni)), .sh (ni deg), .sh (ni q), .ow ((List.range a).map fun a => .lst ((List.range q).map fun b => ni (sumT p deg a b))), .sh (ni a), .sh (.lst ((digN a p deg).map ni)), .ow ((List.range i).map fun b => ni (sumT p deg a b)), x8, x9, .un], ⟨_, _, rfl⟩, ?_, ?_⟩
  · rintro ρ' ⟨x8, x9, rfl⟩
    repeat (first | refine we_ow rfl ?_ | refine ws_cons ?_ | refine ws_appV ?_ | refine ⟨rfl, ?_⟩)
    refine ⟨_, rfl, by simp [big]; omega, ?_⟩
    rw [snoc_range (fun a => D.lst ((List.range q).map fun b => ni (sumT p deg a b)))]
    repeat (first | refine ws_nil ?_)
    exact ⟨_, _, _, _, _, rfl⟩
  rintro b ρ hb ⟨x8, x9, rfl⟩
  refine ⟨_, rfl, ?_⟩
  repeat (first | refine we_sh rfl ?_ | refine wa_nil ?_ | refine wa_cons ?_ | refine we_call ?_ | refine ws_cons ?_ | refine ws_setV rfl ?_ | refine ws_appV ?_ | refine lf (ev_ldigits b p deg hp hp2 (by omega) k (by omega)) ?_)
  refine we_map rfl ?_
  repeat (first | refine we_sh rfl ?_ | refine wa_nil ?_ | refine wa_cons ?_ | refine ww_rg1 ?_)
  refine ⟨deg, rfl, by omega, rfl, Nat, List.range deg, ni, fun i => ni ((a / p ^ i % p + b / p ^ i % p) % p), by unfold rgD; simp, by simp [big]; omega, fun i hi => ⟨_, rfl, ?_⟩, ?_⟩
  · have hi := List.mem_range.mp hi
    have i1 : biD .int_ [ni (a / p ^ i % p + b / p ^ i % p)] = some (ni (a / p ^ i % p + b / p ^ i % p)) := rfl
    repeat (first | refine we_sh rfl ?_ | refine we_bin ?_ | refine wa_nil ?_ | refine wa_cons ?_ | refine we_bi ?_ | refine we_subS rfl ?_ | with_reducible refine lf (idx_dig hi) ?_ | with_reducible refine lf (add_nat) ?_ | with_reducible refine lf (i1) ?_ | with_reducible refine lf (mod_nat hp) ?_ | refine ⟨rfl, ?_⟩)
    rfl
  have el := ev_lelement ((List.range deg).map fun i => (a / p ^ i % p + b / p ^ i % p) % p) p hp2 (by simp; omega) k (by omega)
  rw [List.map_map] at el
  repeat (first | refine we_sh rfl ?_ | refine wa_nil ?_ | refine wa_cons ?_ | refine lf (el) ?_ | refine ⟨rfl, ?_⟩)
  refine ⟨_, rfl, by simp [big]; omega, ?_⟩
  show WS _ _ [_, _, _, _, _, _, _, Sl.ow ((List.range b).map (fun b => ni (sumT p deg a b)) ++ [ni (sumT p deg a b)]), _, _, _] _ _
  rw [snoc_range (fun b => ni (sumT p deg a b))]
  repeat (first | refine ws_nil ?_)
  exact ⟨_, _, rfl⟩
end
end MN
end S_MnLa
section S_MnLb
set_option maxRecDepth 100000
/-! The law's products. -/
namespace MN
open LA
section
variable {p deg q : Nat} {ms : List Nat}
/-- times x, in the law's way -/
def shN (p deg : Nat) (ms s : List Nat) : List Nat := (List.range deg).map fun k => ((((0 :: s.take (deg - 1)).getD k 0 : Nat) : Int) - (((s.getD (deg - 1) 0) * (ms.getD k 0) : Nat) : Int)) % (p : Int) |>.toNat
def shJ (p deg : Nat) (ms : List Nat) (a : Nat) : Nat → List Nat
  | 0 => digN a p deg
  | j + 1 => shN p deg ms (shJ p deg ms a j)
def totN (p deg : Nat) (tot : List Nat) (c : Nat) (s : List Nat) : List Nat := (List.range deg).map fun k => (tot.getD k 0 + c * s.getD k 0) % p
def totJ (p deg : Nat) (ms : List Nat) (a b : Nat) : Nat → List Nat
  | 0 => (List.range deg).map fun _ => 0
  | j + 1 => totN p deg (totJ p deg ms a b j) ((digN b p deg).getD j 0) (shJ p deg ms a j)
def prodT (p deg : Nat) (ms : List Nat) (a b : Nat) : Nat := elL p (totJ p deg ms a b deg)
theorem shJ_len (a : Nat) : ∀ j, (shJ p deg ms a j).length = deg
  | 0 => digN_len a p deg
  | j + 1 => by show (shN _ _ _ _).length = deg; unfold shN; simp
theorem totJ_len (a b : Nat) : ∀ j, (totJ p deg ms a b j).length = deg
  | 0 => by show (List.map _ _).length = deg; simp
  | j + 1 => by show (totN _ _ _ _ _).length = deg; unfold totN; simp
theorem shJ_lt (hp : 0 < p) (a : Nat) : ∀ j i, (shJ p deg ms a j).getD i 0 < p
  | 0, i => digN_lt hp
  | j + 1, i => by
    show (shN _ _ _ _).getD i 0 < p
    unfold shN
    rw [List.getD_eq_getElem?_getD, List.getElem?_map]
    by_cases h : i < deg
    · rw [List.getElem?_range h]
      simp only [Option.map_some, Option.getD_some]
      generalize ((((0 :: (shJ p deg ms a j).take (deg - 1)).getD i 0 : Nat) : Int) - (((shJ p deg ms a j).getD (deg - 1) 0 * ms.getD i 0 : Nat) : Int)) = z
      have h1 := Int.emod_nonneg z (show (p : Int) ≠ 0 by omega)
      have h2 := Int.emod_lt_of_pos z (show (0 : Int) < p by omega)
      omega
    · rw [List.getElem?_eq_none (by simp; omega)]
      exact hp
theorem mod_int {z : Int} (hp : 0 < p) : opD .mod (.int z) (ni p) = some (ni (z % (p : Int)).toNat) := by
  have e : opD .mod (.int z) (ni p) = (if 0 < (p : Int) then some (D.int (z % (p : Int))) else none) := rfl
  have h1 := Int.emod_nonneg z (show (p : Int) ≠ 0 by omega)
  rw [e, if_pos (by omega)]
  show some (D.int (z % (p : Int))) = some (D.int (((z % (p : Int)).toNat : Nat) : Int))
  rw [Int.toNat_of_nonneg h1]
theorem sub_int {i j : Int} : opD .sub (.int i) (.int j) = some (.int (i - j)) := rfl
theorem add_nats {xs ys : List Nat} (h : xs.length + ys.length ≤ 1000) : opD .add (.lst (xs.map ni)) (.lst (ys.map ni)) = some (.lst ((xs ++ ys).map ni)) := by
  have e : opD .add (.lst (xs.map ni)) (.lst (ys.map ni)) = (if (xs.map ni).length + (ys.map ni).length ≤ big then some (D.lst (xs.map ni ++ ys.map ni)) else none) := rfl
  rw [e, if_pos (by simp [big]; omega), List.map_append]
theorem ev_lproducts (hp : 0 < p) (hp2 : p < 1000) (hm : ms.length = deg + 1) (hms : ∀ i, ms.getD i 0 < 1000) (hd : deg ≤ 50) (hd1 : 1 ≤ deg) (hq : p ^ deg = q) (hq2 : q ≤ 16) : Ev 2 F_law_products [ni p, .tup (ms.map ni)] (tabD q (prodT p deg ms)) := by
  refine run_k fun k hk => run_ws (by decide) ⟨rfl, rfl⟩ ?_
  show WS _ t_law_products [.sh _, .sh _, .un, .un, .un, .un, .un, .un, .un, .un, .un, .un, .un, .un, .un] _ _
  unfold t_law_products
  have eo := ev_lorder hp2 hm hd k (by omega)
  have sb : opD .sub (ni ms.length) (.int 1) = some (ni deg) := by rw [sub1 (by omega), hm]; rfl
  rw [hq] at eo
  repeat (first | refine we_sh rfl ?_ | refine we_int ?_ | refine we_bin ?_ | refine wa_nil ?_ | refine wa_cons ?_ | refine we_call ?_ | refine we_bi ?_ | refine we_lst ?_ | refine ws_cons ?_ | refine ws_setV rfl ?_ | with_reducible refine lf (len_tup) ?_ | with_reducible refine lf (sb) ?_ | with_reducible refine lf (eo) ?_)
  refine ⟨by simp [big], ?_⟩
  repeat (first | refine ws_cons ?_)
  refine ws_forR ?_
  repeat (first | refine we_sh rfl ?_ | refine wa_nil ?_ | refine wa_cons ?_ | refine ⟨rfl, ?_⟩)
  refine ⟨q, rfl, by omega, fun i ρ => ∃ x5 x6 x7 x8 x9 x10 x11 x12 x13, ρ = [.sh (ni p), .sh (.tup (ms.map ni)), .sh (ni deg), .sh (ni q), .ow ((List.range i).map fun a => .lst ((List.range q).map fun b => ni (prodT p deg ms a b))), x5, x6, x7, x8, x9, x10, x11, x12, x13, .un], ⟨_, _, _, _, _, _, _, _, _, rfl⟩, ?_, ?_⟩
  · rintro ρ' ⟨x5, x6, x7, x8, x9, x10, x11, x12, x13, rfl⟩
    repeat (first | refine we_ow rfl ?_ | refine ws_cons ?_ | refine ws_ret ?_)
    rfl
  rintro a ρ ha ⟨x5, x6, x7, x8, x9, x10, x11, x12, x13, rfl⟩
  refine ⟨_, rfl, ?_⟩
  repeat (first | refine we_sh rfl ?_ | refine wa_nil ?_ | refine wa_cons ?_ | refine we_call ?_ | refine we_lst ?_ | refine ws_cons ?_ | refine ws_setV rfl ?_ | refine lf (ev_ldigits a p deg hp hp2 (by omega) k (by omega)) ?_)
  refine ⟨by simp [big], ?_⟩
  repeat (first | refine ws_cons ?_)
  refine ws_forR ?_
  repeat (first | refine we_sh rfl ?_ | refine we_int ?_ | refine we_bin ?_ | refine wa_nil ?_ | refine wa_cons ?_ | with_reducible refine lf (sub1 hd1) ?_ | refine ⟨rfl, ?_⟩)
  refine ⟨deg - 1, rfl, by omega, fun i ρ => ∃ x7 x10 x11, ρ = [.sh (ni p), .sh (.tup (ms.map ni)), .sh (ni deg), .sh (ni q), .ow ((List.range a).map fun a => .lst ((List.range q).map fun b => ni (prodT p deg ms a b))), .sh (ni a), .ow ((List.range (i + 1)).map fun j => .lst ((shJ p deg ms a j).map ni)), x7, x8, x9, x10, x11, x12, x13, .un], ⟨_, _, _, rfl⟩, ?_, ?_⟩
  · rintro ρ' ⟨x7, x10, x11, rfl⟩
    rw [show deg - 1 + 1 = deg by omega]
    repeat (first | refine wa_nil ?_ | refine we_lst ?_ | refine ws_cons ?_ | refine ws_setV rfl ?_)
    refine ⟨by simp [big], ?_⟩
    repeat (first | refine ws_cons ?_)
    refine ws_forR ?_
    repeat (first | refine we_sh rfl ?_ | refine wa_nil ?_ | refine wa_cons ?_ | refine ⟨rfl, ?_⟩)
    refine ⟨q, rfl, by omega, fun i ρ => ∃ x7 x9 x12 x13, ρ = [.sh (ni p), .sh (.tup (ms.map ni)), .sh (ni deg), .sh (ni q), .ow ((List.range a).map fun a => .lst ((List.range q).map fun b => ni (prodT p deg ms a b))), .sh (ni a), .ow ((List.range deg).map fun j => .lst ((shJ p deg ms a j).map ni)), x7, .ow ((List.range i).map fun b => ni (prodT p deg ms a b)), x9, x10, x11, x12, x13, .un], ⟨_, _, _, _, rfl⟩, ?_, ?_⟩
    · rintro ρ' ⟨x7, x9, x12, x13, rfl⟩
      repeat (first | refine we_ow rfl ?_ | refine ws_cons ?_ | refine ws_appV ?_ | refine ⟨rfl, ?_⟩)
      refine ⟨_, rfl, by simp [big]; omega, ?_⟩
      show WS _ _ [_, _, _, _, Sl.ow ((List.range a).map (fun a => D.lst ((List.range q).map fun b => ni (prodT p deg ms a b))) ++ [D.lst ((List.range q).map fun b => ni (prodT p deg ms a b))]), _, _, _, _, _, _, _, _, _, _] _ _
      rw [snoc_range (fun a => D.lst ((List.range q).map fun b => ni (prodT p deg ms a b)))]
      repeat (first | refine ws_nil ?_)
      exact ⟨_, _, _, _, _, _, _, _, _, rfl⟩
    rintro b ρ hb ⟨x7, x9, x12, x13, rfl⟩
    refine ⟨_, rfl, ?_⟩
    have mz : opD .mul (.lst [.int 0]) (ni deg) = some (.lst ((totJ p deg ms a b 0).map ni)) := by
      rw [mul_list (by omega)]
      show _ = some (D.lst (((List.range deg).map fun _ => 0).map ni))
      rw [List.map_map]
      rfl
    repeat (first | refine we_sh rfl ?_ | refine we_int ?_ | refine we_bin ?_ | refine wa_nil ?_ | refine wa_cons ?_ | refine we_call ?_ | refine we_lst ?_ | refine ws_cons ?_ | refine ws_setV rfl ?_ | refine lf (ev_ldigits b p deg hp hp2 (by omega) k (by omega)) ?_)
    refine ⟨by simp [big], ?_⟩
    repeat (first | refine we_sh rfl ?_ | refine ws_cons ?_ | with_reducible refine lf (mz) ?_)
    refine ws_forR ?_
    repeat (first | refine we_sh rfl ?_ | refine wa_nil ?_ | refine wa_cons ?_ | refine ⟨rfl, ?_⟩)
    refine ⟨deg, rfl, by omega, fun i ρ => ∃ x7, ρ = [.sh (ni p), .sh (.tup (ms.map ni)), .sh (ni deg), .sh (ni q), .ow ((List.range a).map fun a => .lst ((List.range q).map fun b => ni (prodT p deg ms a b))), .sh (ni a), .ow ((List.range deg).map fun j => .lst ((shJ p deg ms a j).map ni)), x7, .ow ((List.range b).map fun b => ni (prodT p deg ms a b)), .sh (ni b), x10, x11, .sh (.lst ((digN b p deg).map ni)), .ow ((totJ p deg ms a b i).map ni), .un], ⟨_, rfl⟩, ?_, ?_⟩
    · rintro ρ' ⟨x7, rfl⟩
      have le9 : (totJ p deg ms a b deg).length ≤ 1000 := by rw [totJ_len]; omega
      repeat (first | refine we_sh rfl ?_ | refine we_ow rfl ?_ | refine wa_nil ?_ | refine wa_cons ?_ | refine we_call ?_ | refine ws_cons ?_ | refine ws_appV ?_ | refine lf (ev_lelement (totJ p deg ms a b deg) p hp2 le9 k (by omega)) ?_ | refine ⟨rfl, ?_⟩)
      refine ⟨_, rfl, by simp [big]; omega, ?_⟩
      show WS _ _ [_, _, _, _, _, _, _, _, Sl.ow ((List.range b).map (fun b => ni (prodT p deg ms a b)) ++ [ni (prodT p deg ms a b)]), _, _, _, _, _, _] _ _
      rw [snoc_range (fun b => ni (prodT p deg ms a b))]
      repeat (first | refine ws_nil ?_)
      exact ⟨_, _, _, _, rfl⟩
    rintro j ρ hj ⟨x7, rfl⟩
    refine ⟨_, rfl, ?_⟩
    repeat (first | refine ws_cons ?_ | refine ws_setV rfl ?_)
    refine we_map rfl ?_
    repeat (first | refine we_sh rfl ?_ | refine wa_nil ?_ | refine wa_cons ?_ | refine ww_rg1 ?_)
    refine ⟨deg, rfl, by omega, rfl, Nat, List.range deg, ni, fun i => ni (((totJ p deg ms a b j).getD i 0 + (digN b p deg).getD j 0 * (shJ p deg ms a j).getD i 0) % p), by unfold rgD; simp, by simp [big]; omega, fun i hi => ⟨_, rfl, ?_⟩, ?_⟩
    · have hi := List.mem_range.mp hi
      have ij : idxD (.lst ((List.range deg).map fun j => .lst ((shJ p deg ms a j).map ni))) (ni j) = some (.lst ((shJ p deg ms a j).map ni)) := idx_lst (tab_get hj)
      have i1 : ∀ x : Nat, biD .int_ [ni x] = some (ni x) := fun _ => rfl
      have sl := shJ_lt (p := p) (deg := deg) (ms := ms) hp a j i
      have l1 : i < (totJ p deg ms a b j).length := by rw [totJ_len]; exact hi
      have l2 : j < (digN b p deg).length := by rw [digN_len]; exact hj
      have l3 : i < (shJ p deg ms a j).length := by rw [shJ_len]; exact hi
      repeat (first | refine we_sh rfl ?_ | refine we_bin ?_ | refine wa_nil ?_ | refine wa_cons ?_ | refine we_bi ?_ | refine we_subS rfl ?_ | refine we_subO rfl ?_ | refine we_sub rfl ?_ | with_reducible refine lf (idx_natl l1) ?_ | with_reducible refine lf (idx_natl l2) ?_ | with_reducible refine lf (ij) ?_ | with_reducible refine lf (idx_natl l3) ?_ | with_reducible refine lf (mul_nat (show (shJ p deg ms a j).getD i 0 < 2 ^ 64 by omega)) ?_ | with_reducible refine lf (add_nat) ?_ | with_reducible refine lf (i1 _) ?_ | with_reducible refine lf (mod_nat hp) ?_ | refine ⟨rfl, ?_⟩)
      rfl
    have e9 : D.lst ((List.range deg).map fun i => ni (((totJ p deg ms a b j).getD i 0 + (digN b p deg).getD j 0 * (shJ p deg ms a j).getD i 0) % p)) = .lst ((totJ p deg ms a b (j + 1)).map ni) := by
      show _ = D.lst ((totN _ _ _ _ _).map ni)
      unfold totN
      rw [List.map_map]
      rfl
    rw [e9]
    repeat (first | refine ws_nil ?_)
    exact ⟨_, rfl⟩
  rintro j ρ hj ⟨x7, x10, x11, rfl⟩
  refine ⟨_, rfl, ?_⟩
  have ij : idxD (.lst ((List.range (j + 1)).map fun j => .lst ((shJ p deg ms a j).map ni))) (ni j) = some (.lst ((shJ p deg ms a j).map ni)) := idx_lst (tab_get (by omega))
  have cu : cutD ((shJ p deg ms a j).map ni) none (some ((deg - 1 : Nat) : Int)) = ((shJ p deg ms a j).take (deg - 1)).map ni := by
    rw [cut_to (by rw [List.length_map, shJ_len]; omega), List.map_take]
  have l4 : deg - 1 < (shJ p deg ms a j).length := by rw [shJ_len]; omega
  repeat (first | refine we_sh rfl ?_ | refine we_int ?_ | refine we_bin ?_ | refine wa_nil ?_ | refine wa_cons ?_ | refine we_subO rfl ?_ | refine we_sub rfl ?_ | refine we_lst ?_ | refine ws_cons ?_ | refine ws_setV rfl ?_ | with_reducible refine lf (ij) ?_ | with_reducible refine lf (sub1 hd1) ?_ | with_reducible refine lf (idx_natl l4) ?_)
  refine ⟨by simp [big], ?_⟩
  repeat (first | refine we_sh rfl ?_ | refine we_int ?_ | refine we_bin ?_ | refine we_subO rfl ?_ | refine we_slc ?_ | refine WI.none ?_ | refine WI.some rfl ?_ | with_reducible refine lf (ij) ?_ | with_reducible refine lf (sub1 hd1) ?_)
  refine ⟨_, rfl, ?_⟩
  refine ⟨_, rfl, ?_⟩
  have cu2 : opD .add (.lst [.int 0]) (.lst (cutD ((shJ p deg ms a j).map ni) none (some ((deg - 1 : Nat) : Int)))) = some (.lst ((0 :: (shJ p deg ms a j).take (deg - 1)).map ni)) := by
    rw [cu]
    exact add_nats (xs := [0]) (by simp [shJ_len]; omega)
  repeat (first | refine ws_cons ?_ | refine ws_appV ?_ | with_reducible refine lf (cu2) ?_)
  refine we_map rfl ?_
  repeat (first | refine we_sh rfl ?_ | refine wa_nil ?_ | refine wa_cons ?_ | refine ww_rg1 ?_)
  refine ⟨deg, rfl, by omega, rfl, Nat, List.range deg, ni, fun k => ni (((((0 :: (shJ p deg ms a j).take (deg - 1)).getD k 0 : Nat) : Int) - ((((shJ p deg ms a j).getD (deg - 1) 0) * (ms.getD k 0) : Nat) : Int)) % (p : Int)).toNat, by unfold rgD; simp, by simp [big]; omega, fun i hi => ⟨_, rfl, ?_⟩, ?_⟩
  · have hi := List.mem_range.mp hi
    have i1 : ∀ x : Int, biD .int_ [.int x] = some (.int x) := fun _ => rfl
    have hmi := hms i
    have l5 : i < (0 :: (shJ p deg ms a j).take (deg - 1)).length := by simp [shJ_len]; omega
    repeat (first | refine we_sh rfl ?_ | refine we_bin ?_ | refine wa_nil ?_ | refine wa_cons ?_ | refine we_bi ?_ | refine we_subS rfl ?_ | refine we_subO rfl ?_ | with_reducible refine lf (idx_natl l5) ?_ | with_reducible refine lf (idx_natt (show i < ms.length by omega)) ?_ | with_reducible refine lf (mul_nat (show ms.getD i 0 < 2 ^ 64 by omega)) ?_ | with_reducible refine lf (sub_int) ?_ | with_reducible refine lf (i1 _) ?_ | with_reducible refine lf (mod_int hp) ?_ | refine ⟨rfl, ?_⟩)
    rfl
  have e9 : D.lst ((List.range deg).map fun k => ni (((((0 :: (shJ p deg ms a j).take (deg - 1)).getD k 0 : Nat) : Int) - ((((shJ p deg ms a j).getD (deg - 1) 0) * (ms.getD k 0) : Nat) : Int)) % (p : Int)).toNat) = .lst ((shJ p deg ms a (j + 1)).map ni) := by
    show _ = D.lst ((shN _ _ _ _).map ni)
    unfold shN
    rw [List.map_map]
    rfl
  rw [e9]
  repeat (first | refine ⟨rfl, ?_⟩)
  refine ⟨_, rfl, by simp [big]; omega, ?_⟩
  show WS _ _ [_, _, _, _, _, _, Sl.ow ((List.range (j + 1)).map (fun j => D.lst ((shJ p deg ms a j).map ni)) ++ [D.lst ((shJ p deg ms a (j + 1)).map ni)]), _, _, _, _, _, _, _, _] _ _
  rw [snoc_range (fun j => D.lst ((shJ p deg ms a j).map ni))]
  repeat (first | refine ws_nil ?_)
  exact ⟨_, _, _, rfl⟩
end
end MN
end S_MnLb
section S_MnLc
set_option maxRecDepth 100000
/-! The law's small functions over words. -/
namespace MN
open LA
section
variable {α : Type} [GF α] {n m k L : Nat} {fd : List D}
def SupV (n : Nat) (v : Vc α) : Prop := ∀ x, n ≤ x → v x = 0
theorem sup_ext {u v : Vc α} (hu : SupV n u) (hv : SupV n v) (h : ∀ i, i < n → u i = v i) : u = v := by
  funext x
  by_cases hx : x < n
  · exact h x hx
  · rw [hu x (by omega), hv x (by omega)]
theorem eqD_ei (a b : α) : eqD (ei a) (ei b) = decide (a = b) := by
  show decide ((GF.no a : Int) = (GF.no b : Int)) = _
  by_cases h : a = b
  · subst h; simp
  · have : ¬ ((GF.no a : Int) = (GF.no b : Int)) := fun e => h (no_inj (by omega))
    rw [decide_eq_false h, decide_eq_false this]
theorem eqDs_ei (u v : Vc α) : ∀ xs : List Nat, eqDs (xs.map fun i => ei (u i)) (xs.map fun i => ei (v i)) = xs.all fun i => decide (u i = v i)
  | [] => by unfold eqDs; rfl
  | x :: xs => by
    rw [List.map_cons, List.map_cons]
    unfold eqDs
    rw [eqD_ei, eqDs_ei u v xs, List.all_cons]
noncomputable instance : DecidableEq (Vc α) := fun _ _ => Classical.propDecidable _
theorem eqD_dv {u v : Vc α} (hu : SupV n u) (hv : SupV n v) : eqD (dv n u) (dv n v) = decide (u = v) := by
  have e : eqD (dv n u) (dv n v) = eqDs ((List.range n).map fun i => ei (u i)) ((List.range n).map fun i => ei (v i)) := by
    unfold dv
    conv => lhs; unfold eqD
  rw [e, eqDs_ei]
  by_cases h : u = v
  · subst h
    rw [decide_eq_true rfl]
    exact List.all_eq_true.mpr fun _ _ => decide_eq_true rfl
  · rw [decide_eq_false h]
    refine Bool.eq_false_iff.mpr fun ha => h (sup_ext hu hv fun i hi => ?_)
    exact of_decide_eq_true (List.all_eq_true.mp ha i (List.mem_range.mpr hi))
theorem any_dv {r : Vc α} (hr : SupV n r) : ∀ {ws : List (Vc α)}, (∀ w ∈ ws, SupV n w) → ((ws.map (dv n)).any fun z => eqD z (dv n r)) = decide (r ∈ ws)
  | [], _ => by simp
  | w :: ws, h => by
    rw [List.map_cons, List.any_cons, any_dv hr fun w' hw => h w' (List.mem_cons_of_mem _ hw), eqD_dv (h w (List.mem_cons_self ..)) hr]
    by_cases e : w = r
    · subst e; simp
    · have : ¬ r = w := fun h => e h.symm
      simp [e, this]
theorem okP_dv (v : Vc α) (j : Nat) : okP (j + 1) (dv n v) = true := by
  unfold dv okP
  rw [List.all_map]
  refine List.all_eq_true.mpr fun x _ => ?_
  show okP j (ei (v x)) = true
  cases j <;> rfl
theorem okP_dl (ws : List (Vc α)) (j : Nat) : okP (j + 2) (dl n ws) = true := by
  unfold dl
  show (ws.map (dv n)).all (okP (j + 1)) = true
  rw [List.all_map]
  exact List.all_eq_true.mpr fun x _ => okP_dv x j
theorem in_dv {r : Vc α} {ws : List (Vc α)} (hr : SupV n r) (h : ∀ w ∈ ws, SupV n w) : cmpD .in_ (dv n r) (dl n ws) = some (decide (r ∈ ws)) := by
  show (if okP 4 (dv n r) && okP 4 (dl n ws) then some ((ws.map (dv n)).any fun z => eqD z (dv n r)) else none) = _
  rw [okP_dv, okP_dl, any_dv hr h]
  rfl
theorem nin_dv {r : Vc α} {ws : List (Vc α)} (hr : SupV n r) (h : ∀ w ∈ ws, SupV n w) : cmpD .nin (dv n r) (dl n ws) = some (!decide (r ∈ ws)) := by
  show (if okP 4 (dv n r) && okP 4 (dl n ws) then some (!(ws.map (dv n)).any fun z => eqD z (dv n r)) else none) = _
  rw [okP_dv, okP_dl, any_dv hr h]
  rfl
theorem ev_lweight (v : Vc α) (hn : n ≤ 1000) : Ev 1 F_law_weight [dv n v] (ni (wt n v)) := by
  refine run_k fun k hk => run_ws (by decide) ⟨rfl, rfl⟩ ?_
  show WS _ t_law_weight [.sh _, .un] _ _
  unfold t_law_weight
  repeat (first | refine wa_cons ?_ | refine we_bi ?_ | refine ws_cons ?_ | refine ws_ret ?_)
  refine we_filt rfl ?_
  repeat (first | refine we_sh rfl ?_ | refine ww_lst ?_)
  refine ⟨_, rfl, rfl, Nat, List.range n, fun i => ei (v i), fun i => !decide (v i = 0), fun i => ei (v i), rfl, by simp [big]; omega, fun i hi => ⟨_, rfl, ?_, fun _ => ?_⟩, ?_⟩
  · repeat (first | refine we_sh rfl ?_ | refine we_int ?_ | refine wt_cmp ?_ | with_reducible refine lf (ne0) ?_)
    rfl
  · repeat (first | refine we_sh rfl ?_ | refine ⟨rfl, ?_⟩)
    rfl
  have e : biD .len [.lst (((List.range n).filter fun i => !decide (v i = 0)).map fun i => ei (v i))] = some (ni (wt n v)) := by
    rw [len_map]
    have := supp_len v n
    unfold supp at this
    rw [this]
  repeat (first | refine wa_nil ?_ | with_reducible refine lf (e) ?_)
  rfl
theorem ev_lidentity (hn : n ≤ 16) : Ev 1 F_law_identity [ni n] (dl n (rl n (uv : Nat → Vc α))) := by
  refine run_k fun k hk => run_ws (by decide) ⟨rfl, rfl⟩ ?_
  show WS _ t_law_identity [.sh _, .un, .un] _ _
  unfold t_law_identity
  repeat (first | refine ws_cons ?_ | refine ws_ret ?_)
  refine we_map rfl ?_
  repeat (first | refine we_sh rfl ?_ | refine wa_nil ?_ | refine wa_cons ?_ | refine ww_rg1 ?_)
  refine ⟨n, rfl, by omega, rfl, Nat, List.range n, ni, fun t => dv n (uv t : Vc α), by unfold rgD; simp, by simp [big]; omega, fun t ht => ⟨_, rfl, ?_⟩, ?_⟩
  · refine we_map rfl ?_
    repeat (first | refine we_sh rfl ?_ | refine wa_nil ?_ | refine wa_cons ?_ | refine ww_rg1 ?_)
    refine ⟨n, rfl, by omega, rfl, Nat, List.range n, ni, fun j => .int (if t = j then 1 else 0), by unfold rgD; simp, by simp [big]; omega, fun j hj => ⟨_, rfl, ?_⟩, rfl, ?_⟩
    · repeat (first | refine we_sh rfl ?_ | refine wa_nil ?_ | refine wa_cons ?_ | refine we_bi ?_ | refine wt_cmp ?_ | refine we_cmp ?_ | with_reducible refine lf (eq_nat) ?_ | refine ⟨rfl, ?_⟩ | refine lf rfl ?_)
      show D.int _ = D.int _
      by_cases e : t = j <;> simp [e]
    · rw [uv_dv (α := α)]
  · unfold dl rl
    rw [List.map_map]
    rfl
theorem ev_lisint (i : Int) : Ev 1 F_law_is_integer [.int i] (.bl true) := by
  refine run_k fun k hk => run_ws (by decide) ⟨rfl, rfl⟩ ?_
  show WS _ t_law_is_integer [.sh _] _ _
  unfold t_law_is_integer
  refine ws_cons (ws_ret (we_and (wt_and (wt_val (we_isI (we_sh rfl ⟨i, rfl, true, rfl, ?_⟩))))))
  refine ⟨fun z => (by cases z), fun _ => wt_not (wt_val (we_isB (we_sh rfl ⟨i, rfl, false, rfl, rfl⟩)))⟩
def chN (m : Nat) : Nat → Nat
  | 0 => 1
  | j + 1 => chN m j * (m - j) / (j + 1)
theorem ev_lchoose (m t : Nat) (ht : t ≤ m) (hm : m ≤ 1000) : Ev 1 F_law_choose [ni m, ni t] (ni (chN m t)) := by
  refine run_k fun k hk => run_ws (by decide) ⟨rfl, rfl⟩ ?_
  show WS _ t_law_choose [.sh _, .sh _, .un, .un] _ _
  unfold t_law_choose
  repeat (first | refine we_int ?_ | refine ws_cons ?_ | refine ws_setV rfl ?_)
  refine ws_forR ?_
  repeat (first | refine we_sh rfl ?_ | refine wa_nil ?_ | refine wa_cons ?_ | refine ⟨rfl, ?_⟩)
  refine ⟨t, rfl, by omega, fun j ρ => ∃ y, ρ = [.sh (ni m), .sh (ni t), .sh (ni (chN m j)), y], ⟨_, rfl⟩, ?_, ?_⟩
  · rintro ρ' ⟨y, rfl⟩
    repeat (first | refine we_sh rfl ?_ | refine ws_cons ?_ | refine ws_ret ?_)
    rfl
  rintro j ρ hj ⟨y, rfl⟩
  refine ⟨_, rfl, ?_⟩
  repeat (first | refine we_sh rfl ?_ | refine we_int ?_ | refine we_bin ?_ | refine ws_nil ?_ | refine ws_cons ?_ | refine ws_setV rfl ?_ | with_reducible refine lf (sub_nat (show j ≤ m by omega)) ?_ | with_reducible refine lf (add1) ?_ | with_reducible refine lf (mul_nat (show m - j < 2 ^ 64 by omega)) ?_ | with_reducible refine lf (fdiv_nat (show 0 < j + 1 by omega) (show j + 1 < 1073741824 by omega)) ?_)
  exact ⟨_, rfl⟩
theorem ev_ldim (q e : Nat) (ws : List D) (h2 : 2 ≤ q) (hq : q ≤ 16) (he : e ≤ 9) (hl : ws.length = q ^ e) : Ev 1 F_law_dimension [.lst ws, ni q] (ni e) := by
  refine run_k fun k hk => run_ws (by decide) ⟨rfl, rfl⟩ ?_
  show WS _ t_law_dimension [.sh _, .sh _, .un, .un, .un] _ _
  unfold t_law_dimension
  repeat (first | refine we_int ?_ | refine ws_cons ?_ | refine ws_setV rfl ?_)
  refine ws_forR ?_
  repeat (first | refine we_int ?_ | refine wa_nil ?_ | refine wa_cons ?_ | refine ⟨rfl, ?_⟩)
  refine ⟨9, rfl, by omega, fun i ρ => ∃ y, ρ = [.sh (.lst ws), .sh (ni q), .sh (ni (min i e)), .sh (ni (q ^ min i e)), y], ⟨_, by rw [Nat.zero_min, Nat.pow_zero]; rfl⟩, ?_, ?_⟩
  · rintro ρ' ⟨y, rfl⟩
    rw [Nat.min_eq_right he]
    repeat (first | refine we_sh rfl ?_ | refine ws_cons ?_ | refine ws_ret ?_)
    rfl
  rintro i ρ hi ⟨y, rfl⟩
  refine ⟨_, rfl, ?_⟩
  have c1 : cmpD .lt (ni (q ^ min i e)) (ni ws.length) = some (decide (i < e)) := by
    rw [lt_nat, hl]
    congr 1
    by_cases h : i < e
    · rw [decide_eq_true h, Nat.min_eq_left (by omega)]
      exact decide_eq_true (Nat.pow_lt_pow_right (by omega) h)
    · rw [decide_eq_false h, Nat.min_eq_right (by omega)]
      exact decide_eq_false (by omega)
  repeat (first | refine we_sh rfl ?_ | refine wa_nil ?_ | refine wa_cons ?_ | refine we_bi ?_ | refine wt_cmp ?_ | refine ws_cons ?_ | refine ws_ite ?_ | with_reducible refine lf (len_lst) ?_ | with_reducible refine lf (c1) ?_)
  refine ⟨fun z => ?_, fun z => ?_⟩
  · have z : i < e := of_decide_eq_true z
    repeat (first | refine we_sh rfl ?_ | refine we_int ?_ | refine we_bin ?_ | refine ws_nil ?_ | refine ws_cons ?_ | refine ws_setV rfl ?_ | with_reducible refine lf (mul_nat (show q < 2 ^ 64 by omega)) ?_ | with_reducible refine lf (add1) ?_)
    refine ⟨.sh (ni i), ?_⟩
    rw [Nat.min_eq_left (show i + 1 ≤ e by omega), Nat.min_eq_left (show i ≤ e by omega), Nat.pow_succ]
    rfl
  · have z : ¬ i < e := of_decide_eq_false z
    repeat (first | refine ws_nil ?_)
    refine ⟨.sh (ni i), ?_⟩
    rw [Nat.min_eq_right (show e ≤ i + 1 by omega), Nat.min_eq_right (show e ≤ i by omega)]
    rfl
def rowV (xs : List Nat) (at_ n t : Nat) : Vc α := fun j => if j < n then GF.el (xs.getD (at_ + t * n + j) 0 % GF.q α) else 0
def rowsV (xs : List Nat) (at_ n m : Nat) : List (Vc α) := (List.range m).map (rowV xs at_ n)
theorem ev_lrows (xs : List Nat) (a n m : Nat) (hl : a + m * n ≤ xs.length) (hx : xs.length ≤ 1000) (hm : m ≤ 100) (hn : n ≤ 100) (hq : GF.q α ≤ 16) : Ev 1 F_law_rows [.lst (xs.map ni), ni a, ni (GF.q α), ni n, ni m] (dl n (rowsV xs a n m : List (Vc α))) := by
  have q2 := GF.two (α := α)
  refine run_k fun k hk => run_ws (by decide) ⟨rfl, rfl⟩ ?_
  show WS _ t_law_rows [.sh _, .sh _, .sh _, .sh _, .sh _, .un, .un, .un] _ _
  unfold t_law_rows
  repeat (first | refine wa_nil ?_ | refine we_lst ?_ | refine ws_cons ?_ | refine ws_setV rfl ?_)
  refine ⟨by simp [big], ?_⟩
  repeat (first | refine ws_cons ?_)
  refine ws_forR ?_
  repeat (first | refine we_sh rfl ?_ | refine wa_nil ?_ | refine wa_cons ?_ | refine ⟨rfl, ?_⟩)
  refine ⟨m, rfl, by omega, fun i ρ => ∃ x6, ρ = [.sh (.lst (xs.map ni)), .sh (ni a), .sh (ni (GF.q α)), .sh (ni n), .sh (ni m), .ow ((List.range i).map fun t => dv n (rowV xs a n t : Vc α)), x6, .un], ⟨_, rfl⟩, ?_, ?_⟩
  · rintro ρ' ⟨x6, rfl⟩
    repeat (first | refine we_ow rfl ?_ | refine ws_cons ?_ | refine ws_ret ?_)
    unfold dl rowsV
    rw [List.map_map]
    rfl
  rintro t ρ ht ⟨x6, rfl⟩
  refine ⟨_, rfl, ?_⟩
  repeat (first | refine ws_cons ?_ | refine ws_appV ?_)
  refine we_map rfl ?_
  repeat (first | refine we_sh rfl ?_ | refine wa_nil ?_ | refine wa_cons ?_ | refine ww_rg1 ?_)
  refine ⟨n, rfl, by omega, rfl, Nat, List.range n, ni, fun j => ei (rowV xs a n t j : α), by unfold rgD; simp, by simp [big]; omega, fun j hj => ⟨_, rfl, ?_⟩, ?_⟩
  · have hj := List.mem_range.mp hj
    have hb : a + t * n + j < xs.length := by
      have := Nat.mul_le_mul_right n (show t + 1 ≤ m by omega)
      rw [Nat.succ_mul] at this
      omega
    have i1 : ∀ x : Nat, biD .int_ [ni x] = some (ni x) := fun _ => rfl
    repeat (first | refine we_sh rfl ?_ | refine we_bin ?_ | refine wa_nil ?_ | refine wa_cons ?_ | refine we_bi ?_ | refine we_subS rfl ?_ | with_reducible refine lf (mul_nat (show n < 2 ^ 64 by omega)) ?_ | with_reducible refine lf (add_nat) ?_ | with_reducible refine lf (idx_natl hb) ?_ | with_reducible refine lf (i1 _) ?_ | with_reducible refine lf (mod_nat (show 0 < GF.q α by omega)) ?_ | refine ⟨rfl, ?_⟩)
    have e9 : (rowV xs a n t j : α) = GF.el (xs.getD (a + t * n + j) 0 % GF.q α) := if_pos hj
    show ni _ = ei (rowV xs a n t j : α)
    rw [e9]
    show D.int _ = D.int _
    rw [GF.no_el _ (Nat.mod_lt _ (by omega))]
  repeat (first | refine ⟨rfl, ?_⟩)
  refine ⟨_, rfl, by simp [big]; omega, ?_⟩
  show WS _ _ [_, _, _, _, _, Sl.ow ((List.range t).map (fun t => dv n (rowV xs a n t : Vc α)) ++ [dv n (rowV xs a n t : Vc α)]), _, _] _ _
  rw [snoc_range (fun t => dv n (rowV xs a n t : Vc α))]
  repeat (first | refine ws_nil ?_)
  exact ⟨_, rfl⟩
end
end MN
end S_MnLc
section S_MnLd
set_option maxRecDepth 100000
/-! The law's spans. -/
namespace MN
open LA
section
variable {α : Type} [GF α] {n m k L : Nat} {fd : List D}
def tabA (α : Type) [GF α] : D := .lst ((List.range (GF.q α)).map fun a => .lst ((List.range (GF.q α)).map fun b => ei ((GF.el a : α) + GF.el b)))
def tabM (α : Type) [GF α] : D := .lst ((List.range (GF.q α)).map fun a => .lst ((List.range (GF.q α)).map fun b => ei ((GF.el a : α) * GF.el b)))
def rowA (a : α) : D := .lst ((List.range (GF.q α)).map fun b => ei (a + GF.el b))
def rowM (a : α) : D := .lst ((List.range (GF.q α)).map fun b => ei (a * GF.el b))
theorem idx_tabA (a : α) : idxD (tabA α) (ei a) = some (rowA a) := by
  have := idx_lst (xs := (List.range (GF.q α)).map fun a => D.lst ((List.range (GF.q α)).map fun b => ei ((GF.el a : α) + GF.el b))) (i := GF.no a) (tab_get (GF.no_lt a))
  rw [GF.el_no] at this
  exact this
theorem idx_rowA (a b : α) : idxD (rowA a) (ei b) = some (ei (a + b)) := by
  have := idx_lst (xs := (List.range (GF.q α)).map fun b => ei (a + GF.el b)) (i := GF.no b) (tab_get (GF.no_lt b))
  rw [GF.el_no] at this
  exact this
theorem idx_tabM (a : α) : idxD (tabM α) (ei a) = some (rowM a) := by
  have := idx_lst (xs := (List.range (GF.q α)).map fun a => D.lst ((List.range (GF.q α)).map fun b => ei ((GF.el a : α) * GF.el b))) (i := GF.no a) (tab_get (GF.no_lt a))
  rw [GF.el_no] at this
  exact this
theorem idx_rowM (a b : α) : idxD (rowM a) (ei b) = some (ei (a * b)) := by
  have := idx_lst (xs := (List.range (GF.q α)).map fun b => ei (a * GF.el b)) (i := GF.no b) (tab_get (GF.no_lt b))
  rw [GF.el_no] at this
  exact this
theorem len_tabA : biD .len [tabA α] = some (ni (GF.q α)) := by
  show some (D.int _) = _
  rw [List.length_map, List.length_range]
theorem allV_len : ∀ n, (allV n : List (Vc α)).length = GF.q α ^ n
  | 0 => rfl
  | n + 1 => by
    show ((allV n : List (Vc α)).flatMap fun u => (els α).map fun a => LA.putV u n a).length = _
    rw [List.length_flatMap]
    have : ((allV n : List (Vc α)).map fun u => ((els α).map fun a => LA.putV u n a).length) = (allV n : List (Vc α)).map fun _ => GF.q α := List.map_congr_left fun u _ => by rw [List.length_map, els_len]
    rw [this, List.map_const', List.sum_replicate_nat, allV_len n, Nat.pow_succ]
/-! ### order -/
theorem sorted_dl {ws : List (Vc α)} (hl : ws.length ≤ big) : biD .sorted [dl n ws] = some (dl n (ws.mergeSort fun a b => decide (rowI n a ≤ rowI n b))) := by
  show (rowsOf (ws.map (dv n))).bind _ = _
  rw [rowsOf_dl]
  show (if (ws.map (rowI n)).length ≤ big then some (D.lst (((ws.map (rowI n)).mergeSort fun a b => decide (a ≤ b)).map dInts)) else none) = _
  rw [if_pos (by rw [List.length_map]; exact hl)]
  have := List.map_mergeSort (r := fun a b : Vc α => decide (rowI n a ≤ rowI n b)) (s := fun a b => decide (a ≤ b)) (f := rowI n) (l := ws) (fun a _ b _ => rfl)
  rw [← this, List.map_map]
  unfold dl
  congr 2
  exact List.map_congr_left fun w _ => dInts_rowI w
/-! ### spans -/
structure SpOk (n : Nat) (rs ws : List (Vc α)) : Prop where
  nd : ws.Nodup
  mem : ∀ x, x ∈ ws ↔ Span rs x
def newW (r : Vc α) (ws : List (Vc α)) (i : Nat) : List (Vc α) := (List.range i).flatMap fun f => ws.map fun w => av w (sv (GF.el f) r)
theorem span_snoc {rs : List (Vc α)} {r x : Vc α} : Span (rs ++ [r]) x ↔ ∃ w, ∃ c : α, Span rs w ∧ x = av w (sv c r) := by
  rw [Span.append]
  constructor
  · rintro ⟨u, v, hu, hv, rfl⟩
    obtain ⟨bs, h1, rfl⟩ := span_lin hv
    match bs, h1 with
    | [b], _ =>
      refine ⟨u, b, hu, ?_⟩
      show av u (av (sv b r) zv) = _
      funext i
      simp only [av, sv, zv]
      grind
  · rintro ⟨w, c, hw, rfl⟩
    exact ⟨w, sv c r, hw, (Span.mem (List.mem_singleton.mpr rfl)).sv c, rfl⟩
theorem SpOk.old {rs ws : List (Vc α)} {r : Vc α} (h : SpOk n rs ws) (hr : r ∈ ws) : SpOk n (rs ++ [r]) ws := ⟨h.nd, fun x => by
  rw [h.mem, span_snoc]
  constructor
  · intro hx
    exact ⟨x, 0, hx, by funext i; simp only [av, sv]; grind⟩
  · rintro ⟨w, c, hw, rfl⟩
    exact hw.av (((h.mem r).mp hr).sv c)⟩
theorem SpOk.new {rs ws : List (Vc α)} {r : Vc α} (h : SpOk n rs ws) (hr : r ∉ ws) : SpOk n (rs ++ [r]) (newW r ws (GF.q α)) := by
  constructor
  · refine List.pairwise_flatMap.mpr ⟨fun f _ => ?_, ?_⟩
    · refine List.pairwise_map.mpr (h.nd.imp fun {a b} hne e => hne ?_)
      funext i
      have := congrFun e i
      simp only [av] at this
      grind
    · refine List.pairwise_lt_range.imp_of_mem fun {f g} hf hg hfg x hx y hy e => hr ?_
      obtain ⟨a, ha, rfl⟩ := List.mem_map.mp hx
      obtain ⟨b, hb, rfl⟩ := List.mem_map.mp hy
      have hne : (GF.el f : α) - GF.el g ≠ 0 := fun h0 => by
        have e2 : (GF.el f : α) = GF.el g := by grind
        have := congrArg GF.no e2
        rw [GF.no_el f (List.mem_range.mp hf), GF.no_el g (List.mem_range.mp hg)] at this
        omega
      have hi := GF.mul_inv _ hne
      have ha := (h.mem a).mp ha
      have hb := (h.mem b).mp hb
      refine (h.mem r).mpr ?_
      have : r = sv (GF.inv ((GF.el f : α) - GF.el g)) (av b (sv (-1) a)) := by
        funext i
        have := congrFun e i
        simp only [av, sv] at this ⊢
        have h3 : ((GF.el f : α) - GF.el g) * r i = b i + -1 * a i := by grind
        rw [← h3]
        generalize (GF.el f : α) - GF.el g = d at hi
        grind
      rw [this]
      exact (hb.av (ha.sv _)).sv _
  · intro x
    rw [span_snoc]
    unfold newW
    rw [List.mem_flatMap]
    constructor
    · rintro ⟨f, _, hx⟩
      obtain ⟨w, hw, rfl⟩ := List.mem_map.mp hx
      exact ⟨w, GF.el f, (h.mem w).mp hw, rfl⟩
    · rintro ⟨w, c, hw, rfl⟩
      exact ⟨GF.no c, List.mem_range.mpr (GF.no_lt c), List.mem_map.mpr ⟨w, (h.mem w).mpr hw, by rw [GF.el_no]⟩⟩
theorem newW_succ (r : Vc α) (ws : List (Vc α)) (i : Nat) : newW r ws (i + 1) = newW r ws i ++ ws.map fun w => av w (sv (GF.el i) r) := by
  unfold newW
  rw [List.range_succ, List.flatMap_append]
  simp
theorem newW_len (r : Vc α) (ws : List (Vc α)) : ∀ i, (newW r ws i).length = i * ws.length
  | 0 => by simp [newW]
  | i + 1 => by rw [newW_succ, List.length_append, newW_len r ws i, List.length_map, Nat.succ_mul]
theorem span_sup {rs : List (Vc α)} (h : ∀ r ∈ rs, SupV n r) {x : Vc α} (hx : Span rs x) : SupV n x := fun i hi => hx.zeroAt fun r hr => h r hr i hi
theorem sup_len {ws : List (Vc α)} (nd : ws.Nodup) (h : ∀ w ∈ ws, SupV n w) : ws.length ≤ GF.q α ^ n := by
  rw [← allV_len]
  exact sub_len nd fun x hx => mem_allV.mpr fun i hi => h x hx i hi
theorem add_int {i j : Int} : opD .add (.int i) (.int j) = some (.int (i + j)) := rfl
theorem ev_lspan (rs : List (Vc α)) (hs : ∀ r ∈ rs, SupV n r) (hn : n ≤ 16) (hq : GF.q α ≤ 16) (hB : GF.q α ^ n ≤ 300) (hl : rs.length ≤ 1000) : ∃ ws, SpOk n rs ws ∧ Ev 1 F_law_span [dl n rs, ni n, tabA α, tabM α] (dl n ws) := by
  suffices h : ∃ d, (∃ ws, SpOk n rs ws ∧ d = dl n ws) ∧ Ev 1 F_law_span [dl n rs, ni n, tabA α, tabM α] d by
    obtain ⟨d, ⟨ws, h1, rfl⟩, h4⟩ := h
    exact ⟨ws, h1, h4⟩
  refine ev_some (L := 0) ?_
  generalize runF 0 = M0
  refine run_ws_ex (by decide) ⟨rfl, rfl⟩ ?_
  show WS _ t_law_span [.sh (dl n rs), .sh (ni n), .sh (tabA α), .sh (tabM α), .un, .un, .un, .un, .un, .un] _ _
  unfold t_law_span
  have mz := mul_zero_list (α := α) (show n ≤ 16777216 by omega)
  repeat (first | refine we_int ?_ | refine we_bin ?_ | refine wa_nil ?_ | refine wa_cons ?_ | refine we_lst ?_ | refine ws_cons ?_ | refine ws_setV rfl ?_)
  refine ⟨by simp [big], ?_⟩
  repeat (first | refine we_sh rfl ?_ | refine wa_nil ?_ | with_reducible refine lf (mz) ?_)
  refine ⟨by simp [big], ?_⟩
  repeat (first | refine ws_cons ?_)
  refine ws_forL ?_
  repeat (first | refine we_sh rfl ?_ | refine ww_lst ?_)
  refine ⟨_, rfl, rfl, Vc α, rs, dv n, fun pre ρ => ∃ ws x4 x5 x6 x7 x8, ρ = [.sh (dl n rs), .sh (ni n), .sh (tabA α), .sh (tabM α), x4, x5, x6, x7, x8, .un] ∧ (x4 = .sh (dl n ws) ∨ x4 = .ow (ws.map (dv n))) ∧ SpOk n pre ws, rfl, ⟨[zv], _, _, _, _, _, rfl, .inr rfl, ⟨by simp, fun x => ?_⟩⟩, ?_, ?_⟩
  · rw [List.mem_singleton]
    constructor
    · rintro rfl; exact .zero
    · intro hx
      obtain ⟨bs, h1, rfl⟩ := span_lin hx
      rfl
  · rintro ρ' ⟨ws, x4, x5, x6, x7, x8, rfl, h4, ok⟩
    have wl := sup_len ok.nd fun w hw => span_sup hs ((ok.mem w).mp hw)
    have so := sorted_dl (n := n) (ws := ws) (by simp only [big]; omega)
    have res : ∃ ws', SpOk n rs ws' ∧ dl n (ws.mergeSort fun a b => decide (rowI n a ≤ rowI n b)) = dl n ws' := ⟨_, ⟨(List.mergeSort_perm ws _).nodup_iff.mpr ok.nd, fun x => by rw [(List.mergeSort_perm ws _).mem_iff, ok.mem]⟩, rfl⟩
    rcases h4 with rfl | rfl
    · repeat (first | refine we_sh rfl ?_ | refine wa_nil ?_ | refine wa_cons ?_ | refine we_bi ?_ | refine ws_cons ?_ | refine ws_ret ?_ | with_reducible refine lf (so) ?_)
      exact res
    · have so : biD .sorted [.lst (ws.map (dv n))] = _ := so
      repeat (first | refine we_ow rfl ?_ | refine wa_nil ?_ | refine wa_cons ?_ | refine we_bi ?_ | refine ws_cons ?_ | refine ws_ret ?_ | with_reducible refine lf (so) ?_)
      exact res
  rintro pre r post ρ e ⟨ws, x4, x5, x6, x7, x8, rfl, h4, ok⟩
  have hr : SupV n r := hs r (by rw [e]; simp)
  have hw : ∀ w ∈ ws, SupV n w := fun w hw => span_sup (fun r' hr' => hs r' (by rw [e]; exact List.mem_append_left _ hr')) ((ok.mem w).mp hw)
  have wl := sup_len ok.nd hw
  refine ⟨_, rfl, ?_⟩
  have c1 := nin_dv hr hw
  have c1' : cmpD .nin (dv n r) (.lst (ws.map (dv n))) = some (!decide (r ∈ ws)) := c1
  have main : WS M0 (.cons (.ite (.cmp .nin (.nm 5) (.nm 4)) (.cons (.set 6 (.lst .nil)) (.cons (.for_ (.one 7) .rg1 (.cons (.bi .len (.cons (.nm 2) .nil)) .nil) (.cons (.for_ (.one 8) .lst (.nm 4) (.cons (.app 6 (.comp (.sub (.sub (.nm 2) (.sub (.nm 8) (.nm 9))) (.sub (.sub (.nm 3) (.nm 7)) (.sub (.nm 5) (.nm 9)))) (.one 9) .rg1 (.cons (.nm 1) .nil) .nil)) .nil)) .nil)) (.cons (.set 4 (.nm 6)) .nil))) .nil) .nil) [.sh (dl n rs), .sh (ni n), .sh (tabA α), .sh (tabM α), x4, .sh (dv n r), x6, x7, x8, .un] (fun ρ' => ∃ ws x4 x5 x6 x7 x8, ρ' = [.sh (dl n rs), .sh (ni n), .sh (tabA α), .sh (tabM α), x4, x5, x6, x7, x8, .un] ∧ (x4 = .sh (dl n ws) ∨ x4 = .ow (ws.map (dv n))) ∧ SpOk n (pre ++ [r]) ws) fun d => ∃ ws, SpOk n rs ws ∧ d = dl n ws := by
    have tst : WT M0 (.cmp .nin (.nm 5) (.nm 4)) [.sh (dl n rs), .sh (ni n), .sh (tabA α), .sh (tabM α), x4, .sh (dv n r), x6, x7, x8, .un] fun b => b = !decide (r ∈ ws) := by
      rcases h4 with rfl | rfl
      · repeat (first | refine we_sh rfl ?_ | refine wt_cmp ?_ | with_reducible refine lf (c1) ?_)
        rfl
      · repeat (first | refine we_sh rfl ?_ | refine we_ow rfl ?_ | refine wt_cmp ?_ | with_reducible refine lf (c1') ?_)
        rfl
    refine ws_cons (ws_ite ?_)
    obtain ⟨v, L', e1, e2⟩ := tst
    refine ⟨v, L', e1, ?_⟩
    subst e2
    refine ⟨fun z => ?_, fun z => ?_⟩
    · have z : r ∉ ws := by
        intro h
        rw [decide_eq_true h] at z
        cases z
      repeat (first | refine wa_nil ?_ | refine we_lst ?_ | refine ws_cons ?_ | refine ws_setV rfl ?_)
      refine ⟨by simp [big], ?_⟩
      repeat (first | refine ws_cons ?_)
      refine ws_forR ?_
      repeat (first | refine we_sh rfl ?_ | refine wa_nil ?_ | refine wa_cons ?_ | refine we_bi ?_ | with_reducible refine lf (len_tabA) ?_ | refine ⟨rfl, ?_⟩)
      refine ⟨GF.q α, rfl, by omega, fun i ρ => ∃ x4 x7 x8, ρ = [.sh (dl n rs), .sh (ni n), .sh (tabA α), .sh (tabM α), x4, .sh (dv n r), .ow ((newW r ws i).map (dv n)), x7, x8, .un] ∧ (x4 = .sh (dl n ws) ∨ x4 = .ow (ws.map (dv n))), ⟨x4, x7, x8, rfl, h4⟩, ?_, ?_⟩
      · rintro ρ' ⟨x4, x7, x8, rfl, _⟩
        repeat (first | refine we_ow rfl ?_ | refine ws_nil ?_ | refine ws_cons ?_ | refine ws_setV rfl ?_)
        exact ⟨newW r ws (GF.q α), _, _, _, _, _, rfl, .inl rfl, ok.new z⟩
      rintro i ρ hi ⟨x4, x7, x8, rfl, h4⟩
      refine ⟨_, rfl, ?_⟩
      have hfac : ni i = ei (GF.el i : α) := by
        show D.int _ = D.int _
        rw [GF.no_el i hi]
      refine ws_cons (ws_forNm (its := ws.map (dv n)) (by rcases h4 with rfl | rfl; exact .inl rfl; exact .inr rfl) ?_)
      refine ⟨Vc α, ws, dv n, fun qs ρ => ∃ x8, ρ = [.sh (dl n rs), .sh (ni n), .sh (tabA α), .sh (tabM α), .sh (dl n ws), .sh (dv n r), .ow ((newW r ws i ++ qs.map fun w => av w (sv (GF.el i) r)).map (dv n)), .sh (ni i), x8, .un], rfl, ⟨x8, by rw [List.map_nil, List.append_nil]; rfl⟩, ?_, ?_⟩
      · rintro ρ' ⟨x8, rfl⟩
        rw [← newW_succ]
        repeat (first | refine ws_nil ?_)
        exact ⟨_, _, _, rfl, .inl rfl⟩
      rintro qs w post2 ρ e3 ⟨x8, rfl⟩
      refine ⟨_, rfl, ?_⟩
      repeat (first | refine ws_cons ?_ | refine ws_appV ?_)
      refine we_map rfl ?_
      repeat (first | refine we_sh rfl ?_ | refine wa_nil ?_ | refine wa_cons ?_ | refine ww_rg1 ?_)
      refine ⟨n, rfl, by omega, rfl, Nat, List.range n, ni, fun j => ei (av w (sv (GF.el i) r) j), by unfold rgD; simp, by simp [big]; omega, fun j hj => ⟨_, rfl, ?_⟩, ?_⟩
      · have hj := List.mem_range.mp hj
        have it := idx_tabM (GF.el i : α)
        rw [← hfac] at it
        repeat (first | refine we_sh rfl ?_ | refine we_subS rfl ?_ | refine we_sub rfl ?_ | with_reducible refine lf (idx_dv hj) ?_ | with_reducible refine lf (idx_tabA _) ?_ | with_reducible refine lf (it) ?_ | with_reducible refine lf (idx_rowM _ _) ?_ | with_reducible refine lf (idx_rowA _ _) ?_ | refine ⟨rfl, ?_⟩)
        rfl
      have nl := newW_len r ws i
      have h16 : i * ws.length ≤ 16 * 300 := Nat.mul_le_mul (by omega) (by omega)
      have ql : qs.length ≤ ws.length := by rw [e3]; simp
      repeat (first | refine ⟨rfl, ?_⟩)
      refine ⟨_, rfl, ?_, ?_⟩
      · rw [List.length_map, List.length_append, List.length_map]
        simp only [big]
        omega
      have e9 : (newW r ws i ++ qs.map fun w => av w (sv (GF.el i) r)) ++ [av w (sv (GF.el i) r)] = newW r ws i ++ (qs ++ [w]).map fun w => av w (sv (GF.el i) r) := by simp
      show WS _ _ [_, _, _, _, _, _, Sl.ow ((newW r ws i ++ qs.map fun w => av w (sv (GF.el i) r)).map (dv n) ++ [dv n (av w (sv (GF.el i) r))]), _, _, _] _ _
      rw [append_map, e9]
      repeat (first | refine ws_nil ?_)
      exact ⟨_, rfl⟩
    · have z : r ∈ ws := by
        apply Classical.byContradiction
        intro h
        rw [decide_eq_false h] at z
        cases z
      repeat (first | refine ws_nil ?_)
      exact ⟨ws, x4, _, _, _, _, rfl, h4, ok.old z⟩
  exact main
end
end MN
end S_MnLd
section S_MnLe
set_option maxRecDepth 100000
/-! The law's orthogonal words, extended words, kept words, pairs. -/
namespace MN
open LA
section
variable {α : Type} [GF α] {n m k L : Nat} {fd : List D}
theorem WS.mono_N {M : Mo} {m : MS} {ρ : En} {N N' : En → Prop} {R : D → Prop} (h : WS M m ρ N R) (f : ∀ ρ', N ρ' → N' ρ') : WS M m ρ N' R := by
  obtain ⟨o, e, h⟩ := h
  refine ⟨o, e, ?_⟩
  cases o with
  | nx ρ' => exact f _ h
  | rt r => exact h
theorem span_uv {x : Vc α} : Span (rl n (uv : Nat → Vc α)) x ↔ SupV n x := by
  constructor
  · intro hx
    refine span_sup (fun r hr => ?_) hx
    obtain ⟨t, ht, rfl⟩ := mem_rl.mp hr
    intro i hi
    unfold uv
    rw [if_neg (by omega)]
  · intro hx
    have e : phiM n (uv : Nat → Vc α) x = x := by
      funext c
      unfold phiM dot
      by_cases hc : c < n
      · rw [sumN_one hc fun i _ hne => by show x i * (if i = c then 1 else 0) = 0; rw [if_neg hne]; grind]
        show x c * (if c = c then 1 else 0) = x c
        rw [if_pos rfl]
        grind
      · rw [sumN_zero fun i hi => by show x i * (if i = c then 1 else 0) = 0; rw [if_neg (by omega)]; grind, hx c (by omega)]
    rw [← e]
    exact phiM_span _ _
def gd (n : Nat) (ws : List (Vc α)) (x : Vc α) : Bool := ws.all fun w => decide (dot n w x = 0)
theorem gd_snoc (ws : List (Vc α)) (w x : Vc α) : gd n (ws ++ [w]) x = (gd n ws x && decide (dot n w x = 0)) := by
  unfold gd
  rw [List.all_append]
  simp
structure OrOk (n : Nat) (ws os : List (Vc α)) : Prop where
  nd : os.Nodup
  mem : ∀ x, x ∈ os ↔ SupV n x ∧ ∀ w ∈ ws, dot n w x = 0
theorem ev_lorth (ws : List (Vc α)) (hn : n ≤ 16) (hq : GF.q α ≤ 16) (hB : GF.q α ^ n ≤ 300) : ∃ os, OrOk n ws os ∧ Ev 2 F_law_orthogonal [dl n ws, ni n, tabA α, tabM α] (dl n os) := by
  obtain ⟨al, a1, a2⟩ := ev_lspan (rl n (uv : Nat → Vc α)) (fun r hr => span_uv.mp (.mem hr)) hn hq hB (by simp [rl]; omega)
  refine ⟨al.filter (gd n ws), ⟨List.Nodup.sublist List.filter_sublist a1.nd, fun x => ?_⟩, run_k fun k hk => run_ws (by decide) ⟨rfl, rfl⟩ ?_⟩
  · rw [List.mem_filter, a1.mem, span_uv]
    unfold gd
    rw [List.all_eq_true]
    simp only [decide_eq_true_eq]
  show WS _ t_law_orthogonal [.sh (dl n ws), .sh (ni n), .sh (tabA α), .sh (tabM α), .un, .un, .un, .un, .un, .un] _ _
  unfold t_law_orthogonal
  have wl := sup_len a1.nd fun w hw => span_uv.mp ((a1.mem w).mp hw)
  repeat (first | refine wa_nil ?_ | refine we_lst ?_ | refine ws_cons ?_ | refine ws_setV rfl ?_)
  refine ⟨by simp [big], ?_⟩
  repeat (first | refine ws_cons ?_)
  refine ws_forL ?_
  repeat (first | refine we_sh rfl ?_ | refine wa_nil ?_ | refine wa_cons ?_ | refine we_call ?_ | refine ww_lst ?_ | refine lf (ev_lidentity (α := α) hn k (by omega)) ?_ | refine lf (a2 k (by omega)) ?_)
  refine ⟨_, rfl, rfl, Vc α, al, dv n, fun pre ρ => ∃ x5 x6 x7 x8 x9, ρ = [.sh (dl n ws), .sh (ni n), .sh (tabA α), .sh (tabM α), .ow ((pre.filter (gd n ws)).map (dv n)), x5, x6, x7, x8, x9], rfl, ⟨_, _, _, _, _, rfl⟩, ?_, ?_⟩
  · rintro ρ' ⟨x5, x6, x7, x8, x9, rfl⟩
    repeat (first | refine we_ow rfl ?_ | refine ws_cons ?_ | refine ws_ret ?_)
    rfl
  rintro pre x post ρ e ⟨x5, x6, x7, x8, x9, rfl⟩
  refine ⟨_, rfl, ?_⟩
  repeat (first | refine we_bl ?_ | refine ws_cons ?_ | refine ws_setV rfl ?_)
  refine ws_forL ?_
  repeat (first | refine we_sh rfl ?_ | refine ww_lst ?_)
  refine ⟨_, rfl, rfl, Vc α, ws, dv n, fun qs ρ => ∃ x7 x8 x9, ρ = [.sh (dl n ws), .sh (ni n), .sh (tabA α), .sh (tabM α), .ow ((pre.filter (gd n ws)).map (dv n)), .sh (dv n x), .sh (.bl (gd n qs x)), x7, x8, x9], rfl, ⟨_, _, _, rfl⟩, ?_, ?_⟩
  · rintro ρ' ⟨x7, x8, x9, rfl⟩
    repeat (first | refine we_sh rfl ?_ | refine wtv ?_ | refine ws_cons ?_ | refine ws_ite ?_ | refine wt_val ?_)
    refine ⟨fun z => ?_, fun z => ?_⟩
    · have pl : (pre.filter (gd n ws)).length ≤ al.length := by
        refine Nat.le_trans (List.length_filter_le _ _) ?_
        rw [e]
        simp
      repeat (first | refine we_sh rfl ?_ | refine ws_cons ?_ | refine ws_appV ?_ | refine ⟨rfl, ?_⟩)
      refine ⟨_, rfl, by rw [List.length_map]; simp only [big]; omega, ?_⟩
      have e9 : pre.filter (gd n ws) ++ [x] = (pre ++ [x]).filter (gd n ws) := by
        rw [List.filter_append, List.filter_cons_of_pos z, List.filter_nil]
      show WS _ _ [_, _, _, _, Sl.ow ((pre.filter (gd n ws)).map (dv n) ++ [dv n x]), _, _, _, _, _] _ _
      rw [append_map, e9]
      repeat (first | refine ws_nil ?_)
      exact ⟨_, _, _, _, _, rfl⟩
    · have e9 : pre.filter (gd n ws) = (pre ++ [x]).filter (gd n ws) := by
        rw [List.filter_append, List.filter_cons_of_neg (by rw [z]; simp), List.filter_nil, List.append_nil]
      rw [e9]
      repeat (first | refine ws_nil ?_)
      exact ⟨_, _, _, _, _, rfl⟩
  rintro qs w post2 ρ e2 ⟨x7, x8, x9, rfl⟩
  refine ⟨_, rfl, ?_⟩
  repeat (first | refine we_sh rfl ?_ | refine wtv ?_ | refine ws_cons ?_ | refine ws_ite ?_ | refine wt_val ?_)
  refine ⟨fun z => ?_, fun z => ?_⟩
  · have z : gd n qs x = true := z
    repeat (first | refine we_int ?_ | refine ws_cons ?_ | refine ws_setV rfl ?_)
    refine ws_forR ?_
    repeat (first | refine we_sh rfl ?_ | refine wa_nil ?_ | refine wa_cons ?_ | refine ⟨rfl, ?_⟩)
    refine ⟨n, rfl, by omega, fun i ρ => ∃ x9, ρ = [.sh (dl n ws), .sh (ni n), .sh (tabA α), .sh (tabM α), .ow ((pre.filter (gd n ws)).map (dv n)), .sh (dv n x), .sh (.bl (gd n qs x)), .sh (dv n w), .sh (ei (sumN (fun i => w i * x i) i)), x9], ⟨x9, by show _ = [_, _, _, _, _, _, _, _, Sl.sh (ei (0 : α)), _]; rw [← ei0]; rfl⟩, ?_, ?_⟩
    · rintro ρ' ⟨x9, rfl⟩
      repeat (first | refine we_sh rfl ?_ | refine we_int ?_ | refine wt_cmp ?_ | refine we_cmp ?_ | refine ws_nil ?_ | refine ws_cons ?_ | refine ws_setV rfl ?_ | with_reducible refine lf (eq0) ?_)
      refine ⟨.sh (dv n w), .sh (ei (sumN (fun i => w i * x i) n)), x9, ?_⟩
      rw [gd_snoc, z]
      rfl
    rintro i ρ hi ⟨x9, rfl⟩
    refine ⟨_, rfl, ?_⟩
    repeat (first | refine we_sh rfl ?_ | refine we_subS rfl ?_ | refine we_sub rfl ?_ | refine ws_nil ?_ | refine ws_cons ?_ | refine ws_setV rfl ?_ | with_reducible refine lf (idx_tabA _) ?_ | with_reducible refine lf (idx_dv hi) ?_ | with_reducible refine lf (idx_tabM _) ?_ | with_reducible refine lf (idx_rowM _ _) ?_ | with_reducible refine lf (idx_rowA _ _) ?_)
    exact ⟨_, rfl⟩
  · have z : gd n qs x = false := z
    repeat (first | refine ws_nil ?_)
    refine ⟨.sh (dv n w), x8, x9, ?_⟩
    rw [gd_snoc, z]
    rfl
theorem place_at (y : D) : ∀ (xs : List D) (i m : Nat) (d : D), xs[i]? = some d → eqD d y = true → (∀ j, j < i → ∀ d, xs[j]? = some d → eqD d y = false) → placeD y xs m = some (m + i)
  | [], i, m, d, h, _, _ => by simp at h
  | x :: xs, 0, m, d, h, h1, _ => by
    cases h
    show (if eqD x y then some m else placeD y xs (m + 1)) = _
    rw [if_pos h1]
    rfl
  | x :: xs, i + 1, m, d, h, h1, h2 => by
    show (if eqD x y then some m else placeD y xs (m + 1)) = _
    rw [h2 0 (by omega) x rfl, if_neg (by simp), place_at y xs i (m + 1) d h h1 fun j hj d hd => h2 (j + 1) (by omega) d hd]
    congr 1
    omega
theorem place_neg (a : α) : placeD (.int 0) ((List.range (GF.q α)).map fun b => ei (a + GF.el b)) 0 = some (GF.no (-a)) := by
  have hp := place_at (.int 0) ((List.range (GF.q α)).map fun b => ei (a + GF.el b)) (GF.no (-a)) 0 (ei (a + GF.el (GF.no (-a)))) (tab_get (GF.no_lt _)) (by rw [GF.el_no, ei0 (α := α), eqD_ei, decide_eq_true]; grind) fun j hj d hd => by
    have hlt := GF.no_lt (-a)
    have hjq : j < GF.q α := by omega
    rw [tab_get hjq] at hd
    cases hd
    rw [ei0 (α := α), eqD_ei, decide_eq_false]
    intro h0
    have : (GF.el j : α) = -a := by grind
    rw [← this, GF.no_el j hjq] at hj
    omega
  rw [hp, Nat.zero_add]
theorem okP_row (a : α) : okP 4 (rowA a) = true := by
  show ((List.range (GF.q α)).map fun b => ei (a + GF.el b)).all (okP 3) = true
  rw [List.all_map]
  exact List.all_eq_true.mpr fun x _ => rfl
theorem ev_lext (ws : List (Vc α)) (hn : n ≤ 16) (hl : ws.length ≤ 1000) : Ev 1 F_law_extended [dl n ws, tabA α] (dl (n + 1) (ws.map (ext n))) := by
  refine run_k fun k hk => run_ws (by decide) ⟨rfl, rfl⟩ ?_
  show WS _ t_law_extended [.sh (dl n ws), .sh (tabA α), .un, .un, .un, .un] _ _
  unfold t_law_extended
  repeat (first | refine wa_nil ?_ | refine we_lst ?_ | refine ws_cons ?_ | refine ws_setV rfl ?_)
  refine ⟨by simp [big], ?_⟩
  repeat (first | refine ws_cons ?_)
  refine ws_forL ?_
  repeat (first | refine we_sh rfl ?_ | refine ww_lst ?_)
  refine ⟨_, rfl, rfl, Vc α, ws, dv n, fun pre ρ => ∃ x3 x4 x5, ρ = [.sh (dl n ws), .sh (tabA α), .ow ((pre.map (ext n)).map (dv (n + 1))), x3, x4, x5], rfl, ⟨_, _, _, rfl⟩, ?_, ?_⟩
  · rintro ρ' ⟨x3, x4, x5, rfl⟩
    repeat (first | refine we_ow rfl ?_ | refine ws_cons ?_ | refine ws_ret ?_)
    rfl
  rintro pre w post ρ e ⟨x3, x4, x5, rfl⟩
  refine ⟨_, rfl, ?_⟩
  repeat (first | refine we_int ?_ | refine ws_cons ?_ | refine ws_setV rfl ?_)
  refine ws_forL ?_
  repeat (first | refine we_sh rfl ?_ | refine ww_lst ?_)
  refine ⟨_, rfl, rfl, Nat, List.range n, fun i => ei (w i), fun qs ρ => ∃ x5, ρ = [.sh (dl n ws), .sh (tabA α), .ow ((pre.map (ext n)).map (dv (n + 1))), .sh (dv n w), .sh (ei (sumN w qs.length)), x5], rfl, ⟨x5, by show _ = [_, _, _, _, Sl.sh (ei (0 : α)), _]; rw [← ei0]; rfl⟩, ?_, ?_⟩
  · rintro ρ' ⟨x5, rfl⟩
    rw [List.length_range]
    repeat (first | refine we_sh rfl ?_ | refine we_int ?_ | refine we_bin ?_ | refine wa_cons ?_ | refine we_idx ?_ | refine we_subS rfl ?_ | refine we_lst ?_ | refine ws_cons ?_ | refine ws_appV ?_ | with_reducible refine lf (idx_tabA _) ?_)
    refine ⟨_, GF.no (-(sumN w n)), rfl, okP_row _, rfl, place_neg _, ?_⟩
    repeat (first | refine wa_nil ?_)
    refine ⟨by simp [big], ?_⟩
    have a9 := add_last (n := n) (u := w) (a := -(sumN w n)) (by omega)
    rw [ext_dv] at a9
    repeat (first | with_reducible refine lf (a9) ?_ | refine ⟨rfl, ?_⟩)
    have := congrArg List.length e
    refine ⟨_, rfl, by simp [big] at this ⊢; omega, ?_⟩
    have e9 : pre.map (ext n) ++ [ext n w] = (pre ++ [w]).map (ext n) := by simp
    show WS _ _ [_, _, Sl.ow ((pre.map (ext n)).map (dv (n + 1)) ++ [dv (n + 1) (ext n w)]), _, _, _] _ _
    rw [append_map, e9]
    repeat (first | refine ws_nil ?_)
    exact ⟨_, _, _, rfl⟩
  rintro qs i post2 ρ e2 ⟨x5, rfl⟩
  obtain ⟨rfl, hq⟩ := range_split e2
  refine ⟨_, rfl, ?_⟩
  repeat (first | refine we_sh rfl ?_ | refine we_subS rfl ?_ | refine we_sub rfl ?_ | refine ws_nil ?_ | refine ws_cons ?_ | refine ws_setV rfl ?_ | with_reducible refine lf (idx_tabA _) ?_ | with_reducible refine lf (idx_rowA _ _) ?_)
  refine ⟨.sh (ei (w qs.length)), ?_⟩
  rw [List.length_append]
  rfl
structure KeOk (n : Nat) (ps : List Nat) (zero : Bool) (ws os : List (Vc α)) : Prop where
  nd : os.Nodup
  mem : ∀ x, x ∈ os ↔ ∃ w ∈ ws, (zero = true → ∀ p ∈ ps, w p = 0) ∧ x = sel (kept n ps) w
theorem KeOk.len {ps : List Nat} {zero : Bool} {ws os : List (Vc α)} (h : KeOk n ps zero ws os) : os.length ≤ ws.length := by
  have := sub_len h.nd (l1 := ws.map (sel (kept n ps))) fun x hx => by
    obtain ⟨w, hw, _, rfl⟩ := (h.mem x).mp hx
    exact List.mem_map.mpr ⟨w, hw, rfl⟩
  simpa using this
theorem ev_lkept (ws : List (Vc α)) (ps : List Nat) (zero : Bool) (hp : ∀ p ∈ ps, p < n) (hpl : ps.length ≤ 100) (hn : n ≤ 16) (hl : ws.length ≤ 1000) : ∃ os, KeOk n ps zero ws os ∧ Ev 1 F_law_kept [dl n ws, .lst (ps.map ni), .bl zero] (dl (kept n ps).length os) := by
  suffices h : ∃ d, (∃ os, KeOk n ps zero ws os ∧ d = dl (kept n ps).length os) ∧ Ev 1 F_law_kept [dl n ws, .lst (ps.map ni), .bl zero] d by
    obtain ⟨d, ⟨ws, h1, rfl⟩, h4⟩ := h
    exact ⟨ws, h1, h4⟩
  refine ev_some (L := 0) ?_
  generalize runF 0 = M0
  refine run_ws_ex (by decide) ⟨rfl, rfl⟩ ?_
  show WS _ t_law_kept [.sh (dl n ws), .sh (.lst (ps.map ni)), .sh (.bl zero), .un, .un, .un, .un, .un] _ _
  unfold t_law_kept
  repeat (first | refine wa_nil ?_ | refine we_lst ?_ | refine ws_cons ?_ | refine ws_setV rfl ?_)
  refine ⟨by simp [big], ?_⟩
  repeat (first | refine ws_cons ?_)
  refine ws_forL ?_
  repeat (first | refine we_sh rfl ?_ | refine ww_lst ?_)
  refine ⟨_, rfl, rfl, Vc α, ws, dv n, fun pre ρ => ∃ os x4 x5 x6, ρ = [.sh (dl n ws), .sh (.lst (ps.map ni)), .sh (.bl zero), .ow (os.map (dv (kept n ps).length)), x4, x5, x6, .un] ∧ KeOk n ps zero pre os, rfl, ⟨[], _, _, _, rfl, ⟨List.nodup_nil, fun x => by simp⟩⟩, ?_, ?_⟩
  · rintro ρ' ⟨os, x4, x5, x6, rfl, ok⟩
    repeat (first | refine we_ow rfl ?_ | refine ws_cons ?_ | refine ws_ret ?_)
    exact ⟨os, ok, rfl⟩
  rintro pre w post ρ e ⟨os, x4, x5, x6, rfl, ok⟩
  refine ⟨_, rfl, ?_⟩
  repeat (first | refine ws_cons ?_ | refine ws_setV rfl ?_)
  refine we_filt rfl ?_
  repeat (first | refine we_sh rfl ?_ | refine wa_nil ?_ | refine wa_cons ?_ | refine we_bi ?_ | refine ww_rg1 ?_ | refine lf len_dv ?_)
  refine ⟨n, rfl, by omega, rfl, Nat, List.range n, ni, fun i => !ps.contains i, fun i => ei (w i), by unfold rgD; simp, by simp [big]; omega, fun i hi => ⟨_, rfl, ?_, fun _ => ?_⟩, ?_⟩
  · repeat (first | refine we_sh rfl ?_ | refine wt_cmp ?_ | with_reducible refine lf (nin_nat) ?_)
    rfl
  · repeat (first | refine we_sh rfl ?_ | refine we_subS rfl ?_ | with_reducible refine lf (idx_dv (List.mem_range.mp hi)) ?_ | refine ⟨rfl, ?_⟩)
    rfl
  have e1 : D.lst (((List.range n).filter fun i => !ps.contains i).map fun i => ei (w i)) = dv (kept n ps).length (sel (kept n ps) w) := sel_dv _ _
  rw [e1]
  show WS _ _ [.sh (dl n ws), .sh (.lst (ps.map ni)), .sh (.bl zero), .ow (os.map (dv (kept n ps).length)), .sh (dv n w), .ow ((List.range (kept n ps).length).map fun i => ei (sel (kept n ps) w i)), x6, .un] _ _
  repeat (first | refine ws_cons ?_ | refine ws_setV rfl ?_)
  refine we_filt rfl ?_
  repeat (first | refine we_sh rfl ?_ | refine ww_lst ?_)
  refine ⟨_, rfl, rfl, Nat, ps, ni, fun p => !decide (w p = 0), fun p => ei (w p), rfl, by simp only [big]; omega, fun i hi => ⟨_, rfl, ?_, fun _ => ?_⟩, ?_⟩
  · repeat (first | refine we_sh rfl ?_ | refine we_int ?_ | refine we_subS rfl ?_ | refine wt_cmp ?_ | with_reducible refine lf (idx_dv (hp i hi)) ?_ | with_reducible refine lf (ne0) ?_)
    rfl
  · repeat (first | refine we_sh rfl ?_ | refine we_subS rfl ?_ | with_reducible refine lf (idx_dv (hp i hi)) ?_ | refine ⟨rfl, ?_⟩)
    rfl
  show WS _ _ [.sh (dl n ws), .sh (.lst (ps.map ni)), .sh (.bl zero), .ow (os.map (dv (kept n ps).length)), .sh (dv n w), .ow ((List.range (kept n ps).length).map fun i => ei (sel (kept n ps) w i)), .ow ((ps.filter fun p => !decide (w p = 0)).map fun p => ei (w p)), .un] _ _
  have hs1 : SupV (kept n ps).length (sel (kept n ps) w) := fun i hi => sel_sup hi
  have hs2 : ∀ o ∈ os, SupV (kept n ps).length o := fun o ho => by
    obtain ⟨v, _, _, rfl⟩ := (ok.mem o).mp ho
    exact fun i hi => sel_sup hi
  have c1 : cmpD .nin (.lst ((List.range (kept n ps).length).map fun i => ei (sel (kept n ps) w i))) (.lst (os.map (dv (kept n ps).length))) = some (!decide (sel (kept n ps) w ∈ os)) := nin_dv hs1 hs2
  have skip : (sel (kept n ps) w ∈ os ∨ (zero = true ∧ ¬ ∀ p ∈ ps, w p = 0)) → KeOk n ps zero (pre ++ [w]) os := fun h => ⟨ok.nd, fun x => by
    rw [ok.mem]
    constructor
    · rintro ⟨v, hv, h1, h2⟩
      exact ⟨v, List.mem_append_left _ hv, h1, h2⟩
    · rintro ⟨v, hv, h1, rfl⟩
      rcases List.mem_append.mp hv with hv | hv
      · exact ⟨v, hv, h1, rfl⟩
      · rw [List.mem_singleton.mp hv] at h1 ⊢
        rcases h with h | ⟨h, h'⟩
        · exact (ok.mem _).mp h
        · exact absurd (h1 h) h'⟩
  have take : sel (kept n ps) w ∉ os → (zero = true → ∀ p ∈ ps, w p = 0) → KeOk n ps zero (pre ++ [w]) (os ++ [sel (kept n ps) w]) := fun h1 h2 => ⟨by
    rw [List.nodup_append]
    exact ⟨ok.nd, by simp, fun a ha b hb e => h1 (by rw [List.mem_singleton.mp hb] at e; rw [← e]; exact ha)⟩, fun x => by
    rw [List.mem_append, ok.mem]
    constructor
    · rintro (⟨v, hv, h3, h4⟩ | h)
      · exact ⟨v, List.mem_append_left _ hv, h3, h4⟩
      · exact ⟨w, List.mem_append_right _ (List.mem_singleton.mpr rfl), h2, List.mem_singleton.mp h⟩
    · rintro ⟨v, hv, h3, rfl⟩
      rcases List.mem_append.mp hv with hv | hv
      · exact .inl ⟨v, hv, h3, rfl⟩
      · rw [List.mem_singleton.mp hv]
        exact .inr (List.mem_singleton.mpr rfl)⟩
  have ol := ok.len
  have pl := congrArg List.length e
  rw [List.length_append, List.length_cons] at pl
  have c2 : cmpD .eq (ni ((ps.filter fun p => !decide (w p = 0)).map fun p => ei (w p)).length) (.int 0) = some (decide (∀ p ∈ ps, w p = 0)) := by
    rw [eq_nat0, List.length_map]
    congr 1
    by_cases h : ∀ p ∈ ps, w p = 0
    · rw [decide_eq_true h, decide_eq_true]
      rw [List.length_eq_zero_iff, List.filter_eq_nil_iff]
      intro p hp
      rw [decide_eq_true (h p hp)]
      simp
    · rw [decide_eq_false h, decide_eq_false]
      intro h0
      rw [List.length_eq_zero_iff, List.filter_eq_nil_iff] at h0
      refine h fun p hp => ?_
      have := h0 p hp
      simpa using this
  have c3 : cmpD .eq (ni (ps.filter fun p => !decide (w p = 0)).length) (.int 0) = some (decide (∀ p ∈ ps, w p = 0)) := by
    rw [← c2, List.length_map]
  have add_ : sel (kept n ps) w ∉ os → (zero = true → ∀ p ∈ ps, w p = 0) → WS M0 (.cons (.app 3 (.nm 5)) .nil) [.sh (dl n ws), .sh (.lst (ps.map ni)), .sh (.bl zero), .ow (os.map (dv (kept n ps).length)), .sh (dv n w), .ow ((List.range (kept n ps).length).map fun i => ei (sel (kept n ps) w i)), .ow ((ps.filter fun p => !decide (w p = 0)).map fun p => ei (w p)), .un] (fun ρ' => ∃ os x4 x5 x6, ρ' = [.sh (dl n ws), .sh (.lst (ps.map ni)), .sh (.bl zero), .ow (os.map (dv (kept n ps).length)), x4, x5, x6, .un] ∧ KeOk n ps zero (pre ++ [w]) os) fun d => ∃ os, KeOk n ps zero ws os ∧ d = dl (kept n ps).length os := fun h1 h2 => by
    repeat (first | refine we_ow rfl ?_ | refine ws_cons ?_ | refine ws_appV ?_ | refine ⟨rfl, ?_⟩)
    refine ⟨_, rfl, by rw [List.length_map]; simp only [big]; omega, ?_⟩
    have e8 : os.map (dv (kept n ps).length) ++ [D.lst ((List.range (kept n ps).length).map fun i => ei (sel (kept n ps) w i))] = (os ++ [sel (kept n ps) w]).map (dv (kept n ps).length) := by rw [List.map_append]; rfl
    rw [e8]
    repeat (first | refine ws_nil ?_)
    exact ⟨_, _, _, _, rfl, take h1 h2⟩
  repeat (first | refine we_ow rfl ?_ | refine wt_cmp ?_ | refine wt_and ?_ | refine ws_cons ?_ | refine ws_ite ?_ | with_reducible refine lf (c1) ?_)
  refine ⟨fun z => ?_, fun z => ?_⟩
  · refine ⟨fun zz => (by cases zz), fun _ => ?_⟩
    repeat (first | refine ws_nil ?_)
    refine ⟨os, _, _, _, rfl, skip (.inl ?_)⟩
    apply Classical.byContradiction
    intro h
    rw [decide_eq_false h] at z
    cases z
  · have z1 : sel (kept n ps) w ∉ os := fun h => by
      rw [decide_eq_true h] at z
      cases z
    repeat (first | refine we_ow rfl ?_ | refine we_int ?_ | refine wa_nil ?_ | refine wa_cons ?_ | refine we_bi ?_ | refine wt_cmp ?_ | refine wt_or ?_ | with_reducible refine lf (len_map) ?_ | with_reducible refine lf (c3) ?_)
    refine ⟨fun z2 => ⟨fun _ => ?_, fun zz => (by cases zz)⟩, fun z2 => ?_⟩
    · have z2 := of_decide_eq_true z2
      refine WS.mono_N (add_ z1 fun _ => z2) fun ρ' h => ?_
      repeat (first | refine ws_nil ?_)
      exact h
    · have z2 := of_decide_eq_false z2
      repeat (first | refine we_sh rfl ?_ | refine wt_not ?_ | refine wtv ?_ | refine wt_val ?_)
      refine ⟨fun zz => ?_, fun zz => ?_⟩
      · refine WS.mono_N (add_ z1 fun h => ?_) fun ρ' h => ?_
        · rw [h] at zz
          cases zz
        · repeat (first | refine ws_nil ?_)
          exact h
      · repeat (first | refine ws_nil ?_)
        refine ⟨os, _, _, _, rfl, skip (.inr ⟨?_, z2⟩)⟩
        cases zero
        · cases zz
        · rfl
def pairL (n : Nat) (tw : Bool) (ws vs : List (Vc α)) : List (Vc α) := ws.flatMap fun w => vs.map fun v => cat n w (if tw = true then av w v else v)
theorem pairL_len (tw : Bool) (vs : List (Vc α)) : ∀ ws : List (Vc α), (pairL n tw ws vs).length = ws.length * vs.length
  | [] => by simp [pairL]
  | w :: ws => by
    have ih := pairL_len tw vs ws
    unfold pairL at *
    rw [List.flatMap_cons, List.length_append, ih, List.length_map, List.length_cons, Nat.succ_mul, Nat.add_comm]
theorem ev_lpairs (ws vs : List (Vc α)) (tw : Bool) (hn : n ≤ 16) (hl : ws.length ≤ 300) (hl2 : vs.length ≤ 300) : Ev 1 F_law_pairs [dl n ws, dl n vs, tabA α, .bl tw] (dl (n + n) (pairL n tw ws vs)) := by
  refine run_k fun k hk => run_ws (by decide) ⟨rfl, rfl⟩ ?_
  show WS _ t_law_pairs [.sh (dl n ws), .sh (dl n vs), .sh (tabA α), .sh (.bl tw), .un, .un, .un, .un, .un] _ _
  unfold t_law_pairs
  repeat (first | refine wa_nil ?_ | refine we_lst ?_ | refine ws_cons ?_ | refine ws_setV rfl ?_)
  refine ⟨by simp [big], ?_⟩
  repeat (first | refine ws_cons ?_)
  refine ws_forL ?_
  repeat (first | refine we_sh rfl ?_ | refine ww_lst ?_)
  refine ⟨_, rfl, rfl, Vc α, ws, dv n, fun pre ρ => ∃ x5 x6 x7, ρ = [.sh (dl n ws), .sh (dl n vs), .sh (tabA α), .sh (.bl tw), .ow ((pairL n tw pre vs).map (dv (n + n))), x5, x6, x7, .un], rfl, ⟨_, _, _, rfl⟩, ?_, ?_⟩
  · rintro ρ' ⟨x5, x6, x7, rfl⟩
    repeat (first | refine we_ow rfl ?_ | refine ws_cons ?_ | refine ws_ret ?_)
    rfl
  rintro pre w post ρ e ⟨x5, x6, x7, rfl⟩
  refine ⟨_, rfl, ?_⟩
  repeat (first | refine ws_cons ?_)
  refine ws_forL ?_
  repeat (first | refine we_sh rfl ?_ | refine ww_lst ?_)
  refine ⟨_, rfl, rfl, Vc α, vs, dv n, fun qs ρ => ∃ x6 x7, ρ = [.sh (dl n ws), .sh (dl n vs), .sh (tabA α), .sh (.bl tw), .ow ((pairL n tw pre vs ++ qs.map fun v => cat n w (if tw = true then av w v else v)).map (dv (n + n))), .sh (dv n w), x6, x7, .un], rfl, ⟨_, _, by rw [List.map_nil, List.append_nil]; rfl⟩, ?_, ?_⟩
  · rintro ρ' ⟨x6, x7, rfl⟩
    have e9 : pairL n tw pre vs ++ vs.map (fun v => cat n w (if tw = true then av w v else v)) = pairL n tw (pre ++ [w]) vs := by
      unfold pairL
      rw [List.flatMap_append]
      simp
    rw [e9]
    repeat (first | refine ws_nil ?_)
    exact ⟨_, _, _, rfl⟩
  rintro qs v post2 ρ e2 ⟨x6, x7, rfl⟩
  refine ⟨_, rfl, ?_⟩
  have pl : pre.length ≤ 300 := by rw [e] at hl; simp at hl; omega
  have ql : qs.length ≤ 300 := by rw [e2] at hl2; simp at hl2; omega
  have bl : pre.length * vs.length ≤ 300 * 300 := Nat.mul_le_mul pl hl2
  have ll : ((pairL n tw pre vs ++ qs.map fun v => cat n w (if tw = true then av w v else v)).map (dv (n + n))).length < big := by
    rw [List.length_map, List.length_append, List.length_map, pairL_len]
    simp only [big]
    omega
  have e9 : (pairL n tw pre vs ++ qs.map fun v => cat n w (if tw = true then av w v else v)) ++ [cat n w (if tw = true then av w v else v)] = pairL n tw pre vs ++ (qs ++ [v]).map fun v => cat n w (if tw = true then av w v else v) := by simp
  have e8 := append_map (f := dv (n + n)) (xs := pairL n tw pre vs ++ qs.map fun v => cat n w (if tw = true then av w v else v)) (x := cat n w (if tw = true then av w v else v))
  rw [e9] at e8
  repeat (first | refine we_sh rfl ?_ | refine wtv ?_ | refine ws_cons ?_ | refine ws_setV rfl ?_ | refine ws_ite ?_ | refine wt_val ?_)
  refine ⟨fun z => ?_, fun z => ?_⟩
  · have z : tw = true := z
    repeat (first | refine ws_cons ?_ | refine ws_setV rfl ?_)
    refine we_map rfl ?_
    repeat (first | refine we_sh rfl ?_ | refine wa_nil ?_ | refine wa_cons ?_ | refine we_bi ?_ | refine ww_rg1 ?_ | refine lf len_dv ?_)
    refine ⟨n, rfl, by omega, rfl, Nat, List.range n, ni, fun j => ei (av w v j), by unfold rgD; simp, by simp [big]; omega, fun j hj => ⟨_, rfl, ?_⟩, ?_⟩
    · have hj := List.mem_range.mp hj
      repeat (first | refine we_sh rfl ?_ | refine we_subS rfl ?_ | refine we_sub rfl ?_ | with_reducible refine lf (idx_dv hj) ?_ | with_reducible refine lf (idx_tabA _) ?_ | with_reducible refine lf (idx_rowA _ _) ?_ | refine ⟨rfl, ?_⟩)
      rfl
    have ad : opD .add (dv n w) (.lst ((List.range n).map fun j => ei (av w v j))) = some (dv (n + n) (cat n w (if tw = true then av w v else v))) := by
      rw [if_pos z]
      exact add_dv (by omega)
    repeat (first | refine we_sh rfl ?_ | refine we_ow rfl ?_ | refine we_bin ?_ | refine ws_nil ?_ | refine ws_cons ?_ | refine ws_appV ?_ | with_reducible refine lf (ad) ?_ | refine ⟨rfl, ?_⟩)
    refine ⟨_, rfl, ll, ?_⟩
    rw [e8]
    repeat (first | refine ws_nil ?_)
    exact ⟨_, _, rfl⟩
  · have z : tw = false := z
    have ad : opD .add (dv n w) (dv n v) = some (dv (n + n) (cat n w (if tw = true then av w v else v))) := by
      rw [if_neg (by rw [z]; simp)]
      exact add_dv (by omega)
    repeat (first | refine we_sh rfl ?_ | refine we_bin ?_ | refine ws_nil ?_ | refine ws_cons ?_ | refine ws_appV ?_ | with_reducible refine lf (ad) ?_ | refine ⟨rfl, ?_⟩)
    refine ⟨_, rfl, ll, ?_⟩
    rw [e8]
    repeat (first | refine ws_nil ?_)
    exact ⟨_, _, rfl⟩
end
end MN
end S_MnLe
section S_MnLf
set_option maxRecDepth 100000
/-! The law's numbers. -/
namespace MN
open LA
theorem mod_lit1 {a : Nat} : opD .mod (ni a) (.int 2147483647) = some (ni (a % 2147483647)) := mod_nat (p := 2147483647) (by decide)
theorem mod_lit2 {a : Nat} : opD .mod (ni a) (.int 1009) = some (ni (a % 1009)) := mod_nat (p := 1009) (by decide)
theorem fdiv_lit1 {a : Nat} : opD .fdiv (ni a) (.int 1009) = some (ni (a / 1009)) := fdiv_nat (p := 1009) (by decide) (by decide)
theorem fdiv_lit2 {a : Nat} : opD .fdiv (ni a) (.int 2048) = some (ni (a / 2048)) := fdiv_nat (p := 2048) (by decide) (by decide)
theorem mul_lit1 {a : Nat} : opD .mul (ni a) (.int 48271) = some (ni (a * 48271)) := mul_nat (b := 48271) (by decide)
theorem mul_lit2 {a : Nat} (h : a < 2 ^ 64) : opD .mul (.int 69621) (ni a) = some (ni (69621 * a)) := mul_nat (a := 69621) h
theorem int_ni {a : Nat} : biD .int_ [ni a] = some (ni a) := rfl
theorem abs_int {i : Int} : biD .abs [.int i] = some (ni i.natAbs) := by
  show some (D.int (if i < 0 then -i else i)) = some (D.int _)
  congr 2
  split <;> omega
theorem we_lcg {M : Mo} {ρ : En} {Q : D → List Nat → Prop} {s j : Nat} (h4 : ρ[4]? = some (Sl.sh (ni s))) (h5 : ρ[5]? = some (Sl.sh (ni j))) (hj : j < 2 ^ 64) (q : ∀ s', Q (ni s') []) : WE M (.bin .mod (.bi .int_ (.cons (.bin .add (.bin .mul (.bin .add (.nm 4) (.int 1)) (.int 48271)) (.bin .mul (.int 69621) (.nm 5))) .nil)) (.int 2147483647)) ρ Q := by
  refine we_bin ?_
  refine we_bi ?_
  refine wa_cons ?_
  refine we_bin ?_
  refine we_bin ?_
  refine we_bin ?_
  refine we_sh h4 ?_
  refine we_int ?_
  refine lf add1 ?_
  refine we_int ?_
  refine lf mul_lit1 ?_
  refine we_bin ?_
  refine we_int ?_
  refine we_sh h5 ?_
  refine lf (mul_lit2 hj) ?_
  refine lf add_nat ?_
  refine wa_nil ?_
  refine lf int_ni ?_
  refine we_int ?_
  refine lf mod_lit1 ?_
  exact q _
def Small (xs : List Nat) : Prop := ∀ x ∈ xs, x < 1009
theorem ev_lrow (i : Int) (m : Nat) (hm : m ≤ 100) : ∃ xs, xs.length = m ∧ Small xs ∧ Ev 1 F_law_row [.int i, ni m] (.lst (xs.map ni)) := by
  suffices h : ∃ d, (∃ xs, xs.length = m ∧ Small xs ∧ d = .lst (xs.map ni)) ∧ Ev 1 F_law_row [.int i, ni m] d by
    obtain ⟨d, ⟨xs, h1, h2, rfl⟩, h4⟩ := h
    exact ⟨xs, h1, h2, h4⟩
  refine ev_some (L := 0) ?_
  generalize runF 0 = M0
  refine run_ws_ex (by decide) ⟨rfl, rfl⟩ ?_
  show WS _ t_law_row [.sh (.int i), .sh (ni m), .un, .un, .un, .un] _ _
  unfold t_law_row
  have loop : ∀ r s, WS M0 (.for_ (.one 5) .rg1 (.cons (.nm 1) .nil) (.cons (.set 4 (.bin .mod (.bi .int_ (.cons (.bin .add (.bin .mul (.bin .add (.nm 4) (.int 1)) (.int 48271)) (.bin .mul (.int 69621) (.nm 5))) .nil)) (.int 2147483647))) (.cons (.ite (.cmp .gt (.nm 3) (.int 0)) (.cons (.app 2 (.bin .mod (.bi .int_ (.cons (.nm 3) .nil)) (.int 1009))) (.cons (.set 3 (.bin .fdiv (.nm 3) (.int 1009))) .nil)) (.cons (.app 2 (.bin .mod (.bi .int_ (.cons (.bin .fdiv (.nm 4) (.int 2048)) .nil)) (.int 1009))) .nil)) .nil)))  [.sh (.int i), .sh (ni m), .ow [], .sh (ni r), .sh (ni s), .un] (fun ρ' => WS M0 (.cons (.ret (.nm 2)) .nil) ρ' (fun _ => ∃ xs, xs.length = m ∧ Small xs ∧ D.non = .lst (xs.map ni)) fun d => ∃ xs, xs.length = m ∧ Small xs ∧ d = .lst (xs.map ni)) fun d => ∃ xs, xs.length = m ∧ Small xs ∧ d = .lst (xs.map ni) := fun r s => by
    refine ws_forR ?_
    repeat (first | refine we_sh rfl ?_ | refine wa_nil ?_ | refine wa_cons ?_ | refine ⟨rfl, ?_⟩)
    refine ⟨m, rfl, by omega, fun j ρ => ∃ xs r s x5, ρ = [.sh (.int i), .sh (ni m), .ow (xs.map ni), .sh (ni r), .sh (ni s), x5] ∧ xs.length = j ∧ Small xs, ⟨[], r, s, _, rfl, rfl, nofun⟩, ?_, ?_⟩
    · rintro ρ' ⟨xs, r, s, x5, rfl, h1, h2⟩
      repeat (first | refine we_ow rfl ?_ | refine ws_cons ?_ | refine ws_ret ?_)
      exact ⟨xs, h1, h2, rfl⟩
    rintro j ρ hj ⟨xs, r, s, x5, rfl, h1, h2⟩
    refine ⟨_, rfl, ?_⟩
    have ap : ∀ v, v < 1009 → Small (xs ++ [v]) := fun v hv x hx => by
      rcases List.mem_append.mp hx with h | h
      · exact h2 x h
      · rw [List.mem_singleton.mp h]; exact hv
    refine ws_cons (ws_setV rfl (we_lcg rfl rfl (by omega) fun s' => ?_))
    repeat (first | refine we_sh rfl ?_ | refine we_int ?_ | refine wt_cmp ?_ | refine ws_cons ?_ | refine ws_ite ?_ | with_reducible refine lf (gt_nat0) ?_)
    refine ⟨fun z => ?_, fun z => ?_⟩
    · repeat (first | refine we_sh rfl ?_ | refine we_int ?_ | refine we_bin ?_ | refine wa_nil ?_ | refine wa_cons ?_ | refine we_bi ?_ | refine ws_cons ?_ | refine ws_appV ?_ | with_reducible refine lf (int_ni) ?_ | with_reducible refine lf (mod_lit2) ?_ | refine ⟨rfl, ?_⟩)
      refine ⟨_, rfl, by rw [List.length_map]; simp only [big]; omega, ?_⟩
      rw [append_map]
      repeat (first | refine we_sh rfl ?_ | refine we_int ?_ | refine we_bin ?_ | refine ws_nil ?_ | refine ws_cons ?_ | refine ws_setV rfl ?_ | with_reducible refine lf (fdiv_lit1) ?_)
      exact ⟨_, _, _, _, rfl, by rw [List.length_append, h1]; rfl, ap _ (Nat.mod_lt _ (by decide))⟩
    · repeat (first | refine we_sh rfl ?_ | refine we_int ?_ | refine we_bin ?_ | refine wa_nil ?_ | refine wa_cons ?_ | refine we_bi ?_ | refine ws_cons ?_ | refine ws_appV ?_ | with_reducible refine lf (fdiv_lit2) ?_ | with_reducible refine lf (int_ni) ?_ | with_reducible refine lf (mod_lit2) ?_ | refine ⟨rfl, ?_⟩)
      refine ⟨_, rfl, by rw [List.length_map]; simp only [big]; omega, ?_⟩
      rw [append_map]
      repeat (first | refine ws_nil ?_)
      exact ⟨_, _, _, _, rfl, by rw [List.length_append, h1]; rfl, ap _ (Nat.mod_lt _ (by decide))⟩
  have pw : opD .pow (.int 10) (.int 18) = some (.int 1000000000000000000) := rfl
  have ge_int : ∀ a b : Int, cmpD .ge (.int a) (.int b) = some (decide (b ≤ a)) := fun _ _ => rfl
  repeat (first | refine wa_nil ?_ | refine we_lst ?_ | refine ws_cons ?_ | refine ws_setV rfl ?_)
  refine ⟨by simp [big], ?_⟩
  repeat (first | refine we_sh rfl ?_ | refine we_int ?_ | refine we_bin ?_ | refine wa_nil ?_ | refine wa_cons ?_ | refine we_bi ?_ | refine wt_cmp ?_ | refine ws_cons ?_ | refine ws_setV rfl ?_ | refine ws_ite ?_ | with_reducible refine lf (abs_int) ?_ | with_reducible refine lf (pw) ?_ | with_reducible refine lf (ge_int _ _) ?_)
  refine ⟨fun z => ?_, fun z => ?_⟩
  · repeat (first | refine we_sh rfl ?_ | refine we_int ?_ | refine we_bin ?_ | refine wa_nil ?_ | refine wa_cons ?_ | refine we_bi ?_ | refine ws_nil ?_ | refine ws_cons ?_ | refine ws_setV rfl ?_ | with_reducible refine lf (abs_int) ?_ | with_reducible refine lf (int_ni) ?_ | with_reducible refine lf (mod_lit1) ?_)
    exact loop _ _
  · repeat (first | refine we_sh rfl ?_ | refine we_int ?_ | refine we_bin ?_ | refine wa_nil ?_ | refine wa_cons ?_ | refine we_bi ?_ | refine ws_nil ?_ | refine ws_cons ?_ | refine ws_setV rfl ?_ | with_reducible refine lf (abs_int) ?_ | with_reducible refine lf (int_ni) ?_ | with_reducible refine lf (mod_lit1) ?_)
    exact loop 0 _
end MN
end S_MnLf
section S_MnLg
set_option maxRecDepth 100000
/-! The law's script as numbers, and its fields. -/
namespace MN
open LA
def fD (p : Nat) (ms : List Nat) : D := .tup [ni p, .tup (ms.map ni)]
def fl1 : List D := [fD 2 [0, 1], fD 3 [0, 1], fD 2 [1, 1, 1], fD 5 [0, 1], fD 2 [1, 1, 0, 1], fD 3 [1, 0, 1], fD 7 [0, 1]]
def fl2 : List D := [fD 2 [1, 1], fD 3 [2, 1], fD 2 [1, 0, 1, 1], fD 3 [2, 1, 1], fD 3 [2, 2, 1], fD 11 [0, 1]]
def fl3 : List D := [fD 2 [1, 1, 0, 0, 1], fD 2 [0, 1], fD 3 [0, 1]]
def flAll : List D := fl1 ++ fl2 ++ fl3
theorem ev_lfield (x : Nat) : Ev 1 F_law_field [ni x] (flAll.getD (x % 16) .non) := by
  refine run_k fun k hk => run_ws (by decide) ⟨rfl, rfl⟩ ?_
  show WS _ t_law_field [.sh (ni x), .un] _ _
  unfold t_law_field
  refine ws_cons (ws_setV rfl ⟨.lst fl1, [], rfl, ?_⟩)
  refine ws_cons (ws_setV rfl (we_bin (we_ow rfl ⟨.lst fl2, [], rfl, lf (d := .lst (fl1 ++ fl2)) rfl ?_⟩)))
  refine ws_cons (ws_setV rfl (we_bin (we_ow rfl ⟨.lst fl3, [], rfl, lf (d := .lst flAll) rfl ?_⟩)))
  have m16 : opD .mod (ni x) (.int 16) = some (ni (x % 16)) := mod_nat (p := 16) (by decide)
  have hx := Nat.mod_lt x (show 0 < 16 by decide)
  have ix : idxD (.lst flAll) (ni (x % 16)) = some (flAll.getD (x % 16) .non) := by
    refine idx_lst ?_
    rw [List.getD_eq_getElem?_getD, List.getElem?_eq_getElem (show x % 16 < flAll.length from hx)]
    rfl
  show WS _ _ [.sh (ni x), .ow flAll] _ _
  repeat (first | refine we_sh rfl ?_ | refine we_int ?_ | refine we_bin ?_ | refine wa_nil ?_ | refine wa_cons ?_ | refine we_bi ?_ | refine we_subO rfl ?_ | refine ws_cons ?_ | refine ws_ret ?_ | with_reducible refine lf (int_ni) ?_ | with_reducible refine lf (m16) ?_ | with_reducible refine lf (ix) ?_)
  rfl
theorem ev_lnumbers (ns : List Int) (hl : ns.length ≤ 63) : ∃ xs, xs.length = 60 ∧ Small xs ∧ Ev 2 F_law_numbers [.scr ns, .int 60] (.lst (xs.map ni)) := by
  suffices h : ∃ d, (∃ xs, xs.length = 60 ∧ Small xs ∧ d = .lst (xs.map ni)) ∧ Ev 2 F_law_numbers [.scr ns, .int 60] d by
    obtain ⟨d, ⟨xs, h1, h2, rfl⟩, h4⟩ := h
    exact ⟨xs, h1, h2, h4⟩
  refine ev_some (L := 1) ?_
  have er := ev_lrow
  obtain ⟨k, hk⟩ : ∃ k, k = 1 := ⟨_, rfl⟩
  rw [← hk]
  refine run_ws_ex (by decide) ⟨rfl, rfl⟩ ?_
  show WS _ t_law_numbers [.sh (.scr ns), .sh (.int 60), .un, .un, .un, .un, .un] _ _
  unfold t_law_numbers
  refine ws_cons (ws_setV rfl (we_slcS (we_sh rfl ?_)))
  repeat (first | refine we_int ?_ | refine WI.none ?_ | refine WI.some rfl ?_)
  refine ⟨_, rfl, ?_⟩
  refine ⟨ns, rfl, ?_⟩
  have cl : (cutD ns none (some 63)).length ≤ 63 := by
    unfold cutD
    simp
    omega
  generalize cutD ns none (some 63) = cs at cl
  obtain ⟨e, he, he2⟩ : ∃ e : Nat, biD .max2 [.int 1, ni (cs.map D.int).length] = some (ni e) ∧ 1 ≤ e ∧ e ≤ 100 := by
    rw [List.length_map]
    show ∃ e : Nat, some (D.int (if (cs.length : Int) > 1 then (cs.length : Int) else 1)) = some (ni e) ∧ _
    by_cases h : (cs.length : Int) > 1
    · exact ⟨cs.length, by rw [if_pos h], by omega, by omega⟩
    · exact ⟨1, by rw [if_neg h]; rfl, by omega, by omega⟩
  have fd60 : opD .fdiv (.int 60) (ni e) = some (ni (60 / e)) := fdiv_nat (a := 60) (by omega) (by omega)
  have ad1 : ∀ a : Nat, opD .add (.int 1) (ni a) = some (ni (1 + a)) := fun a => add_nat (a := 1)
  have d60 : 60 / e ≤ 60 := Nat.div_le_self _ _
  have ln : biD .len [.lst (cs.map D.int)] = some (ni (cs.map D.int).length) := rfl
  repeat (first | refine we_sh rfl ?_ | refine we_ow rfl ?_ | refine we_int ?_ | refine we_bin ?_ | refine wa_nil ?_ | refine wa_cons ?_ | refine we_bi ?_ | refine we_lst ?_ | refine ws_cons ?_ | refine ws_setV rfl ?_ | with_reducible refine lf (ln) ?_ | with_reducible refine lf (he) ?_ | with_reducible refine lf (fd60) ?_ | with_reducible refine lf (ad1 _) ?_)
  refine ⟨by simp [big], ?_⟩
  repeat (first | refine ws_cons ?_)
  refine ws_forNm (its := cs.map D.int) (.inr rfl) ?_
  refine ⟨Int, cs, D.int, fun pre ρ => ∃ xs x5 x6, ρ = [.sh (.scr ns), .sh (.int 60), .sh (.lst (cs.map D.int)), .sh (ni (1 + 60 / e)), .ow (xs.map ni), x5, x6] ∧ xs.length ≤ pre.length * 61 ∧ Small xs, rfl, ⟨[], _, _, rfl, by simp, nofun⟩, ?_, ?_⟩
  · rintro ρ' ⟨xs, x5, x6, rfl, h1, h2⟩
    have mz : opD .mul (.lst [.int 0]) (.int 60) = some (.lst ((List.replicate 60 0).map ni)) := by
      have := mul_list (n := 60) (d := .int 0) (by decide)
      exact this
    have xl : xs.length ≤ 63 * 61 := Nat.le_trans h1 (Nat.mul_le_mul_right 61 cl)
    have ad : opD .add (.lst (xs.map ni)) (.lst ((List.replicate 60 0).map ni)) = some (.lst ((xs ++ List.replicate 60 0).map ni)) := by
      have e : opD .add (.lst (xs.map ni)) (.lst ((List.replicate 60 0).map ni)) = (if (xs.map ni).length + ((List.replicate 60 0).map ni).length ≤ big then some (D.lst (xs.map ni ++ (List.replicate 60 0).map ni)) else none) := rfl
      rw [e, if_pos (by simp [big]; omega), List.map_append]
    repeat (first | refine we_ow rfl ?_ | refine we_int ?_ | refine we_bin ?_ | refine wa_nil ?_ | refine wa_cons ?_ | refine we_lst ?_ | refine ws_cons ?_ | refine ws_setV rfl ?_)
    refine ⟨by simp [big], ?_⟩
    repeat (first | refine we_sh rfl ?_ | refine we_ow rfl ?_ | refine we_slc ?_ | refine WI.none ?_ | refine WI.some rfl ?_ | refine ws_cons ?_ | refine ws_ret ?_ | with_reducible refine lf (mz) ?_ | with_reducible refine lf (ad) ?_)
    refine ⟨_, rfl, ?_⟩
    refine ⟨_, rfl, ?_⟩
    have e60 : cutD ((xs ++ List.replicate 60 0).map ni) none (some 60) = ((xs ++ List.replicate 60 0).take 60).map ni := by
      have := cut_to (xs := (xs ++ List.replicate 60 0).map ni) (k := 60) (by simp)
      rw [List.map_take]
      exact this
    refine ⟨(xs ++ List.replicate 60 0).take 60, by simp, fun x hx => ?_, by rw [← e60]⟩
    rcases List.mem_append.mp (List.mem_of_mem_take hx) with h | h
    · exact h2 x h
    · rw [List.eq_of_mem_replicate h]; decide
  rintro pre c post ρ ep ⟨xs, x5, x6, rfl, h1, h2⟩
  refine ⟨_, rfl, ?_⟩
  obtain ⟨ys, y1, y2, y3⟩ := er c (1 + 60 / e) (by omega)
  have pl : pre.length ≤ 62 := by
    have := congrArg List.length ep
    simp at this
    omega
  have xl : xs.length ≤ 62 * 61 := Nat.le_trans h1 (Nat.mul_le_mul_right 61 pl)
  repeat (first | refine ws_cons ?_)
  refine ws_forL ?_
  repeat (first | refine we_sh rfl ?_ | refine wa_nil ?_ | refine wa_cons ?_ | refine we_call ?_ | refine ww_lst ?_ | refine lf (y3 k (by omega)) ?_)
  refine ⟨_, rfl, rfl, Nat, ys, ni, fun qs ρ => ∃ x6, ρ = [.sh (.scr ns), .sh (.int 60), .sh (.lst (cs.map D.int)), .sh (ni (1 + 60 / e)), .ow ((xs ++ qs).map ni), .sh (.int c), x6], rfl, ⟨_, by rw [List.append_nil]; rfl⟩, ?_, ?_⟩
  · rintro ρ' ⟨x6, rfl⟩
    repeat (first | refine ws_nil ?_)
    refine ⟨_, _, _, rfl, ?_, fun x hx => ?_⟩
    · rw [List.length_append, List.length_append, List.length_singleton, Nat.succ_mul]
      omega
    · rcases List.mem_append.mp hx with h | h
      · exact h2 x h
      · exact y2 x h
  rintro qs y post2 ρ e2 ⟨x6, rfl⟩
  refine ⟨_, rfl, ?_⟩
  have ql : qs.length ≤ 61 := by
    have := congrArg List.length e2
    simp at this
    omega
  repeat (first | refine we_sh rfl ?_ | refine ws_cons ?_ | refine ws_appV ?_ | refine ⟨rfl, ?_⟩)
  refine ⟨_, rfl, by rw [List.length_map, List.length_append]; simp only [big]; omega, ?_⟩
  rw [append_map, List.append_assoc]
  repeat (first | refine ws_nil ?_)
  exact ⟨_, rfl⟩
end MN
end S_MnLg
section S_MnLh
set_option maxRecDepth 100000
/-! The law's made codes: the program's words are the law's. -/
namespace MN
open LA
section
variable {α : Type} [GF α] {n m k L : Nat} {fd : List D}
theorem sv_zv (c : α) : sv c (zv : Vc α) = zv := by funext i; show c * 0 = 0; grind
/-- the law's words are the code's -/
structure WOk (c : CD α) (ws : List (Vc α)) : Prop where
  nd : ws.Nodup
  mem : ∀ x, x ∈ ws ↔ Span c.R x
theorem CD.Ok.sup {c : CD α} (ok : c.Ok) {x : Vc α} (h : Span c.R x) : SupV c.n x := span_sup ok.rr.sup h
theorem WOk.perm {c : CD α} {ws : List (Vc α)} (ok : c.Ok) (h : WOk c ws) : ws.Perm (wordsF c.R) := by
  rw [List.perm_ext_iff_of_nodup h.nd (wordsF_nodup ok.rr)]
  intro x
  rw [h.mem, mem_wordsF]
theorem WOk.len {c : CD α} {ws : List (Vc α)} (ok : c.Ok) (h : WOk c ws) : ws.length = GF.q α ^ c.R.length := by
  rw [(h.perm ok).length_eq, wordsF_len]
theorem ext_zv : ext n (zv : Vc α) = zv := by
  funext i
  have : sumN (zv : Vc α) n = 0 := sumN_zero fun _ _ => rfl
  unfold ext
  rw [this]
  split
  · rfl
  · split
    · show -(0 : α) = 0; grind
    · rfl
theorem ext_av (u v : Vc α) : ext n (av u v) = av (ext n u) (ext n v) := by
  funext i
  have h : sumN (av u v) n = sumN u n + sumN v n := sumN_add u v n
  show (if i < n then u i + v i else if i = n then -(sumN (av u v) n) else 0) = (if i < n then u i else if i = n then -(sumN u n) else 0) + (if i < n then v i else if i = n then -(sumN v n) else 0)
  rw [h]
  split
  · rfl
  · split <;> grind
theorem ext_sv (c : α) (u : Vc α) : ext n (sv c u) = sv c (ext n u) := by
  funext i
  have h : sumN (sv c u) n = c * sumN u n := sumN_mul c u n
  show (if i < n then c * u i else if i = n then -(sumN (sv c u) n) else 0) = c * (if i < n then u i else if i = n then -(sumN u n) else 0)
  rw [h]
  split
  · rfl
  · split <;> grind
theorem wok_dual {c e : CD α} {ws os : List (Vc α)} (ok : c.Ok) (w : WOk c ws) (hs : ∀ x, Span e.R x ↔ Span (kerF c.n c.S c.T) x) (o : OrOk c.n ws os) : WOk e os := ⟨o.nd, fun x => by
  rw [o.mem, hs]
  constructor
  · rintro ⟨h1, h2⟩
    exact ker_all ok.rs h1 fun r hr => h2 r ((w.mem r).mpr ((ok.sp r).mp (.mem hr)))
  · intro hx
    refine ⟨span_sup (ker_sup ok.rs) hx, fun v hv => ?_⟩
    have := ((ok.sp v).mpr ((w.mem v).mp hv)).orth (u := x) (n := c.n) fun r hr => by
      rw [dot_comm]
      exact ker_orth ok.rs hx r hr
    rw [dot_comm]
    exact this⟩
theorem wok_ext {c e : CD α} {ws : List (Vc α)} (ok : c.Ok) (w : WOk c ws) (hs : ∀ x, Span e.R x ↔ Span (c.R.map (ext c.n)) x) : WOk e (ws.map (ext c.n)) := by
  constructor
  · refine List.pairwise_map.mpr (w.nd.imp_of_mem fun {a b} ha hb hne e => hne ?_)
    refine sup_ext (ok.sup ((w.mem a).mp ha)) (ok.sup ((w.mem b).mp hb)) fun i hi => ?_
    have := congrFun e i
    unfold ext at this
    rwa [if_pos hi, if_pos hi] at this
  · intro x
    rw [hs, Span.map ext_zv ext_av ext_sv, List.mem_map]
    constructor
    · rintro ⟨u, hu, rfl⟩
      exact ⟨u, (w.mem u).mp hu, rfl⟩
    · rintro ⟨u, hu, rfl⟩
      exact ⟨u, (w.mem u).mpr hu, rfl⟩
theorem wok_punct {c e : CD α} {ws os : List (Vc α)} {ps : List Nat} (w : WOk c ws) (hs : ∀ x, Span e.R x ↔ Span (c.R.map (sel (kept c.n ps))) x) (o : KeOk c.n ps false ws os) : WOk e os := ⟨o.nd, fun x => by
  rw [o.mem, hs, Span.map (sel_zv _) (sel_av _) (sel_sv _)]
  constructor
  · rintro ⟨u, hu, _, rfl⟩
    exact ⟨u, (w.mem u).mp hu, rfl⟩
  · rintro ⟨u, hu, rfl⟩
    exact ⟨u, (w.mem u).mpr hu, nofun, rfl⟩⟩
theorem wok_short {c e : CD α} {ws os : List (Vc α)} {ps : List Nat} (w : WOk c ws) (hs : ∀ x, Span e.R x ↔ ∃ u, Span c.R u ∧ (∀ p ∈ ps, u p = 0) ∧ x = sel (kept c.n ps) u) (o : KeOk c.n ps true ws os) : WOk e os := ⟨o.nd, fun x => by
  rw [o.mem, hs]
  constructor
  · rintro ⟨u, hu, h, rfl⟩
    exact ⟨u, (w.mem u).mp hu, h rfl, rfl⟩
  · rintro ⟨u, hu, h, rfl⟩
    exact ⟨u, (w.mem u).mpr hu, fun _ => h, rfl⟩⟩
theorem pair_nd {tw : Bool} {ws vs : List (Vc α)} (h1 : ws.Nodup) (h2 : vs.Nodup) (s1 : ∀ w ∈ ws, SupV n w) : (pairL n tw ws vs).Nodup := by
  refine List.pairwise_flatMap.mpr ⟨fun w _ => ?_, h1.imp_of_mem fun {a b} ha hb hne x hx y hy e => hne ?_⟩
  · refine List.pairwise_map.mpr (h2.imp fun {a b} hne e => hne ?_)
    have := congrArg (shf n) e
    rw [shf_cat, shf_cat] at this
    cases tw with
    | false => exact this
    | true =>
      have this : av w a = av w b := this
      funext i
      have := congrFun this i
      simp only [av] at this
      grind
  · obtain ⟨v, _, rfl⟩ := List.mem_map.mp hx
    obtain ⟨v', _, rfl⟩ := List.mem_map.mp hy
    refine sup_ext (s1 a ha) (s1 b hb) fun i hi => ?_
    have := congrFun e i
    unfold cat at this
    rwa [if_pos hi, if_pos hi] at this
theorem mem_pair {tw : Bool} {ws vs : List (Vc α)} {x : Vc α} : x ∈ pairL n tw ws vs ↔ ∃ w ∈ ws, ∃ v ∈ vs, x = cat n w (if tw = true then av w v else v) := by
  unfold pairL
  rw [List.mem_flatMap]
  constructor
  · rintro ⟨w, hw, hx⟩
    obtain ⟨v, hv, rfl⟩ := List.mem_map.mp hx
    exact ⟨w, hw, v, hv, rfl⟩
  · rintro ⟨w, hw, v, hv, rfl⟩
    exact ⟨w, hw, List.mem_map.mpr ⟨v, hv, rfl⟩⟩
theorem wok_join {c d e : CD α} {ws vs : List (Vc α)} (ok : c.Ok) (w : WOk c ws) (v : WOk d vs) (hs : ∀ x, Span e.R x ↔ Span (c.R.map (fun u => cat c.n u zv) ++ d.R.map (fun v => cat c.n zv v)) x) : WOk e (pairL c.n false ws vs) := by
  refine ⟨pair_nd w.nd v.nd fun x hx => ok.sup ((w.mem x).mp hx), fun x => ?_⟩
  rw [hs, Span.append, mem_pair]
  have m1 : ∀ x, Span (c.R.map fun u => cat c.n u zv) x ↔ ∃ u, Span c.R u ∧ x = cat c.n u zv := fun x => Span.map (φ := fun u => cat c.n u zv) (cat_zv _) (fun u v => by rw [← cat_av, zv_av]) fun a u => by rw [← cat_sv, sv_zv]
  have m2 : ∀ x, Span (d.R.map fun v => cat c.n zv v) x ↔ ∃ u, Span d.R u ∧ x = cat c.n zv u := fun x => Span.map (φ := fun v => cat c.n zv v) (cat_zv _) (fun u v => by rw [← cat_av, zv_av]) fun a u => by rw [← cat_sv, sv_zv]
  have add : ∀ u v : Vc α, av (cat c.n u zv) (cat c.n zv v) = cat c.n u v := fun u v => by
    rw [← cat_av]
    congr 1 <;> funext i <;> simp only [av, zv] <;> grind
  constructor
  · rintro ⟨u, hu, u', hu', rfl⟩
    exact ⟨_, _, (m1 _).mpr ⟨u, (w.mem u).mp hu, rfl⟩, (m2 _).mpr ⟨u', (v.mem u').mp hu', rfl⟩, (add _ _).symm⟩
  · rintro ⟨y, z, hy, hz, rfl⟩
    obtain ⟨u, hu, rfl⟩ := (m1 _).mp hy
    obtain ⟨u', hu', rfl⟩ := (m2 _).mp hz
    exact ⟨u, (w.mem u).mpr hu, u', (v.mem u').mpr hu', add _ _⟩
theorem wok_double {c d e : CD α} {ws vs : List (Vc α)} (ok : c.Ok) (w : WOk c ws) (v : WOk d vs) (hs : ∀ x, Span e.R x ↔ Span (c.R.map (fun u => cat c.n u u) ++ d.R.map (fun v => cat c.n zv v)) x) : WOk e (pairL c.n true ws vs) := by
  refine ⟨pair_nd w.nd v.nd fun x hx => ok.sup ((w.mem x).mp hx), fun x => ?_⟩
  rw [hs, Span.append, mem_pair]
  have m1 : ∀ x, Span (c.R.map fun u => cat c.n u u) x ↔ ∃ u, Span c.R u ∧ x = cat c.n u u := fun x => Span.map (φ := fun u => cat c.n u u) (cat_zv _) (fun u v => by rw [← cat_av]) fun a u => by rw [← cat_sv]
  have m2 : ∀ x, Span (d.R.map fun v => cat c.n zv v) x ↔ ∃ u, Span d.R u ∧ x = cat c.n zv u := fun x => Span.map (φ := fun v => cat c.n zv v) (cat_zv _) (fun u v => by rw [← cat_av, zv_av]) fun a u => by rw [← cat_sv, sv_zv]
  have add : ∀ u v : Vc α, av (cat c.n u u) (cat c.n zv v) = cat c.n u (av u v) := fun u v => by
    rw [← cat_av]
    congr 1
    funext i
    simp only [av, zv]
    grind
  constructor
  · rintro ⟨u, hu, u', hu', rfl⟩
    exact ⟨_, _, (m1 _).mpr ⟨u, (w.mem u).mp hu, rfl⟩, (m2 _).mpr ⟨u', (v.mem u').mp hu', rfl⟩, (add _ _).symm⟩
  · rintro ⟨y, z, hy, hz, rfl⟩
    obtain ⟨u, hu, rfl⟩ := (m1 _).mp hy
    obtain ⟨u', hu', rfl⟩ := (m2 _).mp hz
    exact ⟨u, (w.mem u).mpr hu, u', (v.mem u').mpr hu', add _ _⟩
theorem wok_span {c d e : CD α} {ws vs us : List (Vc α)} (w : WOk c ws) (v : WOk d vs) (hs : ∀ x, Span e.R x ↔ Span (c.R ++ d.R) x) (o : SpOk n (ws ++ vs) us) : WOk e us := ⟨o.nd, fun x => by
  rw [o.mem, hs]
  constructor
  · refine Span.trans fun r hr => ?_
    rcases List.mem_append.mp hr with h | h
    · exact ((w.mem r).mp h).mono fun _ h => List.mem_append_left _ h
    · exact ((v.mem r).mp h).mono fun _ h => List.mem_append_right _ h
  · refine Span.trans fun r hr => .mem ?_
    rcases List.mem_append.mp hr with h | h
    · exact List.mem_append_left _ ((w.mem r).mpr (.mem h))
    · exact List.mem_append_right _ ((v.mem r).mpr (.mem h))⟩
theorem wok_meet {c d e : CD α} {ws vs : List (Vc α)} (w : WOk c ws) (v : WOk d vs) (hs : ∀ x, Span e.R x ↔ Span c.R x ∧ Span d.R x) : WOk e (ws.filter fun x => decide (x ∈ vs)) := ⟨List.Nodup.sublist List.filter_sublist w.nd, fun x => by
  rw [List.mem_filter, decide_eq_true_eq, w.mem, v.mem, hs]⟩
/-- a made code with its words -/
structure Made (e : CD α) (us : List (Vc α)) : Prop where
  ok : e.Ok
  wok : WOk e us
  n8 : e.n ≤ 8
  small : us.length ≤ 81
theorem ev_made (F : FE α L fd) (hL : 3 ≤ L) {c d : CD α} (ok : c.Ok) (ok' : d.Ok) (hd : d.n = c.n) {ws vs : List (Vc α)} (w : WOk c ws) (v : WOk d vs) (hn : c.n ≤ 4) (hq : GF.q α ^ c.n ≤ 81) (hwv : ws.length * vs.length ≤ 81) {ps : List Nat} (nd : ps.Nodup) (hp : ∀ p ∈ ps, p < c.n) (hpl : ps.length < c.n) (x : Nat) :
    ∃ (e : CD α) (us : List (Vc α)), Made e us ∧ Ev (L + 7) F_law_made [ni x, .lst [c.obj fd, d.obj fd], .lst [dl c.n ws, dl c.n vs], .lst (ps.map ni), tabA α, tabM α] (.tup [e.obj fd, dl e.n us]) := by
  have q16 := F.small
  have n1 := ok.pos
  have wl : ws.length ≤ 81 := Nat.le_trans (sup_len w.nd fun x hx => ok.sup ((w.mem x).mp hx)) hq
  have vl : vs.length ≤ 81 := Nat.le_trans (sup_len v.nd fun x hx => ok'.sup ((v.mem x).mp hx)) (by rw [hd]; exact hq)
  have ws1 : ∀ x ∈ ws, SupV c.n x := fun x hx => ok.sup ((w.mem x).mp hx)
  have vs1 : ∀ x ∈ vs, SupV c.n x := fun x hx => by rw [← hd]; exact ok'.sup ((v.mem x).mp hx)
  suffices h : ∃ dd, (∃ (e : CD α) (us : List (Vc α)), Made e us ∧ dd = .tup [e.obj fd, dl e.n us]) ∧ Ev (L + 7) F_law_made [ni x, .lst [c.obj fd, d.obj fd], .lst [dl c.n ws, dl c.n vs], .lst (ps.map ni), tabA α, tabM α] dd by
    obtain ⟨dd, ⟨e, us, h1, rfl⟩, h4⟩ := h
    exact ⟨e, us, h1, h4⟩
  refine ev_some (L := L + 6) ?_
  obtain ⟨kk, hkk⟩ : ∃ kk, kk = L + 6 := ⟨_, rfl⟩
  rw [← hkk]
  refine run_ws_ex (by decide) ⟨rfl, rfl⟩ ?_
  show WS _ t_law_made [.sh (ni x), .sh (.lst [c.obj fd, d.obj fd]), .sh (.lst [dl c.n ws, dl c.n vs]), .sh (.lst (ps.map ni)), .sh (tabA α), .sh (tabM α), .un, .un] _ _
  unfold t_law_made
  have i0 : ∀ a b : D, idxD (.lst [a, b]) (.int 0) = some a := fun _ _ => rfl
  have i1 : ∀ a b : D, idxD (.lst [a, b]) (.int 1) = some b := fun _ _ => rfl
  have iw : ∃ a, idxD (dl c.n ws) (.int 0) = some a ∧ biD .len [a] = some (ni c.n) := by
    have hz : (zv : Vc α) ∈ ws := (w.mem _).mpr .zero
    cases ws with
    | nil => cases hz
    | cons a l => exact ⟨dv c.n a, idx_lst (xs := (a :: l).map (dv c.n)) (i := 0) rfl, len_dv⟩
  obtain ⟨a0, ia, la⟩ := iw
  have q1 : cmpD .eq (ni x) (.int 1) = some (decide (x = 1)) := eq_nat
  have q2 : cmpD .eq (ni x) (.int 2) = some (decide (x = 2)) := eq_nat
  have q3 : cmpD .eq (ni x) (.int 3) = some (decide (x = 3)) := eq_nat
  have q4 : cmpD .eq (ni x) (.int 4) = some (decide (x = 4)) := eq_nat
  have q5 : cmpD .eq (ni x) (.int 5) = some (decide (x = 5)) := eq_nat
  have q6 : cmpD .eq (ni x) (.int 6) = some (decide (x = 6)) := eq_nat
  have q7 : cmpD .eq (ni x) (.int 7) = some (decide (x = 7)) := eq_nat
  have q8 : cmpD .eq (ni x) (.int 8) = some (decide (x = 8)) := eq_nat
  have g1 : cmpD .gt (ni c.n) (.int 1) = some (decide (1 < c.n)) := gt_nat (j := 1)
  have kl := kept_len nd hp
  repeat (first | refine we_sh rfl ?_ | refine we_int ?_ | refine wa_nil ?_ | refine wa_cons ?_ | refine we_bi ?_ | refine we_subS rfl ?_ | refine we_sub rfl ?_ | refine wt_cmp ?_ | refine ws_cons ?_ | refine ws_setV rfl ?_ | refine ws_ite ?_ | with_reducible refine lf (i0 _ _) ?_ | with_reducible refine lf (ia) ?_ | with_reducible refine lf (la) ?_ | with_reducible refine lf (q1) ?_)
  refine ⟨fun z => ?_, fun z => ?_⟩
  · obtain ⟨e, e1, e2, e3, e4⟩ := ev_dual F hL c ok
    obtain ⟨os, o1, o2⟩ := ev_lorth ws (n := c.n) (by omega) q16 (by omega)
    repeat (first | refine we_sh rfl ?_ | refine we_int ?_ | refine wa_nil ?_ | refine wa_cons ?_ | refine we_call ?_ | refine we_subS rfl ?_ | refine we_tup ?_ | refine ws_cons ?_ | refine ws_ret ?_ | with_reducible refine lf (i0 _ _) ?_ | refine lf (e4 kk (by omega)) ?_ | refine lf (o2 kk (by omega)) ?_)
    refine ⟨by simp [big], e, os, ⟨e2, wok_dual ok w e3 o1, by omega, ?_⟩, by rw [e1]⟩
    exact Nat.le_trans (sup_len o1.nd fun x hx => ((o1.mem x).mp hx).1) hq
  repeat (first | refine we_sh rfl ?_ | refine we_int ?_ | refine wt_cmp ?_ | refine ws_nil ?_ | refine ws_cons ?_ | refine ws_ite ?_ | with_reducible refine lf (q2) ?_)
  refine ⟨fun z => ?_, fun z => ?_⟩
  · obtain ⟨e, e1, e2, e3, e4⟩ := ev_extended F hL c ok (by omega)
    have lx := ev_lext ws (n := c.n) (by omega) (by omega)
    repeat (first | refine we_sh rfl ?_ | refine we_int ?_ | refine wa_nil ?_ | refine wa_cons ?_ | refine we_call ?_ | refine we_subS rfl ?_ | refine we_tup ?_ | refine ws_cons ?_ | refine ws_ret ?_ | with_reducible refine lf (i0 _ _) ?_ | refine lf (e4 kk (by omega)) ?_ | refine lf (lx kk (by omega)) ?_)
    refine ⟨by simp [big], e, _, ⟨e2, wok_ext ok w e3, by omega, by rw [List.length_map]; exact wl⟩, by rw [e1]⟩
  have shortened_ : x = 3 → 1 < c.n → WS (runF kk) (.cons (.ret (.tup (.cons (.call 52 (.cons (.sub (.nm 1) (.int 0)) (.cons (.nm 3) .nil))) (.cons (.call 103 (.cons (.sub (.nm 2) (.int 0)) (.cons (.nm 3) (.cons (.bl true) .nil)))) .nil)))) .nil) [.sh (ni x), .sh (.lst [c.obj fd, d.obj fd]), .sh (.lst [dl c.n ws, dl c.n vs]), .sh (.lst (ps.map ni)), .sh (tabA α), .sh (tabM α), .sh (ni c.n), .un] (fun _ => False) fun dd => ∃ (e : CD α) (us : List (Vc α)), Made e us ∧ dd = .tup [e.obj fd, dl e.n us] := fun _ _ => by
    obtain ⟨e, e1, e2, e3, e4⟩ := ev_shortened F hL c ok ps nd hp hpl
    obtain ⟨os, o1, o2⟩ := ev_lkept ws ps true hp (by omega) (by omega) (by omega)
    repeat (first | refine we_sh rfl ?_ | refine we_int ?_ | refine we_bl ?_ | refine wa_nil ?_ | refine wa_cons ?_ | refine we_call ?_ | refine we_subS rfl ?_ | refine we_tup ?_ | refine ws_cons ?_ | refine ws_ret ?_ | with_reducible refine lf (i0 _ _) ?_ | refine lf (e4 kk (by omega)) ?_ | refine lf (o2 kk (by omega)) ?_)
    refine ⟨by simp [big], e, os, ⟨e2, wok_short w e3 o1, by omega, Nat.le_trans o1.len wl⟩, by rw [e1]⟩
  have punctured_ : x = 4 → 1 < c.n → WS (runF kk) (.cons (.ret (.tup (.cons (.call 53 (.cons (.sub (.nm 1) (.int 0)) (.cons (.nm 3) .nil))) (.cons (.call 103 (.cons (.sub (.nm 2) (.int 0)) (.cons (.nm 3) (.cons (.bl false) .nil)))) .nil)))) .nil) [.sh (ni x), .sh (.lst [c.obj fd, d.obj fd]), .sh (.lst [dl c.n ws, dl c.n vs]), .sh (.lst (ps.map ni)), .sh (tabA α), .sh (tabM α), .sh (ni c.n), .un] (fun _ => False) fun dd => ∃ (e : CD α) (us : List (Vc α)), Made e us ∧ dd = .tup [e.obj fd, dl e.n us] := fun _ _ => by
    obtain ⟨e, e1, e2, e3, e4⟩ := ev_punctured F hL c ok ps nd hp hpl
    obtain ⟨os, o1, o2⟩ := ev_lkept ws ps false hp (by omega) (by omega) (by omega)
    repeat (first | refine we_sh rfl ?_ | refine we_int ?_ | refine we_bl ?_ | refine wa_nil ?_ | refine wa_cons ?_ | refine we_call ?_ | refine we_subS rfl ?_ | refine we_tup ?_ | refine ws_cons ?_ | refine ws_ret ?_ | with_reducible refine lf (i0 _ _) ?_ | refine lf (e4 kk (by omega)) ?_ | refine lf (o2 kk (by omega)) ?_)
    refine ⟨by simp [big], e, os, ⟨e2, wok_punct w e3 o1, by omega, Nat.le_trans o1.len wl⟩, by rw [e1]⟩
  repeat (first | refine we_sh rfl ?_ | refine we_int ?_ | refine wt_cmp ?_ | refine wt_and ?_ | refine ws_nil ?_ | refine ws_cons ?_ | refine ws_ite ?_ | with_reducible refine lf (q3) ?_)
  have rest : WS (runF kk) (.cons (.ite (.and (.cmp .eq (.nm 0) (.int 4)) (.cmp .gt (.nm 6) (.int 1))) (.cons (.ret (.tup (.cons (.call 53 (.cons (.sub (.nm 1) (.int 0)) (.cons (.nm 3) .nil))) (.cons (.call 103 (.cons (.sub (.nm 2) (.int 0)) (.cons (.nm 3) (.cons (.bl false) .nil)))) .nil)))) .nil) .nil) (.cons (.ite (.cmp .eq (.nm 0) (.int 5)) (.cons (.ret (.tup (.cons (.call 57 (.cons (.sub (.nm 1) (.int 0)) (.cons (.sub (.nm 1) (.int 1)) .nil))) (.cons (.call 104 (.cons (.sub (.nm 2) (.int 0)) (.cons (.sub (.nm 2) (.int 1)) (.cons (.nm 4) (.cons (.bl false) .nil))))) .nil)))) .nil) .nil) (.cons (.ite (.cmp .eq (.nm 0) (.int 6)) (.cons (.ret (.tup (.cons (.call 58 (.cons (.sub (.nm 1) (.int 0)) (.cons (.sub (.nm 1) (.int 1)) .nil))) (.cons (.call 104 (.cons (.sub (.nm 2) (.int 0)) (.cons (.sub (.nm 2) (.int 1)) (.cons (.nm 4) (.cons (.bl true) .nil))))) .nil)))) .nil) .nil) (.cons (.ite (.cmp .eq (.nm 0) (.int 7)) (.cons (.ret (.tup (.cons (.call 59 (.cons (.sub (.nm 1) (.int 0)) (.cons (.sub (.nm 1) (.int 1)) .nil))) (.cons (.call 96 (.cons (.bin .add (.sub (.nm 2) (.int 0)) (.sub (.nm 2) (.int 1))) (.cons (.nm 6) (.cons (.nm 4) (.cons (.nm 5) .nil))))) .nil)))) .nil) .nil) (.cons (.ite (.cmp .eq (.nm 0) (.int 8)) (.cons (.ret (.tup (.cons (.call 60 (.cons (.sub (.nm 1) (.int 0)) (.cons (.sub (.nm 1) (.int 1)) .nil))) (.cons (.comp (.nm 7) (.one 7) .lst (.sub (.nm 2) (.int 0)) (.cmp .in_ (.nm 7) (.sub (.nm 2) (.int 1)))) .nil)))) .nil) .nil) (.cons (.ret (.tup (.cons (.sub (.nm 1) (.int 0)) (.cons (.sub (.nm 2) (.int 0)) .nil)))) .nil)))))) [.sh (ni x), .sh (.lst [c.obj fd, d.obj fd]), .sh (.lst [dl c.n ws, dl c.n vs]), .sh (.lst (ps.map ni)), .sh (tabA α), .sh (tabM α), .sh (ni c.n), .un] (fun _ => ∃ (e : CD α) (us : List (Vc α)), Made e us ∧ D.non = .tup [e.obj fd, dl e.n us]) fun dd => ∃ (e : CD α) (us : List (Vc α)), Made e us ∧ dd = .tup [e.obj fd, dl e.n us] := by
    have rest2 : WS (runF kk) (.cons (.ite (.cmp .eq (.nm 0) (.int 5)) (.cons (.ret (.tup (.cons (.call 57 (.cons (.sub (.nm 1) (.int 0)) (.cons (.sub (.nm 1) (.int 1)) .nil))) (.cons (.call 104 (.cons (.sub (.nm 2) (.int 0)) (.cons (.sub (.nm 2) (.int 1)) (.cons (.nm 4) (.cons (.bl false) .nil))))) .nil)))) .nil) .nil) (.cons (.ite (.cmp .eq (.nm 0) (.int 6)) (.cons (.ret (.tup (.cons (.call 58 (.cons (.sub (.nm 1) (.int 0)) (.cons (.sub (.nm 1) (.int 1)) .nil))) (.cons (.call 104 (.cons (.sub (.nm 2) (.int 0)) (.cons (.sub (.nm 2) (.int 1)) (.cons (.nm 4) (.cons (.bl true) .nil))))) .nil)))) .nil) .nil) (.cons (.ite (.cmp .eq (.nm 0) (.int 7)) (.cons (.ret (.tup (.cons (.call 59 (.cons (.sub (.nm 1) (.int 0)) (.cons (.sub (.nm 1) (.int 1)) .nil))) (.cons (.call 96 (.cons (.bin .add (.sub (.nm 2) (.int 0)) (.sub (.nm 2) (.int 1))) (.cons (.nm 6) (.cons (.nm 4) (.cons (.nm 5) .nil))))) .nil)))) .nil) .nil) (.cons (.ite (.cmp .eq (.nm 0) (.int 8)) (.cons (.ret (.tup (.cons (.call 60 (.cons (.sub (.nm 1) (.int 0)) (.cons (.sub (.nm 1) (.int 1)) .nil))) (.cons (.comp (.nm 7) (.one 7) .lst (.sub (.nm 2) (.int 0)) (.cmp .in_ (.nm 7) (.sub (.nm 2) (.int 1)))) .nil)))) .nil) .nil) (.cons (.ret (.tup (.cons (.sub (.nm 1) (.int 0)) (.cons (.sub (.nm 2) (.int 0)) .nil)))) .nil))))) [.sh (ni x), .sh (.lst [c.obj fd, d.obj fd]), .sh (.lst [dl c.n ws, dl c.n vs]), .sh (.lst (ps.map ni)), .sh (tabA α), .sh (tabM α), .sh (ni c.n), .un] (fun _ => ∃ (e : CD α) (us : List (Vc α)), Made e us ∧ D.non = .tup [e.obj fd, dl e.n us]) fun dd => ∃ (e : CD α) (us : List (Vc α)), Made e us ∧ dd = .tup [e.obj fd, dl e.n us] := by
      repeat (first | refine we_sh rfl ?_ | refine we_int ?_ | refine wt_cmp ?_ | refine ws_cons ?_ | refine ws_ite ?_ | with_reducible refine lf (q5) ?_)
      refine ⟨fun z => ?_, fun z => ?_⟩
      · obtain ⟨e, e1, e2, e3, e4⟩ := ev_joined F hL c d ok ok' (by omega)
        have lp := ev_lpairs ws vs false (n := c.n) (by omega) (by omega) (by omega)
        repeat (first | refine we_sh rfl ?_ | refine we_int ?_ | refine we_bl ?_ | refine wa_nil ?_ | refine wa_cons ?_ | refine we_call ?_ | refine we_subS rfl ?_ | refine we_tup ?_ | refine ws_cons ?_ | refine ws_ret ?_ | with_reducible refine lf (i0 _ _) ?_ | with_reducible refine lf (i1 _ _) ?_ | refine lf (e4 kk (by omega)) ?_ | refine lf (lp kk (by omega)) ?_)
        refine ⟨by simp [big], e, _, ⟨e2, wok_join ok w v e3, by omega, by rw [pairL_len]; exact hwv⟩, by rw [e1, hd]⟩
      repeat (first | refine we_sh rfl ?_ | refine we_int ?_ | refine wt_cmp ?_ | refine ws_nil ?_ | refine ws_cons ?_ | refine ws_ite ?_ | with_reducible refine lf (q6) ?_)
      refine ⟨fun z => ?_, fun z => ?_⟩
      · obtain ⟨e, e1, e2, e3, e4⟩ := ev_doubled F hL c d ok ok' hd (by omega)
        have lp := ev_lpairs ws vs true (n := c.n) (by omega) (by omega) (by omega)
        repeat (first | refine we_sh rfl ?_ | refine we_int ?_ | refine we_bl ?_ | refine wa_nil ?_ | refine wa_cons ?_ | refine we_call ?_ | refine we_subS rfl ?_ | refine we_tup ?_ | refine ws_cons ?_ | refine ws_ret ?_ | with_reducible refine lf (i0 _ _) ?_ | with_reducible refine lf (i1 _ _) ?_ | refine lf (e4 kk (by omega)) ?_ | refine lf (lp kk (by omega)) ?_)
        refine ⟨by simp [big], e, _, ⟨e2, wok_double ok w v e3, by omega, by rw [pairL_len]; exact hwv⟩, by rw [e1, Nat.two_mul]⟩
      repeat (first | refine we_sh rfl ?_ | refine we_int ?_ | refine wt_cmp ?_ | refine ws_nil ?_ | refine ws_cons ?_ | refine ws_ite ?_ | with_reducible refine lf (q7) ?_)
      refine ⟨fun z => ?_, fun z => ?_⟩
      · obtain ⟨e, e1, e2, e3, e4⟩ := ev_span_of F hL c d ok ok' hd
        obtain ⟨us, u1, u2⟩ := ev_lspan (n := c.n) (ws ++ vs) (fun r hr => by
          rcases List.mem_append.mp hr with h | h
          · exact ws1 r h
          · exact vs1 r h) (by omega) q16 (by omega) (by rw [List.length_append]; omega)
        repeat (first | refine we_sh rfl ?_ | refine we_int ?_ | refine we_bin ?_ | refine wa_nil ?_ | refine wa_cons ?_ | refine we_call ?_ | refine we_subS rfl ?_ | refine we_tup ?_ | refine ws_cons ?_ | refine ws_ret ?_ | with_reducible refine lf (i0 _ _) ?_ | with_reducible refine lf (i1 _ _) ?_ | with_reducible refine lf (add_dl (show ws.length + vs.length ≤ 1000 by omega)) ?_ | refine lf (e4 kk (by omega)) ?_ | refine lf (u2 kk (by omega)) ?_)
        refine ⟨by simp [big], e, us, ⟨e2, wok_span w v e3 u1, by omega, ?_⟩, by rw [e1]⟩
        refine Nat.le_trans (sup_len u1.nd (n := c.n) fun x hx => ?_) hq
        refine span_sup (fun r hr => ?_) ((u1.mem x).mp hx)
        rcases List.mem_append.mp hr with h | h
        · exact ws1 r h
        · exact vs1 r h
      repeat (first | refine we_sh rfl ?_ | refine we_int ?_ | refine wt_cmp ?_ | refine ws_nil ?_ | refine ws_cons ?_ | refine ws_ite ?_ | with_reducible refine lf (q8) ?_)
      refine ⟨fun z => ?_, fun z => ?_⟩
      · obtain ⟨e, e1, e2, e3, e4⟩ := ev_meeting F hL c d ok ok' hd
        repeat (first | refine we_int ?_ | refine wa_nil ?_ | refine wa_cons ?_ | refine we_call ?_ | refine we_subS rfl ?_ | refine we_tup ?_ | refine ws_cons ?_ | refine ws_ret ?_ | with_reducible refine lf (i0 _ _) ?_ | with_reducible refine lf (i1 _ _) ?_ | refine lf (e4 kk (by omega)) ?_)
        refine we_filt rfl ?_
        repeat (first | refine we_int ?_ | refine we_subS rfl ?_ | refine ww_lst ?_ | with_reducible refine lf (i0 _ _) ?_)
        refine ⟨_, rfl, rfl, Vc α, ws, dv c.n, fun x => decide (x ∈ vs), dv c.n, rfl, by simp only [big]; omega, fun y hy => ⟨_, rfl, ?_, fun _ => ?_⟩, ?_⟩
        · repeat (first | refine we_sh rfl ?_ | refine we_int ?_ | refine we_subS rfl ?_ | refine wt_cmp ?_ | with_reducible refine lf (i1 _ _) ?_ | with_reducible refine lf (in_dv (ws1 y hy) vs1) ?_)
          rfl
        · repeat (first | refine we_sh rfl ?_ | refine ⟨rfl, ?_⟩)
          rfl
        repeat (first | refine wa_nil ?_)
        refine ⟨by simp [big], e, _, ⟨e2, wok_meet w v e3, by omega, Nat.le_trans (List.length_filter_le _ _) wl⟩, by rw [e1]; rfl⟩
      repeat (first | refine we_int ?_ | refine wa_nil ?_ | refine wa_cons ?_ | refine we_subS rfl ?_ | refine we_tup ?_ | refine ws_nil ?_ | refine ws_cons ?_ | refine ws_ret ?_ | with_reducible refine lf (i0 _ _) ?_)
      refine ⟨by simp [big], c, ws, ⟨ok, w, by omega, wl⟩, rfl⟩
    repeat (first | refine we_sh rfl ?_ | refine we_int ?_ | refine wt_cmp ?_ | refine wt_and ?_ | refine ws_cons ?_ | refine ws_ite ?_ | with_reducible refine lf (q4) ?_)
    refine ⟨fun z => ⟨fun zz => (by cases zz), fun _ => ?_⟩, fun z => ?_⟩
    · exact ws_nil rest2
    repeat (first | refine we_sh rfl ?_ | refine we_int ?_ | refine wt_cmp ?_ | with_reducible refine lf (g1) ?_)
    refine ⟨fun zz => ?_, fun zz => ?_⟩
    · exact WS.mono_N (punctured_ (of_decide_eq_true z) (of_decide_eq_true zz)) fun _ h => h.elim
    · exact ws_nil rest2
  refine ⟨fun z => ⟨fun zz => (by cases zz), fun _ => ?_⟩, fun z => ?_⟩
  · exact ws_nil rest
  repeat (first | refine we_sh rfl ?_ | refine we_int ?_ | refine wt_cmp ?_ | with_reducible refine lf (g1) ?_)
  refine ⟨fun zz => ?_, fun zz => ?_⟩
  · exact WS.mono_N (shortened_ (of_decide_eq_true z) (of_decide_eq_true zz)) fun _ h => h.elim
  · exact ws_nil rest
end
end MN
end S_MnLh
section S_MnLi
set_option maxRecDepth 100000
/-! The law's drawn codes. -/
namespace MN
open LA
theorem min2_nat {a b : Nat} : biD .min2 [ni a, ni b] = some (ni (min a b)) := by
  show some (D.int (if (b : Int) < (a : Int) then (b : Int) else (a : Int))) = some (D.int ((min a b : Nat) : Int))
  congr 2
  split <;> omega
theorem max2_nat {a b : Nat} : biD .max2 [ni a, ni b] = some (ni (max a b)) := by
  show some (D.int (if (b : Int) > (a : Int) then (b : Int) else (a : Int))) = some (D.int ((max a b : Nat) : Int))
  congr 2
  split <;> omega
section
variable {α : Type} [GF α] {n m k L : Nat} {fd : List D}
theorem wok_of {c : CD α} {rs ws : List (Vc α)} (hs : ∀ w, Span c.R w ↔ Span rs w) (o : SpOk n rs ws) : WOk c ws := ⟨o.nd, fun x => by rw [o.mem, hs]⟩
theorem sp_len {rs ws : List (Vc α)} (o : SpOk n rs ws) : ws.length ≤ GF.q α ^ rs.length := by
  rw [← wordsF_len]
  exact sub_len o.nd fun x hx => mem_wordsF.mpr ((o.mem x).mp hx)
/-- two drawn codes with their words -/
structure Drawn (c d : CD α) (ws vs : List (Vc α)) : Prop where
  ok : c.Ok
  ok' : d.Ok
  n : d.n = c.n
  w : WOk c ws
  v : WOk d vs
  n4 : c.n ≤ 4
  q81 : GF.q α ^ c.n ≤ 81
  m81 : ws.length * vs.length ≤ 81
theorem ev_lcodes (F : FE α L fd) (hL : 3 ≤ L) {P MS : D} (hi : Ev 6 F_Field_init [P, MS] (.ins 0 fd)) {mo : Nat} (hm : Ev 1 F_law_most [ni (GF.q α), .int 81] (ni mo)) (h1 : 1 ≤ mo) (hmo : GF.q α ^ mo ≤ 81) (xs : List Nat) (hx : xs.length = 60) :
    ∃ (c d : CD α) (ws vs : List (Vc α)), Drawn c d ws vs ∧ Ev (L + 6) F_law_codes [.lst (xs.map ni), P, MS, tabA α, tabM α] (.tup [.lst [c.obj fd, d.obj fd], .lst [dl c.n ws, dl c.n vs]]) := by
  have q16 := F.small
  have q2 := GF.two (α := α)
  have m6 : mo ≤ 6 := by
    apply Classical.byContradiction
    intro h
    have h1 : 2 ^ 7 ≤ GF.q α ^ mo := Nat.le_trans (Nat.pow_le_pow_left q2 7) (Nat.pow_le_pow_right (by omega) (by omega))
    omega
  suffices h : ∃ dd, (∃ (c d : CD α) (ws vs : List (Vc α)), Drawn c d ws vs ∧ dd = .tup [.lst [c.obj fd, d.obj fd], .lst [dl c.n ws, dl c.n vs]]) ∧ Ev (L + 6) F_law_codes [.lst (xs.map ni), P, MS, tabA α, tabM α] dd by
    obtain ⟨dd, ⟨c, d, ws, vs, h1, rfl⟩, h4⟩ := h
    exact ⟨c, d, ws, vs, h1, h4⟩
  refine ev_some (L := L + 5) ?_
  obtain ⟨kk, hkk⟩ : ∃ kk, kk = L + 5 := ⟨_, rfl⟩
  rw [← hkk]
  refine run_ws_ex (by decide) ⟨rfl, rfl⟩ ?_
  show WS _ t_law_codes [.sh (.lst (xs.map ni)), .sh P, .sh MS, .sh (tabA α), .sh (tabM α), .un, .un, .un, .un, .un, .un, .un, .un, .un, .un] _ _
  unfold t_law_codes
  have x1 : idxD (.lst (xs.map ni)) (.int 1) = some (ni (xs.getD 1 0)) := idx_natl (i := 1) (by omega)
  have x2 : idxD (.lst (xs.map ni)) (.int 2) = some (ni (xs.getD 2 0)) := idx_natl (i := 2) (by omega)
  have x3 : idxD (.lst (xs.map ni)) (.int 3) = some (ni (xs.getD 3 0)) := idx_natl (i := 3) (by omega)
  generalize hl : xs.getD 1 0 = l0 at x1
  generalize hf : xs.getD 2 0 = f0 at x2
  generalize hs : xs.getD 3 0 = s0 at x3
  have hm := hm kk (by omega)
  have a1 : ∀ a : Nat, opD .add (.int 1) (ni a) = some (ni (1 + a)) := fun a => add_nat (a := 1)
  have mx1 : biD .max2 [.int 1, ni mo] = some (ni (max 1 mo)) := max2_nat (a := 1)
  have mn4 : biD .min2 [.int 4, ni (max 1 mo)] = some (ni (min 4 (max 1 mo))) := min2_nat (a := 4)
  rw [show max 1 mo = mo by omega] at mx1 mn4
  have md : opD .mod (ni l0) (ni (min 4 mo)) = some (ni (l0 % min 4 mo)) := mod_nat (by omega)
  have hl1 := Nat.mod_lt l0 (show 0 < min 4 mo by omega)
  repeat (first | refine we_sh rfl ?_ | refine we_int ?_ | refine we_bin ?_ | refine wa_nil ?_ | refine wa_cons ?_ | refine we_call ?_ | refine we_bi ?_ | refine we_subS rfl ?_ | refine ws_cons ?_ | refine ws_setV rfl ?_ | with_reducible refine lf (len_tabA) ?_ | with_reducible refine lf (x1) ?_ | with_reducible refine lf (int_ni) ?_ | with_reducible refine lf (hm) ?_ | with_reducible refine lf (mx1) ?_ | with_reducible refine lf (mn4) ?_ | with_reducible refine lf (md) ?_ | with_reducible refine lf (a1 _) ?_)
  generalize hn : 1 + l0 % min 4 mo = n
  have n1 : 1 ≤ n := by omega
  have n4 : n ≤ 4 := by omega
  have nm : n ≤ mo := by omega
  have qn : GF.q α ^ n ≤ 81 := Nat.le_trans (Nat.pow_le_pow_right (by omega) nm) hmo
  have mdf : opD .mod (ni f0) (ni (1 + min n mo)) = some (ni (f0 % (1 + min n mo))) := mod_nat (by omega)
  have hf1 := Nat.mod_lt f0 (show 0 < 1 + min n mo by omega)
  repeat (first | refine we_sh rfl ?_ | refine we_int ?_ | refine we_bin ?_ | refine wa_nil ?_ | refine wa_cons ?_ | refine we_bi ?_ | refine we_subS rfl ?_ | refine ws_cons ?_ | refine ws_setV rfl ?_ | with_reducible refine lf (x2) ?_ | with_reducible refine lf (int_ni) ?_ | with_reducible refine lf (min2_nat) ?_ | with_reducible refine lf (a1 _) ?_ | with_reducible refine lf (mdf) ?_)
  generalize hfi : f0 % (1 + min n mo) = fi at hf1
  have f4 : fi ≤ 4 := by omega
  have sb : opD .sub (ni mo) (ni fi) = some (ni (mo - fi)) := sub_nat (by omega)
  have mx0 : ∀ a : Nat, biD .max2 [.int 0, ni a] = some (ni (max 0 a)) := fun a => max2_nat (a := 0)
  have mds : opD .mod (ni s0) (ni (1 + max 0 (min n (mo - fi)))) = some (ni (s0 % (1 + max 0 (min n (mo - fi))))) := mod_nat (by omega)
  have hs1 := Nat.mod_lt s0 (show 0 < 1 + max 0 (min n (mo - fi)) by omega)
  repeat (first | refine we_sh rfl ?_ | refine we_int ?_ | refine we_bin ?_ | refine wa_nil ?_ | refine wa_cons ?_ | refine we_mk ?_ | refine we_bi ?_ | refine ws_cons ?_ | refine ws_setV rfl ?_ | with_reducible refine lf (x3) ?_ | with_reducible refine lf (int_ni) ?_ | with_reducible refine lf (sb) ?_ | with_reducible refine lf (min2_nat) ?_ | with_reducible refine lf (mx0 _) ?_ | with_reducible refine lf (a1 _) ?_ | with_reducible refine lf (mds) ?_)
  generalize hse : s0 % (1 + max 0 (min n (mo - fi))) = se at hs1
  have s4 : se ≤ 4 := by omega
  have fs : fi + se ≤ mo := by omega
  repeat (first | refine wa_nil ?_ | refine we_lst ?_ | refine ws_cons ?_ | refine ws_setV rfl ?_ | refine lf (hi kk (by omega)) ?_)
  refine ⟨by simp [big], ?_⟩
  repeat (first | refine wa_nil ?_ | refine we_lst ?_ | refine ws_cons ?_ | refine ws_setV rfl ?_)
  refine ⟨by simp [big], ?_⟩
  repeat (first | refine ws_cons ?_)
  refine ws_forR ?_
  repeat (first | refine we_int ?_ | refine wa_nil ?_ | refine wa_cons ?_ | refine ⟨rfl, ?_⟩)
  have big2 : ∀ rs : List (Vc α), (∀ r ∈ rs, SupV n r) → rs.length ≤ 4 → ∃ (c : CD α) (ws : List (Vc α)), c.n = n ∧ c.Ok ∧ WOk c ws ∧ ws.length ≤ GF.q α ^ rs.length ∧ runF kk F_LinearCode_init [.ins 0 fd, ni n, dl n rs] = some (c.obj fd) ∧ runF kk F_law_span [dl n rs, ni n, tabA α, tabM α] = some (dl n ws) := fun rs hr hl => by
    obtain ⟨c, c1, c2, c3, c4⟩ := ev_code F hL rs hr n1 (by omega) (by omega)
    obtain ⟨ws, w1, w2⟩ := ev_lspan rs hr (by omega) q16 (by omega) (by omega)
    exact ⟨c, ws, c1, c2, wok_of c3 w1, sp_len w1, c4 kk (by omega), w2 kk (by omega)⟩
  have rsup : ∀ a m, ∀ r ∈ (rowsV xs a n m : List (Vc α)), SupV n r := fun a m r hr => by
    obtain ⟨t, _, rfl⟩ := List.mem_map.mp hr
    intro x hx
    unfold rowV
    rw [if_neg (by omega)]
  have rlen : ∀ a m, (rowsV xs a n m : List (Vc α)).length = m := fun a m => by unfold rowsV; simp
  obtain ⟨c, ws, c1, c2, c3, c4, c5, c6⟩ := big2 (rowsV xs 10 n fi) (rsup _ _) (by rw [rlen]; exact f4)
  obtain ⟨d, vs, d1, d2, d3, d4, d5, d6⟩ := big2 (rowsV xs 30 n se) (rsup _ _) (by rw [rlen]; exact s4)
  rw [rlen] at c4 d4
  have b1 : fi * n ≤ 4 * 4 := Nat.mul_le_mul f4 n4
  have b2 : se * n ≤ 4 * 4 := Nat.mul_le_mul s4 n4
  have r1 : runF kk F_law_rows [.lst (xs.map ni), ni 10, ni (GF.q α), ni n, ni fi] = some (dl n (rowsV xs 10 n fi : List (Vc α))) := ev_lrows xs 10 n fi (by omega) (by omega) (by omega) (by omega) q16 kk (by omega)
  have r2 : runF kk F_law_rows [.lst (xs.map ni), ni 30, ni (GF.q α), ni n, ni se] = some (dl n (rowsV xs 30 n se : List (Vc α))) := ev_lrows xs 30 n se (by omega) (by omega) (by omega) (by omega) q16 kk (by omega)
  have dr : Drawn c d ws vs := ⟨c2, d2, by rw [d1, c1], c3, d3, by omega, by rw [c1]; exact qn, by
    refine Nat.le_trans (Nat.mul_le_mul c4 d4) ?_
    rw [← Nat.pow_add]
    exact Nat.le_trans (Nat.pow_le_pow_right (by omega) fs) hmo⟩
  refine ⟨2, rfl, by omega, fun i ρ => ∃ x13 x14, ρ = [.sh (.lst (xs.map ni)), .sh P, .sh MS, .sh (tabA α), .sh (tabM α), .sh (ni (GF.q α)), .sh (ni n), .sh (ni mo), .sh (ni fi), .sh (ni se), .sh (.ins 0 fd), .ow ([c.obj fd, d.obj fd].take i), .ow ([dl n ws, dl n vs].take i), x13, x14], ⟨_, _, rfl⟩, ?_, ?_⟩
  · rintro ρ' ⟨x13, x14, rfl⟩
    repeat (first | refine we_ow rfl ?_ | refine wa_nil ?_ | refine wa_cons ?_ | refine we_tup ?_ | refine ws_cons ?_ | refine ws_ret ?_)
    refine ⟨by simp [big], c, d, ws, vs, dr, by rw [c1]; rfl⟩
  rintro i ρ hi2 ⟨x13, x14, rfl⟩
  refine ⟨_, rfl, ?_⟩
  have m20 : opD .mul (.int 20) (ni i) = some (ni (20 * i)) := mul_nat (a := 20) (by omega)
  have a10 : opD .add (.int 10) (ni (20 * i)) = some (ni (10 + 20 * i)) := add_nat (a := 10)
  repeat (first | refine we_sh rfl ?_ | refine we_int ?_ | refine we_bin ?_ | refine wa_nil ?_ | refine wa_cons ?_ | refine we_call ?_ | refine we_sub rfl ?_ | refine we_lst ?_ | refine ws_cons ?_ | refine ws_setV rfl ?_ | with_reducible refine lf (m20) ?_ | with_reducible refine lf (a10) ?_)
  refine ⟨by simp [big], ?_⟩
  repeat (first | refine we_sh rfl ?_)
  have : i = 0 ∨ i = 1 := by omega
  rcases this with rfl | rfl
  · have ix : idxD (.lst [ni fi, ni se]) (ni 0) = some (ni fi) := rfl
    repeat (first | refine we_sh rfl ?_ | refine wa_nil ?_ | refine wa_cons ?_ | refine we_mk ?_ | refine ws_cons ?_ | refine ws_appV ?_ | with_reducible refine lf (ix) ?_ | with_reducible refine lf (r1) ?_ | with_reducible refine lf (c5) ?_ | refine ⟨rfl, ?_⟩)
    refine ⟨_, rfl, by simp [big], ?_⟩
    repeat (first | refine we_sh rfl ?_ | refine wa_nil ?_ | refine wa_cons ?_ | refine we_call ?_ | refine ws_cons ?_ | refine ws_appV ?_ | with_reducible refine lf (c6) ?_ | refine ⟨rfl, ?_⟩)
    refine ⟨_, rfl, by simp [big], ?_⟩
    repeat (first | refine ws_nil ?_)
    exact ⟨_, _, rfl⟩
  · have ix : idxD (.lst [ni fi, ni se]) (ni 1) = some (ni se) := rfl
    repeat (first | refine we_sh rfl ?_ | refine wa_nil ?_ | refine wa_cons ?_ | refine we_mk ?_ | refine ws_cons ?_ | refine ws_appV ?_ | with_reducible refine lf (ix) ?_ | with_reducible refine lf (r2) ?_ | with_reducible refine lf (d5) ?_ | refine ⟨rfl, ?_⟩)
    refine ⟨_, rfl, by simp [big], ?_⟩
    repeat (first | refine we_sh rfl ?_ | refine wa_nil ?_ | refine wa_cons ?_ | refine we_call ?_ | refine ws_cons ?_ | refine ws_appV ?_ | with_reducible refine lf (d6) ?_ | refine ⟨rfl, ?_⟩)
    refine ⟨_, rfl, by simp [big], ?_⟩
    repeat (first | refine ws_nil ?_)
    exact ⟨_, _, rfl⟩
end
end MN
end S_MnLi
section S_MnKr
set_option maxRecDepth 100000
namespace MN
open LA
def krB (q : Nat) : Bool := ((List.range 9).all fun k => decide (kraw q 0 0 k = if k = 0 then 1 else 0)) && (List.range 8).all fun n => (List.range (n + 1)).all fun x => (List.range 9).all fun k =>
  decide (kraw q (n + 1) x k = kraw q n x k + ((q : Int) - 1) * (if k = 0 then 0 else kraw q n x (k - 1))) && decide (kraw q (n + 1) (x + 1) k = kraw q n x k - (if k = 0 then 0 else kraw q n x (k - 1)))
theorem kr_ok {q : Nat} (h : krB q = true) : KOk q 8 (kraw q) := by
  obtain ⟨h1, h2⟩ := Bool.and_eq_true_iff.mp h
  have g : ∀ n x k, n < 8 → x ≤ n → k ≤ 8 → _ := fun n x k hn hx hk => List.all_eq_true.mp (List.all_eq_true.mp (List.all_eq_true.mp h2 n (List.mem_range.mpr hn)) x (List.mem_range.mpr (by omega))) k (List.mem_range.mpr (by omega))
  simp only [Bool.and_eq_true, decide_eq_true_eq] at g
  exact ⟨fun k hk => of_decide_eq_true (List.all_eq_true.mp h1 k (List.mem_range.mpr (by omega))), fun n x k hn hx hk => (g n x k hn hx hk).1, fun n x k hn hx hk => (g n x k hn hx hk).2⟩
theorem kr2 : KOk 2 8 (kraw 2) := kr_ok (by decide +kernel)
theorem kr3 : KOk 3 8 (kraw 3) := kr_ok (by decide +kernel)
theorem kr4 : KOk 4 8 (kraw 4) := kr_ok (by decide +kernel)
theorem kr5 : KOk 5 8 (kraw 5) := kr_ok (by decide +kernel)
theorem kr7 : KOk 7 8 (kraw 7) := kr_ok (by decide +kernel)
theorem kr8 : KOk 8 8 (kraw 8) := kr_ok (by decide +kernel)
theorem kr9 : KOk 9 8 (kraw 9) := kr_ok (by decide +kernel)
theorem kr11 : KOk 11 8 (kraw 11) := kr_ok (by decide +kernel)
theorem kr16 : KOk 16 8 (kraw 16) := kr_ok (by decide +kernel)
end MN
end S_MnKr
section S_MnKs
set_option maxRecDepth 100000
namespace MN
open LA
/-- what the numbers of the transform and the binomials keep together -/
def Mom (q : Nat) : Prop := ∀ n x k, n ≤ 8 → x ≤ n → k ≤ n → sumZ (fun w => cb (n - w) (k - w) * kraw q n x w) (k + 1) = ((q ^ k : Nat) : Int) * cb (n - x) k
def moB (q : Nat) : Bool := (List.range 9).all fun n => (List.range (n + 1)).all fun x => (List.range (n + 1)).all fun k => decide (sumZ (fun w => cb (n - w) (k - w) * kraw q n x w) (k + 1) = ((q ^ k : Nat) : Int) * cb (n - x) k)
theorem mo_ok {q : Nat} (h : moB q = true) : Mom q := fun n x k hn hx hk =>
  of_decide_eq_true (List.all_eq_true.mp (List.all_eq_true.mp (List.all_eq_true.mp h n (List.mem_range.mpr (by omega))) x (List.mem_range.mpr (by omega))) k (List.mem_range.mpr (by omega)))
theorem mo2 : Mom 2 := mo_ok (by decide +kernel)
theorem mo3 : Mom 3 := mo_ok (by decide +kernel)
theorem mo4 : Mom 4 := mo_ok (by decide +kernel)
theorem mo5 : Mom 5 := mo_ok (by decide +kernel)
theorem mo7 : Mom 7 := mo_ok (by decide +kernel)
theorem mo8 : Mom 8 := mo_ok (by decide +kernel)
theorem mo9 : Mom 9 := mo_ok (by decide +kernel)
theorem mo11 : Mom 11 := mo_ok (by decide +kernel)
theorem mo16 : Mom 16 := mo_ok (by decide +kernel)
end MN
end S_MnKs
section S_MnLj
set_option maxRecDepth 100000
/-! Counts of a code and of its dual. -/
namespace MN
open LA
section
variable {α : Type} [GF α] {n m k L : Nat} {fd : List D}
theorem sumZ_congr {f g : Nat → Int} : ∀ {n}, (∀ i, i < n → f i = g i) → sumZ f n = sumZ g n
  | 0, _ => rfl
  | n + 1, h => by
    show sumZ f n + f n = sumZ g n + g n
    rw [sumZ_congr fun i hi => h i (by omega), h n (by omega)]
theorem sumZ_add (f g : Nat → Int) : ∀ n, sumZ (fun i => f i + g i) n = sumZ f n + sumZ g n
  | 0 => rfl
  | n + 1 => by
    show sumZ (fun i => f i + g i) n + (f n + g n) = (sumZ f n + f n) + (sumZ g n + g n)
    rw [sumZ_add f g n]
    omega
theorem sumZ_mul (c : Int) (f : Nat → Int) : ∀ n, sumZ (fun i => c * f i) n = c * sumZ f n
  | 0 => (Int.mul_zero c).symm
  | n + 1 => by
    show sumZ (fun i => c * f i) n + c * f n = c * (sumZ f n + f n)
    rw [sumZ_mul c f n, Int.mul_add]
theorem sumZ_zero {f : Nat → Int} {n : Nat} (h : ∀ i, i < n → f i = 0) : sumZ f n = 0 := by
  induction n with
  | zero => rfl
  | succ n ih =>
    show sumZ f n + f n = 0
    rw [ih fun i hi => h i (by omega), h n (by omega)]
    rfl
theorem sumZ_one {f : Nat → Int} {n j : Nat} (hj : j < n) (h : ∀ i, i < n → i ≠ j → f i = 0) : sumZ f n = f j := by
  induction n with
  | zero => omega
  | succ n ih =>
    show sumZ f n + f n = f j
    by_cases e : j = n
    · subst e
      rw [sumZ_zero fun i hi => h i (by omega) (by omega), Int.zero_add]
    · rw [ih (by omega) fun i hi => h i (by omega), h n (by omega) (by omega), Int.add_zero]
theorem sumI_Z {β : Type} (h : β → Nat → Int) (X : List β) : ∀ m, sumI (fun x => sumZ (h x) m) X = sumZ (fun w => sumI (fun x => h x w) X) m
  | 0 => sumI_zero fun _ _ => rfl
  | m + 1 => by
    show sumI (fun x => sumZ (h x) m + h x m) X = sumZ _ m + sumI (fun x => h x m) X
    rw [sumI_add, sumI_Z h X m]
theorem cnt_cons (v : Vc α) (ws : List (Vc α)) (w : Nat) : (cnt n (v :: ws) w : Int) = (if w = wt n v then 1 else 0) + cnt n ws w := by
  unfold cnt
  by_cases h : w = wt n v
  · rw [if_pos h, List.filter_cons_of_pos (by simp [h]), List.length_cons]; omega
  · rw [if_neg h, List.filter_cons_of_neg (by simp; exact fun e => h e.symm)]; omega
theorem sum_wt (g : Nat → Int) : ∀ ws : List (Vc α), sumI (fun x => g (wt n x)) ws = sumZ (fun w => cnt n ws w * g w) (n + 1)
  | [] => (sumZ_zero fun i _ => by show ((0 : Nat) : Int) * _ = 0; rw [Int.natCast_zero, Int.zero_mul]).symm
  | v :: ws => by
    rw [sumI_cons, sum_wt g ws]
    have e : ∀ i, i < n + 1 → (cnt n (v :: ws) i : Int) * g i = (if i = wt n v then 1 else 0) * g i + cnt n ws i * g i := fun i _ => by rw [cnt_cons, Int.add_mul]
    rw [sumZ_congr e, sumZ_add]
    congr 1
    have hw := wt_le n v
    rw [sumZ_one (j := wt n v) (by omega) fun i _ hne => by rw [if_neg hne, Int.zero_mul], if_pos rfl, Int.one_mul]
theorem sum_cnt (ws : List (Vc α)) : sumZ (fun w => (cnt n ws w : Int)) (n + 1) = ws.length := by
  have := sum_wt (n := n) (fun _ => 1) ws
  rw [sumI_const, Int.mul_one] at this
  rw [this]
  exact sumZ_congr fun i _ => (Int.mul_one _).symm
theorem sum_is (ws : List (Vc α)) (w : Nat) : sumI (fun x => if wt n x = w then 1 else 0) ws = (cnt n ws w : Int) := by
  induction ws with
  | nil => rfl
  | cons v ws ih =>
    rw [sumI_cons, ih, cnt_cons]
    congr 1
    by_cases h : w = wt n v
    · rw [if_pos h, if_pos h.symm]
    · rw [if_neg h, if_neg (Ne.symm h)]
theorem cnt_perm {a b : List (Vc α)} (h : a.Perm b) (w : Nat) : cnt n a w = cnt n b w := (h.filter _).length_eq
theorem cnt_le (ws : List (Vc α)) (w : Nat) : cnt n ws w ≤ ws.length := List.length_filter_le _ _
/-- X's words times the moments of its orthogonal words -/
theorem moments {X Y : List (Vc α)} (hm : Mom (GF.q α)) (hk : KOk (GF.q α) 8 (kraw (GF.q α))) (hn : n ≤ 8) (nx : X.Nodup) (ha : ∀ x y, x ∈ X → y ∈ X → av x y ∈ X) (hs : ∀ (c : α) x, x ∈ X → sv c x ∈ X) (ny : Y.Nodup)
    (hy : ∀ y, y ∈ Y ↔ (∀ i, n ≤ i → y i = 0) ∧ ∀ x ∈ X, dot n y x = 0) (k : Nat) (hkn : k ≤ n) : (X.length : Int) * sumZ (fun w => cb (n - w) (k - w) * cnt n Y w) (k + 1) = ((GF.q α ^ k : Nat) : Int) * bmom n (fun w => cnt n X w) k := by
  have e1 : ∀ w, w < k + 1 → (X.length : Int) * (cb (n - w) (k - w) * cnt n Y w) = sumI (fun x => cb (n - w) (k - w) * kraw (GF.q α) n (wt n x) w) X := fun w hw => by
    have := macw hk hn nx ha hs ny hy w (by omega)
    rw [sum_is] at this
    rw [sumI_mul, ← this, Int.mul_left_comm]
  rw [← sumZ_mul, sumZ_congr e1, ← sumI_Z]
  have e2 : ∀ x ∈ X, sumZ (fun w => cb (n - w) (k - w) * kraw (GF.q α) n (wt n x) w) (k + 1) = ((GF.q α ^ k : Nat) : Int) * cb (n - wt n x) k := fun x _ => hm n (wt n x) k hn (wt_le n x) hkn
  rw [sumI_congr e2, sumI_mul]
  congr 1
  rw [sum_wt (fun w => cb (n - w) k) X]
  exact sumZ_congr fun i _ => Int.mul_comm _ _
theorem cb_nn : ∀ a, a < 9 → cb a a = 1 := by decide +kernel
theorem cb_lt : ∀ a, a < 9 → ∀ b, b < 9 → a < b → cb a b = 0 := by decide +kernel
theorem cb_ch : ∀ a, a < 9 → ∀ b, b < 9 → b ≤ a → (chN a b : Int) = cb a b := by decide +kernel
/-- the words of a code and of its dual together -/
theorem card {X Y : List (Vc α)} (hm : Mom (GF.q α)) (hk : KOk (GF.q α) 8 (kraw (GF.q α))) (hn : n ≤ 8) (nx : X.Nodup) (ha : ∀ x y, x ∈ X → y ∈ X → av x y ∈ X) (hs : ∀ (c : α) x, x ∈ X → sv c x ∈ X) (hz : zv ∈ X) (sx : ∀ x ∈ X, SupV n x) (ny : Y.Nodup)
    (hy : ∀ y, y ∈ Y ↔ (∀ i, n ≤ i → y i = 0) ∧ ∀ x ∈ X, dot n y x = 0) : X.length * Y.length = GF.q α ^ n ∧ cnt n X 0 = 1 := by
  have c0 : cnt n X 0 = 1 := by
    unfold cnt
    have : ∀ x ∈ X.filter fun v => decide (wt n v = 0), x ∈ [(zv : Vc α)] := fun x hx => by
      obtain ⟨h1, h2⟩ := List.mem_filter.mp hx
      have h2 := of_decide_eq_true h2
      rw [List.mem_singleton]
      apply Classical.byContradiction
      intro hne
      have := wt_pos (sx x h1) hne
      omega
    have l1 := sub_len (List.Nodup.sublist List.filter_sublist nx) this
    have w0 : wt n (zv : Vc α) = 0 := by
      have := supp_len (zv : Vc α) n
      rw [← this]
      unfold supp
      rw [List.length_eq_zero_iff, List.filter_eq_nil_iff]
      intro i _
      show ¬ (!decide ((0 : α) = 0)) = true
      rw [decide_eq_true rfl]
      simp
    have l2 : 0 < (X.filter fun v => decide (wt n v = 0)).length := List.length_pos_of_mem (List.mem_filter.mpr ⟨hz, decide_eq_true w0⟩)
    simp only [List.length_singleton] at l1
    omega
  refine ⟨?_, c0⟩
  have := moments hm hk hn nx ha hs ny hy n (Nat.le_refl n)
  have e1 : sumZ (fun w => cb (n - w) (n - w) * (cnt n Y w : Int)) (n + 1) = Y.length := by
    rw [← sum_cnt (n := n)]
    exact sumZ_congr fun i hi => by rw [cb_nn _ (by omega), Int.one_mul]
  have e2 : bmom n (fun w => (cnt n X w : Int)) n = 1 := by
    unfold bmom
    rw [sumZ_one (j := 0) (by omega) fun i hi hne => by rw [cb_lt _ (by omega) _ (by omega) (by omega), Int.zero_mul], Nat.sub_zero, cb_nn _ (by omega)]
    show (1 : Int) * ((cnt n X 0 : Nat) : Int) = 1
    rw [c0]
    rfl
  rw [e1, e2, Int.mul_one] at this
  exact_mod_cast this
/-! ### a code and its dual -/
theorem words_av {R : List (Vc α)} : ∀ x y, x ∈ wordsF R → y ∈ wordsF R → av x y ∈ wordsF R := fun x y hx hy => mem_wordsF.mpr ((mem_wordsF.mp hx).av (mem_wordsF.mp hy))
theorem words_sv {R : List (Vc α)} : ∀ (c : α) x, x ∈ wordsF R → sv c x ∈ wordsF R := fun c x hx => mem_wordsF.mpr ((mem_wordsF.mp hx).sv c)
theorem dual_of_dual {c c' : CD α} (ok : c.Ok) (hs : ∀ w, Span c'.R w ↔ Span (kerF c.n c.S c.T) w) : ∀ y, y ∈ wordsF c.R ↔ (∀ i, c.n ≤ i → y i = 0) ∧ ∀ x ∈ wordsF c'.R, dot c.n y x = 0 := fun y => by
  rw [mem_wordsF]
  constructor
  · intro hy
    refine ⟨ok.sup hy, fun x hx => ?_⟩
    have hx := (hs x).mp (mem_wordsF.mp hx)
    have := ((ok.sp y).mpr hy).orth (u := x) (n := c.n) fun r hr => by
      rw [dot_comm]
      exact ker_orth ok.rs hx r hr
    rw [dot_comm]
    exact this
  · rintro ⟨h1, h2⟩
    refine (ok.sp y).mp (ker_ker ok.rs h1 fun col hc hcP => ?_)
    rw [dot_comm]
    exact h2 _ (mem_wordsF.mpr ((hs _).mpr (.mem (List.mem_map.mpr ⟨col, mem_kcols.mpr ⟨hc, hcP⟩, rfl⟩))))
theorem sumZ_le {f : Nat → Int} : ∀ {n}, (∀ i, i < n → 0 ≤ f i) → ∀ j, j < n → f j ≤ sumZ f n
  | 0, _, j, hj => by omega
  | n + 1, h, j, hj => by
    show f j ≤ sumZ f n + f n
    have h0 : 0 ≤ sumZ f n := by
      have : ∀ m, m ≤ n → 0 ≤ sumZ f m := by
        intro m
        induction m with
        | zero => intro _; exact Int.le_refl 0
        | succ m ih =>
          intro hm
          show 0 ≤ sumZ f m + f m
          have h1 := ih (by omega)
          have h2 := h m (by omega)
          omega
      exact this n (Nat.le_refl n)
    by_cases e : j = n
    · subst e; omega
    · have := sumZ_le (fun i hi => h i (by omega)) j (show j < n by omega)
      have := h n (by omega)
      omega
theorem ev_both (F : FE α L fd) (hL : 3 ≤ L) (hm : Mom (GF.q α)) (hk : KOk (GF.q α) 8 (kraw (GF.q α))) (c : CD α) (ok : c.Ok) (hn : c.n ≤ 8) (hsz : GF.q α ^ (c.n - c.R.length) ≤ 128) : Ev (L + 6) F_enumerator_by_dual [c.obj fd] (cntD c.n (wordsF c.R)) := by
  obtain ⟨c', d1, d2, d3, d4⟩ := ev_dual F hL c ok
  have q2 := GF.two (α := α)
  have rl1 := row_len c ok
  have rl2 := row_len c' d2
  have p1 := ok.pos
  have dd := dual_of_dual ok d3
  have sx : ∀ x ∈ wordsF c'.R, SupV c.n x := fun x hx => by rw [← d1]; exact d2.sup (mem_wordsF.mp hx)
  obtain ⟨cd, c0⟩ := card hm hk hn (wordsF_nodup d2.rr) words_av words_sv (mem_wordsF.mpr .zero) sx (wordsF_nodup ok.rr) dd
  have hX : (wordsF c'.R).length = GF.q α ^ c'.R.length := wordsF_len _
  rw [wordsF_len, wordsF_len, ← Nat.pow_add] at cd
  have e1 : c'.R.length + c.R.length = c.n := Nat.le_antisymm ((Nat.pow_le_pow_iff_right (show 1 < GF.q α by omega)).mp (Nat.le_of_eq cd)) ((Nat.pow_le_pow_iff_right (show 1 < GF.q α by omega)).mp (Nat.le_of_eq cd.symm))
  have e2 : c'.R.length = c.n - c.R.length := by omega
  rw [← e2] at hsz
  have q16 := F.small
  rw [cntD_tab]
  refine ev_by_dual F hL c c' ok d2 d1 d4 (by omega) _ ?_
  rw [cntD_tab]
  have bound : ∀ i, cnt c.n (wordsF c'.R) i ≤ 128 := fun i => Nat.le_trans (cnt_le _ _) (by rw [hX]; exact hsz)
  refine ev_dual_enum (GF.q α) c.n c'.R.length _ q2 q16 hn p1 (fun i _ => by omega) (fun i _ => by have := bound i; omega) (by rw [c0]; rfl) (by omega) (by rw [sum_cnt, hX]) (by omega) _ fun k hkn => ⟨?_, by omega⟩
  have mw := macw hk hn (wordsF_nodup d2.rr) words_av words_sv (wordsF_nodup ok.rr) dd k (by omega)
  rw [sum_is, hX] at mw
  rw [mw]
  exact (sum_wt (fun w => kraw (GF.q α) c.n w k) (wordsF c'.R)).symm
end
end MN
end S_MnLj
section S_MnLk
set_option maxRecDepth 100000
/-! The law's moments and distances. -/
namespace MN
open LA
section
variable {α : Type} [GF α] {n m k L : Nat} {fd : List D}
theorem set_cnt (pre : List (Vc α)) (v : Vc α) : ((List.range (n + 1)).map fun w => ni (cnt n pre w)).set (wt n v) (ni (cnt n pre (wt n v) + 1)) = (List.range (n + 1)).map fun w => ni (cnt n (pre ++ [v]) w) := by
  rw [tab_set]
  refine List.map_congr_left fun w _ => ?_
  rw [cnt_snoc]
  by_cases h : w = wt n v
  · rw [if_pos h, if_pos h, h]
  · rw [if_neg h, if_neg h]
theorem ev_lmoments (F : FE α L fd) (hm : Mom (GF.q α)) (hk : KOk (GF.q α) 8 (kraw (GF.q α))) (c : CD α) (ok : c.Ok) (hn : c.n ≤ 8) (hq : GF.q α ^ c.n ≤ 300) : Ev 3 F_law_moments [dl c.n (wordsF c.R), cntD c.n (wordsF c.R), ni c.n, tabA α, tabM α] (.bl true) := by
  have q2 := GF.two (α := α)
  have q16 := F.small
  obtain ⟨os, o1, o2⟩ := ev_lorth (wordsF c.R) (n := c.n) (by omega) q16 hq
  have hy : ∀ y, y ∈ os ↔ (∀ i, c.n ≤ i → y i = 0) ∧ ∀ x ∈ wordsF c.R, dot c.n y x = 0 := fun y => by
    rw [o1.mem]
    constructor
    · rintro ⟨h1, h2⟩
      exact ⟨h1, fun x hx => by rw [dot_comm]; exact h2 x hx⟩
    · rintro ⟨h1, h2⟩
      exact ⟨h1, fun x hx => by rw [dot_comm]; exact h2 x hx⟩
  have sx : ∀ x ∈ wordsF c.R, SupV c.n x := fun x hx => ok.sup (mem_wordsF.mp hx)
  obtain ⟨_, c0⟩ := card hm hk hn (wordsF_nodup ok.rr) words_av words_sv (mem_wordsF.mpr .zero) sx o1.nd hy
  have mo := fun k hkn => moments hm hk hn (wordsF_nodup ok.rr) words_av words_sv o1.nd hy k hkn
  have ol := sup_len o1.nd fun x hx => ((o1.mem x).mp hx).1
  have wl := sup_len (wordsF_nodup ok.rr) sx
  generalize hX : wordsF c.R = X at *
  refine run_k fun kk hkk => run_ws (by decide) ⟨rfl, rfl⟩ ?_
  show WS _ t_law_moments [.sh (dl c.n X), .sh (cntD c.n X), .sh (ni c.n), .sh (tabA α), .sh (tabM α), .un, .un, .un, .un, .un, .un, .un] _ _
  unfold t_law_moments
  have mz : opD .mul (.lst [.int 0]) (ni (c.n + 1)) = some (.lst ((List.range (c.n + 1)).map fun w => ni (cnt c.n ([] : List (Vc α)) w))) := mul_list (by omega)
  repeat (first | refine we_sh rfl ?_ | refine we_int ?_ | refine we_bin ?_ | refine wa_nil ?_ | refine wa_cons ?_ | refine we_bi ?_ | refine we_lst ?_ | refine ws_cons ?_ | refine ws_setV rfl ?_ | with_reducible refine lf (len_tabA) ?_)
  refine ⟨by simp [big], ?_⟩
  repeat (first | refine we_sh rfl ?_ | refine we_int ?_ | refine we_bin ?_ | refine ws_cons ?_ | with_reducible refine lf (add1) ?_ | with_reducible refine lf (mz) ?_)
  refine ws_forL ?_
  repeat (first | refine we_sh rfl ?_ | refine wa_nil ?_ | refine wa_cons ?_ | refine we_call ?_ | refine ww_lst ?_ | refine lf (o2 kk (by omega)) ?_)
  refine ⟨_, rfl, rfl, Vc α, os, dv c.n, fun pre ρ => ∃ x7, ρ = [.sh (dl c.n X), .sh (cntD c.n X), .sh (ni c.n), .sh (tabA α), .sh (tabM α), .sh (ni (GF.q α)), .ow ((List.range (c.n + 1)).map fun w => ni (cnt c.n pre w)), x7, .un, .un, .un, .un], rfl, ⟨_, rfl⟩, ?_, ?_⟩
  · rintro ρ' ⟨x7, rfl⟩
    repeat (first | refine we_int ?_ | refine ws_cons ?_ | refine ws_setV rfl ?_)
    refine ws_forR ?_
    repeat (first | refine we_sh rfl ?_ | refine we_int ?_ | refine we_bin ?_ | refine wa_nil ?_ | refine wa_cons ?_ | with_reducible refine lf (add1) ?_ | refine ⟨rfl, ?_⟩)
    refine ⟨c.n + 1, rfl, by omega, fun k ρ => ∃ x9 x10 x11, ρ = [.sh (dl c.n X), .sh (cntD c.n X), .sh (ni c.n), .sh (tabA α), .sh (tabM α), .sh (ni (GF.q α)), .ow ((List.range (c.n + 1)).map fun w => ni (cnt c.n os w)), x7, .sh (ni (GF.q α ^ k)), x9, x10, x11], ⟨_, _, _, rfl⟩, ?_, ?_⟩
    · rintro ρ' ⟨x9, x10, x11, rfl⟩
      repeat (first | refine we_bl ?_ | refine ws_cons ?_ | refine ws_ret ?_)
      rfl
    rintro k ρ hkn ⟨x9, x10, x11, rfl⟩
    refine ⟨_, rfl, ?_⟩
    repeat (first | refine we_int ?_ | refine ws_cons ?_ | refine ws_setV rfl ?_)
    refine ws_forR ?_
    repeat (first | refine we_sh rfl ?_ | refine we_int ?_ | refine we_bin ?_ | refine wa_nil ?_ | refine wa_cons ?_ | with_reducible refine lf (add1) ?_ | refine ⟨rfl, ?_⟩)
    refine ⟨k + 1, rfl, by omega, fun i ρ => ∃ x11, ρ = [.sh (dl c.n X), .sh (cntD c.n X), .sh (ni c.n), .sh (tabA α), .sh (tabM α), .sh (ni (GF.q α)), .ow ((List.range (c.n + 1)).map fun w => ni (cnt c.n os w)), x7, .sh (ni (GF.q α ^ k)), .sh (ni k), .sh (.int (sumZ (fun w => ((chN (c.n - w) (k - w) * cnt c.n os w : Nat) : Int)) i)), x11], ⟨_, rfl⟩, ?_, ?_⟩
    · rintro ρ' ⟨x11, rfl⟩
      have e1 : sumZ (fun w => ((chN (c.n - w) (k - w) * cnt c.n os w : Nat) : Int)) (k + 1) = sumZ (fun w => cb (c.n - w) (k - w) * (cnt c.n os w : Int)) (k + 1) := sumZ_congr fun i hi => by rw [Int.natCast_mul, cb_ch _ (by omega) _ (by omega) (by omega)]
      have mk := mo k (by omega)
      rw [← e1] at mk
      have pk : GF.q α ^ k ≤ 300 := Nat.le_trans (Nat.pow_le_pow_right (by omega) (by omega)) hq
      have bm := ev_bmom c.n k (fun w => (cnt c.n X w : Int)) hn (by omega) (fun i _ => by omega) (by rw [c0]; decide) kk (by omega)
      rw [← cntD_tab] at bm
      have m1 : opD .mul (ni (GF.q α ^ k)) (.int (bmom c.n (fun w => (cnt c.n X w : Int)) k)) = some (.int (((GF.q α ^ k : Nat) : Int) * bmom c.n (fun w => (cnt c.n X w : Int)) k)) := mul_l (by omega) (by omega)
      have m2 : opD .mul (ni X.length) (.int (sumZ (fun w => ((chN (c.n - w) (k - w) * cnt c.n os w : Nat) : Int)) (k + 1))) = some (.int ((X.length : Int) * sumZ (fun w => ((chN (c.n - w) (k - w) * cnt c.n os w : Nat) : Int)) (k + 1))) := mul_l (by omega) (by omega)
      rw [mk] at m2
      have ne : cmpD .ne (.int (((GF.q α ^ k : Nat) : Int) * bmom c.n (fun w => (cnt c.n X w : Int)) k)) (.int (((GF.q α ^ k : Nat) : Int) * bmom c.n (fun w => (cnt c.n X w : Int)) k)) = some false := by rw [ne_int]; simp
      repeat (first | refine we_sh rfl ?_ | refine we_bin ?_ | refine wa_nil ?_ | refine wa_cons ?_ | refine we_call ?_ | refine we_bi ?_ | refine wt_cmp ?_ | refine ws_cons ?_ | refine ws_ite ?_ | with_reducible refine lf (bm) ?_ | with_reducible refine lf (m1) ?_ | with_reducible refine lf (len_dl) ?_ | with_reducible refine lf (m2) ?_ | with_reducible refine lf (ne) ?_)
      refine ⟨fun z => (by cases z), fun _ => ?_⟩
      repeat (first | refine we_sh rfl ?_ | refine we_bin ?_ | refine ws_nil ?_ | refine ws_cons ?_ | refine ws_setV rfl ?_ | with_reducible refine lf (mul_nat (show GF.q α < 2 ^ 64 by omega)) ?_)
      exact ⟨_, _, _, by rw [Nat.pow_succ]; rfl⟩
    rintro w ρ hw ⟨x11, rfl⟩
    refine ⟨_, rfl, ?_⟩
    have ix : idxD (.lst ((List.range (c.n + 1)).map fun w => ni (cnt c.n os w))) (ni w) = some (ni (cnt c.n os w)) := idx_lst (tab_get (by omega))
    have cl := cnt_le (n := c.n) os w
    repeat (first | refine we_sh rfl ?_ | refine we_bin ?_ | refine wa_nil ?_ | refine wa_cons ?_ | refine we_call ?_ | refine we_subO rfl ?_ | refine ws_nil ?_ | refine ws_cons ?_ | refine ws_setV rfl ?_ | with_reducible refine lf (sub_nat (show w ≤ c.n by omega)) ?_ | with_reducible refine lf (sub_nat (show w ≤ k by omega)) ?_ | with_reducible refine lf (ix) ?_ | with_reducible refine lf (mul_nat (show cnt c.n os w < 2 ^ 64 by omega)) ?_ | with_reducible refine lf (add_int) ?_ | refine lf (ev_lchoose (c.n - w) (k - w) (by omega) (by omega) kk (by omega)) ?_)
    exact ⟨_, rfl⟩
  rintro pre v post ρ e ⟨x7, rfl⟩
  refine ⟨_, rfl, ?_⟩
  have wv := wt_le c.n v
  have ew := ev_lweight v (show c.n ≤ 1000 by omega) kk (by omega)
  have ix : idxD (.lst ((List.range (c.n + 1)).map fun w => ni (cnt c.n pre w))) (ni (wt c.n v)) = some (ni (cnt c.n pre (wt c.n v))) := idx_lst (tab_get (by omega))
  repeat (first | refine we_sh rfl ?_ | refine we_int ?_ | refine we_bin ?_ | refine wa_nil ?_ | refine wa_cons ?_ | refine we_call ?_ | refine we_subO rfl ?_ | refine ws_cons ?_ | refine ws_setsV ?_ | with_reducible refine lf (ew) ?_ | with_reducible refine lf (ix) ?_ | with_reducible refine lf (add1) ?_ | refine ⟨rfl, ?_⟩)
  refine ⟨_, _, _, rfl, rfl, ixN_nat (by simp; omega), ?_⟩
  rw [set_cnt]
  repeat (first | refine ws_nil ?_)
  exact ⟨_, rfl⟩
/-! ### distances -/
theorem wordsF_head : ∀ R : List (Vc α), ∃ t, wordsF R = zv :: t
  | [] => ⟨[], rfl⟩
  | r :: R => by
    obtain ⟨t, ht⟩ := wordsF_head R
    have q2 := GF.two (α := α)
    obtain ⟨q', hq⟩ : ∃ q', GF.q α = q' + 1 := ⟨GF.q α - 1, by omega⟩
    have e0 : av (sv (GF.el 0) r) zv = (zv : Vc α) := by
      rw [el_zero]
      funext i
      simp only [av, sv, zv]
      grind
    unfold wordsF
    rw [hq, List.range_succ_eq_map, List.flatMap_cons, ht, List.map_cons, e0, List.cons_append]
    exact ⟨_, rfl⟩
theorem mem_drop {c : CD α} (ok : c.Ok) {w : Vc α} : w ∈ (wordsF c.R).drop 1 ↔ Span c.R w ∧ w ≠ zv := by
  obtain ⟨t, ht⟩ := wordsF_head c.R
  have nd := wordsF_nodup ok.rr
  rw [← mem_wordsF, ht]
  rw [ht, List.nodup_cons] at nd
  show w ∈ t ↔ _
  rw [List.mem_cons]
  constructor
  · intro h
    exact ⟨.inr h, fun e => nd.1 (e ▸ h)⟩
  · rintro ⟨h | h, h2⟩
    · exact absurd h h2
    · exact h
theorem dist_ex {c : CD α} (ok : c.Ok) (hk : c.R.length ≠ 0) : ∃ d, Dist c d := by
  have hne : (wordsF c.R).drop 1 ≠ [] := by
    have rr := ok.rr
    cases hR : c.R with
    | nil => rw [hR] at hk; exact absurd rfl hk
    | cons r R =>
      have hm : r ∈ (wordsF c.R).drop 1 := (mem_drop ok).mpr ⟨.mem (by rw [hR]; exact List.mem_cons_self ..), fun e => by
        cases hP : c.P with
        | nil => rw [hR, hP] at rr; exact rr.elim
        | cons p P =>
          rw [hR, hP] at rr
          have := rr.2.1
          rw [e] at this
          exact one_ne this.symm⟩
      rw [hR] at hm
      exact List.ne_nil_of_mem hm
  obtain ⟨w0, h1, h2, _⟩ := min_wts (n := c.n) hne
  exact ⟨wt c.n w0, ⟨⟨w0, ((mem_drop ok).mp h1).1, ((mem_drop ok).mp h1).2, rfl⟩, fun w hw hz => h2 w ((mem_drop ok).mpr ⟨hw, hz⟩)⟩⟩
theorem cnt_pos {c : CD α} {w : Nat} : cnt c.n (wordsF c.R) w ≠ 0 ↔ ∃ v, Span c.R v ∧ wt c.n v = w := by
  unfold cnt
  constructor
  · intro h
    have hne : (wordsF c.R).filter (fun v => decide (wt c.n v = w)) ≠ [] := fun e => h (by rw [e]; rfl)
    obtain ⟨v, hv⟩ := List.exists_mem_of_ne_nil _ hne
    obtain ⟨h1, h2⟩ := List.mem_filter.mp hv
    exact ⟨v, mem_wordsF.mp h1, of_decide_eq_true h2⟩
  · rintro ⟨v, hv, h2⟩ h
    have := List.length_pos_of_mem (List.mem_filter.mpr ⟨mem_wordsF.mpr hv, decide_eq_true h2⟩ : v ∈ (wordsF c.R).filter fun v => decide (wt c.n v = w))
    omega
theorem isn_bl : cmpD .isn (.bl true) (.bl true) = some false := rfl
theorem is_bl {k : Bool} : cmpD .is_ (.bl k) (.bl false) = some (decide (k = false)) := rfl
theorem ev_ldist (F : FE α L fd) (hL : 3 ≤ L) (c : CD α) (ok : c.Ok) (hn : c.n ≤ 8) (hq : GF.q α ^ c.R.length ≤ 81) : Ev (L + 7) F_law_distances [c.obj fd, dl c.n (wordsF c.R), cntD c.n (wordsF c.R), ni c.n] (.bl true) := by
  have q2 := GF.two (α := α)
  have wlen := wordsF_len c.R
  refine run_k fun k hk => run_ws (by decide) ⟨rfl, rfl⟩ ?_
  show WS _ t_law_distances [.sh (c.obj fd), .sh (dl c.n (wordsF c.R)), .sh (cntD c.n (wordsF c.R)), .sh (ni c.n), .un, .un, .un, .un, .un, .un] _ _
  unfold t_law_distances
  have ixc : ∀ w, w ≤ c.n → idxD (cntD c.n (wordsF c.R)) (ni w) = some (ni (cnt c.n (wordsF c.R) w)) := fun w hw => idx_lst (tab_get (by omega))
  repeat (first | refine we_int ?_ | refine ws_cons ?_ | refine ws_setV rfl ?_)
  refine ws_forR ?_
  repeat (first | refine we_sh rfl ?_ | refine wa_nil ?_ | refine wa_cons ?_ | refine ⟨rfl, ?_⟩)
  refine ⟨c.n, rfl, by omega, fun i ρ => ∃ l x5, ρ = [.sh (c.obj fd), .sh (dl c.n (wordsF c.R)), .sh (cntD c.n (wordsF c.R)), .sh (ni c.n), .sh (ni l), x5, .un, .un, .un, .un] ∧ 1 ≤ l ∧ l ≤ c.n + 1 ∧ (∀ j, 1 ≤ j → j < l → cnt c.n (wordsF c.R) j = 0) ∧ (l ≤ c.n → cnt c.n (wordsF c.R) l ≠ 0 ∨ l = i + 1), ⟨1, _, rfl, by omega, by omega, fun j _ _ => by omega, fun _ => .inr rfl⟩, ?_, ?_⟩
  rotate_left 1
  · rintro i ρ hi ⟨l, x5, rfl, l1, l2, l3, l4⟩
    refine ⟨_, rfl, ?_⟩
    repeat (first | refine we_sh rfl ?_ | refine wt_cmp ?_ | refine wt_and ?_ | refine ws_cons ?_ | refine ws_ite ?_ | with_reducible refine lf (le_nat) ?_)
    refine ⟨fun z => ⟨fun zz => (by cases zz), fun _ => ?_⟩, fun z => ?_⟩
    · have z := of_decide_eq_false z
      repeat (first | refine ws_nil ?_)
      exact ⟨l, _, rfl, l1, l2, l3, fun h => absurd h z⟩
    · have z : l ≤ c.n := of_decide_eq_true z
      repeat (first | refine we_sh rfl ?_ | refine we_int ?_ | refine we_subS rfl ?_ | refine wt_cmp ?_ | with_reducible refine lf (ixc l z) ?_ | with_reducible refine lf (eq_nat0) ?_)
      refine ⟨fun z2 => ?_, fun z2 => ?_⟩
      · have z2 := of_decide_eq_true z2
        repeat (first | refine we_sh rfl ?_ | refine we_int ?_ | refine we_bin ?_ | refine ws_nil ?_ | refine ws_cons ?_ | refine ws_setV rfl ?_ | with_reducible refine lf (add1) ?_)
        refine ⟨l + 1, _, rfl, by omega, by omega, fun j h1 h2 => ?_, fun _ => ?_⟩
        · by_cases e : j = l
          · rw [e]; exact z2
          · exact l3 j h1 (by omega)
        · rcases l4 z with h | h
          · exact absurd z2 h
          · exact .inr (by omega)
      · have z2 := of_decide_eq_false z2
        repeat (first | refine ws_nil ?_)
        exact ⟨l, _, rfl, l1, l2, l3, fun _ => .inl z2⟩
  rintro ρ' ⟨l, x5, rfl, l1, l2, l3, l4⟩
  have l4 : l ≤ c.n → cnt c.n (wordsF c.R) l ≠ 0 := fun h => by
    rcases l4 h with h2 | h2
    · exact h2
    · omega
  have e1 : cmpD .eq (ni (wordsF c.R).length) (.int 1) = some (decide ((wordsF c.R).length = 1)) := eq_nat (j := 1)
  repeat (first | refine we_sh rfl ?_ | refine we_int ?_ | refine wa_nil ?_ | refine wa_cons ?_ | refine we_bi ?_ | refine wt_cmp ?_ | refine ws_cons ?_ | refine ws_ite ?_ | with_reducible refine lf (len_dl) ?_ | with_reducible refine lf (e1) ?_)
  refine ⟨fun z => ?_, fun z => ?_⟩
  · have z : (wordsF c.R).length = 1 := of_decide_eq_true z
    have k0 : c.R.length = 0 := by
      rw [wlen] at z
      apply Classical.byContradiction
      intro h
      have : GF.q α ^ 1 ≤ GF.q α ^ c.R.length := Nat.pow_le_pow_right (by omega) (by omega)
      rw [Nat.pow_one] at this
      omega
    repeat (first | refine we_sh rfl ?_ | refine wa_nil ?_ | refine wa_cons ?_ | refine we_call ?_ | refine we_lst ?_ | refine ws_cons ?_ | refine ws_setV rfl ?_ | refine lf (ev_mind0 c k0 k (by omega)) ?_ | refine lf (ev_cert0 c k0 k (by omega)) ?_ | refine lf (ev_cols0 c k0 k (by omega)) ?_)
    refine ⟨by simp [big], ?_⟩
    repeat (first | refine we_ow rfl ?_ | refine we_non ?_ | refine wa_nil ?_ | refine wa_cons ?_ | refine we_lst ?_ | refine wt_cmp ?_ | refine wt_and ?_ | refine we_and ?_ | refine ws_cons ?_ | refine ws_ret ?_)
    refine ⟨by simp [big], ?_⟩
    have c1 : cmpD .eq (.lst [.non, .non, .non]) (.lst [.non, .non, .non]) = some true := rfl
    have c2 : cmpD .eq (.lst []) (.lst []) = some true := rfl
    repeat (first | with_reducible refine lf (c1) ?_)
    refine ⟨fun zz => (by cases zz), fun _ => ?_⟩
    repeat (first | refine we_sh rfl ?_ | refine wa_nil ?_ | refine wa_cons ?_ | refine we_call ?_ | refine we_lst ?_ | refine wt_cmp ?_ | refine lf (ev_light0 c k0 k (by omega)) ?_)
    refine ⟨by simp [big], ?_⟩
    repeat (first | with_reducible refine lf (c2) ?_)
    rfl
  have z : ¬ (wordsF c.R).length = 1 := of_decide_eq_false z
  have k0 : c.R.length ≠ 0 := fun h => z (by rw [wlen, h]; rfl)
  obtain ⟨d, hd⟩ := dist_ex ok k0
  have dpos := hd.pos ok
  have ld : l = d := by
    obtain ⟨v, v1, v2, v3⟩ := hd.ex
    have cd : cnt c.n (wordsF c.R) d ≠ 0 := cnt_pos.mpr ⟨v, v1, v3⟩
    have dn : d ≤ c.n := by rw [← v3]; exact wt_le _ _
    have h1 : l ≤ d := by
      apply Classical.byContradiction
      intro h
      exact cd (l3 d dpos (by omega))
    obtain ⟨u, u1, u2⟩ := cnt_pos.mp (l4 (by omega))
    have h2 := hd.le u u1 (fun e => by
      have : wt c.n (zv : Vc α) = 0 := by
        rw [← supp_len]
        unfold supp
        rw [List.length_eq_zero_iff, List.filter_eq_nil_iff]
        intro i _
        show ¬ (!decide ((0 : α) = 0)) = true
        rw [decide_eq_true rfl]
        simp
      rw [e, this] at u2
      omega)
    omega
  subst ld
  have dn : l ≤ c.n := by
    obtain ⟨v, v1, v2, v3⟩ := hd.ex
    rw [← v3]
    exact wt_le _ _
  obtain ⟨w, Ss, t, ct, e2⟩ := ev_cert F hL c ok hq k0 hd
  have e3 := ev_mind F hL c ok (by omega) k0 l (by
    obtain ⟨v, v1, v2, v3⟩ := hd.ex
    exact ⟨v, (mem_drop ok).mpr ⟨v1, v2⟩, v3⟩) (fun v hv => hd.le v ((mem_drop ok).mp hv).1 ((mem_drop ok).mp hv).2)
  have lself : cmpD .ne (ni l) (ni l) = some false := by rw [ne_nat]; simp
  have p0 : idxD (cD c.n w Ss t) (.int 0) = some (dv c.n w) := rfl
  have ew := ev_lweight w (show c.n ≤ 1000 by omega)
  rw [ct.wt] at ew
  have sx : ∀ x ∈ wordsF c.R, SupV c.n x := fun x hx => ok.sup (mem_wordsF.mp hx)
  have ni_ : ∀ v, Span c.R v → cmpD .nin (dv c.n v) (dl c.n (wordsF c.R)) = some false := fun v hv => by
    rw [nin_dv (ok.sup hv) sx, decide_eq_true (mem_wordsF.mpr hv)]
    rfl
  repeat (first | refine we_sh rfl ?_ | refine wa_nil ?_ | refine wa_cons ?_ | refine we_call ?_ | refine wt_cmp ?_ | refine wt_or3 ?_ | refine ws_nil ?_ | refine ws_cons ?_ | refine ws_setV rfl ?_ | refine ws_ite ?_ | with_reducible refine lf (lself) ?_ | refine lf (e2 k (by omega)) ?_ | refine lf (e3 k (by omega)) ?_)
  refine ⟨fun zz => (by cases zz), fun _ => ?_⟩
  repeat (first | refine we_sh rfl ?_ | refine we_int ?_ | refine wa_nil ?_ | refine wa_cons ?_ | refine we_call ?_ | refine we_subS rfl ?_ | refine wt_cmp ?_ | with_reducible refine lf (p0) ?_ | with_reducible refine lf (lself) ?_ | refine lf (ew k (by omega)) ?_)
  refine ⟨fun zz => (by cases zz), fun _ => ?_⟩
  repeat (first | refine we_sh rfl ?_ | refine we_int ?_ | refine we_subS rfl ?_ | refine wt_cmp ?_ | with_reducible refine lf (p0) ?_ | with_reducible refine lf (ni_ w ct.sp) ?_)
  refine ⟨fun zz => (by cases zz), fun _ => ?_⟩
  have ck := fun dd => ev_ckdist F hL c ok hq hd ct dd k (by omega)
  have ck1 := ck l
  rw [decide_eq_true rfl] at ck1
  have ck2 := ck (l + 1)
  rw [decide_eq_false (by omega)] at ck2
  have ck3 := ck (l - 1)
  rw [decide_eq_false (by omega)] at ck3
  have lt := ev_light F hL c ok (by omega) k0 l e3 k (by omega)
  have tail : WS (runF k) (.cons (.set 7 (.call 65 (.cons (.nm 0) .nil))) (.cons (.ite (.or (.cmp .ne (.bi .len (.cons (.nm 7) .nil)) (.sub (.nm 2) (.nm 4))) (.cmp .gt (.bi .len (.cons (.comp (.nm 9) (.one 9) .lst (.nm 7) (.cmp .nin (.nm 9) (.nm 1))) .nil)) (.int 0))) (.cons (.ret (.bl false)) .nil) .nil) (.cons (.ite (.cmp .isn (.call 77 (.cons (.nm 0) (.cons (.nm 4) (.cons (.nm 6) .nil)))) (.bl true)) (.cons (.ret (.bl false)) .nil) .nil) (.cons (.ret (.and (.cmp .is_ (.call 77 (.cons (.nm 0) (.cons (.bin .add (.nm 4) (.int 1)) (.cons (.nm 6) .nil)))) (.bl false)) (.cmp .is_ (.call 77 (.cons (.nm 0) (.cons (.bin .sub (.nm 4) (.int 1)) (.cons (.nm 6) .nil)))) (.bl false)))) .nil)))) [.sh (c.obj fd), .sh (dl c.n (wordsF c.R)), .sh (cntD c.n (wordsF c.R)), .sh (ni c.n), .sh (ni l), x5, .sh (cD c.n w Ss t), .un, .un, .un] (fun _ => D.bl true = .non) fun r => r = .bl true := by
    have lc : cmpD .ne (ni ((wordsF c.R).filter fun w => decide (wt c.n w = l)).length) (ni (cnt c.n (wordsF c.R) l)) = some false := by
      rw [ne_nat]
      have : ((wordsF c.R).filter fun w => decide (wt c.n w = l)).length = cnt c.n (wordsF c.R) l := rfl
      rw [this]
      simp
    repeat (first | refine we_sh rfl ?_ | refine wa_nil ?_ | refine wa_cons ?_ | refine we_call ?_ | refine we_bi ?_ | refine we_subS rfl ?_ | refine wt_cmp ?_ | refine wt_or ?_ | refine ws_cons ?_ | refine ws_setV rfl ?_ | refine ws_ite ?_ | with_reducible refine lf (lt) ?_ | with_reducible refine lf (len_dl) ?_ | with_reducible refine lf (ixc l dn) ?_ | with_reducible refine lf (lc) ?_)
    refine ⟨fun zz => (by cases zz), fun _ => ?_⟩
    repeat (first | refine wa_cons ?_ | refine we_bi ?_ | refine wt_cmp ?_)
    refine we_filt rfl ?_
    repeat (first | refine we_sh rfl ?_ | refine ww_lst ?_)
    have fl := List.length_filter_le (fun w => decide (wt c.n w = l)) (wordsF c.R)
    refine ⟨_, rfl, rfl, Vc α, (wordsF c.R).filter fun w => decide (wt c.n w = l), dv c.n, fun _ => false, dv c.n, rfl, by simp only [big]; omega, fun v hv => ⟨_, rfl, ?_, fun h => (by cases h)⟩, ?_⟩
    · repeat (first | refine we_sh rfl ?_ | refine wt_cmp ?_ | with_reducible refine lf (ni_ v (mem_wordsF.mp (List.mem_filter.mp hv).1)) ?_)
      rfl
    have f0 : ((wordsF c.R).filter fun w => decide (wt c.n w = l)).filter (fun _ => false) = [] := List.filter_eq_nil_iff.mpr fun _ _ h => by cases h
    rw [f0]
    have g0 : biD .len [.lst (([] : List (Vc α)).map (dv c.n))] = some (ni 0) := rfl
    have g1 : cmpD .gt (ni 0) (.int 0) = some false := rfl
    repeat (first | refine we_int ?_ | refine wa_nil ?_ | with_reducible refine lf (g0) ?_ | with_reducible refine lf (g1) ?_)
    refine ⟨fun zz => (by cases zz), fun _ => ?_⟩
    repeat (first | refine we_sh rfl ?_ | refine we_bl ?_ | refine wa_nil ?_ | refine wa_cons ?_ | refine we_call ?_ | refine wt_cmp ?_ | refine ws_nil ?_ | refine ws_cons ?_ | refine ws_ite ?_ | with_reducible refine lf (ck1) ?_ | with_reducible refine lf (isn_bl) ?_)
    refine ⟨fun zz => (by cases zz), fun _ => ?_⟩
    have i1 : cmpD .is_ (.bl false) (.bl false) = some true := rfl
    repeat (first | refine we_sh rfl ?_ | refine we_int ?_ | refine we_bl ?_ | refine we_bin ?_ | refine wa_nil ?_ | refine wa_cons ?_ | refine we_call ?_ | refine wt_cmp ?_ | refine wt_and ?_ | refine we_and ?_ | refine ws_nil ?_ | refine ws_cons ?_ | refine ws_ret ?_ | with_reducible refine lf (add1) ?_ | with_reducible refine lf (ck2) ?_ | with_reducible refine lf (i1) ?_)
    refine ⟨fun zz => (by cases zz), fun _ => ?_⟩
    repeat (first | refine we_sh rfl ?_ | refine we_int ?_ | refine we_bl ?_ | refine we_bin ?_ | refine wa_nil ?_ | refine wa_cons ?_ | refine we_call ?_ | refine wt_cmp ?_ | with_reducible refine lf (sub1 dpos) ?_ | with_reducible refine lf (ck3) ?_ | with_reducible refine lf (i1) ?_)
    rfl
  have l5 : cmpD .le (ni c.n) (.int 5) = some (decide (c.n ≤ 5)) := le_nat (j := 5)
  repeat (first | refine we_sh rfl ?_ | refine we_int ?_ | refine wt_cmp ?_ | refine wt_and ?_ | refine ws_nil ?_ | refine ws_cons ?_ | refine ws_ite ?_ | with_reducible refine lf (l5) ?_)
  refine ⟨fun zz => ⟨fun z3 => (by cases z3), fun _ => ?_⟩, fun zz => ?_⟩
  · exact ws_nil tail
  · have zz : c.n ≤ 5 := of_decide_eq_true zz
    repeat (first | refine we_sh rfl ?_ | refine wa_nil ?_ | refine wa_cons ?_ | refine we_call ?_ | refine wt_cmp ?_ | with_reducible refine lf (lself) ?_ | refine lf (ev_cols F hL c ok k0 zz hd k (by omega)) ?_)
    refine ⟨fun z3 => (by cases z3), fun _ => ?_⟩
    exact ws_nil tail
end
end MN
end S_MnLk
section S_MnLl
set_option maxRecDepth 100000
/-! The law over one field. -/
namespace MN
open LA
section
variable {α : Type} [GF α] {n m k L : Nat} {fd : List D}
theorem rowI_lt {u v : Vc α} (h : LtV n u v) : rowI n u < rowI n v := by
  obtain ⟨j, hj, h1, h2⟩ := h
  rw [List.lt_iff_exists]
  refine .inr ⟨j, by simp [rowI, hj], by simp [rowI, hj], fun i hi => ?_, ?_⟩
  · simp only [rowI, List.getElem_map, List.getElem_range]
    rw [h1 i hi]
  · simp only [rowI, List.getElem_map, List.getElem_range]
    omega
theorem rowI_inj {u v : Vc α} (hu : SupV n u) (hv : SupV n v) (h : rowI n u = rowI n v) : u = v := sup_ext hu hv fun i hi => by
  have := congrArg (fun l => l[i]?) h
  simp only [rowI, List.getElem?_map, List.getElem?_range hi, Option.map_some] at this
  have this : (GF.no (u i) : Int) = (GF.no (v i) : Int) := Option.some.inj this
  exact no_inj (by omega)
theorem srt {c : CD α} (ok : c.Ok) {us : List (Vc α)} (w : WOk c us) : us.mergeSort (fun a b => decide (rowI c.n a ≤ rowI c.n b)) = wordsF c.R := by
  refine List.Perm.eq_of_pairwise (le := fun a b => rowI c.n a ≤ rowI c.n b) (fun a b ha hb h1 h2 => ?_) ?_ ?_ ((List.mergeSort_perm us _).trans (w.perm ok))
  · refine rowI_inj (ok.sup ((w.mem a).mp ((List.mergeSort_perm us _).mem_iff.mp ha))) (ok.sup (mem_wordsF.mp hb)) (List.le_antisymm h1 h2)
  · have := List.pairwise_mergeSort (le := fun a b => decide (rowI c.n a ≤ rowI c.n b)) (fun a b d h1 h2 => by
      simp only [decide_eq_true_eq] at h1 h2 ⊢
      exact List.le_trans h1 h2) (fun a b => by
      simp only [Bool.or_eq_true, decide_eq_true_eq]
      exact List.le_total _ _) us
    exact this.imp fun h => of_decide_eq_true h
  · exact (wordsF_lt ok.rr).imp fun h => List.le_of_lt (rowI_lt h)
theorem eqDs_dl : ∀ ws : List (Vc α), eqDs (ws.map (dv n)) (ws.map (dv n)) = true
  | [] => by unfold eqDs; rfl
  | w :: ws => by
    rw [List.map_cons]
    unfold eqDs
    rw [eqDs_dl ws]
    have e : eqD (dv n w) (dv n w) = eqDs ((List.range n).map fun i => ei (w i)) ((List.range n).map fun i => ei (w i)) := by
      unfold dv
      conv => lhs; unfold eqD
    rw [e, eqDs_ei]
    have : (List.range n).all (fun i => decide (w i = w i)) = true := List.all_eq_true.mpr fun _ _ => decide_eq_true rfl
    rw [this]
    rfl
theorem ne_dl (ws : List (Vc α)) : cmpD .ne (dl n ws) (dl n ws) = some false := by
  show (if okP 4 (dl n ws) && okP 4 (dl n ws) then some (!eqD (dl n ws) (dl n ws)) else none) = _
  rw [okP_dl]
  have e : eqD (dl n ws) (dl n ws) = eqDs (ws.map (dv n)) (ws.map (dv n)) := by
    unfold dl
    conv => lhs; unfold eqD
  rw [e, eqDs_dl]
  rfl
theorem ne_nats (xs : List Nat) : cmpD .ne (.lst (xs.map ni)) (.lst (xs.map ni)) = some false := by
  show (if okP 4 (.lst (xs.map ni)) && okP 4 (.lst (xs.map ni)) then some (!eqD (.lst (xs.map ni)) (.lst (xs.map ni))) else none) = _
  rw [okP_nats]
  have e : eqD (.lst (xs.map ni)) (.lst (xs.map ni)) = eqDs (xs.map ni) (xs.map ni) := by conv => lhs; unfold eqD
  rw [e, eqDs_nats]
  rfl
theorem ne_cnt (ws : List (Vc α)) : cmpD .ne (cntD n ws) (cntD n ws) = some false := by
  have e : cntD n ws = .lst (((List.range (n + 1)).map fun w => cnt n ws w).map ni) := by unfold cntD; rw [List.map_map]; rfl
  rw [e]
  exact ne_nats _
theorem law_core (F : FE α L fd) (hL : 3 ≤ L) (hm : Mom (GF.q α)) (hk : KOk (GF.q α) 8 (kraw (GF.q α))) {P MS : D} {ns : List Int} {xs : List Nat} (hx : xs.length = 60) (hnum : Ev 2 F_law_numbers [.scr ns, .int 60] (.lst (xs.map ni))) (hfl : Ev 1 F_law_field [ni (xs.getD 0 0)] (.tup [P, MS]))
    (hsu : Ev 2 F_law_sums [P, MS] (tabA α)) (hpr : Ev 2 F_law_products [P, MS] (tabM α)) (hi : Ev 6 F_Field_init [P, MS] (.ins 0 fd)) {mo : Nat} (hmo : Ev 1 F_law_most [ni (GF.q α), .int 81] (ni mo)) (h1 : 1 ≤ mo) (hmo2 : GF.q α ^ mo ≤ 81) : Ev (L + 9) F_law [.scr ns] (.bl true) := by
  have q2 := GF.two (α := α)
  have q16 := F.small
  obtain ⟨c, d, ws, vs, dr, ec⟩ := ev_lcodes F hL hi hmo h1 hmo2 xs hx
  have n1 := dr.ok.pos
  have n4 := dr.n4
  refine run_k fun kk hkk => run_ws (by decide) ⟨rfl, rfl⟩ ?_
  show WS _ t_law [.sh (.scr ns), .un, .un, .un, .un, .un, .un, .un, .un, .un, .un, .un, .un, .un, .un, .un, .un, .un, .un] _ _
  unfold t_law
  have x0 : idxD (.lst (xs.map ni)) (.int 0) = some (ni (xs.getD 0 0)) := idx_natl (i := 0) (by omega)
  have x4 : idxD (.lst (xs.map ni)) (.int 4) = some (ni (xs.getD 4 0)) := idx_natl (i := 4) (by omega)
  have x5 : idxD (.lst (xs.map ni)) (.int 5) = some (ni (xs.getD 5 0)) := idx_natl (i := 5) (by omega)
  repeat (first | refine we_sh rfl ?_ | refine we_int ?_ | refine wa_nil ?_ | refine wa_cons ?_ | refine we_call ?_ | refine we_subS rfl ?_ | refine ws_cons ?_ | refine ws_setV rfl ?_ | refine ws_unp ?_ | with_reducible refine lf (x0) ?_ | refine lf (hnum kk (by omega)) ?_ | refine lf (hfl kk (by omega)) ?_)
  refine ⟨_, _, rfl, rfl, ?_⟩
  repeat (first | refine we_sh rfl ?_ | refine wa_nil ?_ | refine wa_cons ?_ | refine we_call ?_ | refine ws_cons ?_ | refine ws_setV rfl ?_ | refine ws_unp ?_ | refine lf (hsu kk (by omega)) ?_ | refine lf (hpr kk (by omega)) ?_ | refine lf (ec kk (by omega)) ?_)
  refine ⟨_, _, rfl, rfl, ?_⟩
  have i0 : idxD (.lst [dl c.n ws, dl c.n vs]) (.int 0) = some (dl c.n ws) := rfl
  have iw : ∃ a, idxD (dl c.n ws) (.int 0) = some a ∧ biD .len [a] = some (ni c.n) := by
    have hz : (zv : Vc α) ∈ ws := (dr.w.mem _).mpr .zero
    cases ws with
    | nil => cases hz
    | cons a l => exact ⟨dv c.n a, idx_lst (xs := (a :: l).map (dv c.n)) (i := 0) rfl, len_dv⟩
  obtain ⟨a0, ia, la⟩ := iw
  repeat (first | refine we_int ?_ | refine wa_nil ?_ | refine wa_cons ?_ | refine we_bi ?_ | refine we_subS rfl ?_ | refine we_sub rfl ?_ | refine we_lst ?_ | refine ws_cons ?_ | refine ws_setV rfl ?_ | with_reducible refine lf (i0) ?_ | with_reducible refine lf (ia) ?_ | with_reducible refine lf (la) ?_)
  refine ⟨by simp [big], ?_⟩
  repeat (first | refine ws_cons ?_)
  refine ws_forR ?_
  have md : ∀ a : Nat, opD .mod (ni a) (ni c.n) = some (ni (a % c.n)) := fun a => mod_nat (by omega)
  repeat (first | refine we_sh rfl ?_ | refine we_int ?_ | refine we_bin ?_ | refine wa_nil ?_ | refine wa_cons ?_ | refine we_bi ?_ | refine we_subS rfl ?_ | with_reducible refine lf (x5) ?_ | with_reducible refine lf (int_ni) ?_ | with_reducible refine lf (md _) ?_ | refine ⟨rfl, ?_⟩)
  have hlt := Nat.mod_lt (xs.getD 5 0) (show 0 < c.n by omega)
  refine ⟨xs.getD 5 0 % c.n, rfl, by omega, fun i ρ => ∃ ps x6 x17, ρ = [.sh (.scr ns), .sh (.lst (xs.map ni)), .sh (tabA α), .sh (tabM α), .sh (ni c.n), .ow (ps.map ni), x6, .un, .un, .un, .un, .un, .un, .sh P, .sh MS, .sh (.lst [c.obj fd, d.obj fd]), .sh (.lst [dl c.n ws, dl c.n vs]), x17, .un] ∧ ps.Nodup ∧ (∀ p ∈ ps, p < c.n) ∧ ps.length ≤ i, ⟨[], _, _, rfl, List.nodup_nil, nofun, Nat.le_refl 0⟩, ?_, ?_⟩
  rotate_left 1
  · rintro i ρ hi ⟨ps, x6, x17, rfl, nd, hp, hl⟩
    refine ⟨_, rfl, ?_⟩
    have a6 : opD .add (.int 6) (ni i) = some (ni (6 + i)) := add_nat (a := 6)
    have xi : idxD (.lst (xs.map ni)) (ni (6 + i)) = some (ni (xs.getD (6 + i) 0)) := idx_natl (by omega)
    have hlt2 := Nat.mod_lt (xs.getD (6 + i) 0) (show 0 < c.n by omega)
    generalize xs.getD (6 + i) 0 % c.n = pp at hlt2 md
    repeat (first | refine we_sh rfl ?_ | refine we_ow rfl ?_ | refine we_int ?_ | refine we_bin ?_ | refine wa_nil ?_ | refine wa_cons ?_ | refine we_bi ?_ | refine we_subS rfl ?_ | refine wt_cmp ?_ | refine ws_cons ?_ | refine ws_setV rfl ?_ | refine ws_ite ?_ | with_reducible refine lf (a6) ?_ | with_reducible refine lf (xi) ?_ | with_reducible refine lf (int_ni) ?_ | with_reducible refine lf (mod_nat (show 0 < c.n by omega)) ?_ | with_reducible refine lf (nin_nat) ?_)
    refine ⟨fun z => ?_, fun z => ?_⟩
    · repeat (first | refine we_sh rfl ?_ | refine ws_cons ?_ | refine ws_appV ?_ | refine ⟨rfl, ?_⟩)
      refine ⟨_, rfl, by rw [List.length_map]; simp only [big]; omega, ?_⟩
      rw [append_map]
      repeat (first | refine ws_nil ?_)
      refine ⟨_, _, _, rfl, ?_, fun p hpm => ?_, by rw [List.length_append]; simp only [List.length_singleton]; omega⟩
      · rw [List.nodup_append]
        refine ⟨nd, by simp, fun a ha b hb e => ?_⟩
        rw [List.mem_singleton] at hb
        subst hb
        subst e
        simp at z
        exact z ha
      · rcases List.mem_append.mp hpm with h | h
        · exact hp p h
        · rw [List.mem_singleton.mp h]; exact Nat.mod_lt _ (by omega)
    · repeat (first | refine ws_nil ?_)
      exact ⟨_, _, _, rfl, nd, hp, by omega⟩
  rintro ρ' ⟨ps, x6, x17, rfl, nd, hp, hl⟩
  obtain ⟨e, us, me, em⟩ := ev_made F hL dr.ok dr.ok' dr.n dr.w dr.v n4 dr.q81 dr.m81 nd hp (by omega) (xs.getD 4 0 % 10)
  have e8 := me.n8
  have e1 := me.ok.pos
  have m10 : opD .mod (ni (xs.getD 4 0)) (.int 10) = some (ni (xs.getD 4 0 % 10)) := mod_nat (p := 10) (by decide)
  repeat (first | refine we_sh rfl ?_ | refine we_ow rfl ?_ | refine we_int ?_ | refine we_bin ?_ | refine wa_nil ?_ | refine wa_cons ?_ | refine we_call ?_ | refine we_bi ?_ | refine we_subS rfl ?_ | refine ws_cons ?_ | refine ws_unp ?_ | with_reducible refine lf (x4) ?_ | with_reducible refine lf (int_ni) ?_ | with_reducible refine lf (m10) ?_ | refine lf (em kk (by omega)) ?_)
  refine ⟨_, _, rfl, rfl, ?_⟩
  have iu : ∃ a, idxD (dl e.n us) (.int 0) = some a ∧ biD .len [a] = some (ni e.n) := by
    have hz : (zv : Vc α) ∈ us := (me.wok.mem _).mpr .zero
    cases us with
    | nil => cases hz
    | cons a l => exact ⟨dv e.n a, idx_lst (xs := (a :: l).map (dv e.n)) (i := 0) rfl, len_dv⟩
  obtain ⟨b0, ib, lb⟩ := iu
  have so := sorted_dl (n := e.n) (ws := us) (by have := me.small; simp only [big]; omega)
  rw [srt me.ok me.wok] at so
  have wl := me.wok.len me.ok
  have q81 : GF.q α ^ e.R.length ≤ 81 := by rw [← wl]; exact me.small
  have wfl := wordsF_len e.R
  have rl1 := row_len e me.ok
  have mz : opD .mul (.lst [.int 0]) (ni (e.n + 1)) = some (.lst ((List.range (e.n + 1)).map fun w => ni (cnt e.n ([] : List (Vc α)) w))) := mul_list (by omega)
  show WS _ _ [.sh (.scr ns), .sh (.lst (xs.map ni)), .sh (tabA α), .sh (tabM α), .sh (ni c.n), .sh (.lst (ps.map ni)), x6, .sh (dl e.n us), .un, .un, .un, .un, .un, .sh P, .sh MS, .sh (.lst [c.obj fd, d.obj fd]), .sh (.lst [dl c.n ws, dl c.n vs]), x17, .sh (e.obj fd)] _ _
  repeat (first | refine we_sh rfl ?_ | refine we_int ?_ | refine we_bin ?_ | refine wa_nil ?_ | refine wa_cons ?_ | refine we_bi ?_ | refine we_subS rfl ?_ | refine we_lst ?_ | refine ws_cons ?_ | refine ws_setV rfl ?_ | with_reducible refine lf (ib) ?_ | with_reducible refine lf (lb) ?_ | with_reducible refine lf (so) ?_)
  refine ⟨by simp [big], ?_⟩
  repeat (first | refine we_sh rfl ?_ | refine we_int ?_ | refine we_bin ?_ | refine ws_cons ?_ | with_reducible refine lf (add1) ?_ | with_reducible refine lf (mz) ?_)
  refine ws_forNm (its := (wordsF e.R).map (dv e.n)) (.inr rfl) ?_
  refine ⟨Vc α, wordsF e.R, dv e.n, fun pre ρ => ∃ x9, ρ = [.sh (.scr ns), .sh (.lst (xs.map ni)), .sh (tabA α), .sh (tabM α), .sh (ni e.n), .sh (.lst (ps.map ni)), x6, .sh (dl e.n (wordsF e.R)), .ow ((List.range (e.n + 1)).map fun w => ni (cnt e.n pre w)), x9, .un, .un, .un, .sh P, .sh MS, .sh (.lst [c.obj fd, d.obj fd]), .sh (.lst [dl c.n ws, dl c.n vs]), x17, .sh (e.obj fd)], rfl, ⟨_, rfl⟩, ?_, ?_⟩
  rotate_left 1
  · rintro pre v post ρ e2 ⟨x9, rfl⟩
    refine ⟨_, rfl, ?_⟩
    have wv := wt_le e.n v
    have ew := ev_lweight v (show e.n ≤ 1000 by omega) kk (by omega)
    have ix : idxD (.lst ((List.range (e.n + 1)).map fun w => ni (cnt e.n pre w))) (ni (wt e.n v)) = some (ni (cnt e.n pre (wt e.n v))) := idx_lst (tab_get (by omega))
    repeat (first | refine we_sh rfl ?_ | refine we_int ?_ | refine we_bin ?_ | refine wa_nil ?_ | refine wa_cons ?_ | refine we_call ?_ | refine we_subO rfl ?_ | refine ws_cons ?_ | refine ws_setsV ?_ | with_reducible refine lf (ew) ?_ | with_reducible refine lf (ix) ?_ | with_reducible refine lf (add1) ?_ | refine ⟨rfl, ?_⟩)
    refine ⟨_, _, _, rfl, rfl, ixN_nat (by simp; omega), ?_⟩
    rw [set_cnt]
    repeat (first | refine ws_nil ?_)
    exact ⟨_, rfl⟩
  rintro ρ' ⟨x9, rfl⟩
  have en := ev_enum F hL e me.ok (by omega) kk (by omega)
  have wds := ev_words F hL e me.ok (by omega) kk (by omega)
  have ln : cmpD .ne (ni e.n) (ni e.n) = some false := by rw [ne_nat]; simp
  have nc : cmpD .ne (cntD e.n (wordsF e.R)) (.lst ((List.range (e.n + 1)).map fun w => ni (cnt e.n (wordsF e.R) w))) = some false := ne_cnt _
  repeat (first | refine we_sh rfl ?_ | refine wa_nil ?_ | refine wa_cons ?_ | refine we_call ?_ | refine we_fldN rfl rfl ?_ | refine wt_cmp ?_ | refine wt_or3 ?_ | refine ws_cons ?_ | refine ws_setV rfl ?_ | refine ws_ite ?_ | with_reducible refine lf (en) ?_ | with_reducible refine lf (ln) ?_)
  refine ⟨fun z => (by cases z), fun _ => ?_⟩
  repeat (first | refine we_sh rfl ?_ | refine we_meth0 ?_ | refine wt_cmp ?_ | with_reducible refine lf (wds) ?_ | with_reducible refine lf (ne_dl _) ?_)
  refine ⟨fun z => (by cases z), fun _ => ?_⟩
  repeat (first | refine we_sh rfl ?_ | refine we_ow rfl ?_ | refine wt_cmp ?_ | with_reducible refine lf (nc) ?_)
  refine ⟨fun z => (by cases z), fun _ => ?_⟩
  repeat (first | refine ws_nil ?_ | refine ws_cons ?_)
  refine ws_forL ?_
  repeat (first | refine we_sh rfl ?_ | refine ww_lst ?_)
  refine ⟨_, rfl, rfl, Nat, List.range (e.n + 1), fun w => ni (cnt e.n (wordsF e.R) w), fun pre ρ => ∃ x11, ρ = [.sh (.scr ns), .sh (.lst (xs.map ni)), .sh (tabA α), .sh (tabM α), .sh (ni e.n), .sh (.lst (ps.map ni)), x6, .sh (dl e.n (wordsF e.R)), .ow ((List.range (e.n + 1)).map fun w => ni (cnt e.n (wordsF e.R) w)), x9, .sh (cntD e.n (wordsF e.R)), x11, .un, .sh P, .sh MS, .sh (.lst [c.obj fd, d.obj fd]), .sh (.lst [dl c.n ws, dl c.n vs]), x17, .sh (e.obj fd)], rfl, ⟨_, rfl⟩, ?_, ?_⟩
  rotate_left 1
  · rintro pre w post ρ e2 ⟨x11, rfl⟩
    refine ⟨_, rfl, ?_⟩
    have li : runF kk F_law_is_integer [ni (cnt e.n (wordsF e.R) w)] = some (.bl true) := ev_lisint _ kk (by omega)
    repeat (first | refine we_sh rfl ?_ | refine wa_nil ?_ | refine wa_cons ?_ | refine we_call ?_ | refine wt_not ?_ | refine wtv ?_ | refine ws_cons ?_ | refine ws_ite ?_ | refine wt_val ?_ | with_reducible refine lf (li) ?_)
    refine ⟨fun z => (by cases z), fun _ => ?_⟩
    repeat (first | refine ws_nil ?_)
    exact ⟨_, rfl⟩
  rintro ρ' ⟨x11, rfl⟩
  have ed : runF kk F_law_dimension [dl e.n (wordsF e.R), ni (GF.q α)] = some (ni e.R.length) := ev_ldim (GF.q α) e.R.length ((wordsF e.R).map (dv e.n)) q2 q16 (by omega) (by rw [List.length_map]; exact wfl) kk (by omega)
  repeat (first | refine we_int ?_ | refine ws_cons ?_ | refine ws_setV rfl ?_)
  refine ws_forR ?_
  repeat (first | refine we_sh rfl ?_ | refine we_bin ?_ | refine wa_nil ?_ | refine wa_cons ?_ | refine we_call ?_ | refine we_bi ?_ | with_reducible refine lf (len_tabA) ?_ | with_reducible refine lf (ed) ?_ | with_reducible refine lf (sub_nat rl1) ?_ | refine ⟨rfl, ?_⟩)
  refine ⟨e.n - e.R.length, rfl, by omega, fun i ρ => ∃ y6, ρ = [.sh (.scr ns), .sh (.lst (xs.map ni)), .sh (tabA α), .sh (tabM α), .sh (ni e.n), .sh (.lst (ps.map ni)), y6, .sh (dl e.n (wordsF e.R)), .ow ((List.range (e.n + 1)).map fun w => ni (cnt e.n (wordsF e.R) w)), x9, .sh (cntD e.n (wordsF e.R)), x11, .sh (ni (GF.q α ^ i)), .sh P, .sh MS, .sh (.lst [c.obj fd, d.obj fd]), .sh (.lst [dl c.n ws, dl c.n vs]), x17, .sh (e.obj fd)], ⟨_, rfl⟩, ?_, ?_⟩
  rotate_left 1
  · rintro i ρ hi ⟨y6, rfl⟩
    refine ⟨_, rfl, ?_⟩
    repeat (first | refine we_sh rfl ?_ | refine we_bin ?_ | refine wa_nil ?_ | refine wa_cons ?_ | refine we_bi ?_ | refine ws_nil ?_ | refine ws_cons ?_ | refine ws_setV rfl ?_ | with_reducible refine lf (len_tabA) ?_ | with_reducible refine lf (mul_nat (show GF.q α < 2 ^ 64 by omega)) ?_)
    exact ⟨_, by rw [Nat.pow_succ]; rfl⟩
  rintro ρ' ⟨y6, rfl⟩
  have q128 : cmpD .le (ni (GF.q α ^ (e.n - e.R.length))) (.int 128) = some (decide (GF.q α ^ (e.n - e.R.length) ≤ 128)) := le_nat (j := 128)
  have tail : WS (runF kk) (.cons (.ite (.not (.call 107 (.cons (.nm 18) (.cons (.nm 7) (.cons (.nm 8) (.cons (.nm 4) .nil)))))) (.cons (.ret (.bl false)) .nil) .nil) (.cons (.ret (.or (.cmp .gt (.bin .mul (.nm 12) (.bi .len (.cons (.nm 7) .nil))) (.int 256)) (.call 108 (.cons (.nm 7) (.cons (.nm 8) (.cons (.nm 4) (.cons (.nm 2) (.cons (.nm 3) .nil)))))))) .nil)) [.sh (.scr ns), .sh (.lst (xs.map ni)), .sh (tabA α), .sh (tabM α), .sh (ni e.n), .sh (.lst (ps.map ni)), y6, .sh (dl e.n (wordsF e.R)), .ow ((List.range (e.n + 1)).map fun w => ni (cnt e.n (wordsF e.R) w)), x9, .sh (cntD e.n (wordsF e.R)), x11, .sh (ni (GF.q α ^ (e.n - e.R.length))), .sh P, .sh MS, .sh (.lst [c.obj fd, d.obj fd]), .sh (.lst [dl c.n ws, dl c.n vs]), x17, .sh (e.obj fd)] (fun _ => D.bl true = .non) fun r => r = .bl true := by
    have eld : runF kk F_law_distances [e.obj fd, dl e.n (wordsF e.R), .lst ((List.range (e.n + 1)).map fun w => ni (cnt e.n (wordsF e.R) w)), ni e.n] = some (.bl true) := ev_ldist F hL e me.ok e8 q81 kk (by omega)
    repeat (first | refine we_sh rfl ?_ | refine we_ow rfl ?_ | refine wa_nil ?_ | refine wa_cons ?_ | refine we_call ?_ | refine wt_not ?_ | refine wtv ?_ | refine ws_cons ?_ | refine ws_ite ?_ | refine wt_val ?_ | with_reducible refine lf (eld) ?_)
    refine ⟨fun z => (by cases z), fun _ => ?_⟩
    have ml : opD .mul (ni (GF.q α ^ (e.n - e.R.length))) (ni (wordsF e.R).length) = some (ni (GF.q α ^ e.n)) := by
      rw [mul_nat (by omega), wfl, ← Nat.pow_add, Nat.sub_add_cancel rl1]
    have g256 : cmpD .gt (ni (GF.q α ^ e.n)) (.int 256) = some (decide (256 < GF.q α ^ e.n)) := gt_nat (j := 256)
    repeat (first | refine we_sh rfl ?_ | refine we_int ?_ | refine we_bin ?_ | refine wa_nil ?_ | refine wa_cons ?_ | refine we_bi ?_ | refine wt_cmp ?_ | refine wt_or ?_ | refine we_or ?_ | refine ws_nil ?_ | refine ws_cons ?_ | refine ws_ret ?_ | with_reducible refine lf (len_dl) ?_ | with_reducible refine lf (ml) ?_ | with_reducible refine lf (g256) ?_)
    refine ⟨fun z => rfl, fun z => ?_⟩
    have z : ¬ 256 < GF.q α ^ e.n := of_decide_eq_false z
    have elm : runF kk F_law_moments [dl e.n (wordsF e.R), .lst ((List.range (e.n + 1)).map fun w => ni (cnt e.n (wordsF e.R) w)), ni e.n, tabA α, tabM α] = some (.bl true) := ev_lmoments F hm hk e me.ok e8 (by omega) kk (by omega)
    repeat (first | refine we_sh rfl ?_ | refine we_ow rfl ?_ | refine wa_nil ?_ | refine wa_cons ?_ | refine we_call ?_ | refine wtv ?_ | refine wt_val ?_ | with_reducible refine lf (elm) ?_)
    rfl
  repeat (first | refine we_sh rfl ?_ | refine we_int ?_ | refine wt_cmp ?_ | refine wt_and ?_ | refine ws_cons ?_ | refine ws_ite ?_ | with_reducible refine lf (q128) ?_)
  refine ⟨fun z => ⟨fun z3 => (by cases z3), fun _ => ?_⟩, fun z => ?_⟩
  · exact ws_nil tail
  · have z : GF.q α ^ (e.n - e.R.length) ≤ 128 := of_decide_eq_true z
    repeat (first | refine we_sh rfl ?_ | refine we_ow rfl ?_ | refine wa_nil ?_ | refine wa_cons ?_ | refine we_call ?_ | refine wt_cmp ?_ | with_reducible refine lf (nc) ?_ | refine lf (ev_both F hL hm hk e me.ok e8 z kk (by omega)) ?_)
    refine ⟨fun z3 => (by cases z3), fun _ => ?_⟩
    exact ws_nil tail
end
end MN
end S_MnLl
section S_MnFi
set_option maxRecDepth 100000
/-! The law's fields are made (printed by gentf.py). -/
namespace MN
theorem fi0 : Ev 6 F_Field_init [.int 2, .tup [.int 0, .int 1]] (.ins 0 [.int 2, .tup [.int 0, .int 1], .int 1, .int 2]) := Ev.of (by rfl)
theorem fi1 : Ev 6 F_Field_init [.int 3, .tup [.int 0, .int 1]] (.ins 0 [.int 3, .tup [.int 0, .int 1], .int 1, .int 3]) := Ev.of (by rfl)
theorem fi2 : Ev 6 F_Field_init [.int 2, .tup [.int 1, .int 1, .int 1]] (.ins 0 [.int 2, .tup [.int 1, .int 1, .int 1], .int 2, .int 4]) := Ev.of (by rfl)
theorem fi3 : Ev 6 F_Field_init [.int 5, .tup [.int 0, .int 1]] (.ins 0 [.int 5, .tup [.int 0, .int 1], .int 1, .int 5]) := Ev.of (by rfl)
theorem fi4 : Ev 6 F_Field_init [.int 2, .tup [.int 1, .int 1, .int 0, .int 1]] (.ins 0 [.int 2, .tup [.int 1, .int 1, .int 0, .int 1], .int 3, .int 8]) := Ev.of (by rfl)
theorem fi5 : Ev 6 F_Field_init [.int 3, .tup [.int 1, .int 0, .int 1]] (.ins 0 [.int 3, .tup [.int 1, .int 0, .int 1], .int 2, .int 9]) := Ev.of (by rfl)
theorem fi6 : Ev 6 F_Field_init [.int 7, .tup [.int 0, .int 1]] (.ins 0 [.int 7, .tup [.int 0, .int 1], .int 1, .int 7]) := Ev.of (by rfl)
theorem fi7 : Ev 6 F_Field_init [.int 2, .tup [.int 1, .int 1]] (.ins 0 [.int 2, .tup [.int 1, .int 1], .int 1, .int 2]) := Ev.of (by rfl)
theorem fi8 : Ev 6 F_Field_init [.int 3, .tup [.int 2, .int 1]] (.ins 0 [.int 3, .tup [.int 2, .int 1], .int 1, .int 3]) := Ev.of (by rfl)
theorem fi9 : Ev 6 F_Field_init [.int 2, .tup [.int 1, .int 0, .int 1, .int 1]] (.ins 0 [.int 2, .tup [.int 1, .int 0, .int 1, .int 1], .int 3, .int 8]) := Ev.of (by rfl)
theorem fi10 : Ev 6 F_Field_init [.int 3, .tup [.int 2, .int 1, .int 1]] (.ins 0 [.int 3, .tup [.int 2, .int 1, .int 1], .int 2, .int 9]) := Ev.of (by rfl)
theorem fi11 : Ev 6 F_Field_init [.int 3, .tup [.int 2, .int 2, .int 1]] (.ins 0 [.int 3, .tup [.int 2, .int 2, .int 1], .int 2, .int 9]) := Ev.of (by rfl)
theorem fi12 : Ev 6 F_Field_init [.int 11, .tup [.int 0, .int 1]] (.ins 0 [.int 11, .tup [.int 0, .int 1], .int 1, .int 11]) := Ev.of (by rfl)
theorem fi13 : Ev 6 F_Field_init [.int 2, .tup [.int 1, .int 1, .int 0, .int 0, .int 1]] (.ins 0 [.int 2, .tup [.int 1, .int 1, .int 0, .int 0, .int 1], .int 4, .int 16]) := Ev.of (by rfl)
end MN
end S_MnFi
section S_MnLm
set_option maxRecDepth 100000
/-! The law over each of its fields (printed by gengl.py). -/
namespace MN
open LA
def lawB (p deg : Nat) (ms : List Nat) (T : FT) : Bool := allB T.q fun a => allB T.q fun b => decide (sumT p deg a b = T.add a b) && decide (prodT p deg ms a b = T.mul a b)
theorem law_T {T : FT} (h : T.Ok) {p deg : Nat} {ms : List Nat} (F : @FE (El T) (mkGF h) 4 (fdl p ms deg T.q)) (hs : lawB p deg ms T = true) (hp : 0 < p) (hp2 : p < 1000) (h1 : 1 ≤ deg) (hd : deg ≤ 50) (hm : ms.length = deg + 1) (hms : ∀ i, ms.getD i 0 < 1000) (hq : T.q ≤ 16) (hpq : p ^ deg = T.q)
    (hM : Mom T.q) (hK : KOk T.q 8 (kraw T.q)) (hi : Ev 6 F_Field_init [ni p, .tup (ms.map ni)] (.ins 0 (fdl p ms deg T.q))) {mo : Nat} (hmo : Ev 1 F_law_most [ni T.q, .int 81] (ni mo)) (h2 : 1 ≤ mo) (h3 : T.q ^ mo ≤ 81)
    {ns : List Int} {xs : List Nat} (hx : xs.length = 60) (hnum : Ev 2 F_law_numbers [.scr ns, .int 60] (.lst (xs.map ni))) (hfl : Ev 1 F_law_field [ni (xs.getD 0 0)] (fD p ms)) : Ev 13 F_law [.scr ns] (.bl true) := by
  letI := mkGF h
  have hs := allB_ok hs
  have hs2 : ∀ a b, a < T.q → b < T.q → _ := fun a b ha hb => allB_ok (hs a ha) b hb
  simp only [Bool.and_eq_true, decide_eq_true_eq] at hs2
  have ev : ∀ a, a < T.q → (GF.el a : El T).v = a := fun a ha => @GF.no_el (El T) (mkGF h) a ha
  have tA : tabD T.q (sumT p deg) = tabA (El T) := by
    unfold tabD tabA
    congr 1
    refine List.map_congr_left fun a ha => ?_
    have ha := List.mem_range.mp ha
    congr 1
    refine List.map_congr_left fun b hb => ?_
    have hb := List.mem_range.mp hb
    rw [(hs2 a b ha hb).1]
    show ni (T.add a b) = ni (T.add (GF.el a : El T).v (GF.el b : El T).v)
    rw [ev a ha, ev b hb]
  have tM : tabD T.q (prodT p deg ms) = tabM (El T) := by
    unfold tabD tabM
    congr 1
    refine List.map_congr_left fun a ha => ?_
    have ha := List.mem_range.mp ha
    congr 1
    refine List.map_congr_left fun b hb => ?_
    have hb := List.mem_range.mp hb
    rw [(hs2 a b ha hb).2]
    show ni (T.mul a b) = ni (T.mul (GF.el a : El T).v (GF.el b : El T).v)
    rw [ev a ha, ev b hb]
  have hsu := ev_lsums (p := p) (deg := deg) (ms := ms) hp hp2 hm hd hpq hq
  have hpr := ev_lproducts (p := p) (deg := deg) (ms := ms) hp hp2 hm hms hd h1 hpq hq
  rw [tA] at hsu
  rw [tM] at hpr
  exact law_core (α := El T) F (by decide) hM hK hx hnum hfl hsu hpr hi hmo h2 h3
theorem most2 : Ev 1 F_law_most [.int 2, .int 81] (.int 6) := Ev.of (by rfl)
theorem most3 : Ev 1 F_law_most [.int 3, .int 81] (.int 4) := Ev.of (by rfl)
theorem most4 : Ev 1 F_law_most [.int 4, .int 81] (.int 3) := Ev.of (by rfl)
theorem most5 : Ev 1 F_law_most [.int 5, .int 81] (.int 2) := Ev.of (by rfl)
theorem most7 : Ev 1 F_law_most [.int 7, .int 81] (.int 2) := Ev.of (by rfl)
theorem most8 : Ev 1 F_law_most [.int 8, .int 81] (.int 2) := Ev.of (by rfl)
theorem most9 : Ev 1 F_law_most [.int 9, .int 81] (.int 2) := Ev.of (by rfl)
theorem most11 : Ev 1 F_law_most [.int 11, .int 81] (.int 1) := Ev.of (by rfl)
theorem most16 : Ev 1 F_law_most [.int 16, .int 81] (.int 1) := Ev.of (by rfl)
theorem law_all (ns : List Int) (hl : ns.length ≤ 63) : Ev 13 F_law [.scr ns] (.bl true) := by
  obtain ⟨xs, hx, _, hnum⟩ := ev_lnumbers ns hl
  have hf := ev_lfield (xs.getD 0 0)
  have hr := Nat.mod_lt (xs.getD 0 0) (show 0 < 16 by decide)
  generalize xs.getD 0 0 % 16 = r at hf hr
  match r, hr, hf with
  | 0, _, hf => exact law_T T0_ok T0_fe (by decide +kernel) (by decide) (by decide) (by decide) (by decide) rfl (ms_small (by decide)) (by decide) rfl mo2 kr2 fi0 most2 (by decide) (by decide) hx hnum hf
  | 1, _, hf => exact law_T T1_ok T1_fe (by decide +kernel) (by decide) (by decide) (by decide) (by decide) rfl (ms_small (by decide)) (by decide) rfl mo3 kr3 fi1 most3 (by decide) (by decide) hx hnum hf
  | 2, _, hf => exact law_T T2_ok T2_fe (by decide +kernel) (by decide) (by decide) (by decide) (by decide) rfl (ms_small (by decide)) (by decide) rfl mo4 kr4 fi2 most4 (by decide) (by decide) hx hnum hf
  | 3, _, hf => exact law_T T3_ok T3_fe (by decide +kernel) (by decide) (by decide) (by decide) (by decide) rfl (ms_small (by decide)) (by decide) rfl mo5 kr5 fi3 most5 (by decide) (by decide) hx hnum hf
  | 4, _, hf => exact law_T T4_ok T4_fe (by decide +kernel) (by decide) (by decide) (by decide) (by decide) rfl (ms_small (by decide)) (by decide) rfl mo8 kr8 fi4 most8 (by decide) (by decide) hx hnum hf
  | 5, _, hf => exact law_T T5_ok T5_fe (by decide +kernel) (by decide) (by decide) (by decide) (by decide) rfl (ms_small (by decide)) (by decide) rfl mo9 kr9 fi5 most9 (by decide) (by decide) hx hnum hf
  | 6, _, hf => exact law_T T6_ok T6_fe (by decide +kernel) (by decide) (by decide) (by decide) (by decide) rfl (ms_small (by decide)) (by decide) rfl mo7 kr7 fi6 most7 (by decide) (by decide) hx hnum hf
  | 7, _, hf => exact law_T T7_ok T7_fe (by decide +kernel) (by decide) (by decide) (by decide) (by decide) rfl (ms_small (by decide)) (by decide) rfl mo2 kr2 fi7 most2 (by decide) (by decide) hx hnum hf
  | 8, _, hf => exact law_T T8_ok T8_fe (by decide +kernel) (by decide) (by decide) (by decide) (by decide) rfl (ms_small (by decide)) (by decide) rfl mo3 kr3 fi8 most3 (by decide) (by decide) hx hnum hf
  | 9, _, hf => exact law_T T9_ok T9_fe (by decide +kernel) (by decide) (by decide) (by decide) (by decide) rfl (ms_small (by decide)) (by decide) rfl mo8 kr8 fi9 most8 (by decide) (by decide) hx hnum hf
  | 10, _, hf => exact law_T T10_ok T10_fe (by decide +kernel) (by decide) (by decide) (by decide) (by decide) rfl (ms_small (by decide)) (by decide) rfl mo9 kr9 fi10 most9 (by decide) (by decide) hx hnum hf
  | 11, _, hf => exact law_T T11_ok T11_fe (by decide +kernel) (by decide) (by decide) (by decide) (by decide) rfl (ms_small (by decide)) (by decide) rfl mo9 kr9 fi11 most9 (by decide) (by decide) hx hnum hf
  | 12, _, hf => exact law_T T12_ok T12_fe (by decide +kernel) (by decide) (by decide) (by decide) (by decide) rfl (ms_small (by decide)) (by decide) rfl mo11 kr11 fi12 most11 (by decide) (by decide) hx hnum hf
  | 13, _, hf => exact law_T T13_ok T13_fe (by decide +kernel) (by decide) (by decide) (by decide) (by decide) rfl (ms_small (by decide)) (by decide) rfl mo16 kr16 fi13 most16 (by decide) (by decide) hx hnum hf
  | 14, _, hf => exact law_T T0_ok T0_fe (by decide +kernel) (by decide) (by decide) (by decide) (by decide) rfl (ms_small (by decide)) (by decide) rfl mo2 kr2 fi0 most2 (by decide) (by decide) hx hnum hf
  | 15, _, hf => exact law_T T1_ok T1_fe (by decide +kernel) (by decide) (by decide) (by decide) (by decide) rfl (ms_small (by decide)) (by decide) rfl mo3 kr3 fi1 most3 (by decide) (by decide) hx hnum hf
  | r + 16, hr, _ => omega
end MN
end S_MnLm
theorem PySem.Challenge.cw_nearestword_k92_whole_counts_by_both_roa_holds : PySem.Challenge.rw_nearestword_k92_whole_counts_by_both_roa.Holds := by
  exact PySem.Challenge.mn_law_of 12 (by decide) fun ns hl => MN.law_all ns hl 13 (Nat.le_refl 13)
