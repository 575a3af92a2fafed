import PyProof.Rows.All
import Wide.All
import OpenK.AllK
import Wide.FinOn
import HandS.ForMost
import HandS.Walk
import HandS.Wide
import HandS.TupAny
import HandS.Strs
import HandS.SetKeys
import HandS.Deep
import HandS.NoneIn
import HandS.Conv
import HandS.Gcd
import HandS.DictSub
import HandS.Style
import HandS.Text
import HandS.DictComp
import HandS.Zip
import KE.SortData
import HandS.IsInst
import HandS.EndBits
import PySem.Challenge.RW_creasewise_k13_whole_marks_laid_on_marks
set_option autoImplicit false
set_option linter.all false
set_option Elab.async false
set_option maxRecDepth 100000

/-! Data, environments, denotations of a small subset of Python; plain Lean. -/
namespace Py

inductive D where
  | non
  | bl (b : Bool)
  | int (i : Int)
  | str (s : List Nat)
  | lst (xs : List D)
  | tup (xs : List D)
  | dic (t : Bool) (kvs : List (D × D))
  | scr (ns : List Int)
  /-- a tuple of the module's own -/
  | con (xs : List D)

/-- the longest list or text -/
def line : Nat := 16777216

namespace D
mutual
def eqv : D → D → Bool
  | .non, .non => true
  | .bl a, .bl b => a == b
  | .bl a, .int j => (if a then 1 else 0) == j
  | .int i, .bl b => i == (if b then 1 else 0)
  | .int i, .int j => i == j
  | .str x, .str y => x == y
  | .lst xs, .lst ys => eqvAll xs ys
  | .tup xs, .tup ys => eqvAll xs ys
  | .tup xs, .con ys => eqvAll xs ys
  | .con xs, .tup ys => eqvAll xs ys
  | .con xs, .con ys => eqvAll xs ys
  | _, _ => false
def eqvAll : List D → List D → Bool
  | [], [] => true
  | x :: xs, y :: ys => eqv x y && eqvAll xs ys
  | _, _ => false
end
mutual
/-- no dict, no script within -/
def plain : D → Bool
  | .lst xs => plainAll xs
  | .tup xs => plainAll xs
  | .con xs => plainAll xs
  | .dic _ _ => false
  | .scr _ => false
  | _ => true
def plainAll : List D → Bool
  | [] => true
  | x :: xs => plain x && plainAll xs
end
mutual
def depth : D → Nat
  | .lst xs => depthAll xs + 1
  | .tup xs => depthAll xs + 1
  | .con xs => depthAll xs + 1
  | _ => 0
def depthAll : List D → Nat
  | [] => 0
  | x :: xs => max (depth x) (depthAll xs)
end
mutual
/-- can be compared by <, place by place -/
def alike : D → D → Bool
  | .non, .non => true
  | .bl _, .bl _ => true
  | .int _, .int _ => true
  | .str _, .str _ => true
  | .lst xs, .lst ys => alikeAll xs ys
  | .tup xs, .tup ys => alikeAll xs ys
  | _, _ => false
def alikeAll : List D → List D → Bool
  | x :: xs, y :: ys => alike x y && alikeAll xs ys
  | [], _ => true
  | _ :: _, [] => true
end
def ltN : List Nat → List Nat → Bool
  | _, [] => false
  | [], _ :: _ => true
  | x :: xs, y :: ys => if x = y then ltN xs ys else decide (x < y)
mutual
def lt : D → D → Bool
  | .bl a, .bl b => !a && b
  | .int i, .int j => decide (i < j)
  | .str x, .str y => ltN x y
  | .lst xs, .lst ys => ltAll xs ys
  | .tup xs, .tup ys => ltAll xs ys
  | _, _ => false
def ltAll : List D → List D → Bool
  | _, [] => false
  | [], _ :: _ => true
  | x :: xs, y :: ys => if eqv x y then ltAll xs ys else lt x y
end
end D

/-! ### operations on data -/
def okEq (a b : D) : Bool := a.plain && b.plain && decide (a.depth ≤ 64) && decide (b.depth ≤ 64)
def eqD (a b : D) : Option D := if okEq a b then some (.bl (D.eqv a b)) else none
def neD (a b : D) : Option D := if okEq a b then some (.bl (!D.eqv a b)) else none
def ltD : D → D → Option D
  | .int i, .int j => some (.bl (decide (i < j)))
  | _, _ => none
def leD : D → D → Option D
  | .int i, .int j => some (.bl (decide (i ≤ j)))
  | _, _ => none
def gtD : D → D → Option D
  | .int i, .int j => some (.bl (decide (j < i)))
  | _, _ => none
def geD : D → D → Option D
  | .int i, .int j => some (.bl (decide (j ≤ i)))
  | _, _ => none
def bits : Nat := 100000000
def addD : D → D → Option D
  | .int i, .int j => some (.int (i + j))
  | .str x, .str y => if x.length + y.length ≤ line then some (.str (x ++ y)) else none
  | .lst x, .lst y => if x.length + y.length ≤ line then some (.lst (x ++ y)) else none
  | .tup x, .tup y => if x.length + y.length ≤ line then some (.tup (x ++ y)) else none
  | _, _ => none
def subD : D → D → Option D
  | .int i, .int j => some (.int (i - j))
  | _, _ => none
def mulD : D → D → Option D
  | .int i, .int j => if i.natAbs.log2 + j.natAbs.log2 < bits then some (.int (i * j)) else none
  | .lst xs, .int k => if -(2 ^ 63) ≤ k ∧ k < 2 ^ 63 ∧ xs.length * k.toNat ≤ line then some (.lst (List.replicate k.toNat xs).flatten) else none
  | _, _ => none
/-- the divisor above 0, below 2 ^ 9000 -/
def divD : D → D → Option D
  | .int i, .int j => if 0 < j ∧ j.natAbs.log2 < 9000 then some (.int (i / j)) else none
  | _, _ => none
def modD : D → D → Option D
  | .int i, .int j => if 0 < j then some (.int (i % j)) else none
  | _, _ => none
def powD : D → D → Option D
  | .int i, .int j => if 0 ≤ j ∧ j ≤ 1000000 ∧ i.natAbs < 2 ^ 64 then some (.int (i ^ j.toNat)) else none
  | _, _ => none
def shlD : D → D → Option D
  | .int i, .int j => if 0 ≤ j ∧ j ≤ 1000000 ∧ i.natAbs < 2 ^ 64 then some (.int (i * 2 ^ j.toNat)) else none
  | _, _ => none
def negD : D → Option D
  | .int i => some (.int (-i))
  | _ => none
/-- x is None, x is True, x is False; not so -/
def flip (g : D → Option D) (d : D) : Option D := match g d with
  | some (.bl b) => some (.bl (!b))
  | _ => none
def isNon : D → Option D
  | .non => some (.bl true)
  | _ => some (.bl false)
def isBl (b : Bool) : D → Option D
  | .bl c => some (.bl (c == b))
  | _ => some (.bl false)
def notD : D → Option D
  | .bl b => some (.bl (!b))
  | _ => none

def geti {α : Type} (xs : List α) (i : Int) : Option α := if 0 ≤ i then xs[i.toNat]? else if -(xs.length : Int) ≤ i then xs[(i + xs.length).toNat]? else none
/-- keys of dicts: whole numbers and texts (t = false), tuples of these (t = true) -/
def keyEq : D → D → Bool
  | .int i, .int j => i == j
  | .str x, .str y => x == y
  | .tup xs, .tup ys => D.eqvAll xs ys
  | _, _ => false
def isKey : D → Bool
  | .int _ => true
  | .str _ => true
  | _ => false
def isKeyT : Bool → D → Bool
  | false, k => isKey k
  | true, .tup ks => ks.all isKey
  | true, _ => false
def dlook : List (D × D) → D → Option D
  | [], _ => none
  | (k, v) :: r, x => if keyEq k x then some v else dlook r x
def dput (kvs : List (D × D)) (k v : D) : List (D × D) := if kvs.any fun p => keyEq p.1 k then kvs.map fun p => if keyEq p.1 k then (p.1, v) else p else kvs ++ [(k, v)]
def ixD : D → D → Option D
  | .lst xs, .int i => geti xs i
  | .tup xs, .int i => geti xs i
  | .con xs, .int i => geti xs i
  | .str s, .int i => (geti s i).map fun c => .str [c]
  | .scr ns, .int i => (geti ns i).map .int
  | .dic t kvs, k => if isKeyT t k then dlook kvs k else none
  | _, _ => none
def lenD : D → Option D
  | .con xs => some (.int xs.length)
  | .lst xs => some (.int xs.length)
  | .tup xs => some (.int xs.length)
  | .str s => some (.int s.length)
  | .scr ns => some (.int ns.length)
  | .dic false kvs => some (.int kvs.length)
  | _ => none
def truth : D → Option Bool
  | .non => some false
  | .bl b => some b
  | .int i => some (i != 0)
  | .str s => some (!s.isEmpty)
  | .lst xs => some (!xs.isEmpty)
  | .tup xs => some (!xs.isEmpty)
  | _ => none
/-- a bound of a slice -/
def clip (n d : Nat) : Option Int → Nat
  | none => d
  | some v => if v < 0 then (v + n).toNat else min v.toNat n
def cut {α : Type} (xs : List α) (lo hi : Option Int) : List α := (xs.drop (clip xs.length 0 lo)).take (clip xs.length xs.length hi - clip xs.length 0 lo)
def cutD (lo hi : Option Int) : D → Option D
  | .lst xs => some (.lst (cut xs lo hi))
  | .tup xs => some (.tup (cut xs lo hi))
  | .str s => some (.str (cut s lo hi))
  | _ => none
def inD (x : D) : D → Option D
  | .lst ys => if okEq x (.lst ys) then some (.bl (ys.any fun y => D.eqv y x)) else none
  | .tup ys => if okEq x (.tup ys) then some (.bl (ys.any fun y => D.eqv y x)) else none
  | .con ys => if okEq x (.con ys) then some (.bl (ys.any fun y => D.eqv y x)) else none
  | .dic t kvs => if isKeyT t x then some (.bl (dlook kvs x).isSome) else none
  | _ => none
def notInD (x y : D) : Option D := match inD x y with
  | some (.bl b) => some (.bl (!b))
  | _ => none

/-! ### built-in functions -/
def intsD : List D → Option (List Int)
  | [] => some []
  | .int i :: r => (intsD r).map (i :: ·)
  | _ :: _ => none
def blsD : List D → Option (List Bool)
  | [] => some []
  | .bl i :: r => (blsD r).map (i :: ·)
  | _ :: _ => none
def sumD : D → Option D
  | .lst xs => (intsD xs).map fun ns => .int ns.sum
  | _ => none
def maxI : Int → List Int → Int
  | m, [] => m
  | m, n :: r => maxI (if m < n then n else m) r
def minI : Int → List Int → Int
  | m, [] => m
  | m, n :: r => minI (if n < m then n else m) r
def maxD : D → Option D
  | .lst xs => (intsD xs).bind fun ns => match ns with
    | [] => none
    | n :: r => some (.int (maxI n r))
  | _ => none
def minD : D → Option D
  | .lst xs => (intsD xs).bind fun ns => match ns with
    | [] => none
    | n :: r => some (.int (minI n r))
  | _ => none
def max2 : D → D → Option D
  | .int i, .int j => some (.int (if j > i then j else i))
  | _, _ => none
def min2 : D → D → Option D
  | .int i, .int j => some (.int (if j < i then j else i))
  | _, _ => none
def anyD : D → Option D
  | .lst xs => (blsD xs).map fun ns => .bl (ns.any id)
  | _ => none
def allD : D → Option D
  | .lst xs => (blsD xs).map fun ns => .bl (ns.all id)
  | _ => none
def absD : D → Option D
  | .int i => some (.int (if i < 0 then -i else i))
  | _ => none
def intD : D → Option D
  | .int i => some (.int i)
  | .bl b => some (.int (if b then 1 else 0))
  | _ => none
def listD : D → Option D
  | .lst xs => some (.lst xs)
  | .tup xs => some (.lst xs)
  | .con xs => some (.lst xs)
  | _ => none
def tupleD : D → Option D
  | .lst xs => some (.tup xs)
  | .tup xs => some (.tup xs)
  | _ => none
/-- the built-in classes that are asked for -/
inductive Ty where
  | int | bool | str | list | tuple | dict
def isD : Ty → D → Bool
  | .int, .int _ => true
  | .int, .bl _ => true
  | .bool, .bl _ => true
  | .str, .str _ => true
  | .list, .lst _ => true
  | .list, .scr _ => true
  | .tuple, .tup _ => true
  | .tuple, .con _ => true
  | .dict, .dic _ _ => true
  | _, _ => false
def isiD (t : Ty) (d : D) : Option D := some (.bl (isD t d))
/-! sorting -/
def ins (x : D) : List D → List D
  | [] => [x]
  | y :: ys => if D.lt y x then y :: ins x ys else x :: y :: ys
def isort : List D → List D
  | [] => []
  | x :: xs => ins x (isort xs)
def isT : D → Bool
  | .tup (_ :: _) => true
  | _ => false
def isNT : D → Bool
  | .non => false
  | .tup _ => false
  | _ => true
def sortable (ds : List D) : Bool := ds.all (fun a => ds.all fun b => D.alike a b) && ds.all D.plain && (ds.all isT || ds.all isNT) && ds.all fun a => decide (a.depth ≤ 64)
def sortedD : D → Option D
  | .lst xs => if sortable xs then some (.lst (isort xs)) else none
  | _ => none

/-! ### slots -/
inductive SV where
  | un
  | fz (d : D)
  /-- an object that this name alone holds; one that was handed in to be changed -/
  | ow (d : D)
  | io (d : D)
abbrev Loc := List SV
def nth : Loc → Nat → SV
  | [], _ => .un
  | x :: _, 0 => x
  | _ :: xs, n + 1 => nth xs n
def put : Loc → Nat → SV → Loc
  | [], _, _ => []
  | _ :: xs, 0, v => v :: xs
  | x :: xs, n + 1, v => x :: put xs n v
def SV.dat : SV → Option D
  | .un => none
  | .fz d => some d
  | .ow d => some d
  | .io d => some d
/-- what may be changed, and the slot behind it -/
def SV.obj : SV → Option D
  | .ow d => some d
  | .io d => some d
  | _ => none
def SV.chg : SV → D → SV
  | .io _, d => .io d
  | _, d => .ow d
abbrev M (α : Type) := Loc → Option (α × Loc)
/-- an expression; an operand that is read when it is needed; a test -/
abbrev E := M D
abbrev O := M (Loc → Option D)
abbrev T := M Bool

def cst (d : D) : E := fun l => some (d, l)
/-- a name that goes on: its object is not changed from then on -/
def use (i : Nat) : E := fun l => match nth l i with
  | .fz d => some (d, l)
  | .ow d => some (d, put l i (.fz d))
  | _ => none
def ovar (i : Nat) : O := fun l => (nth l i).dat.bind fun _ => some (fun l' => (nth l' i).dat, l)
def oexp (e : E) : O := fun l => (e l).bind fun p => some (fun _ => some p.1, p.2)
def op1 (g : D → Option D) (a : O) : E := fun l => (a l).bind fun p => (p.1 p.2).bind fun x => (g x).bind fun z => some (z, p.2)
def op2 (g : D → D → Option D) (a b : O) : E := fun l => (a l).bind fun p => (b p.2).bind fun q => (p.1 q.2).bind fun x => (q.1 q.2).bind fun y => (g x y).bind fun z => some (z, q.2)
def tru (a : O) : T := fun l => (a l).bind fun p => (p.1 p.2).bind fun x => (truth x).bind fun b => some (b, p.2)
/-- an expression that gives True or False, as a test -/
def tbl (e : E) : T := fun l => (e l).bind fun p => match p.1 with
  | .bl b => some (b, p.2)
  | _ => none
def tnot (t : T) : T := fun l => (t l).bind fun p => some (!p.1, p.2)
def tand (t u : T) : T := fun l => (t l).bind fun p => if p.1 then u p.2 else some (false, p.2)
def tor (t u : T) : T := fun l => (t l).bind fun p => if p.1 then some (true, p.2) else u p.2
def eand (a b : E) : E := fun l => (a l).bind fun p => match p.1 with
  | .bl true => b p.2
  | .bl false => some (.bl false, p.2)
  | _ => none
def eor (a b : E) : E := fun l => (a l).bind fun p => match p.1 with
  | .bl true => some (.bl true, p.2)
  | .bl false => b p.2
  | _ => none
def ifE (t : T) (a b : E) : E := fun l => (t l).bind fun p => if p.1 then a p.2 else b p.2
def args : List E → M (List D)
  | [] => fun l => some ([], l)
  | e :: es => fun l => (e l).bind fun p => (args es p.2).bind fun q => some (p.1 :: q.1, q.2)
def lstE (es : List E) : E := fun l => (args es l).bind fun p => some (.lst p.1, p.2)
def tupE (es : List E) : E := fun l => (args es l).bind fun p => some (.tup p.1, p.2)
/-- a part of a slice -/
def onone : M (Option Int) := fun l => some (none, l)
def osome (e : E) : M (Option Int) := fun l => (e l).bind fun p => match p.1 with
  | .int i => some (some i, p.2)
  | _ => none
def slc (a : O) (lo hi : M (Option Int)) : E := fun l => (a l).bind fun p => (lo p.2).bind fun q => (hi q.2).bind fun r => (p.1 r.2).bind fun x => (cutD q.1 r.1 x).bind fun z => some (z, r.2)
/-- .. a list's, as a new list -/
def slcL (a : O) (lo hi : M (Option Int)) : E := fun l => (a l).bind fun p => (lo p.2).bind fun q => (hi q.2).bind fun r => (p.1 r.2).bind fun x => (cutD q.1 r.1 x).bind fun z => match z with
  | .lst ds => some (.lst ds, r.2)
  | _ => none
/-- a call of a function that changes nothing -/
def call (f : List D → Option D) (es : List E) : E := fun l => (args es l).bind fun p => (f p.1).bind fun z => some (z, p.2)

/-- a call of a function that changes one argument, a name's own object -/
def callI (f : List D → D → List D → Option (D × D)) (es1 : List E) (i : Nat) (es2 : List E) : E := fun l => (args es1 l).bind fun p => (nth p.2 i).obj.bind fun _ => (args es2 p.2).bind fun q => (nth q.2 i).obj.bind fun c =>
  (f p.1 c q.1).bind fun r => some (r.1, put q.2 i ((nth q.2 i).chg r.2))
/-- x.pop(), x.pop(k) -/
def popE (i : Nat) : E := fun l => (nth l i).obj.bind fun c => match c with
  | .lst xs => (xs[xs.length - 1]?).bind fun d => some (d, put l i ((nth l i).chg (.lst xs.dropLast)))
  | _ => none
def isN : D → Bool
  | .non => true
  | _ => false
/-- a call of a function that gives a new object -/
def callF (f : List D → Option D) (es : List E) : E := fun l => (args es l).bind fun p => (f p.1).bind fun z => if isN z then none else some (z, p.2)
def isL : D → Bool
  | .lst _ => true
  | _ => false
def popA (i : Nat) (e : E) : E := fun l => (nth l i).obj.bind fun c0 => if isL c0 then (e l).bind fun p => (nth p.2 i).obj.bind fun c => match c, p.1 with
  | .lst xs, .int k => if 0 ≤ k ∧ k < 4611686018427387904 then (xs[k.toNat]?).bind fun d => some (d, put p.2 i ((nth p.2 i).chg (.lst (xs.eraseIdx k.toNat)))) else none
  | _, _ => none else none

/-! ### what is walked -/
abbrev It := M (List D)
def items : D → Option (List D)
  | .lst xs => some xs
  | .tup xs => some xs
  | .con xs => some xs
  | .str s => some (s.map fun c => .str [c])
  | _ => none
def over (e : E) : It := fun l => (e l).bind fun p => (items p.1).bind fun ds => some (ds, p.2)
def small (i : Int) : Bool := decide (i.natAbs.log2 < 61)
def upTo (lo : Int) : Nat → List D
  | 0 => []
  | n + 1 => .int lo :: upTo (lo + 1) n
def rng1 (e : E) : It := fun l => (e l).bind fun p => match p.1 with
  | .int j => if small j then some (upTo 0 j.toNat, p.2) else none
  | _ => none
def rng2 (a b : E) : It := fun l => (args [a, b] l).bind fun p => match p.1 with
  | [.int i, .int j] => if small i && small j then some (upTo i (j - i).toNat, p.2) else none
  | _ => none
/-- how many steps -/
def stepN (i j c : Int) : Int := if c > 0 then (if i < j then (j - i - 1) / c + 1 else 0) else (if i > j then (i - j - 1) / (-c) + 1 else 0)
def stepTo (lo c : Int) : Nat → List D
  | 0 => []
  | n + 1 => .int lo :: stepTo (lo + c) c n
def tiny (i : Int) : Bool := decide (i.natAbs.log2 < 29)
def rng3 (a b c : E) : It := fun l => (args [a, b, c] l).bind fun p => match p.1 with
  | [.int i, .int j, .int k] => if tiny i && tiny j && tiny k && k != 0 then some (stepTo i k (stepN i j k).toNat, p.2) else none
  | _ => none
/-- list(range(..)) -/
def listR (it : It) : E := fun l => (it l).bind fun p => if p.1.length ≤ line then some (.lst p.1, p.2) else none
def number (i : Int) : List D → List D
  | [] => []
  | x :: xs => .tup [.int i, x] :: number (i + 1) xs
/-- enumerate of a list, of a text -/
def enumL (e : E) : It := fun l => (e l).bind fun p => match p.1 with
  | .lst xs => some (number 0 xs, p.2)
  | _ => none
def enumS (e : E) : It := fun l => (e l).bind fun p => match p.1 with
  | .str s => some (number 0 (s.map fun c => .str [c]), p.2)
  | _ => none

/-! ### a < b < c .. -/
def chn (x : D) : List ((D → D → Option D) × E) → E
  | [] => fun _ => none
  | [(g, e)] => fun l => (e l).bind fun p => (g x p.1).bind fun z => some (z, p.2)
  | (g, e) :: c :: r => fun l => (e l).bind fun p => (g x p.1).bind fun z => match z with
    | .bl true => chn p.1 (c :: r) p.2
    | .bl false => some (.bl false, p.2)
    | _ => none
def chain (a : E) (r : List ((D → D → Option D) × E)) : E := fun l => (a l).bind fun p => chn p.1 r p.2
/-! ### texts -/
def strsD : List D → Option (List (List Nat))
  | [] => some []
  | .str s :: r => (strsD r).map (s :: ·)
  | _ :: _ => none
def sepBy (a : List Nat) : List (List Nat) → List Nat
  | [] => []
  | [s] => s
  | s :: t :: r => s ++ (a ++ sepBy a (t :: r))
def joinD : D → D → Option D
  | .str a, .lst xs => (strsD xs).bind fun ys => if (ys.map List.length).sum + ys.length * a.length ≤ line then some (.str (sepBy a ys)) else none
  | _, _ => none
/-! ### targets -/
abbrev G := D → Loc → Option Loc
def gname (i : Nat) : G := fun d l => some (put l i (.fz d))
def gall : List G → List D → Loc → Option Loc
  | [], [], l => some l
  | g :: gs, d :: ds, l => (g d l).bind fun l' => gall gs ds l'
  | _, _, _ => none
def gtup (gs : List G) : G := fun d l => match d with
  | .tup ds => gall gs ds l
  | .lst ds => gall gs ds l
  | .con ds => gall gs ds l
  | _ => none

/-! ### comprehensions -/
def wip (l : Loc) : List Nat → Loc
  | [] => l
  | i :: is => put (wip l is) i .un
/-- the names of the block are given back -/
def back (l0 l : Loc) : List Nat → Loc
  | [] => l
  | i :: is => put (back l0 l is) i (match nth l0 i with
    | .fz d => .fz d
    | _ => .un)
def lcGo (own : List Nat) (g : G) (t : T) (e : E) : List D → List D → Loc → Option (List D × Loc)
  | [], acc, l => some (acc, l)
  | x :: xs, acc, l => (g x (wip l own)).bind fun l1 => (t l1).bind fun p =>
    if p.1 then (e p.2).bind fun q => if acc.length < line then lcGo own g t e xs (acc ++ [q.1]) q.2 else none
    else lcGo own g t e xs acc p.2
def tyes : T := fun l => some (true, l)
def lc (own : List Nat) (it : It) (g : G) (t : T) (e : E) : E := fun l => (it l).bind fun p => (lcGo own g t e p.1 [] p.2).bind fun q => some (.lst q.1, back p.2 q.2 own)
/-- two for's: the second one's names own1 -/
def lcIn (own1 : List Nat) (g : G) (t : T) (e : E) : List D → List D → Loc → Option (List D × Loc)
  | [], acc, l => some (acc, l)
  | x :: xs, acc, l => (g x (wip l own1)).bind fun l1 => (t l1).bind fun p =>
    if p.1 then (e p.2).bind fun q => if acc.length < line then lcIn own1 g t e xs (acc ++ [q.1]) q.2 else none
    else lcIn own1 g t e xs acc p.2
def lcOut (own own1 : List Nat) (g : G) (t : T) (it1 : It) (g1 : G) (t1 : T) (e : E) : List D → List D → Loc → Option (List D × Loc)
  | [], acc, l => some (acc, l)
  | x :: xs, acc, l => (g x (wip l own)).bind fun l1 => (t l1).bind fun p =>
    if p.1 then (it1 p.2).bind fun q => (lcIn own1 g1 t1 e q.1 acc q.2).bind fun r => lcOut own own1 g t it1 g1 t1 e xs r.1 r.2
    else lcOut own own1 g t it1 g1 t1 e xs acc p.2
def lc2 (own own1 : List Nat) (it : It) (g : G) (t : T) (it1 : It) (g1 : G) (t1 : T) (e : E) : E := fun l => (it l).bind fun p => (lcOut own own1 g t it1 g1 t1 e p.1 [] p.2).bind fun q => some (.lst q.1, back p.2 q.2 own)

/-- {k: v for .. in .. if ..}, keys whole numbers or texts -/
def dcGo (own : List Nat) (g : G) (t : T) (ek ev : E) : List D → List (D × D) → Loc → Option (List (D × D) × Loc)
  | [], acc, l => some (acc, l)
  | x :: xs, acc, l => (g x (wip l own)).bind fun l1 => (t l1).bind fun p =>
    if p.1 then (ek p.2).bind fun q => (ev q.2).bind fun r => if isKey q.1 && decide (acc.length < line) then dcGo own g t ek ev xs (dput acc q.1 r.1) r.2 else none
    else dcGo own g t ek ev xs acc p.2
def dc (own : List Nat) (it : It) (g : G) (t : T) (ek ev : E) : E := fun l => (it l).bind fun p => (dcGo own g t ek ev p.1 [] p.2).bind fun q => some (.dic false q.1, back p.2 q.2 own)

/-! ### statements -/
inductive Fl where
  | nx (l : Loc)
  | bk (l : Loc)
  | ct (l : Loc)
  | rt (d : D) (l : Loc)
abbrev S := Loc → Option Fl
def seq (s t : S) : S := fun l => (s l).bind fun f => match f with
  | .nx l' => t l'
  | f => some f
def nop : S := fun l => some (.nx l)
def brk : S := fun l => some (.bk l)
def cnt : S := fun l => some (.ct l)
def asg (g : G) (e : E) : S := fun l => (e l).bind fun p => (g p.1 p.2).bind fun l' => some (.nx l')
/-- a new object that is only this name's -/
def own (i : Nat) (e : E) : S := fun l => (e l).bind fun p => some (.nx (put p.2 i (.ow p.1)))
def exprS (e : E) : S := fun l => (e l).bind fun p => some (.nx p.2)
def ret (e : E) : S := fun l => (e l).bind fun p => some (.rt p.1 p.2)
def retN : S := fun l => some (.rt .non l)
/-- return x, x a name whose object is only its own -/
def retV (i : Nat) : S := fun l => match nth l i with
  | .ow d => some (.rt d (put l i .un))
  | _ => none
def ifS (t : T) (a b : S) : S := fun l => (t l).bind fun p => if p.1 then a p.2 else b p.2
def forL (g : G) (body : S) : List D → Loc → Option Fl
  | [], l => some (.nx l)
  | x :: xs, l => (g x l).bind fun l1 => (body l1).bind fun f => match f with
    | .nx l' => forL g body xs l'
    | .ct l' => forL g body xs l'
    | .bk l' => some (.nx l')
    | .rt d l' => some (.rt d l')
def forS (it : It) (g : G) (body : S) : S := fun l => (it l).bind fun p => forL g body p.1 p.2
def whileL (t : T) (body : S) : Nat → Loc → Option Fl
  | 0, _ => none
  | n + 1, l => (t l).bind fun p => if p.1 then (body p.2).bind fun f => match f with
      | .nx l' => whileL t body n l'
      | .ct l' => whileL t body n l'
      | .bk l' => some (.nx l')
      | .rt d l' => some (.rt d l')
    else some (.nx p.2)
def whileS (fuel : Nat) (t : T) (body : S) : S := whileL t body fuel
/-- x.append(e), x[k] = e for a name x whose object is only its own -/
def appD (c x : D) : Option D := match c with
  | .lst xs => if xs.length < line then some (.lst (xs ++ [x])) else none
  | _ => none
def appS (i : Nat) (e : E) : S := fun l => (nth l i).obj.bind fun c0 => if isL c0 then (e l).bind fun p => (nth p.2 i).obj.bind fun c => (appD c p.1).bind fun c' => some (.nx (put p.2 i ((nth p.2 i).chg c'))) else none
def extD (c x : D) : Option D := match c, x with
  | .lst xs, .lst ys => if xs.length + ys.length ≤ line then some (.lst (xs ++ ys)) else none
  | _, _ => none
def extS (i : Nat) (e : E) : S := fun l => (nth l i).obj.bind fun c0 => if isL c0 then (e l).bind fun p => (nth p.2 i).obj.bind fun c => (extD c p.1).bind fun c' => some (.nx (put p.2 i ((nth p.2 i).chg c'))) else none
def seti {α : Type} (xs : List α) (i : Int) (v : α) : Option (List α) := if 0 ≤ i then (if i < xs.length then some (xs.set i.toNat v) else none) else if -(xs.length : Int) ≤ i then some (xs.set (i + xs.length).toNat v) else none
def setD (c k v : D) : Option D := match c, k with
  | .lst xs, .int i => (seti xs i v).map .lst
  | .dic t kvs, k => if isKeyT t k && decide (kvs.length < line) then some (.dic t (dput kvs k v)) else none
  | _, _ => none
def setS (i : Nat) (k : E) (e : E) : S := fun l => (e l).bind fun p => (nth p.2 i).obj.bind fun _ => (k p.2).bind fun q => (nth q.2 i).obj.bind fun c => (setD c q.1 p.1).bind fun c' => some (.nx (put q.2 i ((nth q.2 i).chg c')))

/-! ### functions -/
def fin : Option Fl → Option (D × Loc)
  | some (.rt d l) => some (d, l)
  | some (.nx l) => some (.non, l)
  | _ => none
def run (k extra : Nat) (body : S) (ds : List D) : Option D :=
  if ds.length = k then (fin (body (ds.map SV.fz ++ List.replicate extra SV.un))).map (·.1) else none
/-- one argument is changed -/
def runI (k1 k2 extra : Nat) (body : S) (ds1 : List D) (c : D) (ds2 : List D) : Option (D × D) :=
  if ds1.length = k1 ∧ ds2.length = k2 then (fin (body (ds1.map SV.fz ++ SV.io c :: (ds2.map SV.fz ++ List.replicate extra SV.un)))).bind fun p => match nth p.2 k1 with
    | .io c' => some (p.1, c')
    | _ => none
  else none
/-- the first argument is changed -/
def run1 (k extra : Nat) (body : S) (c : D) (ds : List D) : Option (D × D) :=
  if ds.length = k then (fin (body (.io c :: (ds.map SV.fz ++ List.replicate extra SV.un)))).bind fun p => match nth p.2 0 with
    | .io c' => some (p.1, c')
    | _ => none
  else none
def call1 (f : D → List D → Option (D × D)) (i : Nat) (es : List E) : E := fun l => (nth l i).obj.bind fun _ => (args es l).bind fun q => (nth q.2 i).obj.bind fun c =>
  (f c q.1).bind fun r => some (r.1, put q.2 i ((nth q.2 i).chg r.2))
def joinE (a : List Nat) (e : E) : E := fun l => (e l).bind fun p => (joinD (.str a) p.1).bind fun z => some (z, p.2)
/-- a new list, by an operation -/
def gL (g : D → D → Option D) (a b : D) : Option D := (g a b).bind fun z => if isL z then some z else none
def op2L (g : D → D → Option D) (a b : O) : E := op2 (gL g) a b
/-! a, b = x, y -/
def putAll : List (Bool × Nat) → List D → Loc → Option Loc
  | [], [], l => some l
  | (k, i) :: r, d :: ds, l => putAll r ds (put l i (if k then .ow d else .fz d))
  | _, _, _ => none
def par (ks : List (Bool × Nat)) (es : List E) : S := fun l => (args es l).bind fun p => (putAll ks p.1 p.2).bind fun l' => some (.nx l')
def gcdD : D → D → Option D
  | .int a, .int b => some (.int (Nat.gcd a.natAbs b.natAbs : Nat))
  | _, _ => none
end Py


namespace Py
open L2 PySem PySem.Spec
abbrev Sl := L2.St

/-! ### what data is, in an abstract heap -/
def core : HO → HO
  | .frz _ (.dK k) => .dK k
  | .frz _ (.dT k) => .dT k
  | o => o
def isFz : HO → Prop
  | .frz _ _ => True
  | _ => False
/-- more frozen things; a dict may have been locked -/
def Le (F F' : Hp) : Prop := ∀ a o, F a = some o → ∃ o', F' a = some o' ∧ core o' = core o ∧ (isFz o → o' = o)
theorem Le.refl (F : Hp) : Le F F := fun _ o h => ⟨o, h, rfl, fun _ => rfl⟩
theorem Le.trans {F G H : Hp} (a : Le F G) (b : Le G H) : Le F H := fun c o h => by
  obtain ⟨o', h', e, z⟩ := a c o h
  obtain ⟨o2, h2, e2, z2⟩ := b c o' h'
  refine ⟨o2, h2, e2.trans e, fun q => ?_⟩
  have e3 := z q
  subst e3
  exact z2 q
theorem Le.of {F G : Hp} (h : ∀ a o, F a = some o → G a = some o) : Le F G := fun a o e => ⟨o, h a o e, rfl, fun _ => rfl⟩
theorem core_lst {o : HO} {xs : List V} (h : core o = .lst xs) : o = .lst xs := by
  unfold core at h
  split at h
  · cases h
  · cases h
  · exact h
theorem core_tup {o : HO} {xs : List V} (h : core o = .tup xs) : o = .tup xs := by
  unfold core at h
  split at h
  · cases h
  · cases h
  · exact h
theorem core_frz {o : HO} {b : Obj} {u : HO} (h : core o = .frz b u) : o = .frz b u := by
  unfold core at h
  split at h
  · cases h
  · cases h
  · exact h
theorem core_dK {o : HO} {k : List (Key × V)} (h : core o = .dK k) : o = .dK k ∨ ∃ b, o = .frz b (.dK k) := by
  unfold core at h
  split at h
  · cases h; exact .inr ⟨_, rfl⟩
  · cases h
  · exact .inl h
theorem core_dT {o : HO} {k : List (List Key × V)} (h : core o = .dT k) : o = .dT k ∨ ∃ b, o = .frz b (.dT k) := by
  unfold core at h
  split at h
  · cases h
  · cases h; exact .inr ⟨_, rfl⟩
  · exact .inl h
theorem core_of_frz_lst {b : Obj} {xs : List V} : core (.frz b (.lst xs)) = .frz b (.lst xs) := rfl
theorem core_of_frz_tup {b : Obj} {xs : List V} : core (.frz b (.tup xs)) = .frz b (.tup xs) := rfl
theorem Le.lst {F G : Hp} (h : Le F G) {a : Addr} {xs : List V} (e : F a = some (.lst xs)) : G a = some (.lst xs) := by
  obtain ⟨o, q, c, _⟩ := h a _ e
  rw [q, core_lst c]
theorem Le.tup {F G : Hp} (h : Le F G) {a : Addr} {xs : List V} (e : F a = some (.tup xs)) : G a = some (.tup xs) := by
  obtain ⟨o, q, c, _⟩ := h a _ e
  rw [q, core_tup c]
theorem Le.sqL {K : PySem.W.Frag} {F G : Hp} (h : Le F G) {a : Addr} {xs : List V} (e : SqL K F a xs) : SqL K G a xs := by
  rcases e with (e | ⟨b, e⟩) | e
  · exact .inl (.inl (h.lst e))
  · obtain ⟨o, q, c, _⟩ := h a _ e
    rw [core_of_frz_lst] at c
    exact .inl (.inr ⟨b, by rw [q, core_frz c]⟩)
  · exact .inr e
theorem Le.sqT {K : PySem.W.Frag} {F G : Hp} (h : Le F G) {a : Addr} {xs : List V} (e : SqT K F a xs) : SqT K G a xs := by
  rcases e with (e | ⟨b, e⟩) | e
  · obtain ⟨o, q, c, _⟩ := h a _ e
    exact .inl (.inl (by rw [q, core_tup c]))
  · obtain ⟨o, q, c, _⟩ := h a _ e
    rw [core_of_frz_tup] at c
    exact .inl (.inr ⟨b, by rw [q, core_frz c]⟩)
  · exact .inr e

mutual
inductive Rep (K : PySem.W.Frag) (F : Hp) : V → D → Prop
  | non : Rep K F .non .non
  | bl (b : Bool) : Rep K F (.bl b) (.bl b)
  | int (i : Int) : Rep K F (.int i) (.int i)
  | str (s : List Nat) : s.length ≤ line → (∀ c ∈ s, c < 1114112) → Rep K F (.str ⟨s.toArray⟩) (.str s)
  | lst {a : Addr} {vs : List V} {ds : List D} : F a = some (.lst vs) → RepAll K F vs ds → Rep K F (.ref a) (.lst ds)
  | tup {a : Addr} {vs : List V} {ds : List D} : F a = some (.tup vs) → RepAll K F vs ds → Rep K F (.ref a) (.tup ds)
  | con {a : Addr} {vs : List V} {ds : List D} : SqT K F a vs → RepAll K F vs ds → Rep K F (.ref a) (.con ds)
  | dK {a : Addr} {o : HO} {ks : List (Key × V)} {kvs : List (D × D)} : F a = some o → core o = .dK ks → RepKV K F ks kvs → Rep K F (.ref a) (.dic false kvs)
  | dT {a : Addr} {o : HO} {ks : List (List Key × V)} {kvs : List (D × D)} : F a = some o → core o = .dT ks → RepTV K F ks kvs → Rep K F (.ref a) (.dic true kvs)
  | scr {a : Addr} {ns : List Int} : SqL K F a (ns.map V.int) → Rep K F (.ref a) (.scr ns)
inductive RepAll (K : PySem.W.Frag) (F : Hp) : List V → List D → Prop
  | nil : RepAll K F [] []
  | cons {v : V} {d : D} {vs : List V} {ds : List D} : Rep K F v d → RepAll K F vs ds → RepAll K F (v :: vs) (d :: ds)
inductive RepKV (K : PySem.W.Frag) (F : Hp) : List (Key × V) → List (D × D) → Prop
  | nil : RepKV K F [] []
  | cons {k : Key} {v : V} {c d : D} {ks : List (Key × V)} {kvs : List (D × D)} : Rep K F (kV k) c → Rep K F v d → RepKV K F ks kvs → RepKV K F ((k, v) :: ks) ((c, d) :: kvs)
inductive RepTV (K : PySem.W.Frag) (F : Hp) : List (List Key × V) → List (D × D) → Prop
  | nil : RepTV K F [] []
  | cons {k : List Key} {v : V} {c : List D} {d : D} {ks : List (List Key × V)} {kvs : List (D × D)} : RepAll K F (k.map kV) c → Rep K F v d → RepTV K F ks kvs → RepTV K F ((k, v) :: ks) ((.tup c, d) :: kvs)
end
section
variable {K : PySem.W.Frag} {F G : Hp}
mutual
theorem Rep.mono (h : Le F G) : ∀ {v : V} {d : D}, Rep K F v d → Rep K G v d
  | _, _, .non => .non
  | _, _, .bl b => .bl b
  | _, _, .int i => .int i
  | _, _, .str s a b => .str s a b
  | _, _, .lst a b => .lst (h.lst a) (b.mono h)
  | _, _, .tup a b => .tup (h.tup a) (b.mono h)
  | _, _, .con a b => .con (h.sqT a) (b.mono h)
  | _, _, .dK a b c => by
    obtain ⟨o', q, e, _⟩ := h _ _ a
    exact .dK q (e.trans b) (c.mono h)
  | _, _, .dT a b c => by
    obtain ⟨o', q, e, _⟩ := h _ _ a
    exact .dT q (e.trans b) (c.mono h)
  | _, _, .scr a => .scr (h.sqL a)
theorem RepAll.mono (h : Le F G) : ∀ {v : List V} {d : List D}, RepAll K F v d → RepAll K G v d
  | _, _, .nil => .nil
  | _, _, .cons a b => .cons (a.mono h) (b.mono h)
theorem RepKV.mono (h : Le F G) : ∀ {v : List (Key × V)} {d : List (D × D)}, RepKV K F v d → RepKV K G v d
  | _, _, .nil => .nil
  | _, _, .cons a b c => .cons (a.mono h) (b.mono h) (c.mono h)
theorem RepTV.mono (h : Le F G) : ∀ {v : List (List Key × V)} {d : List (D × D)}, RepTV K F v d → RepTV K G v d
  | _, _, .nil => .nil
  | _, _, .cons a b c => .cons (a.mono h) (b.mono h) (c.mono h)
end
theorem RepAll.len : ∀ {vs : List V} {ds : List D}, RepAll K F vs ds → vs.length = ds.length
  | _, _, .nil => rfl
  | _, _, .cons _ b => congrArg (· + 1) b.len
theorem RepAll.app : ∀ {vs us : List V} {ds es : List D}, RepAll K F vs ds → RepAll K F us es → RepAll K F (vs ++ us) (ds ++ es)
  | _, _, _, _, .nil, h => h
  | _, _, _, _, .cons a b, h => .cons a (b.app h)
theorem RepAll.one {v : V} {d : D} (h : Rep K F v d) : RepAll K F [v] [d] := .cons h .nil
theorem RepAll.get : ∀ {vs : List V} {ds : List D} {i : Nat} {d : D}, RepAll K F vs ds → ds[i]? = some d → ∃ v, vs[i]? = some v ∧ Rep K F v d
  | _, _, _, _, .nil, e => by simp at e
  | _, _, 0, _, .cons a _, e => by
    simp at e
    subst e
    exact ⟨_, rfl, a⟩
  | _, _, i + 1, d, .cons _ b, e => by
    obtain ⟨v, q, r⟩ := b.get (i := i) (d := d) (by simpa using e)
    exact ⟨v, by simpa using q, r⟩
theorem RepAll.getV : ∀ {vs : List V} {ds : List D} {i : Nat} {v : V}, RepAll K F vs ds → vs[i]? = some v → ∃ d, ds[i]? = some d ∧ Rep K F v d
  | _, _, _, _, .nil, e => by simp at e
  | _, _, 0, _, .cons a _, e => by
    simp at e
    subst e
    exact ⟨_, rfl, a⟩
  | _, _, i + 1, d, .cons _ b, e => by
    obtain ⟨v, q, r⟩ := b.getV (i := i) (v := d) (by simpa using e)
    exact ⟨v, by simpa using q, r⟩
theorem RepAll.take : ∀ {vs : List V} {ds : List D} (n : Nat), RepAll K F vs ds → RepAll K F (vs.take n) (ds.take n)
  | _, _, 0, _ => .nil
  | _, _, _ + 1, .nil => .nil
  | _, _, n + 1, .cons a b => .cons a (b.take n)
theorem RepAll.drop : ∀ {vs : List V} {ds : List D} (n : Nat), RepAll K F vs ds → RepAll K F (vs.drop n) (ds.drop n)
  | _, _, 0, h => h
  | _, _, _ + 1, .nil => .nil
  | _, _, n + 1, .cons _ b => b.drop n
theorem RepAll.set {v : V} {d : D} (h : Rep K F v d) : ∀ {vs : List V} {ds : List D} (n : Nat), RepAll K F vs ds → RepAll K F (vs.set n v) (ds.set n d)
  | _, _, _, .nil => .nil
  | _, _, 0, .cons _ b => .cons h b
  | _, _, n + 1, .cons a b => .cons a (RepAll.set h n b)
theorem RepAll.rev : ∀ {vs : List V} {ds : List D}, RepAll K F vs ds → RepAll K F vs.reverse ds.reverse
  | _, _, .nil => .nil
  | _, _, .cons a b => by
    rw [List.reverse_cons, List.reverse_cons]
    exact b.rev.app (.one a)
theorem RepAll.flat {vs : List V} {ds : List D} (h : RepAll K F vs ds) : ∀ n : Nat, RepAll K F (List.replicate n vs).flatten (List.replicate n ds).flatten
  | 0 => .nil
  | n + 1 => by
    rw [List.replicate_succ, List.replicate_succ, List.flatten_cons, List.flatten_cons]
    exact h.app (h.flat n)
theorem RepAll.of_zip : ∀ {vs : List V} {ds : List D}, vs.length = ds.length → (∀ (i : Nat) (v : V) (d : D), vs[i]? = some v → ds[i]? = some d → Rep K F v d) → RepAll K F vs ds
  | [], [], _, _ => .nil
  | _ :: _, [], e, _ => by simp at e
  | [], _ :: _, e, _ => by simp at e
  | v :: vs, d :: ds, e, h => .cons (h 0 v d rfl rfl) (RepAll.of_zip (by simpa using e) fun i a b p q => h (i + 1) a b (by simpa using p) (by simpa using q))
end

/-! ### objects that one name holds; slots -/
def Own (K : PySem.W.Frag) (F H : Hp) (p : Addr) : D → Prop
  | .lst ds => ∃ vs, H p = some (.lst vs) ∧ RepAll K F vs ds
  | .dic false kvs => ∃ ks, H p = some (.dK ks) ∧ RepKV K F ks kvs
  | .dic true kvs => ∃ ks, H p = some (.dT ks) ∧ RepTV K F ks kvs
  | _ => False
theorem Own.mono {K : PySem.W.Frag} {F F' H H' : Hp} {p : Addr} (h : Le F F') (e : H' p = H p) : ∀ {d : D}, Own K F H p d → Own K F' H' p d
  | .lst _, ⟨vs, a, b⟩ => ⟨vs, e.trans a, b.mono h⟩
  | .dic false _, ⟨vs, a, b⟩ => ⟨vs, e.trans a, b.mono h⟩
  | .dic true _, ⟨vs, a, b⟩ => ⟨vs, e.trans a, b.mono h⟩
theorem Own.here {K : PySem.W.Frag} {F H : Hp} {p : Addr} : ∀ {d : D}, Own K F H p d → ∃ o, H p = some o ∧ (∀ F', F' p = some o → Le F F' → Rep K F' (.ref p) d)
  | .lst _, ⟨vs, a, b⟩ => ⟨_, a, fun F' e h => .lst e (b.mono h)⟩
  | .dic false _, ⟨vs, a, b⟩ => ⟨_, a, fun F' e h => .dK e rfl (b.mono h)⟩
  | .dic true _, ⟨vs, a, b⟩ => ⟨_, a, fun F' e h => .dT e rfl (b.mono h)⟩

structure Base where
  F0 : Hp
  H0 : Hp
  io : List Addr
def SlotOk (K : PySem.W.Frag) (F H : Hp) : SV → Option (Option V) → Prop
  | .un, _ => True
  | .fz d, some (some v) => Rep K F v d
  | .ow d, some (some (.ref p)) => Own K F H p d
  | .io d, some (some (.ref p)) => Own K F H p d
  | _, _ => False
/-- where one stands: slots l, frozen things F, the layer's slots and heap -/
structure Gd (K : PySem.W.Frag) (B : Base) (l : Loc) (F : Hp) (σ : Sl) (H : Hp) : Prop where
  ff : Le B.F0 F
  fh : ∀ a o, F a = some o → H a = some o
  nw : ∀ a, F a ≠ none → B.F0 a ≠ none ∨ B.H0 a = none
  keep : ∀ a o, B.H0 a = some o → B.F0 a = none → a ∉ B.io → H a = some o
  dom : ∀ a, B.H0 a ≠ none → H a ≠ none
  len : l.length = σ.length
  bi : ∀ p ∈ B.io, B.H0 p ≠ none
  slot : ∀ i, SlotOk K F H (nth l i) σ[i]?
  ow : ∀ i d p, nth l i = .ow d → σ[i]? = some (some (.ref p)) → F p = none ∧ B.H0 p = none
  io : ∀ i d p, nth l i = .io d → σ[i]? = some (some (.ref p)) → F p = none ∧ p ∈ B.io
  dist : ∀ i j d e p, (nth l i).obj = some d → (nth l j).obj = some e → σ[i]? = some (some (.ref p)) → σ[j]? = some (some (.ref p)) → i = j
theorem obj_cases {s : SV} {d : D} (h : s.obj = some d) : s = .ow d ∨ s = .io d := by
  cases s <;> simp [SV.obj] at h <;> simp [h]
section
variable {K : PySem.W.Frag} {B : Base} {l l' : Loc} {F F' : Hp} {σ : Sl} {H H' : Hp}
theorem Gd.objAt (g : Gd K B l F σ H) {i : Nat} {d : D} (h : (nth l i).obj = some d) : ∃ p, σ[i]? = some (some (.ref p)) ∧ Own K F H p d ∧ F p = none ∧ (nth l i = .ow d ∧ B.H0 p = none ∨ nth l i = .io d ∧ p ∈ B.io) := by
  have s := g.slot i
  rcases obj_cases h with e | e
  · rw [e] at s
    match hq : σ[i]?, s with
    | some (some (.ref p)), s => exact ⟨p, rfl, s, (g.ow i d p e hq).1, .inl ⟨e, (g.ow i d p e hq).2⟩⟩
  · rw [e] at s
    match hq : σ[i]?, s with
    | some (some (.ref p)), s => exact ⟨p, rfl, s, (g.io i d p e hq).1, .inr ⟨e, (g.io i d p e hq).2⟩⟩
/-- the heap grows, nothing is changed -/
structure Grow (F H F' H' : Hp) : Prop where
  ff : ∀ a o, F a = some o → F' a = some o
  fh : ∀ a o, F' a = some o → H' a = some o
  hh : ∀ a o, H a = some o → H' a = some o
  nw : ∀ a, F' a ≠ none → F a ≠ none ∨ H a = none
theorem ne_none {α : Type} {x : Option α} (h : x ≠ none) : ∃ y, x = some y := by
  cases x with
  | none => exact absurd rfl h
  | some y => exact ⟨y, rfl⟩
theorem Grow.refl (h : ∀ a o, F a = some o → H a = some o) : Grow F H F H := ⟨fun _ _ e => e, h, fun _ _ e => e, fun _ e => .inl e⟩
theorem Grow.le (g : Grow F H F' H') : Le F F' := .of g.ff
theorem Gd.grow (g : Gd K B l F σ H) (r : Grow F H F' H') : Gd K B l F' σ H' where
  ff := g.ff.trans r.le
  fh := r.fh
  nw := fun a h => by
    rcases r.nw a h with h | h
    · exact g.nw a h
    · refine .inr ?_
      cases q : B.H0 a with
      | none => rfl
      | some o => exact absurd h (g.dom a (by rw [q]; exact fun z => by cases z))
  keep := fun a o h1 h2 h3 => r.hh a o (g.keep a o h1 h2 h3)
  dom := fun a h => by
    obtain ⟨o, q⟩ := ne_none (g.dom a h)
    rw [r.hh a o q]
    exact fun z => by cases z
  len := g.len
  bi := g.bi
  slot := fun i => by
    have s := g.slot i
    cases q : nth l i with
    | un => trivial
    | fz d =>
      rw [q] at s
      match hq : σ[i]?, s with
      | some (some v), s => exact Rep.mono r.le s
    | ow d =>
      obtain ⟨p, h1, h2, _⟩ := g.objAt (i := i) (d := d) (by rw [q]; rfl)
      obtain ⟨o, ho, _⟩ := h2.here
      rw [h1]
      exact h2.mono r.le (by rw [ho, r.hh p o ho])
    | io d =>
      obtain ⟨p, h1, h2, _⟩ := g.objAt (i := i) (d := d) (by rw [q]; rfl)
      obtain ⟨o, ho, _⟩ := h2.here
      rw [h1]
      exact h2.mono r.le (by rw [ho, r.hh p o ho])
  ow := fun i d p h1 h2 => by
    refine ⟨?_, (g.ow i d p h1 h2).2⟩
    obtain ⟨p', q1, q2, q3, _⟩ := g.objAt (i := i) (d := d) (by rw [h1]; rfl)
    rw [h2] at q1
    cases q1
    obtain ⟨o, ho, _⟩ := q2.here
    cases q : F' p with
    | none => rfl
    | some o' =>
      rcases r.nw p (by rw [q]; exact fun z => by cases z) with z | z
      · exact absurd q3 z
      · rw [ho] at z
        cases z
  io := fun i d p h1 h2 => by
    refine ⟨?_, (g.io i d p h1 h2).2⟩
    obtain ⟨p', q1, q2, q3, _⟩ := g.objAt (i := i) (d := d) (by rw [h1]; rfl)
    rw [h2] at q1
    cases q1
    obtain ⟨o, ho, _⟩ := q2.here
    cases q : F' p with
    | none => rfl
    | some o' =>
      rcases r.nw p (by rw [q]; exact fun z => by cases z) with z | z
      · exact absurd q3 z
      · rw [ho] at z
        cases z
  dist := g.dist
theorem Grow.new (h : ∀ a o, F a = some o → H a = some o) {p : Addr} (o : HO) (n : H p = none) : Grow F H F (upd H p o) :=
  ⟨fun _ _ e => e, fun a u e => by rw [upd_ne (ne_of_none (h a u e) n)]; exact h a u e, fun a u e => by rw [upd_ne (ne_of_none e n)]; exact e, fun _ e => .inl e⟩
theorem fnone (h : ∀ a o, F a = some o → H a = some o) {p : Addr} (n : H p = none) : F p = none := by
  cases q : F p with
  | none => rfl
  | some o => rw [h p o q] at n; cases n
theorem Grow.frz (h : ∀ a o, F a = some o → H a = some o) {p : Addr} (o : HO) (n : H p = none) : Grow F H (upd F p o) (upd H p o) := by
  have n' := fnone h n
  refine ⟨fun a u e => by rw [upd_ne (ne_of_none e n')]; exact e, fun a u e => ?_, fun a u e => by rw [upd_ne (ne_of_none e n)]; exact e, fun a e => ?_⟩
  · by_cases q : a = p
    · subst q; rw [upd_same] at e ⊢; exact e
    · rw [upd_ne q] at e ⊢; exact h a u e
  · by_cases q : a = p
    · exact .inr (by rw [q]; exact n)
    · rw [upd_ne q] at e; exact .inl e
end
end Py


namespace Py
open L2 PySem PySem.Spec

/-! ### slots stored -/
theorem put_length : ∀ (l : Loc) (i : Nat) (v : SV), (put l i v).length = l.length
  | [], _, _ => rfl
  | _ :: _, 0, _ => rfl
  | _ :: xs, n + 1, v => congrArg (· + 1) (put_length xs n v)
theorem nth_put_same : ∀ {l : Loc} {i : Nat} {v : SV}, i < l.length → nth (put l i v) i = v
  | [], _, _, h => absurd h (Nat.not_lt_zero _)
  | _ :: _, 0, _, _ => rfl
  | _ :: xs, n + 1, v, h => nth_put_same (l := xs) (Nat.lt_of_succ_lt_succ h)
theorem nth_put_ne : ∀ {l : Loc} {i j : Nat} {v : SV}, j ≠ i → nth (put l i v) j = nth l j
  | [], _, _, _, _ => rfl
  | _ :: _, 0, 0, _, h => absurd rfl h
  | _ :: _, 0, _ + 1, _, _ => rfl
  | _ :: _, _ + 1, 0, _, _ => rfl
  | _ :: xs, n + 1, m + 1, v, h => nth_put_ne (l := xs) fun e => h (congrArg (· + 1) e)
theorem put_ge : ∀ {l : Loc} {i : Nat} {v : SV}, l.length ≤ i → put l i v = l
  | [], _, _, _ => rfl
  | _ :: _, 0, _, h => absurd h (Nat.not_succ_le_zero _)
  | x :: xs, n + 1, v, h => congrArg (x :: ·) (put_ge (l := xs) (Nat.le_of_succ_le_succ h))
theorem nth_ge : ∀ {l : Loc} {i : Nat}, l.length ≤ i → nth l i = .un
  | [], _, _ => rfl
  | _ :: _, 0, h => absurd h (Nat.not_succ_le_zero _)
  | _ :: xs, n + 1, h => nth_ge (l := xs) (Nat.le_of_succ_le_succ h)

section
variable {K : PySem.W.Frag} {B : Base} {l l' : Loc} {F F' : Hp} {σ : Sl} {H H' : Hp}
theorem SlotOk.mono {F' H' : Hp} (h : Le F F') (e : ∀ p o, H p = some o → H' p = some o) : ∀ {s : SV} {x : Option (Option V)}, SlotOk K F H s x → SlotOk K F' H' s x
  | .un, _, _ => trivial
  | .fz _, some (some _), r => Rep.mono h r
  | .ow _, some (some (.ref p)), r => by
    obtain ⟨o, ho, _⟩ := Own.here (d := _) r
    exact Own.mono h (by rw [ho, e p o ho]) r
  | .io _, some (some (.ref p)), r => by
    obtain ⟨o, ho, _⟩ := Own.here (d := _) r
    exact Own.mono h (by rw [ho, e p o ho]) r
/-- a name's own object is frozen -/
theorem Gd.freeze (g : Gd K B l F σ H) {i : Nat} {d : D} (h : nth l i = .ow d) : ∃ p o, σ[i]? = some (some (.ref p)) ∧ Gd K B (put l i (.fz d)) (upd F p o) σ H ∧ Le F (upd F p o) ∧ Rep K (upd F p o) (.ref p) d := by
  obtain ⟨p, e, ow, fn, q⟩ := g.objAt (i := i) (d := d) (by rw [h]; rfl)
  have hn : B.H0 p = none := by
    rcases q with ⟨_, q⟩ | ⟨q, _⟩
    · exact q
    · rw [h] at q; cases q
  obtain ⟨o, ho, hr⟩ := ow.here
  have le : Le F (upd F p o) := .of fun a u x => by rw [upd_ne (ne_of_none x fn)]; exact x
  have rp := hr _ upd_same le
  have hi : i < l.length := by rw [g.len]; exact (List.getElem?_eq_some_iff.mp e).1
  refine ⟨p, o, e, ⟨g.ff.trans le, fun a u x => ?_, fun a x => ?_, g.keep, g.dom, by rw [put_length]; exact g.len, g.bi, fun j => ?_, fun j c r h1 h2 => ?_, fun j c r h1 h2 => ?_, fun j k c c' r h1 h2 h3 h4 => ?_⟩, le, rp⟩
  · by_cases z : a = p
    · subst z; rw [upd_same] at x; rw [ho]; exact x
    · rw [upd_ne z] at x; exact g.fh a u x
  · by_cases z : a = p
    · exact .inr (by rw [z]; exact hn)
    · rw [upd_ne z] at x; exact g.nw a x
  · by_cases z : j = i
    · subst z; rw [nth_put_same hi, e]; exact rp
    · rw [nth_put_ne z]; exact (g.slot j).mono le fun _ _ x => x
  · by_cases z : j = i
    · subst z; rw [nth_put_same hi] at h1; cases h1
    · rw [nth_put_ne z] at h1
      have hne : r ≠ p := fun y => by
        subst y
        exact z (g.dist j i c d r (by rw [h1]; rfl) (by rw [h]; rfl) h2 e)
      rw [upd_ne hne]; exact g.ow j c r h1 h2
  · by_cases z : j = i
    · subst z; rw [nth_put_same hi] at h1; cases h1
    · rw [nth_put_ne z] at h1
      have hne : r ≠ p := fun y => by
        subst y
        exact z (g.dist j i c d r (by rw [h1]; rfl) (by rw [h]; rfl) h2 e)
      rw [upd_ne hne]; exact g.io j c r h1 h2
  · have ni : ∀ {j : Nat} {c : D}, (nth (put l i (.fz d)) j).obj = some c → j ≠ i ∧ (nth l j).obj = some c := fun {j c} x => by
      by_cases z : j = i
      · subst z; rw [nth_put_same hi] at x; cases x
      · rw [nth_put_ne z] at x; exact ⟨z, x⟩
    exact g.dist j k c c' r (ni h1).2 (ni h2).2 h3 h4
/-- a slot is stored: frozen data, or nothing told -/
theorem Gd.store (g : Gd K B l F σ H) (i : Nat) (v : Option V) (s : SV) (hs : s = .un ∨ ∃ d w, s = .fz d ∧ v = some w ∧ Rep K F w d) : Gd K B (put l i s) F (σ.set i v) H := by
  by_cases hi : i < l.length
  · have hσ : i < σ.length := by rw [← g.len]; exact hi
    have nob : ∀ d, s ≠ .ow d ∧ s ≠ .io d ∧ s.obj ≠ some d := fun d => by
      rcases hs with rfl | ⟨c, w, rfl, _, _⟩ <;> exact ⟨fun z => (by cases z), fun z => (by cases z), fun z => (by cases z)⟩
    refine ⟨g.ff, g.fh, g.nw, g.keep, g.dom, by rw [put_length, List.length_set]; exact g.len, g.bi, fun j => ?_, fun j c r h1 h2 => ?_, fun j c r h1 h2 => ?_, fun j k c c' r h1 h2 h3 h4 => ?_⟩
    · by_cases z : j = i
      · subst z
        rw [nth_put_same hi, List.getElem?_set_self hσ]
        rcases hs with rfl | ⟨c, w, rfl, rfl, rp⟩
        · trivial
        · exact rp
      · rw [nth_put_ne z, List.getElem?_set_ne (Ne.symm z)]; exact g.slot j
    · by_cases z : j = i
      · subst z; rw [nth_put_same hi] at h1; exact absurd h1 (nob c).1
      · rw [nth_put_ne z] at h1; rw [List.getElem?_set_ne (Ne.symm z)] at h2; exact g.ow j c r h1 h2
    · by_cases z : j = i
      · subst z; rw [nth_put_same hi] at h1; exact absurd h1 (nob c).2.1
      · rw [nth_put_ne z] at h1; rw [List.getElem?_set_ne (Ne.symm z)] at h2; exact g.io j c r h1 h2
    · have ni : ∀ {j : Nat} {c : D}, (nth (put l i s) j).obj = some c → j ≠ i ∧ (nth l j).obj = some c := fun {j c} x => by
        by_cases z : j = i
        · subst z; rw [nth_put_same hi] at x; exact absurd x (nob c).2.2
        · rw [nth_put_ne z] at x; exact ⟨z, x⟩
      rw [List.getElem?_set_ne (Ne.symm (ni h1).1)] at h3
      rw [List.getElem?_set_ne (Ne.symm (ni h2).1)] at h4
      exact g.dist j k c c' r (ni h1).2 (ni h2).2 h3 h4
  · have hi : l.length ≤ i := Nat.le_of_not_lt hi
    rw [put_ge hi, List.set_eq_of_length_le (by rw [← g.len]; exact hi)]
    exact g
/-- what is new: only the value at hand holds it -/
structure Fresh (K : PySem.W.Frag) (B : Base) (l : Loc) (F : Hp) (σ : Sl) (H : Hp) (p : Addr) (d : D) : Prop where
  own : Own K F H p d
  fn : F p = none
  hn : B.H0 p = none
  ne : ∀ i e q, (nth l i).obj = some e → σ[i]? = some (some (.ref q)) → q ≠ p
theorem Gd.storeOwn (g : Gd K B l F σ H) (i : Nat) {p : Addr} {d : D} (f : Fresh K B l F σ H p d) (hi : i < l.length) : Gd K B (put l i (.ow d)) F (σ.set i (some (.ref p))) H := by
  have hσ : i < σ.length := by rw [← g.len]; exact hi
  refine ⟨g.ff, g.fh, g.nw, g.keep, g.dom, by rw [put_length, List.length_set]; exact g.len, g.bi, fun j => ?_, fun j c r h1 h2 => ?_, fun j c r h1 h2 => ?_, fun j k c c' r h1 h2 h3 h4 => ?_⟩
  · by_cases z : j = i
    · subst z
      rw [nth_put_same hi, List.getElem?_set_self hσ]
      exact f.own
    · rw [nth_put_ne z, List.getElem?_set_ne (Ne.symm z)]; exact g.slot j
  · by_cases z : j = i
    · subst z
      rw [List.getElem?_set_self hσ] at h2
      cases h2
      exact ⟨f.fn, f.hn⟩
    · rw [nth_put_ne z] at h1; rw [List.getElem?_set_ne (Ne.symm z)] at h2; exact g.ow j c r h1 h2
  · by_cases z : j = i
    · subst z; rw [nth_put_same hi] at h1; cases h1
    · rw [nth_put_ne z] at h1; rw [List.getElem?_set_ne (Ne.symm z)] at h2; exact g.io j c r h1 h2
  · by_cases y1 : j = i
    · by_cases y2 : k = i
      · rw [y1, y2]
      · subst y1
        rw [List.getElem?_set_self hσ] at h3
        cases h3
        rw [nth_put_ne y2] at h2; rw [List.getElem?_set_ne (Ne.symm y2)] at h4
        exact absurd rfl (f.ne k c' _ h2 h4)
    · by_cases y2 : k = i
      · subst y2
        rw [List.getElem?_set_self hσ] at h4
        cases h4
        rw [nth_put_ne y1] at h1; rw [List.getElem?_set_ne (Ne.symm y1)] at h3
        exact absurd rfl (f.ne j c _ h1 h3)
      · rw [nth_put_ne y1] at h1; rw [List.getElem?_set_ne (Ne.symm y1)] at h3
        rw [nth_put_ne y2] at h2; rw [List.getElem?_set_ne (Ne.symm y2)] at h4
        exact g.dist j k c c' r h1 h2 h3 h4
/-- a name's object is changed -/
theorem chg_obj {s : SV} {d e : D} (h : s.obj = some e) : (s.chg d).obj = some d := by cases s <;> first | rfl | cases h
theorem Gd.change (g : Gd K B l F σ H) {i : Nat} {d d' : D} {p : Addr} {o : HO} (h : (nth l i).obj = some d) (e : σ[i]? = some (some (.ref p))) (ow : Own K F (upd H p o) p d') : Gd K B (put l i ((nth l i).chg d')) F σ (upd H p o) := by
  obtain ⟨p', e', ow', fn, q⟩ := g.objAt h
  rw [e] at e'
  cases e'
  have hi : i < l.length := by rw [g.len]; exact (List.getElem?_eq_some_iff.mp e).1
  have other : ∀ {j : Nat} {c : D} {r : Addr}, j ≠ i → (nth l j).obj = some c → σ[j]? = some (some (.ref r)) → r ≠ p := fun {j c r} z h1 h2 y => by
    subst y
    exact z (g.dist j i c d r h1 h h2 e)
  refine ⟨g.ff, fun a u x => ?_, g.nw, fun a u h1 h2 h3 => ?_, fun a x => ?_, by rw [put_length]; exact g.len, g.bi, fun j => ?_, fun j c r h1 h2 => ?_, fun j c r h1 h2 => ?_, fun j k c c' r h1 h2 h3 h4 => ?_⟩
  · rw [upd_ne (ne_of_none x fn)]; exact g.fh a u x
  · have hne : a ≠ p := fun y => by
      subst y
      rcases q with ⟨_, q⟩ | ⟨_, q⟩
      · rw [h1] at q; cases q
      · exact h3 q
    rw [upd_ne hne]; exact g.keep a u h1 h2 h3
  · by_cases y : a = p
    · subst y; rw [upd_same]; exact fun z => by cases z
    · rw [upd_ne y]; exact g.dom a x
  · by_cases z : j = i
    · subst z
      rw [nth_put_same hi, e]
      rcases obj_cases h with y | y <;> rw [y] <;> exact ow
    · rw [nth_put_ne z]
      have s := g.slot j
      cases y : nth l j with
      | un => trivial
      | fz c =>
        rw [y] at s
        match hq : σ[j]?, s with
        | some (some v), s => exact s
      | ow c =>
        obtain ⟨r, e1, o1, _⟩ := g.objAt (i := j) (d := c) (by rw [y]; rfl)
        rw [e1]
        exact o1.mono (Le.refl F) (upd_ne (other z (by rw [y]; rfl) e1))
      | io c =>
        obtain ⟨r, e1, o1, _⟩ := g.objAt (i := j) (d := c) (by rw [y]; rfl)
        rw [e1]
        exact o1.mono (Le.refl F) (upd_ne (other z (by rw [y]; rfl) e1))
  · by_cases z : j = i
    · subst z
      rw [e] at h2; cases h2
      rcases obj_cases h with y | y
      · exact g.ow j d _ y e
      · rw [nth_put_same hi, y] at h1; cases h1
    · rw [nth_put_ne z] at h1; exact g.ow j c r h1 h2
  · by_cases z : j = i
    · subst z
      rw [e] at h2; cases h2
      rcases obj_cases h with y | y
      · rw [nth_put_same hi, y] at h1; cases h1
      · exact g.io j d _ y e
    · rw [nth_put_ne z] at h1; exact g.io j c r h1 h2
  · have ni : ∀ {j : Nat} {c : D}, (nth (put l i ((nth l i).chg d')) j).obj = some c → ∃ c', (nth l j).obj = some c' := fun {j c} x => by
      by_cases z : j = i
      · subst z; exact ⟨d, h⟩
      · rw [nth_put_ne z] at x; exact ⟨c, x⟩
    obtain ⟨x1, y1⟩ := ni h1
    obtain ⟨x2, y2⟩ := ni h2
    exact g.dist j k x1 x2 r y1 y2 h3 h4
end

/-! ### the readings -/
/-- read now: frozen, or a name's own object as it stands -/
def Pk (K : PySem.W.Frag) (F H : Hp) (v : V) (d : D) : Prop := Rep K F v d ∨ ∃ p, v = .ref p ∧ F p = none ∧ Own K F H p d
def tE (K : PySem.W.Frag) (B : Base) (ev : E) : TE := fun σ H Q => ∃ l F d l', Gd K B l F σ H ∧ ev l = some (d, l') ∧ ∀ v F' H', Le F F' → Gd K B l' F' σ H' → Rep K F' v d → Q v H'
def tP (K : PySem.W.Frag) (B : Base) (o : O) : TE := fun σ H Q => ∃ l F r l', Gd K B l F σ H ∧ o l = some (r, l') ∧ ∀ v F' H', Le F F' → Gd K B l' F' σ H' →
  (∀ l2 F2 H2 d, Le F' F2 → Gd K B l2 F2 σ H2 → r l2 = some d → Pk K F2 H2 v d) → Q v H'
def tF (K : PySem.W.Frag) (B : Base) (ev : E) : TE := fun σ H Q => ∃ l F d l', Gd K B l F σ H ∧ ev l = some (d, l') ∧ ∀ p F' H', Le F F' → Gd K B l' F' σ H' → Fresh K B l' F' σ H' p d → Q (.ref p) H'
def tT (K : PySem.W.Frag) (B : Base) (t : T) : TT := fun σ H Q => ∃ l F b l', Gd K B l F σ H ∧ t l = some (b, l') ∧ ∀ F' H', Le F F' → Gd K B l' F' σ H' → Q b H'
def tA (K : PySem.W.Frag) (B : Base) (a : M (List D)) : TA := fun σ H Q => ∃ l F ds l', Gd K B l F σ H ∧ a l = some (ds, l') ∧ ∀ vs F' H', Le F F' → Gd K B l' F' σ H' → RepAll K F' vs ds → Q vs H'
abbrev SE (X : Cx) (B : Base) (e : Expr) (ev : E) : Prop := PE X e (tE X.K B ev)
abbrev SP (X : Cx) (B : Base) (e : Expr) (o : O) : Prop := PE X e (tP X.K B o)
abbrev SF (X : Cx) (B : Base) (e : Expr) (ev : E) : Prop := PE X e (tF X.K B ev)
abbrev ST (X : Cx) (B : Base) (e : Expr) (t : T) : Prop := PT X e (tT X.K B t)
abbrev SW (X : Cx) (B : Base) (e : Expr) (t : T) : Prop := PW X e (tT X.K B t)
abbrev SA (X : Cx) (B : Base) (es : List Expr) (a : M (List D)) : Prop := PA X es (tA X.K B a)
section
variable {X : Cx} {B : Base} {e a b : Expr} {pos : Pos}
theorem _root_.L2.PE.weak {t t' : TE} (h : PE X e t) (w : ∀ σ H Q, t' σ H Q → t σ H Q) : PE X e t' := ⟨fun pins s σ H Q I q => h.run pins s σ H Q I (w _ _ _ q)⟩
theorem _root_.L2.PT.weak {t t' : TT} (h : PT X e t) (w : ∀ σ H Q, t' σ H Q → t σ H Q) : PT X e t' := ⟨fun pins s σ H Q I q => h.run pins s σ H Q I (w _ _ _ q)⟩
theorem _root_.L2.PW.weak {t t' : TT} (h : PW X e t) (w : ∀ σ H Q, t' σ H Q → t σ H Q) : PW X e t' := ⟨fun wh pins s σ H Q I q => h.run wh pins s σ H Q I (w _ _ _ q)⟩
theorem _root_.L2.PA.weak {es : List Expr} {t t' : TA} (h : PA X es t) (w : ∀ σ H Q, t' σ H Q → t σ H Q) : PA X es t' := ⟨fun ps pins s σ H Q I q => h.run ps pins s σ H Q I (w _ _ _ q)⟩
theorem bnd {α β : Type} {x : Option α} {f : α → Option β} {y : β} (h : x.bind f = some y) : ∃ a, x = some a ∧ f a = some y := Option.bind_eq_some_iff.mp h
theorem Rep.ref_ne {K : PySem.W.Frag} {F : Hp} {p : Addr} {d : D} (h : Rep K F (.ref p) d) : True := trivial

theorem se_cst {v : V} {d : D} (h : PE X e (tC v)) (r : ∀ F, Rep X.K F v d) : SE X B e (cst d) := h.weak fun σ H Q ⟨l, F, _, _, g, q, k⟩ => by
  cases q
  exact k v F H (Le.refl F) g (r F)
theorem se_int {i : Int} {j : Nat} : SE X B (.Constant (.int i) j pos) (cst (.int i)) := se_cst pe_int fun _ => .int i
theorem se_bl {b : Bool} {j : Nat} : SE X B (.Constant (.bool b) j pos) (cst (.bl b)) := se_cst pe_bl fun _ => .bl b
theorem se_non {j : Nat} : SE X B (.Constant .none j pos) (cst .non) := se_cst pe_non fun _ => .non
theorem se_str {x : Str} {j : Nat} (s : List Nat) (h : x = ⟨s.toArray⟩ := by decide +kernel) (hl : s.length ≤ line := by decide) (hc : ∀ c ∈ s, c < 1114112 := by decide) : SE X B (.Constant (.str x) j pos) (cst (.str s)) := by
  subst h
  exact se_cst pe_str fun _ => .str s hl hc
theorem se_var {i : Nat} (h : PE X e (tVar i)) : SE X B e (use i) := h.weak fun σ H Q ⟨l, F, d, l', g, q, k⟩ => by
  unfold use at q
  have s := g.slot i
  split at q
  · rename_i c hc
    cases q
    rw [hc] at s
    match hq : σ[i]?, s with
    | some (some v), s => exact ⟨v, hq, k v F H (Le.refl F) g s⟩
  · rename_i c hc
    cases q
    obtain ⟨p, o, e, g', le, rp⟩ := g.freeze hc
    exact ⟨.ref p, e, k _ _ H le g' rp⟩
  · cases q
theorem so_var {i : Nat} (h : PE X e (tVar i)) : SP X B e (ovar i) := h.weak fun σ H Q ⟨l, F, r, l', g, q, k⟩ => by
  obtain ⟨d0, h0, q⟩ := bnd q
  cases q
  have look : ∀ (l2 : Loc) (F2 H2 : Hp) (d : D), Gd X.K B l2 F2 σ H2 → (nth l2 i).dat = some d → ∃ v, σ[i]? = some (some v) ∧ Pk X.K F2 H2 v d := fun l2 F2 H2 d g2 e => by
    have s := g2.slot i
    cases z : nth l2 i with
    | un => rw [z] at e; cases e
    | fz c =>
      rw [z] at e s
      cases e
      match hq : σ[i]?, s with
      | some (some v), s => exact ⟨v, rfl, .inl s⟩
    | ow c =>
      rw [z] at e
      cases e
      obtain ⟨p, e1, o1, f1, _⟩ := g2.objAt (i := i) (d := _) (by rw [z]; rfl)
      exact ⟨_, e1, .inr ⟨p, rfl, f1, o1⟩⟩
    | io c =>
      rw [z] at e
      cases e
      obtain ⟨p, e1, o1, f1, _⟩ := g2.objAt (i := i) (d := _) (by rw [z]; rfl)
      exact ⟨_, e1, .inr ⟨p, rfl, f1, o1⟩⟩
  obtain ⟨v, hv, _⟩ := look l F H d0 g h0
  refine ⟨v, hv, k v F H (Le.refl F) g fun l2 F2 H2 d _ g2 e => ?_⟩
  obtain ⟨v', hv', p⟩ := look l2 F2 H2 d g2 e
  rw [hv] at hv'
  cases hv'
  exact p
theorem so_exp {ev : E} (h : SE X B e ev) : SP X B e (oexp ev) := h.weak fun σ H Q ⟨l, F, r, l', g, q, k⟩ => by
  obtain ⟨⟨d, l1⟩, h1, h2⟩ := bnd q
  cases h2
  refine ⟨l, F, d, l1, g, h1, fun v F' H' le g' rp => k v F' H' le g' fun l2 F2 H2 d2 le2 g2 e2 => ?_⟩
  cases e2
  exact .inl (rp.mono le2)
end
end Py


namespace Py
open L2 PySem PySem.Spec

/-! ### data as the library's data -/
namespace D
mutual
def py : D → PyData
  | .non => .none
  | .bl b => .bool b
  | .int i => .int i
  | .str s => .str ⟨s.toArray⟩
  | .lst xs => .list (pyAll xs)
  | .tup xs => .tuple (pyAll xs)
  | .con xs => .tuple (pyAll xs)
  | .dic _ _ => .none
  | .scr _ => .none
def pyAll : List D → List PyData
  | [] => []
  | x :: xs => py x :: pyAll xs
end
theorem str_beq (s t : List Nat) : ((⟨s.toArray⟩ : Str) == ⟨t.toArray⟩) = (s == t) := by
  rw [Bool.eq_iff_iff, beq_iff_eq, beq_iff_eq]
  constructor
  · intro h
    injection h with h
    simpa using h
  · intro h
    rw [h]
mutual
theorem eqv_py : ∀ (a b : D), a.plain = true → b.plain = true → PyData.eqv a.py b.py = eqv a b
  | .non, .non, _, _ => by simp [py, eqv, PyData.eqv]
  | .non, .bl _, _, _ => by simp [py, eqv, PyData.eqv]
  | .non, .int _, _, _ => by simp [py, eqv, PyData.eqv]
  | .non, .str _, _, _ => by simp [py, eqv, PyData.eqv]
  | .non, .lst _, _, _ => by simp [py, eqv, PyData.eqv]
  | .non, .tup _, _, _ => by simp [py, eqv, PyData.eqv]
  | .non, .con _, _, _ => by simp [py, eqv, PyData.eqv]
  | .bl _, .non, _, _ => by simp [py, eqv, PyData.eqv]
  | .bl _, .bl _, _, _ => by simp [py, eqv, PyData.eqv]
  | .bl _, .int _, _, _ => by simp [py, eqv, PyData.eqv]
  | .bl _, .str _, _, _ => by simp [py, eqv, PyData.eqv]
  | .bl _, .lst _, _, _ => by simp [py, eqv, PyData.eqv]
  | .bl _, .tup _, _, _ => by simp [py, eqv, PyData.eqv]
  | .bl _, .con _, _, _ => by simp [py, eqv, PyData.eqv]
  | .int _, .non, _, _ => by simp [py, eqv, PyData.eqv]
  | .int _, .bl _, _, _ => by simp [py, eqv, PyData.eqv]
  | .int _, .int _, _, _ => by simp [py, eqv, PyData.eqv]
  | .int _, .str _, _, _ => by simp [py, eqv, PyData.eqv]
  | .int _, .lst _, _, _ => by simp [py, eqv, PyData.eqv]
  | .int _, .tup _, _, _ => by simp [py, eqv, PyData.eqv]
  | .int _, .con _, _, _ => by simp [py, eqv, PyData.eqv]
  | .str _, .non, _, _ => by simp [py, eqv, PyData.eqv]
  | .str _, .bl _, _, _ => by simp [py, eqv, PyData.eqv]
  | .str _, .int _, _, _ => by simp [py, eqv, PyData.eqv]
  | .str s, .str t, _, _ => by
    rw [py, py, eqv, PyData.eqv]
    exact str_beq s t
  | .str _, .lst _, _, _ => by simp [py, eqv, PyData.eqv]
  | .str _, .tup _, _, _ => by simp [py, eqv, PyData.eqv]
  | .str _, .con _, _, _ => by simp [py, eqv, PyData.eqv]
  | .lst _, .non, _, _ => by simp [py, eqv, PyData.eqv]
  | .lst _, .bl _, _, _ => by simp [py, eqv, PyData.eqv]
  | .lst _, .int _, _, _ => by simp [py, eqv, PyData.eqv]
  | .lst _, .str _, _, _ => by simp [py, eqv, PyData.eqv]
  | .lst xs, .lst ys, h, k => by
    rw [py, py, eqv, PyData.eqv]
    exact eqvAll_py xs ys (by simpa [plain] using h) (by simpa [plain] using k)
  | .lst _, .tup _, _, _ => by simp [py, eqv, PyData.eqv]
  | .lst _, .con _, _, _ => by simp [py, eqv, PyData.eqv]
  | .tup _, .non, _, _ => by simp [py, eqv, PyData.eqv]
  | .tup _, .bl _, _, _ => by simp [py, eqv, PyData.eqv]
  | .tup _, .int _, _, _ => by simp [py, eqv, PyData.eqv]
  | .tup _, .str _, _, _ => by simp [py, eqv, PyData.eqv]
  | .tup _, .lst _, _, _ => by simp [py, eqv, PyData.eqv]
  | .tup xs, .tup ys, h, k => by
    rw [py, py, eqv, PyData.eqv]
    exact eqvAll_py xs ys (by simpa [plain] using h) (by simpa [plain] using k)
  | .tup xs, .con ys, h, k => by
    rw [py, py, eqv, PyData.eqv]
    exact eqvAll_py xs ys (by simpa [plain] using h) (by simpa [plain] using k)
  | .con _, .non, _, _ => by simp [py, eqv, PyData.eqv]
  | .con _, .bl _, _, _ => by simp [py, eqv, PyData.eqv]
  | .con _, .int _, _, _ => by simp [py, eqv, PyData.eqv]
  | .con _, .str _, _, _ => by simp [py, eqv, PyData.eqv]
  | .con _, .lst _, _, _ => by simp [py, eqv, PyData.eqv]
  | .con xs, .tup ys, h, k => by
    rw [py, py, eqv, PyData.eqv]
    exact eqvAll_py xs ys (by simpa [plain] using h) (by simpa [plain] using k)
  | .con xs, .con ys, h, k => by
    rw [py, py, eqv, PyData.eqv]
    exact eqvAll_py xs ys (by simpa [plain] using h) (by simpa [plain] using k)
  | .dic _ _, _, h, _ => by simp [plain] at h
  | .scr _, _, h, _ => by simp [plain] at h
  | .non, .dic _ _, _, h => by simp [plain] at h
  | .non, .scr _, _, h => by simp [plain] at h
  | .bl _, .dic _ _, _, h => by simp [plain] at h
  | .bl _, .scr _, _, h => by simp [plain] at h
  | .int _, .dic _ _, _, h => by simp [plain] at h
  | .int _, .scr _, _, h => by simp [plain] at h
  | .str _, .dic _ _, _, h => by simp [plain] at h
  | .str _, .scr _, _, h => by simp [plain] at h
  | .lst _, .dic _ _, _, h => by simp [plain] at h
  | .lst _, .scr _, _, h => by simp [plain] at h
  | .tup _, .dic _ _, _, h => by simp [plain] at h
  | .tup _, .scr _, _, h => by simp [plain] at h
  | .con _, .dic _ _, _, h => by simp [plain] at h
  | .con _, .scr _, _, h => by simp [plain] at h
theorem eqvAll_py : ∀ (a b : List D), plainAll a = true → plainAll b = true → PyData.eqvAll (pyAll a) (pyAll b) = eqvAll a b
  | [], [], _, _ => by simp [pyAll, eqvAll, PyData.eqvAll]
  | [], _ :: _, _, _ => by simp [pyAll, eqvAll, PyData.eqvAll]
  | _ :: _, [], _, _ => by simp [pyAll, eqvAll, PyData.eqvAll]
  | x :: xs, y :: ys, h, k => by
    rw [plainAll, Bool.and_eq_true] at h k
    rw [pyAll, pyAll, PyData.eqvAll, eqvAll, eqv_py x y h.1 k.1, eqvAll_py xs ys h.2 k.2]
end
mutual
theorem depth_py : ∀ (a : D), a.plain = true → a.py.depth = a.depth
  | .non, _ => by simp [py, depth, PyData.depth]
  | .bl _, _ => by simp [py, depth, PyData.depth]
  | .int _, _ => by simp [py, depth, PyData.depth]
  | .str _, _ => by simp [py, depth, PyData.depth]
  | .lst xs, h => by
    rw [py, depth, PyData.depth, depthAll_py xs (by simpa [plain] using h)]
  | .tup xs, h => by
    rw [py, depth, PyData.depth, depthAll_py xs (by simpa [plain] using h)]
  | .con xs, h => by
    rw [py, depth, PyData.depth, depthAll_py xs (by simpa [plain] using h)]
  | .dic _ _, h => by simp [plain] at h
  | .scr _, h => by simp [plain] at h
theorem depthAll_py : ∀ (a : List D), plainAll a = true → PyData.depthAll (pyAll a) = depthAll a
  | [], _ => by simp [pyAll, depthAll, PyData.depthAll]
  | x :: xs, h => by
    rw [plainAll, Bool.and_eq_true] at h
    rw [pyAll, depthAll, PyData.depthAll, depth_py x h.1, depthAll_py xs h.2]
end
end D
section
variable {K : PySem.W.Frag} {F H : Hp}
theorem _root_.L2.SqT.up {xs : List V} {a : Addr} (fh : ∀ a o, F a = some o → H a = some o) (h : SqT K F a xs) : SqT K H a xs := (Le.of fh).sqT h
mutual
theorem Rep.dp (fh : ∀ a o, F a = some o → H a = some o) : ∀ {d : D} {v : V}, Rep K F v d → d.plain = true → Dp K H v d.py
  | _, _, .non, _ => by rw [D.py]; exact .non
  | _, _, .bl b, _ => by rw [D.py]; exact .bl b
  | _, _, .int i, _ => by rw [D.py]; exact .int i
  | _, _, .str s _ _, _ => by rw [D.py]; exact .str _
  | _, _, .lst a b, h => by
    rw [D.py]
    exact .lst (SqL.of (fh _ _ a)) (RepAll.dp fh b (by simpa [D.plain] using h))
  | _, _, .tup a b, h => by
    rw [D.py]
    exact .tup (SqT.of (fh _ _ a)) (RepAll.dp fh b (by simpa [D.plain] using h))
  | _, _, .con a b, h => by
    rw [D.py]
    exact .tup (SqT.up fh a) (RepAll.dp fh b (by simpa [D.plain] using h))
  | _, _, .dK _ _ _, h => by simp [D.plain] at h
  | _, _, .dT _ _ _, h => by simp [D.plain] at h
  | _, _, .scr _, h => by simp [D.plain] at h
theorem RepAll.dp (fh : ∀ a o, F a = some o → H a = some o) : ∀ {d : List D} {v : List V}, RepAll K F v d → D.plainAll d = true → DpAll K H v (D.pyAll d)
  | _, _, .nil, _ => by rw [D.pyAll]; exact .nil
  | _, _, .cons a b, h => by
    rw [D.plainAll, Bool.and_eq_true] at h
    rw [D.pyAll]
    exact .cons (a.dp fh h.1) (b.dp fh h.2)
end
mutual
theorem Rep.lay : ∀ {d : D} {v : V}, Rep K F v d → d.plain = true → d.py.canLay0 = true
  | _, _, .non, _ => by simp [D.py, PyData.canLay0]
  | _, _, .bl b, _ => by simp [D.py, PyData.canLay0]
  | _, _, .int i, _ => by simp [D.py, PyData.canLay0]
  | _, _, .str s _ hc, _ => by
    rw [D.py, PyData.canLay0]
    show (s.toArray.all fun c => decide (c < 1114112)) = true
    rw [List.all_toArray, List.all_eq_true]
    exact fun c hx => decide_eq_true (hc c hx)
  | _, _, .lst a b, h => by
    rw [D.py, PyData.canLay0]
    exact RepAll.lay b (by simpa [D.plain] using h)
  | _, _, .tup a b, h => by
    rw [D.py, PyData.canLay0]
    exact RepAll.lay b (by simpa [D.plain] using h)
  | _, _, .con a b, h => by
    rw [D.py, PyData.canLay0]
    exact RepAll.lay b (by simpa [D.plain] using h)
  | _, _, .dK _ _ _, h => by simp [D.plain] at h
  | _, _, .dT _ _ _, h => by simp [D.plain] at h
  | _, _, .scr _, h => by simp [D.plain] at h
theorem RepAll.lay : ∀ {d : List D} {v : List V}, RepAll K F v d → D.plainAll d = true → PyData.canLayAll0 (D.pyAll d) = true
  | _, _, .nil, _ => by simp [D.pyAll, PyData.canLayAll0]
  | _, _, .cons a b, h => by
    rw [D.plainAll, Bool.and_eq_true] at h
    rw [D.pyAll, PyData.canLayAll0, Rep.lay a h.1, RepAll.lay b h.2]
    rfl
end
/-- the shapes of what is read -/
theorem Pk.int {v : V} {i : Int} (h : Pk K F H v (.int i)) : v = .int i := by
  rcases h with h | ⟨p, _, _, h⟩
  · cases h; rfl
  · exact h.elim
theorem Pk.bl {v : V} {i : Bool} (h : Pk K F H v (.bl i)) : v = .bl i := by
  rcases h with h | ⟨p, _, _, h⟩
  · cases h; rfl
  · exact h.elim
theorem Pk.non {v : V} (h : Pk K F H v .non) : v = .non := by
  rcases h with h | ⟨p, _, _, h⟩
  · cases h; rfl
  · exact h.elim
theorem Pk.str {v : V} {s : List Nat} (h : Pk K F H v (.str s)) : v = .str ⟨s.toArray⟩ ∧ s.length ≤ line ∧ ∀ c ∈ s, c < 1114112 := by
  rcases h with h | ⟨p, _, _, h⟩
  · cases h with
    | str s a b => exact ⟨rfl, a, b⟩
  · exact h.elim
theorem Pk.lst {v : V} {ds : List D} (fh : ∀ a o, F a = some o → H a = some o) (h : Pk K F H v (.lst ds)) : ∃ p vs, v = .ref p ∧ H p = some (.lst vs) ∧ RepAll K F vs ds := by
  rcases h with h | ⟨p, e, _, vs, a, b⟩
  · cases h with
    | lst a b => exact ⟨_, _, rfl, fh _ _ a, b⟩
  · exact ⟨p, vs, e, a, b⟩
theorem Pk.tup {v : V} {ds : List D} (fh : ∀ a o, F a = some o → H a = some o) (h : Pk K F H v (.tup ds)) : ∃ p vs, v = .ref p ∧ H p = some (.tup vs) ∧ RepAll K F vs ds := by
  rcases h with h | ⟨p, _, _, h⟩
  · cases h with
    | tup a b => exact ⟨_, _, rfl, fh _ _ a, b⟩
  · exact h.elim
theorem Pk.con {v : V} {ds : List D} (fh : ∀ a o, F a = some o → H a = some o) (h : Pk K F H v (.con ds)) : ∃ p vs, v = .ref p ∧ SqT K H p vs ∧ RepAll K F vs ds := by
  rcases h with h | ⟨p, _, _, h⟩
  · cases h with
    | con a b => exact ⟨_, _, rfl, SqT.up fh a, b⟩
  · exact h.elim
theorem Pk.tupR {v : V} {ds : List D} (h : Pk K F H v (.tup ds)) : Rep K F v (.tup ds) := by
  rcases h with h | ⟨p, _, _, h⟩
  · exact h
  · exact h.elim
theorem Pk.scr {v : V} {ns : List Int} (fh : ∀ a o, F a = some o → H a = some o) (h : Pk K F H v (.scr ns)) : ∃ p, v = .ref p ∧ SqL K H p (ns.map V.int) := by
  rcases h with h | ⟨p, _, _, h⟩
  · cases h with
    | scr a => exact ⟨_, rfl, (Le.of fh).sqL a⟩
  · exact h.elim
theorem Pk.dp {v : V} {d : D} (fh : ∀ a o, F a = some o → H a = some o) (h : Pk K F H v d) (hp : d.plain = true) : Dp K H v d.py ∧ d.py.canLay0 = true := by
  rcases h with h | ⟨p, rfl, _, h⟩
  · exact ⟨h.dp fh hp, h.lay hp⟩
  · cases d with
    | lst ds =>
      obtain ⟨vs, a, b⟩ := h
      have hp' : D.plainAll ds = true := by simpa [D.plain] using hp
      refine ⟨?_, ?_⟩
      · rw [D.py]
        exact .lst (SqL.of a) (b.dp fh hp')
      · rw [D.py, PyData.canLay0]
        exact b.lay hp'
    | dic t kvs => simp [D.plain] at hp
    | _ => exact h.elim
end

/-! ### what an operation gives -/
def OutQ (K : PySem.W.Frag) (F H : Hp) (c : D) (Q : VK) : Prop := ∀ v F' H', Grow F H F' H' → Rep K F' v c → Q v H'
def NewL (K : PySem.W.Frag) (F H : Hp) (ds : List D) (Q : VK) : Prop := ∀ p vs, H p = none → RepAll K F vs ds → Q (.ref p) (upd H p (.lst vs))
theorem OutQ.newL {K : PySem.W.Frag} {F H : Hp} {ds : List D} {Q : VK} (fh : ∀ a o, F a = some o → H a = some o) (h : OutQ K F H (.lst ds) Q) : NewL K F H ds Q := fun p vs n r =>
  h _ _ _ (.frz fh (.lst vs) n) (.lst upd_same (r.mono (Grow.frz fh (.lst vs) n).le))
theorem OutQ.newT {K : PySem.W.Frag} {F H : Hp} {ds : List D} {Q : VK} (fh : ∀ a o, F a = some o → H a = some o) (h : OutQ K F H (.tup ds) Q) {p : Addr} {vs : List V} (n : H p = none) (r : RepAll K F vs ds) : Q (.ref p) (upd H p (.tup vs)) :=
  h _ _ _ (.frz fh (.tup vs) n) (.tup upd_same (r.mono (Grow.frz fh (.tup vs) n).le))
theorem OutQ.now {K : PySem.W.Frag} {F H : Hp} {c : D} {Q : VK} (fh : ∀ a o, F a = some o → H a = some o) (h : OutQ K F H c Q) {v : V} (r : Rep K F v c) : Q v H := h v F H (.refl fh) r
def Op2 (X : Cx) (f : Value → Value → Sem Value) (g : D → D → Option D) : Prop :=
  OpR X f fun x y H Q => ∃ F a b c, (∀ a o, F a = some o → H a = some o) ∧ Pk X.K F H x a ∧ Pk X.K F H y b ∧ g a b = some c ∧ OutQ X.K F H c Q
/-- an operation that makes a new list -/
def Op2L (X : Cx) (f : Value → Value → Sem Value) (g : D → D → Option D) : Prop :=
  OpR X f fun x y H Q => ∃ F a b ds, (∀ a o, F a = some o → H a = some o) ∧ Pk X.K F H x a ∧ Pk X.K F H y b ∧ g a b = some (.lst ds) ∧ NewL X.K F H ds Q
section
variable {X : Cx} {B : Base} {a b e : Expr} {pos : Pos} {oa ob : O} {g : D → D → Option D}
theorem t2 {oa ob : O} {σ : Sl} {H : Hp} {Q : VK} {r : R2} (h : tE X.K B (op2 g oa ob) σ H Q)
    (hr : ∀ x y F a b c H Q, (∀ a o, F a = some o → H a = some o) → Pk X.K F H x a → Pk X.K F H y b → g a b = some c → OutQ X.K F H c Q → r x y H Q) : tOp r (tP X.K B oa) (tP X.K B ob) σ H Q := by
  obtain ⟨l, F, d, l', g0, q, k⟩ := h
  obtain ⟨⟨ra, l1⟩, h1, q⟩ := bnd q
  obtain ⟨⟨rb, l2⟩, h2, q⟩ := bnd q
  obtain ⟨x, h3, q⟩ := bnd q
  obtain ⟨y, h4, q⟩ := bnd q
  obtain ⟨z, h5, q⟩ := bnd q
  cases q
  refine ⟨l, F, ra, l1, g0, h1, fun v1 F1 H1 le1 g1 k1 => ⟨l1, F1, rb, l2, g1, h2, fun v2 F2 H2 le2 g2 k2 => ?_⟩⟩
  exact hr _ _ F2 x y _ H2 Q g2.fh (k1 l2 F2 H2 x le2 g2 h3) (k2 l2 F2 H2 y (Le.refl F2) g2 h4) h5 fun v F3 H3 gr rp => k v F3 H3 (le1.trans (le2.trans gr.le)) (g2.grow gr) rp
theorem t2F {oa ob : O} {σ : Sl} {H : Hp} {Q : VK} {r : R2} (h : tF X.K B (op2 g oa ob) σ H Q) (hl : ∀ a b c, g a b = some c → ∃ ds, c = .lst ds)
    (hr : ∀ x y F a b ds H Q, (∀ a o, F a = some o → H a = some o) → Pk X.K F H x a → Pk X.K F H y b → g a b = some (.lst ds) → NewL X.K F H ds Q → r x y H Q) : tOp r (tP X.K B oa) (tP X.K B ob) σ H Q := by
  obtain ⟨l, F, d, l', g0, q, k⟩ := h
  obtain ⟨⟨ra, l1⟩, h1, q⟩ := bnd q
  obtain ⟨⟨rb, l2⟩, h2, q⟩ := bnd q
  obtain ⟨x, h3, q⟩ := bnd q
  obtain ⟨y, h4, q⟩ := bnd q
  obtain ⟨z, h5, q⟩ := bnd q
  cases q
  obtain ⟨ds, rfl⟩ := hl x y _ h5
  refine ⟨l, F, ra, l1, g0, h1, fun v1 F1 H1 le1 g1 k1 => ⟨l1, F1, rb, l2, g1, h2, fun v2 F2 H2 le2 g2 k2 => ?_⟩⟩
  refine hr _ _ F2 x y ds H2 Q g2.fh (k1 l2 F2 H2 x le2 g2 h3) (k2 l2 F2 H2 y (Le.refl F2) g2 h4) h5 fun p vs n rp => ?_
  have gr : Grow F2 H2 F2 (upd H2 p (.lst vs)) := .new g2.fh (.lst vs) n
  refine k p F2 _ (le1.trans le2) (g2.grow gr) ⟨⟨vs, upd_same, rp⟩, fnone g2.fh n, ?_, fun i e q hq hs => ?_⟩
  · cases z : B.H0 p with
    | none => rfl
    | some o => exact absurd n (g2.dom p (by rw [z]; exact fun y => by cases y))
  · obtain ⟨p', e1, o1, _⟩ := g2.objAt hq
    rw [hs] at e1
    cases e1
    obtain ⟨o, ho, _⟩ := o1.here
    exact ne_of_none ho n
theorem se_op2 {op : Operator} (h : Op2 X (binaryOp op) g) (ha : SP X B a oa) (hb : SP X B b ob) : SE X B (.BinOp a op b pos) (op2 g oa ob) :=
  (pe_op h ha hb).weak fun σ H Q k => t2 k fun x y F a b c H Q fh h1 h2 h3 h4 => ⟨F, a, b, c, fh, h1, h2, h3, h4⟩
theorem se_cmp {op : CmpOp} (h : Op2 X (compareOp op) g) (ha : SP X B a oa) (hb : SP X B b ob) (hm : behindInMarks op b = false) : SE X B (.Compare a [op] [b] pos) (op2 g oa ob) :=
  (pe_cmpR h ha hb hm).weak fun σ H Q k => t2 k fun x y F a b c H Q fh h1 h2 h3 h4 => ⟨F, a, b, c, fh, h1, h2, h3, h4⟩
theorem tE_tbl {ev : E} {σ : Sl} {H : Hp} {Q : Bool → Hp → Prop} (h : tT X.K B (tbl ev) σ H Q) : tE X.K B ev σ H (fun x H' => ∃ k, x = .bl k ∧ Q k H') := by
  obtain ⟨l, F, d, l', g0, q, k⟩ := h
  obtain ⟨⟨c, l1⟩, h1, q⟩ := bnd q
  cases c with
  | bl c =>
    cases q
    exact ⟨l, F, .bl d, l1, g0, h1, fun v F' H' le g' rp => by
      cases rp
      exact ⟨d, rfl, k F' H' le g'⟩⟩
  | _ => cases q
theorem st_cmp {op : CmpOp} (h : Op2 X (compareOp op) g) (ha : SP X B a oa) (hb : SP X B b ob) (hm : behindInMarks op b = false) : ST X B (.Compare a [op] [b] pos) (tbl (op2 g oa ob)) :=
  (pt_cmpR h ha hb hm).weak fun σ H Q k => t2 (tE_tbl k) fun x y F a b c H Q fh h1 h2 h3 h4 => ⟨F, a, b, c, fh, h1, h2, h3, h4⟩
/-- an expression that gives True or False, as a test (no and, or, not, comparison) -/
theorem st_val {ev : E} (h : SE X B e ev) (he : ∀ whole, isTrue e X.env whole = (do let v ← whole; standAt e.pos; holding [v] (truthy v)) := by intro _; rfl) : ST X B e (tbl ev) :=
  (pt_val h he).weak fun σ H Q k => tE_tbl k

/-! ### the operators -/
theorem int2 {f : Value → Value → Sem Value} {g : D → D → Option D} {r : Int → Int → V} {C : Int → Int → Prop} (ho : OpR X f (rI C r)) (hg : ∀ a b c, g a b = some c → ∃ i j, a = .int i ∧ b = .int j ∧ C i j ∧ ∀ F, Rep X.K F (r i j) c) : Op2 X f g := by
  intro pins s σ H x y v u Q I rx ry ⟨F, a, b, c, fh, h1, h2, h3, k⟩
  obtain ⟨i, j, rfl, rfl, hc, hr⟩ := hg a b c h3
  exact ho pins s σ H x y v u Q I rx ry ⟨i, j, h1.int, h2.int, hc, k.now fh (hr F)⟩
theorem int2' {f : Value → Value → Sem Value} {g : D → D → Option D} {r : Int → Int → V} (ho : OpR X f (rI0 r)) (hg : ∀ a b c, g a b = some c → ∃ i j, a = .int i ∧ b = .int j ∧ ∀ F, Rep X.K F (r i j) c) : Op2 X f g := by
  intro pins s σ H x y v u Q I rx ry ⟨F, a, b, c, fh, h1, h2, h3, k⟩
  obtain ⟨i, j, rfl, rfl, hr⟩ := hg a b c h3
  exact ho pins s σ H x y v u Q I rx ry ⟨i, j, h1.int, h2.int, k.now fh (hr F)⟩
theorem o_sub : Op2 X (binaryOp .Sub) subD := int2' op_sub fun a b c h => by
  unfold subD at h
  split at h
  · cases h; exact ⟨_, _, rfl, rfl, fun F => .int _⟩
  · cases h
theorem o_mod : Op2 X (binaryOp .Mod) modD := int2 op_mod fun a b c h => by
  unfold modD at h
  split at h
  · split at h
    · rename_i hc
      cases h; exact ⟨_, _, rfl, rfl, hc, fun F => .int _⟩
    · cases h
  · cases h
theorem o_div : Op2 X (binaryOp .FloorDiv) divD := int2 op_fdivW fun a b c h => by
  unfold divD at h
  split at h
  · split at h
    · rename_i hc
      cases h; exact ⟨_, _, rfl, rfl, hc, fun F => .int _⟩
    · cases h
  · cases h
theorem o_pow : Op2 X (binaryOp .Pow) powD := int2 op_pow fun a b c h => by
  unfold powD at h
  split at h
  · split at h
    · rename_i hc
      cases h; exact ⟨_, _, rfl, rfl, hc, fun F => .int _⟩
    · cases h
  · cases h
theorem o_shl : Op2 X (binaryOp .LShift) shlD := int2 op_shl fun a b c h => by
  unfold shlD at h
  split at h
  · split at h
    · rename_i hc
      cases h; exact ⟨_, _, rfl, rfl, hc, fun F => .int _⟩
    · cases h
  · cases h
theorem o_lt : Op2 X (compareOp .Lt) ltD := int2' op_lt fun a b c h => by
  unfold ltD at h
  split at h
  · cases h; exact ⟨_, _, rfl, rfl, fun F => .bl _⟩
  · cases h
theorem o_le : Op2 X (compareOp .LtE) leD := int2' op_le fun a b c h => by
  unfold leD at h
  split at h
  · cases h; exact ⟨_, _, rfl, rfl, fun F => .bl _⟩
  · cases h
theorem o_gt : Op2 X (compareOp .Gt) gtD := int2' op_gt fun a b c h => by
  unfold gtD at h
  split at h
  · cases h; exact ⟨_, _, rfl, rfl, fun F => .bl _⟩
  · cases h
theorem o_ge : Op2 X (compareOp .GtE) geD := int2' op_ge fun a b c h => by
  unfold geD at h
  split at h
  · cases h; exact ⟨_, _, rfl, rfl, fun F => .bl _⟩
  · cases h
theorem okEq_of {a b : D} (h : okEq a b = true) : a.plain = true ∧ b.plain = true ∧ a.depth ≤ 64 ∧ b.depth ≤ 64 := by
  unfold okEq at h
  simp only [Bool.and_eq_true, decide_eq_true_eq] at h
  exact ⟨h.1.1.1, h.1.1.2, h.1.2, h.2⟩
theorem shp {K : PySem.W.Frag} {F H : Hp} {v : V} {d : D} (fh : ∀ a o, F a = some o → H a = some o) (h : Pk K F H v d) (hp : d.plain = true) (hd : d.depth ≤ 64) : Dp K H v d.py ∧ SeqAt.shaped d.py = true := by
  obtain ⟨h1, h2⟩ := h.dp fh hp
  refine ⟨h1, ?_⟩
  show (d.py.canLay0 && decide (d.py.depth ≤ 64)) = true
  rw [h2, D.depth_py d hp, decide_eq_true hd]
  rfl
theorem o_eq (hu : X.A.units + 64 < cLine) : Op2 X (compareOp .Eq) eqD := by
  intro pins s σ H x y v u Q I rx ry ⟨F, a, b, c, fh, h1, h2, h3, k⟩
  unfold eqD at h3
  split at h3
  · rename_i hc
    cases h3
    obtain ⟨p1, p2, d1, d2⟩ := okEq_of hc
    obtain ⟨x1, x2⟩ := shp fh h1 p1 d1
    obtain ⟨y1, y2⟩ := shp fh h2 p2 d2
    refine op_eqD hu pins s σ H x y v u Q I rx ry ⟨a.py, b.py, x1, y1, x2, y2, ?_⟩
    rw [D.eqv_py a b p1 p2]
    exact k.now fh (.bl _)
  · cases h3
theorem o_ne (hu : X.A.units + 64 < cLine) : Op2 X (compareOp .NotEq) neD := by
  intro pins s σ H x y v u Q I rx ry ⟨F, a, b, c, fh, h1, h2, h3, k⟩
  unfold neD at h3
  split at h3
  · rename_i hc
    cases h3
    obtain ⟨p1, p2, d1, d2⟩ := okEq_of hc
    obtain ⟨x1, x2⟩ := shp fh h1 p1 d1
    obtain ⟨y1, y2⟩ := shp fh h2 p2 d2
    refine op_neD hu pins s σ H x y v u Q I rx ry ⟨a.py, b.py, x1, y1, x2, y2, ?_⟩
    rw [D.eqv_py a b p1 p2]
    exact k.now fh (.bl _)
  · cases h3
theorem str_app (s t : List Nat) : (⟨s.toArray⟩ : Str) ++ ⟨t.toArray⟩ = ⟨(s ++ t).toArray⟩ := by
  show (⟨s.toArray ++ t.toArray⟩ : Str) = _
  simp
theorem str_len (s : List Nat) : (⟨s.toArray⟩ : Str).length = s.length := by
  show s.toArray.size = _
  simp
theorem line_eq : sizeLine = line := sizeLine_eq
theorem o_addL : Op2L X (binaryOp .Add) addD := by
  intro pins s σ H x y v u Q I rx ry ⟨F, a, b, c, fh, h1, h2, h3, k⟩
  unfold addD at h3
  split at h3
  · cases h3
  · split at h3 <;> cases h3
  · split at h3
    · rename_i hc
      cases h3
      obtain ⟨p, vs, rfl, e1, r1⟩ := h1.lst fh
      obtain ⟨q, us, rfl, e2, r2⟩ := h2.lst fh
      refine op_cat pins s σ H _ _ v u Q I rx ry ⟨p, q, vs, us, rfl, rfl, e1, e2, by rw [r1.len, r2.len, line_eq]; exact hc, fun t n => k t _ n (r1.app r2)⟩
    · cases h3
  · split at h3 <;> cases h3
  · cases h3
theorem o_add : Op2 X (binaryOp .Add) addD := by
  intro pins s σ H x y v u Q I rx ry ⟨F, a, b, c, fh, h1, h2, h3, k⟩
  have h3' := h3
  unfold addD at h3
  split at h3
  · cases h3
    exact op_add pins s σ H _ _ v u Q I rx ry ⟨_, _, h1.int, h2.int, k.now fh (.int _)⟩
  · split at h3
    · rename_i hc
      cases h3
      obtain ⟨rfl, l1, c1⟩ := h1.str
      obtain ⟨rfl, l2, c2⟩ := h2.str
      refine op_add_str pins s σ H _ _ v u Q I rx ry ⟨_, _, rfl, rfl, by rw [str_len, str_len, line_eq]; exact hc, ?_⟩
      rw [str_app]
      exact k.now fh (.str _ (by rw [List.length_append]; exact hc) fun c hx => (List.mem_append.mp hx).elim (c1 c) (c2 c))
    · cases h3
  · split at h3
    · cases h3
      exact o_addL pins s σ H _ _ v u Q I rx ry ⟨F, _, _, _, fh, h1, h2, h3', k.newL fh⟩
    · cases h3
  · split at h3
    · rename_i hc
      cases h3
      obtain ⟨p, vs, rfl, e1, r1⟩ := h1.tup fh
      obtain ⟨q, us, rfl, e2, r2⟩ := h2.tup fh
      have z2 : Rep X.K F (.ref q) (.tup _) := h2.tupR
      have z1 : Rep X.K F (.ref p) (.tup _) := h1.tupR
      refine op_catA pins s σ H _ _ v u Q I rx ry ⟨p, q, vs, us, rfl, rfl, SqT.of e1, SqT.of e2, by rw [r1.len, r2.len, line_eq]; exact hc, fun z => ?_, fun _ z => ?_, fun _ _ t n => k.newT fh n (r1.app r2)⟩
      · subst z
        cases r1
        exact k.now fh z2
      · subst z
        cases r2
        rw [List.append_nil] at k
        exact k.now fh z1
    · cases h3
  · cases h3
theorem log_ok {i j : Int} (h : i.natAbs.log2 + j.natAbs.log2 < bits) : IntMulOk i j := by
  have b : ∀ x : Int, Builtin.Int.intBits x ≤ x.natAbs.log2 + 1 := fun x => by
    unfold Builtin.Int.intBits
    split <;> omega
  have h1 := b i
  have h2 := b j
  have h3 : i.natAbs.log2 + j.natAbs.log2 < 100000000 := h
  have e : bitsLine = 134217728 := by decide
  unfold IntMulOk
  intro z
  rw [Bool.and_eq_true] at z
  have z2 := z.2
  unfold Builtin.Int.intTooBig at z2
  have z3 := of_decide_eq_true z2
  rw [e] at z3
  omega
theorem op_mulB : OpR X (binaryOp .Mult) (rI (fun i j => i.natAbs.log2 + j.natAbs.log2 < bits) fun i j => .int (i * j)) := opI fun _ _ _ _ _ _ _ hc q => PyProof.Rows.mul_int q (log_ok hc)
theorem o_mulL : Op2L X (binaryOp .Mult) mulD := by
  intro pins s σ H x y v u Q I rx ry ⟨F, a, b, c, fh, h1, h2, h3, k⟩
  unfold mulD at h3
  split at h3
  · split at h3 <;> cases h3
  · split at h3
    · rename_i hc
      cases h3
      obtain ⟨p, vs, rfl, e1, r1⟩ := h1.lst fh
      refine op_rep pins s σ H _ _ v u Q I rx ry ⟨p, _, vs, rfl, h2.int, e1, hc.1, hc.2.1, by rw [r1.len, line_eq]; exact hc.2.2, fun t n => k t _ n (r1.flat _)⟩
    · cases h3
  · cases h3
theorem o_mul : Op2 X (binaryOp .Mult) mulD := by
  intro pins s σ H x y v u Q I rx ry ⟨F, a, b, c, fh, h1, h2, h3, k⟩
  have h3' := h3
  unfold mulD at h3
  split at h3
  · split at h3
    · rename_i hc
      cases h3
      exact op_mulB pins s σ H _ _ v u Q I rx ry ⟨_, _, h1.int, h2.int, hc, k.now fh (.int _)⟩
    · cases h3
  · split at h3
    · cases h3
      exact o_mulL pins s σ H _ _ v u Q I rx ry ⟨F, _, _, _, fh, h1, h2, h3', k.newL fh⟩
    · cases h3
  · cases h3
theorem room_in {A : Around} {d e : D} (hd : d.depth ≤ 64) (hu : A.units + 66 < cLine) : A.units + 1 + min (e.depth) d.depth < cLine := by
  have := Nat.min_le_right e.depth d.depth
  omega
theorem in_core (hu : X.A.units + 66 < cLine) {pins : List (Addr × Obj)} {s : Shared} {σ : Sl} {F H : Hp} {x y : V} {v u : Value} {a b : D} {Q : VK} {E' : Value → Shared → Prop} (I : Inv X pins σ H s) (rx : RelV x v) (ry : RelV y u)
    (fh : ∀ a o, F a = some o → H a = some o) (h1 : Pk X.K F H x a) (h2 : Pk X.K F H y b) {ys : List D} (hb : b = .lst ys ∨ b = .tup ys ∨ b = .con ys) (hc : okEq a b = true) (k : Q (.bl (ys.any fun z => D.eqv z a)) H) :
    wpAny (model X.prog X.w) X.A (compareOp .In v u) (EP X pins σ Q) E' s := by
  obtain ⟨p1, p2, d1, d2⟩ := okEq_of hc
  obtain ⟨x1, x2⟩ := h1.dp fh p1
  obtain ⟨y1, y2⟩ := h2.dp fh p2
  obtain ⟨as, q1⟩ := Dp.reads I _ _ _ x1 rx
  obtain ⟨bs, q2⟩ := Dp.reads I _ _ _ y1 ry
  have ea : ∀ ys : List D, D.plainAll ys = true → (D.pyAll ys).any (fun z => PyData.eqv z a.py) = ys.any fun z => D.eqv z a := by
    intro ys h
    induction ys with
    | nil => rfl
    | cons z zs ih =>
      rw [D.plainAll, Bool.and_eq_true] at h
      rw [D.pyAll, List.any_cons, List.any_cons, ih h.2, D.eqv_py z a h.1 p1]
  have hd : min (PyData.depthAll (D.pyAll ys)) (PyData.depth a.py) ≤ 64 := Nat.le_trans (Nat.min_le_right _ _) (by rw [D.depth_py a p1]; exact d1)
  rcases hb with rfl | rfl | rfl
  · have pl : D.plainAll ys = true := by simpa [D.plain] using p2
    rw [D.py] at q2 y2
    rw [PyData.canLay0] at y2
    refine SeqAt.in_list_reads q2 q1 y2 x2 (by omega) ?_
    rw [ea ys pl]
    exact ⟨.bl _, H, I, rfl, k⟩
  · have pl : D.plainAll ys = true := by simpa [D.plain] using p2
    rw [D.py] at q2 y2
    rw [PyData.canLay0] at y2
    refine SeqAt.in_tuple_reads q2 q1 y2 x2 (by omega) ?_
    rw [ea ys pl]
    exact ⟨.bl _, H, I, rfl, k⟩
  · have pl : D.plainAll ys = true := by simpa [D.plain] using p2
    rw [D.py] at q2 y2
    rw [PyData.canLay0] at y2
    refine SeqAt.in_tuple_reads q2 q1 y2 x2 (by omega) ?_
    rw [ea ys pl]
    exact ⟨.bl _, H, I, rfl, k⟩
theorem notin_core (hu : X.A.units + 66 < cLine) {pins : List (Addr × Obj)} {s : Shared} {σ : Sl} {F H : Hp} {x y : V} {v u : Value} {a b : D} {Q : VK} {E' : Value → Shared → Prop} (I : Inv X pins σ H s) (rx : RelV x v) (ry : RelV y u)
    (fh : ∀ a o, F a = some o → H a = some o) (h1 : Pk X.K F H x a) (h2 : Pk X.K F H y b) {ys : List D} (hb : b = .lst ys ∨ b = .tup ys ∨ b = .con ys) (hc : okEq a b = true) (k : Q (.bl (!ys.any fun z => D.eqv z a)) H) :
    wpAny (model X.prog X.w) X.A (compareOp .NotIn v u) (EP X pins σ Q) E' s := by
  obtain ⟨p1, p2, d1, d2⟩ := okEq_of hc
  obtain ⟨x1, x2⟩ := h1.dp fh p1
  obtain ⟨y1, y2⟩ := h2.dp fh p2
  obtain ⟨as, q1⟩ := Dp.reads I _ _ _ x1 rx
  obtain ⟨bs, q2⟩ := Dp.reads I _ _ _ y1 ry
  have ea : ∀ ys : List D, D.plainAll ys = true → (D.pyAll ys).any (fun z => PyData.eqv z a.py) = ys.any fun z => D.eqv z a := by
    intro ys h
    induction ys with
    | nil => rfl
    | cons z zs ih =>
      rw [D.plainAll, Bool.and_eq_true] at h
      rw [D.pyAll, List.any_cons, List.any_cons, ih h.2, D.eqv_py z a h.1 p1]
  have hd : min (PyData.depthAll (D.pyAll ys)) (PyData.depth a.py) ≤ 64 := Nat.le_trans (Nat.min_le_right _ _) (by rw [D.depth_py a p1]; exact d1)
  rcases hb with rfl | rfl | rfl
  · have pl : D.plainAll ys = true := by simpa [D.plain] using p2
    rw [D.py] at q2 y2
    rw [PyData.canLay0] at y2
    refine SeqAt.notIn_list_reads q2 q1 y2 x2 (by omega) ?_
    rw [ea ys pl]
    exact ⟨.bl _, H, I, rfl, k⟩
  · have pl : D.plainAll ys = true := by simpa [D.plain] using p2
    rw [D.py] at q2 y2
    rw [PyData.canLay0] at y2
    refine SeqAt.notIn_tuple_reads q2 q1 y2 x2 (by omega) ?_
    rw [ea ys pl]
    exact ⟨.bl _, H, I, rfl, k⟩
  · have pl : D.plainAll ys = true := by simpa [D.plain] using p2
    rw [D.py] at q2 y2
    rw [PyData.canLay0] at y2
    refine SeqAt.notIn_tuple_reads q2 q1 y2 x2 (by omega) ?_
    rw [ea ys pl]
    exact ⟨.bl _, H, I, rfl, k⟩

/-! ### is -/
def OpK (X : Cx) (op : CmpOp) (d : D) (g : D → Option D) : Prop :=
  OpR X (compareOp op) fun x y H Q => ∃ F a c, (∀ a o, F a = some o → H a = some o) ∧ Pk X.K F H x a ∧ Pk X.K F H y d ∧ g a = some c ∧ OutQ X.K F H c Q
theorem isn {x : V} {F H : Hp} {a c : D} {K : PySem.W.Frag} (h : Pk K F H x a) (e : isNon a = some c) : c = .bl (decide (x = .non)) := by
  cases a with
  | non => cases h.non; cases e; rfl
  | int i => cases h.int; cases e; rfl
  | bl b => cases h.bl; cases e; rfl
  | str s => cases h.str.1; cases e; rfl
  | _ =>
    cases e
    rcases h with h | ⟨p, rfl, _, _⟩
    · cases h <;> rfl
    · rfl
theorem o_isN : OpR X (compareOp .Is) (fun x y H Q => ∃ F a c, (∀ a o, F a = some o → H a = some o) ∧ Pk X.K F H x a ∧ y = .non ∧ isNon a = some c ∧ OutQ X.K F H c Q) := by
  intro pins s σ H x y v u Q I rx ry ⟨F, a, c, fh, h1, h2, h3, k⟩
  have e := isn h1 h3
  subst e
  exact op_isN pins s σ H x y v u Q I rx ry ⟨h2, k.now fh (.bl _)⟩
theorem o_notN : OpR X (compareOp .IsNot) (fun x y H Q => ∃ F a b, (∀ a o, F a = some o → H a = some o) ∧ Pk X.K F H x a ∧ y = .non ∧ isNon a = some (.bl b) ∧ OutQ X.K F H (.bl (!b)) Q) := by
  intro pins s σ H x y v u Q I rx ry ⟨F, a, b, fh, h1, h2, h3, k⟩
  have e := isn h1 h3
  injection e with e
  subst e
  exact op_notN pins s σ H x y v u Q I rx ry ⟨h2, k.now fh (.bl _)⟩
theorem isb {x : V} {F H : Hp} {a c : D} {b : Bool} {K : PySem.W.Frag} (h : Pk K F H x a) (e : isBl b a = some c) : c = .bl (decide (x = .bl b)) := by
  cases a with
  | non => cases h.non; cases e; rfl
  | int i => cases h.int; cases e; rfl
  | bl d =>
    cases h.bl; cases e
    cases d <;> cases b <;> rfl
  | str s => cases h.str.1; cases e; rfl
  | _ =>
    cases e
    rcases h with h | ⟨p, rfl, _, _⟩
    · cases h <;> rfl
    · rfl
theorem is_bool_any {M : Model} {A : Around} {E : Value → Shared → Prop} {s : Shared} {Q : Value → Shared → Prop} {x : V} {v : Value} {b : Bool} (r : RelV x v) (hn : ∀ n, x ≠ .ty n) (h : Q (.bool (decide (x = .bl b))) s) : wpAny M A (compareOp .Is v (.bool b)) Q E s := by
  cases x with
  | bl c =>
    cases r
    refine PyProof.Rows.is_bool ?_
    have e : (c == b) = decide (V.bl c = V.bl b) := by cases c <;> cases b <;> rfl
    rw [e]; exact h
  | non => cases r; exact wpAny_pure h
  | int i => obtain ⟨t, rfl⟩ := r; exact wpAny_pure h
  | str i => obtain ⟨t, rfl⟩ := r; exact wpAny_pure h
  | byt i => obtain ⟨t, rfl⟩ := r; exact wpAny_pure h
  | flt i => obtain ⟨t, rfl⟩ := r; exact wpAny_pure h
  | ref i => cases r; exact wpAny_pure h
  | ty n => exact absurd rfl (hn n)
theorem isnot_bool_any {M : Model} {A : Around} {E : Value → Shared → Prop} {s : Shared} {Q : Value → Shared → Prop} {x : V} {v : Value} {b : Bool} (r : RelV x v) (hn : ∀ n, x ≠ .ty n) (h : Q (.bool (!decide (x = .bl b))) s) : wpAny M A (compareOp .IsNot v (.bool b)) Q E s := by
  cases x with
  | bl c =>
    cases r
    refine PyProof.Rows.isnot_bool ?_
    have e : (c != b) = !decide (V.bl c = V.bl b) := by cases c <;> cases b <;> rfl
    rw [e]; exact h
  | non => cases r; exact wpAny_pure h
  | int i => obtain ⟨t, rfl⟩ := r; exact wpAny_pure h
  | str i => obtain ⟨t, rfl⟩ := r; exact wpAny_pure h
  | byt i => obtain ⟨t, rfl⟩ := r; exact wpAny_pure h
  | flt i => obtain ⟨t, rfl⟩ := r; exact wpAny_pure h
  | ref i => cases r; exact wpAny_pure h
  | ty n => exact absurd rfl (hn n)
theorem Pk.noty {K : PySem.W.Frag} {F H : Hp} {x : V} {a : D} (h : Pk K F H x a) : ∀ n, x ≠ .ty n := fun n e => by
  subst e
  rcases h with h | ⟨p, e, _, _⟩
  · cases h
  · cases e
theorem o_isB {b : Bool} : OpR X (compareOp .Is) (fun x y H Q => ∃ F a c, (∀ a o, F a = some o → H a = some o) ∧ Pk X.K F H x a ∧ y = .bl b ∧ isBl b a = some c ∧ OutQ X.K F H c Q) := by
  intro pins s σ H x y v u Q I rx ry ⟨F, a, c, fh, h1, h2, h3, k⟩
  subst h2
  cases ry
  have e := isb h1 h3
  subst e
  exact is_bool_any rx h1.noty ⟨.bl _, H, I, rfl, k.now fh (.bl _)⟩
theorem o_notB {b : Bool} : OpR X (compareOp .IsNot) (fun x y H Q => ∃ F a c, (∀ a o, F a = some o → H a = some o) ∧ Pk X.K F H x a ∧ y = .bl b ∧ isBl b a = some (.bl c) ∧ OutQ X.K F H (.bl (!c)) Q) := by
  intro pins s σ H x y v u Q I rx ry ⟨F, a, c, fh, h1, h2, h3, k⟩
  subst h2
  cases ry
  have e := isb h1 h3
  injection e with e
  subst e
  exact isnot_bool_any rx h1.noty ⟨.bl _, H, I, rfl, k.now fh (.bl _)⟩
end
end Py


namespace Py
open L2 PySem PySem.Spec
section
variable {X : Cx} {B : Base} {a b c e : Expr} {pos : Pos} {oa ob : O} {es : List Expr}

/-! ### one operand -/
theorem t1 {g : D → Option D} {σ : Sl} {H : Hp} {Q : VK} {R : V → Hp → Prop} (h : tE X.K B (op1 g oa) σ H Q)
    (hr : ∀ x F a c H, (∀ a o, F a = some o → H a = some o) → Pk X.K F H x a → g a = some c → OutQ X.K F H c Q → R x H) : tP X.K B oa σ H R := by
  obtain ⟨l, F, d, l', g0, q, k⟩ := h
  obtain ⟨⟨ra, l1⟩, h1, q⟩ := bnd q
  obtain ⟨x, h3, q⟩ := bnd q
  obtain ⟨z, h5, q⟩ := bnd q
  cases q
  refine ⟨l, F, ra, l1, g0, h1, fun v1 F1 H1 le1 g1 k1 => ?_⟩
  exact hr _ F1 x _ H1 g1.fh (k1 l1 F1 H1 x (Le.refl F1) g1 h3) h5 fun v F3 H3 gr rp => k v F3 H3 (le1.trans gr.le) (g1.grow gr) rp
/-- .. a new list -/
theorem t1F {g : D → Option D} {σ : Sl} {H : Hp} {Q : VK} {R : V → Hp → Prop} (h : tF X.K B (op1 g oa) σ H Q) (hl : ∀ a c, g a = some c → ∃ ds, c = .lst ds)
    (hr : ∀ x F a ds H, (∀ a o, F a = some o → H a = some o) → Pk X.K F H x a → g a = some (.lst ds) → NewL X.K F H ds Q → R x H) : tP X.K B oa σ H R := by
  obtain ⟨l, F, d, l', g0, q, k⟩ := h
  obtain ⟨⟨ra, l1⟩, h1, q⟩ := bnd q
  obtain ⟨x, h3, q⟩ := bnd q
  obtain ⟨z, h5, q⟩ := bnd q
  cases q
  obtain ⟨ds, rfl⟩ := hl x _ h5
  refine ⟨l, F, ra, l1, g0, h1, fun v1 F1 H1 le1 g1 k1 => ?_⟩
  refine hr _ F1 x ds H1 g1.fh (k1 l1 F1 H1 x (Le.refl F1) g1 h3) h5 fun p vs n rp => ?_
  have gr : Grow F1 H1 F1 (upd H1 p (.lst vs)) := .new g1.fh (.lst vs) n
  refine k p F1 _ le1 (g1.grow gr) ⟨⟨vs, upd_same, rp⟩, fnone g1.fh n, ?_, fun i e q hq hs => ?_⟩
  · cases z : B.H0 p with
    | none => rfl
    | some o => exact absurd n (g1.dom p (by rw [z]; exact fun y => by cases y))
  · obtain ⟨p', e1, o1, _⟩ := g1.objAt hq
    rw [hs] at e1
    cases e1
    obtain ⟨o, ho, _⟩ := o1.here
    exact ne_of_none ho n
/-- a new list is made where one stands -/
theorem newFresh {l : Loc} {F H : Hp} {σ : Sl} (g : Gd X.K B l F σ H) {p : Addr} {vs : List V} {ds : List D} (n : H p = none) (r : RepAll X.K F vs ds) : Gd X.K B l F σ (upd H p (.lst vs)) ∧ Fresh X.K B l F σ (upd H p (.lst vs)) p (.lst ds) := by
  refine ⟨g.grow (.new g.fh (.lst vs) n), ⟨vs, upd_same, r⟩, fnone g.fh n, ?_, fun i e q hq hs => ?_⟩
  · cases z : B.H0 p with
    | none => rfl
    | some o => exact absurd n (g.dom p (by rw [z]; exact fun y => by cases y))
  · obtain ⟨p', e1, o1, _⟩ := g.objAt hq
    rw [hs] at e1
    cases e1
    obtain ⟨o, ho, _⟩ := o1.here
    exact ne_of_none ho n

theorem se_isN {j : Nat} {p2 : Pos} (ha : SP X B a oa) : SE X B (.Compare a [.Is] [.Constant .none j p2] pos) (op1 isNon oa) :=
  (pe_cmpR o_isN ha pe_non (nomark _)).weak fun σ H Q k => t1 k fun x F a c H fh h1 h2 h3 => ⟨F, a, c, fh, h1, rfl, h2, h3⟩
theorem flip_some {g : D → Option D} {a c : D} (h : flip g a = some c) : ∃ b, g a = some (.bl b) ∧ c = .bl (!b) := by
  unfold flip at h
  split at h
  · rename_i b hb
    cases h
    exact ⟨b, hb, rfl⟩
  · cases h
theorem se_notN {j : Nat} {p2 : Pos} (ha : SP X B a oa) : SE X B (.Compare a [.IsNot] [.Constant .none j p2] pos) (op1 (flip isNon) oa) :=
  (pe_cmpR o_notN ha pe_non (nomark _)).weak fun σ H Q k => t1 k fun x F a c H fh h1 h2 h3 => by
    obtain ⟨b, hb, rfl⟩ := flip_some h2
    exact ⟨F, a, b, fh, h1, rfl, hb, h3⟩
theorem se_isB {v : Bool} {j : Nat} {p2 : Pos} (ha : SP X B a oa) : SE X B (.Compare a [.Is] [.Constant (.bool v) j p2] pos) (op1 (isBl v) oa) :=
  (pe_cmpR (o_isB (b := v)) ha pe_bl (nomark _)).weak fun σ H Q k => t1 k fun x F a c H fh h1 h2 h3 => ⟨F, a, c, fh, h1, rfl, h2, h3⟩
theorem se_notB {v : Bool} {j : Nat} {p2 : Pos} (ha : SP X B a oa) : SE X B (.Compare a [.IsNot] [.Constant (.bool v) j p2] pos) (op1 (flip (isBl v)) oa) :=
  (pe_cmpR (o_notB (b := v)) ha pe_bl (nomark _)).weak fun σ H Q k => t1 k fun x F a c H fh h1 h2 h3 => by
    obtain ⟨b, hb, rfl⟩ := flip_some h2
    exact ⟨F, a, b, fh, h1, rfl, hb, h3⟩
theorem st_isN {j : Nat} {p2 : Pos} (ha : SP X B a oa) : ST X B (.Compare a [.Is] [.Constant .none j p2] pos) (tbl (op1 isNon oa)) :=
  (pt_cmpR o_isN ha pe_non (nomark _)).weak fun σ H Q k => t1 (tE_tbl k) fun x F a c H fh h1 h2 h3 => ⟨F, a, c, fh, h1, rfl, h2, h3⟩
theorem st_notN {j : Nat} {p2 : Pos} (ha : SP X B a oa) : ST X B (.Compare a [.IsNot] [.Constant .none j p2] pos) (tbl (op1 (flip isNon) oa)) :=
  (pt_cmpR o_notN ha pe_non (nomark _)).weak fun σ H Q k => t1 (tE_tbl k) fun x F a c H fh h1 h2 h3 => by
    obtain ⟨b, hb, rfl⟩ := flip_some h2
    exact ⟨F, a, b, fh, h1, rfl, hb, h3⟩
theorem st_isB {v : Bool} {j : Nat} {p2 : Pos} (ha : SP X B a oa) : ST X B (.Compare a [.Is] [.Constant (.bool v) j p2] pos) (tbl (op1 (isBl v) oa)) :=
  (pt_cmpR (o_isB (b := v)) ha pe_bl (nomark _)).weak fun σ H Q k => t1 (tE_tbl k) fun x F a c H fh h1 h2 h3 => ⟨F, a, c, fh, h1, rfl, h2, h3⟩
theorem st_notB {v : Bool} {j : Nat} {p2 : Pos} (ha : SP X B a oa) : ST X B (.Compare a [.IsNot] [.Constant (.bool v) j p2] pos) (tbl (op1 (flip (isBl v)) oa)) :=
  (pt_cmpR (o_notB (b := v)) ha pe_bl (nomark _)).weak fun σ H Q k => t1 (tE_tbl k) fun x F a c H fh h1 h2 h3 => by
    obtain ⟨b, hb, rfl⟩ := flip_some h2
    exact ⟨F, a, b, fh, h1, rfl, hb, h3⟩
theorem se_neg (ha : SP X B a oa) : SE X B (.UnaryOp .USub a pos) (op1 negD oa) :=
  (pe_un un_neg ha).weak fun σ H Q k => t1 k fun x F a c H fh h1 h2 h3 => by
    unfold negD at h2
    split at h2
    · cases h2
      exact ⟨_, h1.int, h3.now fh (.int _)⟩
    · cases h2

/-! ### and, or, not, if -/
theorem notD_some {a c : D} (h : notD a = some c) : ∃ b, a = .bl b ∧ c = .bl (!b) := by
  unfold notD at h
  split at h
  · cases h
    exact ⟨_, rfl, rfl⟩
  · cases h
theorem se_not {ea : E} (ha : SE X B a ea) : SE X B (.UnaryOp .Not a pos) (op1 notD (oexp ea)) :=
  (pe_not ha).weak fun σ H Q ⟨l, F, d, l', g0, q, k⟩ => by
    obtain ⟨⟨ra, l1⟩, h1, q⟩ := bnd q
    obtain ⟨⟨d1, l2⟩, h6, h7⟩ := bnd h1
    cases h7
    obtain ⟨x, h3, q⟩ := bnd q
    obtain ⟨z, h5, q⟩ := bnd q
    cases q
    cases h3
    obtain ⟨b, rfl, rfl⟩ := notD_some h5
    refine ⟨l, F, .bl b, _, g0, h6, fun v F1 H1 le1 g1 r1 => ?_⟩
    cases r1
    exact ⟨_, rfl, k _ F1 H1 le1 g1 (.bl _)⟩
theorem se_one {op : BoolOp} {ea : E} (ha : SE X B a ea) : SE X B (.BoolOp op [a] pos) ea := pe_one ha
theorem se_and {ea eb : E} {rest : List Expr} (ha : SE X B a ea) (hb : SE X B (.BoolOp .And (b :: rest) pos) eb) : SE X B (.BoolOp .And (a :: b :: rest) pos) (eand ea eb) :=
  (pe_and ha hb).weak fun σ H Q ⟨l, F, d, l', g0, q, k⟩ => by
    obtain ⟨⟨c, l1⟩, h1, q⟩ := bnd q
    refine ⟨l, F, c, l1, g0, h1, fun v F1 H1 le1 g1 r1 => ?_⟩
    simp only at q
    split at q
    · cases r1
      exact ⟨true, rfl, by rw [if_pos rfl]; exact ⟨l1, F1, d, l', g1, q, fun v F2 H2 le2 g2 r2 => k v F2 H2 (le1.trans le2) g2 r2⟩⟩
    · cases r1
      cases q
      exact ⟨false, rfl, by rw [if_neg Bool.false_ne_true]; exact k _ F1 H1 le1 g1 (.bl false)⟩
    · cases q
theorem se_or {ea eb : E} {rest : List Expr} (ha : SE X B a ea) (hb : SE X B (.BoolOp .Or (b :: rest) pos) eb) : SE X B (.BoolOp .Or (a :: b :: rest) pos) (eor ea eb) :=
  (pe_or ha hb).weak fun σ H Q ⟨l, F, d, l', g0, q, k⟩ => by
    obtain ⟨⟨c, l1⟩, h1, q⟩ := bnd q
    refine ⟨l, F, c, l1, g0, h1, fun v F1 H1 le1 g1 r1 => ?_⟩
    simp only at q
    split at q
    · cases r1
      cases q
      exact ⟨true, rfl, by rw [if_pos rfl]; exact k _ F1 H1 le1 g1 (.bl true)⟩
    · cases r1
      exact ⟨false, rfl, by rw [if_neg Bool.false_ne_true]; exact ⟨l1, F1, d, l', g1, q, fun v F2 H2 le2 g2 r2 => k v F2 H2 (le1.trans le2) g2 r2⟩⟩
    · cases q
theorem sw_and1 {t : T} (ha : ST X B a t) : SW X B (.BoolOp .And [a] pos) t := pw_and1 ha
theorem sw_or1 {t : T} (ha : ST X B a t) : SW X B (.BoolOp .Or [a] pos) t := pw_or1 ha
theorem sw_and {t u : T} {rest : List Expr} (ha : ST X B a t) (hb : SW X B (.BoolOp .And (b :: rest) pos) u) : SW X B (.BoolOp .And (a :: b :: rest) pos) (tand t u) :=
  (pw_and ha hb).weak fun σ H Q ⟨l, F, d, l', g0, q, k⟩ => by
    obtain ⟨⟨c, l1⟩, h1, q⟩ := bnd q
    refine ⟨l, F, c, l1, g0, h1, fun F1 H1 le1 g1 => ?_⟩
    cases c with
    | true =>
      rw [if_pos rfl]
      exact ⟨l1, F1, d, l', g1, q, fun F2 H2 le2 g2 => k F2 H2 (le1.trans le2) g2⟩
    | false =>
      cases q
      rw [if_neg Bool.false_ne_true]
      exact k F1 H1 le1 g1
theorem sw_or {t u : T} {rest : List Expr} (ha : ST X B a t) (hb : SW X B (.BoolOp .Or (b :: rest) pos) u) : SW X B (.BoolOp .Or (a :: b :: rest) pos) (tor t u) :=
  (pw_or ha hb).weak fun σ H Q ⟨l, F, d, l', g0, q, k⟩ => by
    obtain ⟨⟨c, l1⟩, h1, q⟩ := bnd q
    refine ⟨l, F, c, l1, g0, h1, fun F1 H1 le1 g1 => ?_⟩
    cases c with
    | true =>
      cases q
      rw [if_pos rfl]
      exact k F1 H1 le1 g1
    | false =>
      rw [if_neg Bool.false_ne_true]
      exact ⟨l1, F1, d, l', g1, q, fun F2 H2 le2 g2 => k F2 H2 (le1.trans le2) g2⟩
theorem st_w {t : T} (h : SW X B e t) : ST X B e t := h.pt
theorem st_not {t : T} (ha : ST X B a t) : ST X B (.UnaryOp .Not a pos) (tnot t) :=
  (pt_not ha).weak fun σ H Q ⟨l, F, d, l', g0, q, k⟩ => by
    obtain ⟨⟨c, l1⟩, h1, q⟩ := bnd q
    cases q
    exact ⟨l, F, c, l1, g0, h1, fun F1 H1 le1 g1 => k F1 H1 le1 g1⟩
theorem truth_V {K : PySem.W.Frag} {F H : Hp} {x : V} {d : D} {b : Bool} (fh : ∀ a o, F a = some o → H a = some o) (h : Pk K F H x d) (e : truth d = some b) : TruV K x H b := by
  cases d with
  | non => cases h.non; cases e; rfl
  | bl c => cases h.bl; cases e; rfl
  | int i => cases h.int; cases e; rfl
  | str s =>
    obtain ⟨rfl, hl, _⟩ := h.str
    cases e
    refine ⟨by rw [str_len, line_eq]; exact hl, ?_⟩
    rw [str_len]
    cases s <;> rfl
  | lst ds =>
    obtain ⟨p, vs, rfl, e1, r1⟩ := h.lst fh
    cases e
    refine .inl ⟨vs, SqL.of e1, ?_⟩
    cases r1 <;> rfl
  | tup ds =>
    obtain ⟨p, vs, rfl, e1, r1⟩ := h.tup fh
    cases e
    refine .inr (.inl ⟨vs, SqT.of e1, ?_⟩)
    cases r1 <;> rfl
  | _ => cases e
theorem st_tru (ha : SP X B a oa) (he : ∀ whole, isTrue a X.env whole = (do let v ← whole; standAt a.pos; holding [v] (truthy v)) := by intro _; rfl) : ST X B a (tru oa) :=
  (pt_truth ha he).weak fun σ H Q ⟨l, F, d, l', g0, q, k⟩ => by
    obtain ⟨⟨ra, l1⟩, h1, q⟩ := bnd q
    obtain ⟨x, h3, q⟩ := bnd q
    obtain ⟨z, h5, q⟩ := bnd q
    cases q
    refine ⟨l, F, ra, l1, g0, h1, fun v F1 H1 le1 g1 k1 => ?_⟩
    exact ⟨_, truth_V g1.fh (k1 l1 F1 H1 x (Le.refl F1) g1 h3) h5, k F1 H1 le1 g1⟩
theorem se_if {t : T} {ea eb : E} (hc : ST X B c t) (ha : SE X B a ea) (hb : SE X B b eb) : SE X B (.IfExp c a b pos) (ifE t ea eb) :=
  (pe_ifExp hc ha hb).weak fun σ H Q ⟨l, F, d, l', g0, q, k⟩ => by
    obtain ⟨⟨c, l1⟩, h1, q⟩ := bnd q
    refine ⟨l, F, c, l1, g0, h1, fun F1 H1 le1 g1 => ?_⟩
    cases c with
    | true =>
      rw [if_pos rfl]
      exact ⟨l1, F1, d, l', g1, q, fun v F2 H2 le2 g2 r2 => k v F2 H2 (le1.trans le2) g2 r2⟩
    | false =>
      rw [if_neg Bool.false_ne_true]
      exact ⟨l1, F1, d, l', g1, q, fun v F2 H2 le2 g2 r2 => k v F2 H2 (le1.trans le2) g2 r2⟩
theorem sf_if {t : T} {ea eb : E} (hc : ST X B c t) (ha : SF X B a ea) (hb : SF X B b eb) : SF X B (.IfExp c a b pos) (ifE t ea eb) :=
  (pe_ifExp hc ha hb).weak fun σ H Q ⟨l, F, d, l', g0, q, k⟩ => by
    obtain ⟨⟨c, l1⟩, h1, q⟩ := bnd q
    refine ⟨l, F, c, l1, g0, h1, fun F1 H1 le1 g1 => ?_⟩
    cases c with
    | true =>
      rw [if_pos rfl]
      exact ⟨l1, F1, d, l', g1, q, fun v F2 H2 le2 g2 r2 => k v F2 H2 (le1.trans le2) g2 r2⟩
    | false =>
      rw [if_neg Bool.false_ne_true]
      exact ⟨l1, F1, d, l', g1, q, fun v F2 H2 le2 g2 r2 => k v F2 H2 (le1.trans le2) g2 r2⟩

/-! ### argument lists, displays -/
theorem sa_nil : SA X B [] (args []) := pa_nil.weak fun σ H Q ⟨l, F, ds, l', g0, q, k⟩ => by
  cases q
  exact k [] F H (Le.refl F) g0 .nil
theorem sa_cons {ea : E} {evs : List E} (ha : SE X B e ea) (hr : SA X B es (args evs)) (hs : starEach (e :: es) X.env = (false, eval e X.env) :: starEach es X.env := by rfl) : SA X B (e :: es) (args (ea :: evs)) :=
  (pa_cons ha hr hs).weak fun σ H Q ⟨l, F, ds, l', g0, q, k⟩ => by
    obtain ⟨⟨d, l1⟩, h1, q⟩ := bnd q
    obtain ⟨⟨dr, l2⟩, h2, q⟩ := bnd q
    cases q
    exact ⟨l, F, d, l1, g0, h1, fun v F1 H1 le1 g1 r1 => ⟨l1, F1, dr, _, g1, h2, fun vs F2 H2 le2 g2 r2 => k (v :: vs) F2 H2 (le1.trans le2) g2 (.cons (r1.mono le2) r2)⟩⟩
theorem args_len : ∀ {evs : List E} {l : Loc} {ds : List D} {l' : Loc}, args evs l = some (ds, l') → ds.length = evs.length
  | [], l, ds, l', h => by cases h; rfl
  | e :: evs, l, ds, l', h => by
    obtain ⟨⟨d, l1⟩, h1, q⟩ := bnd h
    obtain ⟨⟨dr, l2⟩, h2, q⟩ := bnd q
    cases q
    exact congrArg (· + 1) (args_len h2)
theorem se_lst {evs : List E} (h : SA X B es (args evs)) (hn : evs.length ≤ 1000 := by decide) : SE X B (.List es pos) (lstE evs) :=
  (pe_lst h).weak fun σ H Q ⟨l, F, d, l', g0, q, k⟩ => by
    obtain ⟨⟨ds, l1⟩, h1, q⟩ := bnd q
    cases q
    refine ⟨l, F, ds, _, g0, h1, fun vs F1 H1 le1 g1 r1 => ⟨?_, fun p n => ?_⟩⟩
    · rw [r1.len, args_len h1, line_eq]
      exact Nat.le_trans hn (by decide)
    · have gr := Grow.frz g1.fh (.lst vs) n
      exact k _ _ _ (le1.trans gr.le) (g1.grow gr) (.lst upd_same (r1.mono gr.le))
theorem sf_lst {evs : List E} (h : SA X B es (args evs)) (hn : evs.length ≤ 1000 := by decide) : SF X B (.List es pos) (lstE evs) :=
  (pe_lst h).weak fun σ H Q ⟨l, F, d, l', g0, q, k⟩ => by
    obtain ⟨⟨ds, l1⟩, h1, q⟩ := bnd q
    cases q
    refine ⟨l, F, ds, _, g0, h1, fun vs F1 H1 le1 g1 r1 => ⟨?_, fun p n => ?_⟩⟩
    · rw [r1.len, args_len h1, line_eq]
      exact Nat.le_trans hn (by decide)
    · obtain ⟨g2, f2⟩ := newFresh g1 n r1
      exact k p F1 _ le1 g2 f2
theorem se_tup {x1 : Nat} {evs : List E} (h : SA X B es (args evs)) (hn : evs.length ≤ 1000 := by decide) : SE X B (.Tuple es x1 pos) (tupE evs) :=
  (pe_tup h).weak fun σ H Q ⟨l, F, d, l', g0, q, k⟩ => by
    obtain ⟨⟨ds, l1⟩, h1, q⟩ := bnd q
    cases q
    refine ⟨l, F, ds, _, g0, h1, fun vs F1 H1 le1 g1 r1 => ⟨?_, fun p n => ?_⟩⟩
    · rw [r1.len, args_len h1, line_eq]
      exact Nat.le_trans hn (by decide)
    · have gr := Grow.frz g1.fh (.tup vs) n
      exact k _ _ _ (le1.trans gr.le) (g1.grow gr) (.tup upd_same (r1.mono gr.le))
/-- empty dicts -/
theorem se_dK : SE X B (.Dict [] [] pos) (cst (.dic false [])) := pe_dnewK.weak fun σ H Q ⟨l, F, d, l', g0, q, k⟩ p n => by
  cases q
  have gr := Grow.frz g0.fh (.dK []) n
  exact k _ _ _ gr.le (g0.grow gr) (.dK upd_same rfl .nil)
theorem se_dT : SE X B (.Dict [] [] pos) (cst (.dic true [])) := pe_dnewT.weak fun σ H Q ⟨l, F, d, l', g0, q, k⟩ p n => by
  cases q
  have gr := Grow.frz g0.fh (.dT []) n
  exact k _ _ _ gr.le (g0.grow gr) (.dT upd_same rfl .nil)
theorem newFreshO {l : Loc} {F H : Hp} {σ : Sl} (g : Gd X.K B l F σ H) {p : Addr} {o : HO} {d : D} (n : H p = none) (r : Own X.K F (upd H p o) p d) : Gd X.K B l F σ (upd H p o) ∧ Fresh X.K B l F σ (upd H p o) p d := by
  refine ⟨g.grow (.new g.fh o n), r, fnone g.fh n, ?_, fun i e q hq hs => ?_⟩
  · cases z : B.H0 p with
    | none => rfl
    | some o => exact absurd n (g.dom p (by rw [z]; exact fun y => by cases y))
  · obtain ⟨p', e1, o1, _⟩ := g.objAt hq
    rw [hs] at e1
    cases e1
    obtain ⟨o, ho, _⟩ := o1.here
    exact ne_of_none ho n
theorem sf_dK : SF X B (.Dict [] [] pos) (cst (.dic false [])) := pe_dnewK.weak fun σ H Q ⟨l, F, d, l', g0, q, k⟩ p n => by
  cases q
  obtain ⟨g2, f2⟩ := newFreshO g0 (o := .dK []) (d := .dic false []) n ⟨[], upd_same, .nil⟩
  exact k p F _ (Le.refl F) g2 f2
theorem sf_dT : SF X B (.Dict [] [] pos) (cst (.dic true [])) := pe_dnewT.weak fun σ H Q ⟨l, F, d, l', g0, q, k⟩ p n => by
  cases q
  obtain ⟨g2, f2⟩ := newFreshO g0 (o := .dT []) (d := .dic true []) n ⟨[], upd_same, .nil⟩
  exact k p F _ (Le.refl F) g2 f2
/-- a new thing is also a frozen one -/
theorem se_of {ev : E} (h : SF X B e ev) : SE X B e ev := h.weak fun σ H Q ⟨l, F, d, l', g0, q, k⟩ => ⟨l, F, d, l', g0, q, fun p F' H' le g' f => by
  obtain ⟨o, ho, hr⟩ := f.own.here
  have le2 : Le F' (upd F' p o) := .of fun a u x => by rw [upd_ne (ne_of_none x f.fn)]; exact x
  refine k (.ref p) (upd F' p o) H' (le.trans le2) ⟨g'.ff.trans le2, fun a u x => ?_, fun a x => ?_, g'.keep, g'.dom, g'.len, g'.bi, fun i => (g'.slot i).mono le2 fun _ _ x => x, fun i c r h1 h2 => ?_, fun i c r h1 h2 => ?_, g'.dist⟩ (hr _ upd_same le2)
  · by_cases z : a = p
    · subst z; rw [upd_same] at x; rw [ho]; exact x
    · rw [upd_ne z] at x; exact g'.fh a u x
  · by_cases z : a = p
    · exact .inr (by rw [z]; exact f.hn)
    · rw [upd_ne z] at x; exact g'.nw a x
  · rw [upd_ne (f.ne i c r (by rw [h1]; rfl) h2)]; exact g'.ow i c r h1 h2
  · rw [upd_ne (f.ne i c r (by rw [h1]; rfl) h2)]; exact g'.io i c r h1 h2⟩
end
end Py


namespace Py
open L2 PySem PySem.Spec

/-! ### keys -/
def keyOf : D → Key
  | .int i => .inl i
  | .str s => .inr ⟨s.toArray⟩
  | _ => .inl 0
section
variable {K : PySem.W.Frag} {F H : Hp}
theorem Pk.key {y : V} {k : D} (h : Pk K F H y k) (hk : isKey k = true) : y = kV (keyOf k) ∧ Rep K F y k := by
  cases k with
  | int i => cases h.int; exact ⟨rfl, .int i⟩
  | str s =>
    obtain ⟨rfl, a, b⟩ := h.str
    exact ⟨rfl, .str s a b⟩
  | _ => cases hk
theorem key_eq {j : Key} {c k : D} (h : Rep K F (kV j) c) (hk : isKey k = true) : keyEq c k = decide (j = keyOf k) := by
  cases j with
  | inl i =>
    cases h
    cases k with
    | int m =>
      show (i == m) = _
      rw [show keyOf (.int m) = Sum.inl m from rfl, key_ll]
    | str s =>
      show false = _
      rw [show keyOf (.str s) = Sum.inr ⟨s.toArray⟩ from rfl, key_lr]
    | _ => cases hk
  | inr x =>
    cases h with
    | str t _ _ =>
      cases k with
      | int m =>
        show false = _
        rw [show keyOf (.int m) = Sum.inl m from rfl, key_rl]
      | str s =>
        show (t == s) = _
        rw [show keyOf (.str s) = Sum.inr ⟨s.toArray⟩ from rfl, key_rr, ← D.str_beq t s]
        rfl
      | _ => cases hk
theorem RepKV.len : ∀ {ks : List (Key × V)} {kvs : List (D × D)}, RepKV K F ks kvs → ks.length = kvs.length
  | _, _, .nil => rfl
  | _, _, .cons _ _ h => congrArg (· + 1) h.len
theorem RepTV.len : ∀ {ks : List (List Key × V)} {kvs : List (D × D)}, RepTV K F ks kvs → ks.length = kvs.length
  | _, _, .nil => rfl
  | _, _, .cons _ _ h => congrArg (· + 1) h.len
theorem RepKV.look {k : D} (hk : isKey k = true) : ∀ {ks : List (Key × V)} {kvs : List (D × D)}, RepKV K F ks kvs → (dlook kvs k = none → valV ks (keyOf k) = none) ∧ ∀ d, dlook kvs k = some d → ∃ v, valV ks (keyOf k) = some v ∧ Rep K F v d
  | _, _, .nil => ⟨fun _ => rfl, fun d h => by cases h⟩
  | _, _, .cons (k := j) (c := c) (v := v) (d := d) (ks := ks) (kvs := kvs) a b h => by
    have e := key_eq a hk
    obtain ⟨h1, h2⟩ := h.look hk
    by_cases q : j = keyOf k
    · rw [decide_eq_true q] at e
      refine ⟨fun z => ?_, fun d' z => ?_⟩
      · rw [dlook, if_pos e] at z; cases z
      · rw [dlook, if_pos e] at z
        cases z
        exact ⟨v, valV_pos q, b⟩
    · rw [decide_eq_false q] at e
      have en : ¬ keyEq c k = true := by rw [e]; exact Bool.false_ne_true
      refine ⟨fun z => ?_, fun d' z => ?_⟩
      · rw [dlook, if_neg en] at z
        rw [valV_neg q]; exact h1 z
      · rw [dlook, if_neg en] at z
        rw [valV_neg q]; exact h2 d' z
theorem RepKV.any {k : D} (hk : isKey k = true) : ∀ {ks : List (Key × V)} {kvs : List (D × D)}, RepKV K F ks kvs → (kvs.any fun p => keyEq p.1 k) = ks.any fun p => decide (p.1 = keyOf k)
  | _, _, .nil => rfl
  | _, _, .cons a b h => by rw [List.any_cons, List.any_cons, h.any hk, key_eq a hk]
theorem RepKV.repl {k d : D} {v : V} (hk : isKey k = true) (r : Rep K F v d) : ∀ {ks : List (Key × V)} {kvs : List (D × D)}, RepKV K F ks kvs → RepKV K F (ks.map fun p => if p.1 = keyOf k then (p.1, v) else p) (kvs.map fun p => if keyEq p.1 k then (p.1, d) else p)
  | _, _, .nil => .nil
  | _, _, .cons (k := j) a b h => by
    have e := key_eq a hk
    rw [List.map_cons, List.map_cons]
    by_cases q : j = keyOf k
    · rw [decide_eq_true q] at e
      rw [if_pos q, if_pos e]
      exact .cons a r (h.repl hk r)
    · rw [decide_eq_false q] at e
      rw [if_neg q, if_neg (by rw [e]; exact Bool.false_ne_true)]
      exact .cons a b (h.repl hk r)
theorem RepKV.app : ∀ {ks js : List (Key × V)} {kvs jvs : List (D × D)}, RepKV K F ks kvs → RepKV K F js jvs → RepKV K F (ks ++ js) (kvs ++ jvs)
  | _, _, _, _, .nil, h => h
  | _, _, _, _, .cons a b h, r => .cons a b (h.app r)
theorem RepKV.put {k d : D} {v : V} (hk : isKey k = true) (rk : Rep K F (kV (keyOf k)) k) (r : Rep K F v d) {ks : List (Key × V)} {kvs : List (D × D)} (h : RepKV K F ks kvs) : RepKV K F (putK ks (keyOf k) v) (dput kvs k d) := by
  unfold putK dput
  rw [h.any hk]
  split
  · exact h.repl hk r
  · exact h.app (.cons rk r .nil)
theorem keys_of : ∀ {vs : List V} {ks : List D}, RepAll K F vs ks → ks.all isKey = true → vs = (ks.map keyOf).map kV
  | _, _, .nil, _ => rfl
  | _, _, .cons a b, h => by
    rw [List.all_cons, Bool.and_eq_true] at h
    have e := Pk.key (H := F) (.inl a) h.1
    rw [List.map_cons, List.map_cons, ← e.1, ← keys_of b h.2]
theorem eqv_key {j : Key} {c k : D} (h : Rep K F (kV j) c) (hk : isKey k = true) : D.eqv c k = decide (j = keyOf k) := by
  rw [← key_eq h hk]
  cases j with
  | inl i => cases h; cases k <;> first | (cases hk; done) | rfl | (simp [D.eqv, keyEq])
  | inr x =>
    cases h with
    | str t _ _ => cases k <;> first | (cases hk; done) | rfl | (simp [D.eqv, keyEq])
theorem keys_eq : ∀ {js : List Key} {cs ks : List D}, RepAll K F (js.map kV) cs → ks.all isKey = true → D.eqvAll cs ks = decide (js = ks.map keyOf)
  | [], _, [], .nil, _ => by simp [D.eqvAll]
  | [], _, _ :: _, .nil, _ => by simp [D.eqvAll]
  | _ :: _, _, [], .cons _ _, _ => by simp [D.eqvAll]
  | j :: js, _, k :: ks, .cons a b, h => by
    rw [List.all_cons, Bool.and_eq_true] at h
    rw [D.eqvAll, eqv_key a h.1, keys_eq b h.2, List.map_cons]
    by_cases q : j = keyOf k
    · by_cases q2 : js = ks.map keyOf
      · rw [decide_eq_true q, decide_eq_true q2, decide_eq_true (by rw [q, q2])]; rfl
      · rw [decide_eq_false q2, decide_eq_false (fun z => q2 (List.cons.inj z).2), Bool.and_false]
    · rw [decide_eq_false q, decide_eq_false (fun z => q (List.cons.inj z).1), Bool.false_and]
theorem RepTV.look {k : List D} (hk : k.all isKey = true) : ∀ {ks : List (List Key × V)} {kvs : List (D × D)}, RepTV K F ks kvs → (dlook kvs (.tup k) = none → valV ks (k.map keyOf) = none) ∧ ∀ d, dlook kvs (.tup k) = some d → ∃ v, valV ks (k.map keyOf) = some v ∧ Rep K F v d
  | _, _, .nil => ⟨fun _ => rfl, fun d h => by cases h⟩
  | _, _, .cons (k := j) (c := c) (v := v) (d := d) a b h => by
    have e : keyEq (.tup c) (.tup k) = _ := keys_eq a hk
    obtain ⟨h1, h2⟩ := h.look hk
    by_cases q : j = k.map keyOf
    · rw [decide_eq_true q] at e
      refine ⟨fun z => ?_, fun d' z => ?_⟩
      · rw [dlook, if_pos e] at z; cases z
      · rw [dlook, if_pos e] at z
        cases z
        exact ⟨v, valV_pos q, b⟩
    · rw [decide_eq_false q] at e
      have en : ¬ keyEq (.tup c) (.tup k) = true := by rw [e]; exact Bool.false_ne_true
      refine ⟨fun z => ?_, fun d' z => ?_⟩
      · rw [dlook, if_neg en] at z
        rw [valV_neg q]; exact h1 z
      · rw [dlook, if_neg en] at z
        rw [valV_neg q]; exact h2 d' z
theorem RepTV.any {k : List D} (hk : k.all isKey = true) : ∀ {ks : List (List Key × V)} {kvs : List (D × D)}, RepTV K F ks kvs → (kvs.any fun p => keyEq p.1 (.tup k)) = ks.any fun p => decide (p.1 = k.map keyOf)
  | _, _, .nil => rfl
  | _, _, .cons a b h => by rw [List.any_cons, List.any_cons, h.any hk]; exact congrArg (· || _) (keys_eq a hk)
theorem RepTV.repl {k : List D} {d : D} {v : V} (hk : k.all isKey = true) (r : Rep K F v d) : ∀ {ks : List (List Key × V)} {kvs : List (D × D)}, RepTV K F ks kvs → RepTV K F (ks.map fun p => if p.1 = k.map keyOf then (p.1, v) else p) (kvs.map fun p => if keyEq p.1 (.tup k) then (p.1, d) else p)
  | _, _, .nil => .nil
  | _, _, .cons (k := j) (c := c) a b h => by
    have e : keyEq (.tup c) (.tup k) = _ := keys_eq a hk
    rw [List.map_cons, List.map_cons]
    by_cases q : j = k.map keyOf
    · rw [decide_eq_true q] at e
      rw [if_pos q, if_pos e]
      exact .cons a r (h.repl hk r)
    · rw [decide_eq_false q] at e
      rw [if_neg q, if_neg (by rw [e]; exact Bool.false_ne_true)]
      exact .cons a b (h.repl hk r)
theorem RepTV.app : ∀ {ks js : List (List Key × V)} {kvs jvs : List (D × D)}, RepTV K F ks kvs → RepTV K F js jvs → RepTV K F (ks ++ js) (kvs ++ jvs)
  | _, _, _, _, .nil, h => h
  | _, _, _, _, .cons a b h, r => .cons a b (h.app r)
theorem RepTV.put {k : List D} {d : D} {v : V} (hk : k.all isKey = true) (rk : RepAll K F ((k.map keyOf).map kV) k) (r : Rep K F v d) {ks : List (List Key × V)} {kvs : List (D × D)} (h : RepTV K F ks kvs) : RepTV K F (putK ks (k.map keyOf) v) (dput kvs (.tup k) d) := by
  unfold putK dput
  rw [h.any hk]
  split
  · exact h.repl hk r
  · exact h.app (.cons rk r .nil)
/-- what a dict that is read has -/
theorem Pk.dict {x : V} {t : Bool} {kvs : List (D × D)} (fh : ∀ a o, F a = some o → H a = some o) (h : Pk K F H x (.dic t kvs)) :
    ∃ p, x = .ref p ∧ ((t = false ∧ ∃ ks, Rd H p (.dK ks) ∧ RepKV K F ks kvs) ∨ (t = true ∧ ∃ ks, Rd H p (.dT ks) ∧ RepTV K F ks kvs)) := by
  rcases h with h | ⟨p, e, _, h⟩
  · cases h with
    | dK a b c =>
      refine ⟨_, rfl, .inl ⟨rfl, _, ?_, c⟩⟩
      rcases core_dK b with z | ⟨o, z⟩
      · subst z; exact .inl (fh _ _ a)
      · subst z; exact .inr ⟨o, fh _ _ a⟩
    | dT a b c =>
      refine ⟨_, rfl, .inr ⟨rfl, _, ?_, c⟩⟩
      rcases core_dT b with z | ⟨o, z⟩
      · subst z; exact .inl (fh _ _ a)
      · subst z; exact .inr ⟨o, fh _ _ a⟩
  · cases t with
    | false =>
      obtain ⟨ks, a, b⟩ := h
      exact ⟨p, e, .inl ⟨rfl, ks, .inl a, b⟩⟩
    | true =>
      obtain ⟨ks, a, b⟩ := h
      exact ⟨p, e, .inr ⟨rfl, ks, .inl a, b⟩⟩
/-- the look-up of a key: what the layer asks -/
theorem Pk.dget {x y : V} {t : Bool} {kvs : List (D × D)} {k : D} (fh : ∀ a o, F a = some o → H a = some o) (h : Pk K F H x (.dic t kvs)) (hy : Pk K F H y k) (hk : isKeyT t k = true) :
    ∃ p r, x = .ref p ∧ DGet H p y r ∧ (dlook kvs k = none → r = none) ∧ ∀ d, dlook kvs k = some d → ∃ v, r = some v ∧ Rep K F v d := by
  obtain ⟨p, e, z⟩ := h.dict fh
  rcases z with ⟨rfl, ks, rd, r⟩ | ⟨rfl, ks, rd, r⟩
  · obtain ⟨e2, _⟩ := hy.key hk
    obtain ⟨h1, h2⟩ := r.look (k := k) hk
    exact ⟨p, _, e, .inl ⟨ks, keyOf k, rd, e2, rfl⟩, h1, h2⟩
  · cases k with
    | tup k =>
      obtain ⟨b, vs, e2, hb, rb⟩ := hy.tup fh
      have hk' : k.all isKey = true := hk
      have ev := keys_of rb hk'
      obtain ⟨h1, h2⟩ := r.look (k := k) hk'
      exact ⟨p, _, e, .inr ⟨ks, k.map keyOf, b, rd, e2, by rw [← ev]; exact hb, rfl⟩, h1, h2⟩
    | _ => cases hk
end

section
variable {X : Cx} {B : Base} {a b c e : Expr} {pos : Pos} {oa ob : O} {es : List Expr}
theorem geti_at {α : Type} {xs : List α} {i : Int} {v : α} (h : geti xs i = some v) : atI xs i = some v := by
  unfold geti at h
  unfold atI ixN
  split at h
  · rename_i h0
    have h1 : i.toNat < xs.length := (List.getElem?_eq_some_iff.mp h).1
    rw [if_pos h0, if_pos (by omega)]
    exact h
  · rename_i h0
    rw [if_neg h0]
    split at h
    · rename_i h1
      rw [if_pos h1]
      exact h
    · cases h
theorem geti_map {α β : Type} {f : α → β} {xs : List α} {i : Int} : geti (xs.map f) i = (geti xs i).map f := by
  unfold geti
  rw [List.length_map]
  split
  · rw [List.getElem?_map]
  · split
    · rw [List.getElem?_map]
    · rfl
theorem RepAll.geti {K : PySem.W.Frag} {F : Hp} {vs : List V} {ds : List D} {i : Int} {d : D} (r : RepAll K F vs ds) (h : geti ds i = some d) : ∃ v, Py.geti vs i = some v ∧ Rep K F v d := by
  unfold Py.geti at h ⊢
  rw [r.len]
  split at h
  · rename_i h0
    rw [if_pos h0]
    exact r.get h
  · rename_i h0
    rw [if_neg h0]
    split at h
    · rename_i h1
      rw [if_pos h1]
      exact r.get h
    · cases h
theorem i_x (hu : X.A.units + 1 < cLine) : IxR X fun x y H Q => ∃ F a b c, (∀ a o, F a = some o → H a = some o) ∧ Pk X.K F H x a ∧ Pk X.K F H y b ∧ ixD a b = some c ∧ OutQ X.K F H c Q := by
  intro value slice pins s σ H x y v u Q I rx ry ⟨F, a, b, c, fh, h1, h2, h3, k⟩ hs
  unfold ixD at h3
  split at h3
  · obtain ⟨p, vs, rfl, e1, r1⟩ := h1.lst fh
    obtain ⟨w, hw, rw'⟩ := r1.geti h3
    exact ix_list value slice pins s σ H _ _ v u Q I rx ry ⟨p, vs, _, w, rfl, h2.int, SqL.of e1, geti_at hw, k.now fh rw'⟩ hs
  · obtain ⟨p, vs, rfl, e1, r1⟩ := h1.tup fh
    obtain ⟨w, hw, rw'⟩ := r1.geti h3
    exact ix_tup value slice pins s σ H _ _ v u Q I rx ry ⟨p, vs, _, w, rfl, h2.int, SqT.of e1, geti_at hw, k.now fh rw'⟩ hs
  · obtain ⟨p, vs, rfl, e1, r1⟩ := h1.con fh
    obtain ⟨w, hw, rw'⟩ := r1.geti h3
    exact ix_tup value slice pins s σ H _ _ v u Q I rx ry ⟨p, vs, _, w, rfl, h2.int, e1, geti_at hw, k.now fh rw'⟩ hs
  · obtain ⟨rfl, hl, hc⟩ := h1.str
    rename_i st i
    cases hz : geti st i with
    | none => rw [hz] at h3; cases h3
    | some ch =>
      rw [hz] at h3
      cases h3
      have hm : ch ∈ st := by
        unfold Py.geti at hz
        split at hz
        · exact List.mem_of_getElem? hz
        · split at hz
          · exact List.mem_of_getElem? hz
          · cases hz
      exact ix_str value slice pins s σ H _ _ v u Q I rx ry ⟨_, _, ch, rfl, h2.int, by rw [str_len, line_eq]; exact hl, by simpa using geti_at hz,
        k.now fh (.str [ch] (by show 1 ≤ line; decide) fun z hz => by
          rw [List.mem_singleton] at hz
          subst hz
          exact hc _ hm)⟩ hs
  · obtain ⟨p, rfl, e1⟩ := h1.scr fh
    rename_i ns i
    cases hz : geti ns i with
    | none => rw [hz] at h3; cases h3
    | some n =>
      rw [hz] at h3
      cases h3
      exact ix_list value slice pins s σ H _ _ v u Q I rx ry ⟨p, _, _, .int n, rfl, h2.int, e1, geti_at (by rw [geti_map, hz]; rfl), k.now fh (.int n)⟩ hs
  · split at h3
    · rename_i hk
      obtain ⟨p, r, rfl, g, _, h5⟩ := h1.dget fh h2 hk
      obtain ⟨w, rfl, rw'⟩ := h5 _ h3
      obtain rfl : v = Value.ref p := rx
      exact PyProof.Rows.tail_any (dict_typeIs I g) PySem.F.slot_dict_getitem.lookup (d_getItem hu I g ry fun w' s3 I3 rw2 => ⟨w, H, I3, rw2, k.now fh rw'⟩) hs
    · cases h3
  · cases h3
theorem se_ix (hu : X.A.units + 1 < cLine) (ha : SP X B a oa) (hb : SP X B b ob) (hs : PlainIx b := by exact fun _ _ => rfl) : SE X B (.Subscript a b pos) (op2 ixD oa ob) :=
  (pe_ix (i_x hu) ha hb hs).weak fun σ H Q k => t2 k fun x y F a b c H Q fh h1 h2 h3 h4 => ⟨F, a, b, c, fh, h1, h2, h3, h4⟩

/-! ### in -/
theorem o_in (hu : X.A.units + 66 < cLine) : Op2 X (compareOp .In) inD := by
  intro pins s σ H x y v u Q I rx ry ⟨F, a, b, c, fh, h1, h2, h3, k⟩
  unfold inD at h3
  split at h3
  · split at h3
    · rename_i hc
      cases h3
      exact in_core hu I rx ry fh h1 h2 (.inl rfl) hc (k.now fh (.bl _))
    · cases h3
  · split at h3
    · rename_i hc
      cases h3
      exact in_core hu I rx ry fh h1 h2 (.inr (.inl rfl)) hc (k.now fh (.bl _))
    · cases h3
  · split at h3
    · rename_i hc
      cases h3
      exact in_core hu I rx ry fh h1 h2 (.inr (.inr rfl)) hc (k.now fh (.bl _))
    · cases h3
  · split at h3
    · rename_i t kvs hk
      cases h3
      obtain ⟨p, r, rfl, g, h4, h5⟩ := h2.dget fh h1 hk
      obtain rfl : u = Value.ref p := ry
      have er : (dlook kvs a).isSome = r.isSome := by
        cases z : dlook kvs a with
        | none => rw [h4 z]; rfl
        | some d =>
          obtain ⟨w, rfl, _⟩ := h5 d z
          rfl
      refine d_in (by omega) I g rx fun s3 I3 => ⟨.bl _, H, I3, rfl, ?_⟩
      rw [← er]
      exact k.now fh (.bl _)
    · cases h3
  · cases h3
theorem o_notin (hu : X.A.units + 66 < cLine) : Op2 X (compareOp .NotIn) notInD := by
  intro pins s σ H x y v u Q I rx ry ⟨F, a, b, c, fh, h1, h2, h3, k⟩
  have h3' : ∃ bb, inD a b = some (.bl bb) ∧ c = .bl (!bb) := by
    unfold notInD at h3
    split at h3
    · rename_i bb hb
      cases h3
      exact ⟨bb, hb, rfl⟩
    · cases h3
  obtain ⟨bb, h6, rfl⟩ := h3'
  clear h3
  unfold inD at h6
  split at h6
  · split at h6
    · rename_i hc
      cases h6
      exact notin_core hu I rx ry fh h1 h2 (.inl rfl) hc (k.now fh (.bl _))
    · cases h6
  · split at h6
    · rename_i hc
      cases h6
      exact notin_core hu I rx ry fh h1 h2 (.inr (.inl rfl)) hc (k.now fh (.bl _))
    · cases h6
  · split at h6
    · rename_i hc
      cases h6
      exact notin_core hu I rx ry fh h1 h2 (.inr (.inr rfl)) hc (k.now fh (.bl _))
    · cases h6
  · split at h6
    · rename_i t kvs hk
      cases h6
      obtain ⟨p, r, rfl, g, h4, h5⟩ := h2.dget fh h1 hk
      obtain rfl : u = Value.ref p := ry
      have er : (dlook kvs a).isSome = r.isSome := by
        cases z : dlook kvs a with
        | none => rw [h4 z]; rfl
        | some d =>
          obtain ⟨w, rfl, _⟩ := h5 d z
          rfl
      refine d_notIn (by omega) I g rx fun s3 I3 => ⟨.bl _, H, I3, rfl, ?_⟩
      rw [← er]
      exact k.now fh (.bl _)
    · cases h6
  · cases h6

/-! ### slices -/
theorem clip_sIx (n d : Nat) : ∀ o : Option Int, HT.sIx n d o = clip n d o
  | none => rfl
  | some _ => rfl
theorem cut_cutV (xs : List V) (lo hi : Option Int) : cutV xs lo hi = cut xs lo hi := by
  unfold cutV cut
  rw [clip_sIx, clip_sIx]
theorem RepAll.cut {K : PySem.W.Frag} {F : Hp} {vs : List V} {ds : List D} (r : RepAll K F vs ds) (lo hi : Option Int) : RepAll K F (Py.cut vs lo hi) (Py.cut ds lo hi) := by
  unfold Py.cut
  rw [r.len]
  exact (r.drop _).take _
theorem cut_whole {α : Type} {xs : List α} {lo hi : Option Int} (h : HT.sIx xs.length 0 lo = 0 ∧ HT.sIx xs.length xs.length hi = xs.length) : cut xs lo hi = xs := by
  unfold cut
  rw [← clip_sIx, ← clip_sIx, h.1, h.2]
  simp
theorem s_list : SlR X fun x lo hi H Q => ∃ F a ds, (∀ a o, F a = some o → H a = some o) ∧ Pk X.K F H x a ∧ cutD lo hi a = some (.lst ds) ∧ NewL X.K F H ds Q := by
  intro pins s σ H x v vl vu lo hi sl Q I rx hs pl pu ⟨F, a, ds, fh, h1, h2, k⟩
  unfold cutD at h2
  split at h2
  · cases h2
    obtain ⟨p, vs, rfl, e1, r1⟩ := h1.lst fh
    refine sl_list pins s σ H _ v vl vu lo hi sl Q I rx hs pl pu ⟨p, vs, rfl, SqL.of e1, fun q n => k q _ n ?_⟩
    rw [cut_cutV]
    exact r1.cut lo hi
  · cases h2
  · cases h2
  · cases h2
theorem s_any : SlR X fun x lo hi H Q => ∃ F a c, (∀ a o, F a = some o → H a = some o) ∧ Pk X.K F H x a ∧ cutD lo hi a = some c ∧ OutQ X.K F H c Q := by
  intro pins s σ H x v vl vu lo hi sl Q I rx hs pl pu ⟨F, a, c, fh, h1, h2, k⟩
  have h2' := h2
  unfold cutD at h2
  split at h2
  · cases h2
    exact s_list pins s σ H x v vl vu lo hi sl Q I rx hs pl pu ⟨F, _, _, fh, h1, h2', k.newL fh⟩
  · cases h2
    obtain ⟨p, vs, rfl, e1, r1⟩ := h1.tup fh
    have rp := h1.tupR
    refine sl_tupA pins s σ H _ v vl vu lo hi sl Q I rx hs pl pu ⟨p, vs, rfl, SqT.of e1, fun z => ?_, fun z q n => ?_⟩
    · rw [r1.len] at z
      rw [cut_whole z] at k
      exact k.now fh rp
    · rw [cut_cutV]
      exact k.newT fh n (r1.cut lo hi)
  · cases h2
    rename_i st
    obtain ⟨rfl, hl, hc⟩ := h1.str
    refine sl_str pins s σ H _ v vl vu lo hi sl Q I rx hs pl pu ⟨_, rfl, by rw [str_len, line_eq]; exact hl, ?_⟩
    have e : cutS ⟨st.toArray⟩ lo hi = ⟨(cut st lo hi).toArray⟩ := by
      unfold cutS cut
      rw [clip_sIx, clip_sIx, str_len]
    rw [e]
    exact k.now fh (.str _ (Nat.le_trans (by unfold cut; rw [List.length_take, List.length_drop]; omega) hl) fun ch hm => hc ch (List.mem_of_mem_drop (List.mem_of_mem_take hm)))
  · cases h2
/-- a part of a slice -/
def tO (K : PySem.W.Frag) (B : Base) (o : M (Option Int)) : TO := fun σ H Q => ∃ l F r l', Gd K B l F σ H ∧ o l = some (r, l') ∧ ∀ F' H', Le F F' → Gd K B l' F' σ H' → Q r H'
abbrev SO (X : Cx) (B : Base) (e : Option Expr) (o : M (Option Int)) : Prop := PO X e (tO X.K B o)
theorem _root_.L2.PO.weak {e : Option Expr} {t t' : TO} (h : PO X e t) (w : ∀ σ H Q, t' σ H Q → t σ H Q) : PO X e t' := ⟨fun pins s σ H Q I q => h.run pins s σ H Q I (w _ _ _ q)⟩
theorem so_none : SO X B none onone := po_none.weak fun σ H Q ⟨l, F, r, l', g, q, k⟩ => by
  cases q
  exact k F H (Le.refl F) g
theorem so_some {ev : E} (h : SE X B e ev) : SO X B (some e) (osome ev) := (po_some h).weak fun σ H Q ⟨l, F, r, l', g, q, k⟩ => by
  obtain ⟨⟨d, l1⟩, h1, q⟩ := bnd q
  cases d with
  | int i =>
    cases q
    exact ⟨l, F, .int i, _, g, h1, fun v F' H' le g' rp => by
      cases rp
      exact ⟨i, rfl, k F' H' le g'⟩⟩
  | _ => cases q
theorem se_slc {lo hi : Option Expr} {ol oh : M (Option Int)} {p2 : Pos} (ha : SP X B a oa) (hl : SO X B lo ol) (hh : SO X B hi oh) : SE X B (.Subscript a (.Slice lo hi none p2) pos) (slc oa ol oh) :=
  (pe_slice s_any ha hl hh).weak fun σ H Q ⟨l, F, d, l', g, q, k⟩ => by
    obtain ⟨⟨ra, l1⟩, h1, q⟩ := bnd q
    obtain ⟨⟨rl, l2⟩, h2, q⟩ := bnd q
    obtain ⟨⟨rh, l3⟩, h3, q⟩ := bnd q
    obtain ⟨x, h4, q⟩ := bnd q
    obtain ⟨z, h5, q⟩ := bnd q
    cases q
    exact ⟨l, F, ra, l1, g, h1, fun v F1 H1 le1 g1 k1 => ⟨l1, F1, rl, l2, g1, h2, fun F2 H2 le2 g2 => ⟨l2, F2, rh, _, g2, h3, fun F3 H3 le3 g3 =>
      ⟨F3, x, _, g3.fh, k1 _ F3 H3 x (le2.trans le3) g3 h4, h5, fun v F4 H4 gr rp => k v F4 H4 (le1.trans (le2.trans (le3.trans gr.le))) (g3.grow gr) rp⟩⟩⟩⟩
theorem sf_slc {lo hi : Option Expr} {ol oh : M (Option Int)} {p2 : Pos} (ha : SP X B a oa) (hl : SO X B lo ol) (hh : SO X B hi oh) : SF X B (.Subscript a (.Slice lo hi none p2) pos) (slcL oa ol oh) :=
  (pe_slice s_list ha hl hh).weak fun σ H Q ⟨l, F, d, l', g, q, k⟩ => by
    obtain ⟨⟨ra, l1⟩, h1, q⟩ := bnd q
    obtain ⟨⟨rl, l2⟩, h2, q⟩ := bnd q
    obtain ⟨⟨rh, l3⟩, h3, q⟩ := bnd q
    obtain ⟨x, h4, q⟩ := bnd q
    obtain ⟨z, h5, q⟩ := bnd q
    obtain ⟨ds, rfl⟩ : ∃ ds, z = .lst ds := by
      simp only at q
      split at q
      · exact ⟨_, rfl⟩
      · cases q
    cases q
    exact ⟨l, F, ra, l1, g, h1, fun v F1 H1 le1 g1 k1 => ⟨l1, F1, rl, l2, g1, h2, fun F2 H2 le2 g2 => ⟨l2, F2, rh, _, g2, h3, fun F3 H3 le3 g3 =>
      ⟨F3, x, ds, g3.fh, k1 _ F3 H3 x (le2.trans le3) g3 h4, h5, fun p vs n rp => by
        obtain ⟨g4, f4⟩ := newFresh g3 n rp
        exact k p F3 _ (le1.trans (le2.trans le3)) g4 f4⟩⟩⟩⟩
end
end Py


namespace Py
open L2 PySem PySem.Spec
section
variable {X : Cx} {B : Base} {a b c e : Expr} {pos p : Pos} {oa ob : O} {es : List Expr} {g : D → Option D} {g2 : D → D → Option D} {id T : String} {x : Str}
/-! ### calls of built-in functions -/
def Cal1 (X : Cx) (f : Value) (g : D → Option D) : Prop :=
  CallR X f fun xs H Q => ∃ F x a c, xs = [x] ∧ (∀ a o, F a = some o → H a = some o) ∧ Pk X.K F H x a ∧ g a = some c ∧ OutQ X.K F H c Q
def Cal1L (X : Cx) (f : Value) (g : D → Option D) : Prop :=
  CallR X f fun xs H Q => ∃ F x a ds, xs = [x] ∧ (∀ a o, F a = some o → H a = some o) ∧ Pk X.K F H x a ∧ g a = some (.lst ds) ∧ NewL X.K F H ds Q
def Cal2 (X : Cx) (f : Value) (g : D → D → Option D) : Prop :=
  CallR X f fun xs H Q => ∃ F x y a b c, xs = [x, y] ∧ (∀ a o, F a = some o → H a = some o) ∧ Pk X.K F H x a ∧ Pk X.K F H y b ∧ g a b = some c ∧ OutQ X.K F H c Q
theorem pa1 (ha : PE X a (tP X.K B oa)) (hs : starEach [a] X.env = (false, eval a X.env) :: starEach [] X.env) : PA X [a] (tCons (tP X.K B oa) tNil) := pa_cons ha pa_nil hs
theorem se_b1 (hc : Cal1 X (.builtin id) g) (hg : Gl X x) (hm : X.mg x = none) (hv : bootBuiltins x = some (.builtin id)) (ha : SP X B a oa) (hn : x ≠ "__name__" := by decide) (hdb : (x == ("__debug__" : Str)) = false := by decide)
    (he : starEach [a] X.env = (false, eval a X.env) :: starEach [] X.env := by rfl) (hpl : (backTo pos (starEach [] X.env)).any (·.1) = false := by rfl) : SE X B (.Call (.Name x p) [a] [] pos) (op1 g oa) :=
  (pe_callB hc hg hm hv (pa1 ha he) hn hdb he hpl).weak fun σ H Q k => t1 k fun x F a c H fh h1 h2 h3 => ⟨F, x, a, c, rfl, fh, h1, h2, h3⟩
theorem se_t1 (hc : Cal1 X (.type T) g) (hg : Gl X x) (hm : X.mg x = none) (hv : bootBuiltins x = some (.type T)) (ha : SP X B a oa) (hn : x ≠ "__name__" := by decide) (hdb : (x == ("__debug__" : Str)) = false := by decide)
    (he : starEach [a] X.env = (false, eval a X.env) :: starEach [] X.env := by rfl) (hpl : (backTo pos (starEach [] X.env)).any (·.1) = false := by rfl) : SE X B (.Call (.Name x p) [a] [] pos) (op1 g oa) :=
  (pe_callTy hc hg hm hv (pa1 ha he) hn hdb he hpl).weak fun σ H Q k => t1 k fun x F a c H fh h1 h2 h3 => ⟨F, x, a, c, rfl, fh, h1, h2, h3⟩
theorem sf_b1 (hc : Cal1L X (.builtin id) g) (hl : ∀ a c, g a = some c → ∃ ds, c = .lst ds) (hg : Gl X x) (hm : X.mg x = none) (hv : bootBuiltins x = some (.builtin id)) (ha : SP X B a oa) (hn : x ≠ "__name__" := by decide) (hdb : (x == ("__debug__" : Str)) = false := by decide)
    (he : starEach [a] X.env = (false, eval a X.env) :: starEach [] X.env := by rfl) (hpl : (backTo pos (starEach [] X.env)).any (·.1) = false := by rfl) : SF X B (.Call (.Name x p) [a] [] pos) (op1 g oa) :=
  (pe_callB hc hg hm hv (pa1 ha he) hn hdb he hpl).weak fun σ H Q k => t1F k hl fun x F a c H fh h1 h2 h3 => ⟨F, x, a, c, rfl, fh, h1, h2, h3⟩
theorem sf_t1 (hc : Cal1L X (.type T) g) (hl : ∀ a c, g a = some c → ∃ ds, c = .lst ds) (hg : Gl X x) (hm : X.mg x = none) (hv : bootBuiltins x = some (.type T)) (ha : SP X B a oa) (hn : x ≠ "__name__" := by decide) (hdb : (x == ("__debug__" : Str)) = false := by decide)
    (he : starEach [a] X.env = (false, eval a X.env) :: starEach [] X.env := by rfl) (hpl : (backTo pos (starEach [] X.env)).any (·.1) = false := by rfl) : SF X B (.Call (.Name x p) [a] [] pos) (op1 g oa) :=
  (pe_callTy hc hg hm hv (pa1 ha he) hn hdb he hpl).weak fun σ H Q k => t1F k hl fun x F a c H fh h1 h2 h3 => ⟨F, x, a, c, rfl, fh, h1, h2, h3⟩
theorem se_b2 (hc : Cal2 X (.builtin id) g2) (hg : Gl X x) (hm : X.mg x = none) (hv : bootBuiltins x = some (.builtin id)) (ha : SP X B a oa) (hb : SP X B b ob) (hn : x ≠ "__name__" := by decide) (hdb : (x == ("__debug__" : Str)) = false := by decide)
    (he : starEach [a, b] X.env = (false, eval a X.env) :: starEach [b] X.env := by rfl) (he2 : starEach [b] X.env = (false, eval b X.env) :: starEach [] X.env := by rfl) (hpl : (backTo pos (starEach [b] X.env)).any (·.1) = false := by rfl) : SE X B (.Call (.Name x p) [a, b] [] pos) (op2 g2 oa ob) :=
  (pe_callB hc hg hm hv (pa_cons ha (pa_cons hb pa_nil he2) he) hn hdb he hpl).weak fun σ H Q k => t2 (r := fun x y H Q => ∃ (F : Hp) (x' y' : V) (a b c : D), [x, y] = [x', y'] ∧ (∀ a o, F a = some o → H a = some o) ∧ Pk X.K F H x' a ∧ Pk X.K F H y' b ∧ g2 a b = some c ∧ OutQ X.K F H c Q) k
    fun x y F a b c H Q fh h1 h2 h3 h4 => ⟨F, x, y, a, b, c, rfl, fh, h1, h2, h3, h4⟩

theorem ints_rep {K : PySem.W.Frag} {F : Hp} : ∀ {vs : List V} {ds : List D} {ns : List Int}, RepAll K F vs ds → intsD ds = some ns → vs = ns.map V.int
  | _, _, ns, .nil, h => by cases h; rfl
  | _, _, ns, .cons (d := d) a b, h => by
    cases d with
    | int i =>
      cases a
      obtain ⟨r, hr, rfl⟩ := Option.map_eq_some_iff.mp (show (intsD _).map (i :: ·) = some ns from h)
      rw [ints_rep b hr]
      rfl
    | _ => cases h
theorem bls_rep {K : PySem.W.Frag} {F : Hp} : ∀ {vs : List V} {ds : List D} {ns : List Bool}, RepAll K F vs ds → blsD ds = some ns → vs = ns.map V.bl
  | _, _, ns, .nil, h => by cases h; rfl
  | _, _, ns, .cons (d := d) a b, h => by
    cases d with
    | bl i =>
      cases a
      obtain ⟨r, hr, rfl⟩ := Option.map_eq_some_iff.mp (show (blsD _).map (i :: ·) = some ns from h)
      rw [bls_rep b hr]
      rfl
    | _ => cases h
theorem c_len : Cal1 X (.builtin "len") lenD := by
  intro pins s σ H xs us Q I rs ⟨F, x, a, c, e, fh, h1, h2, k⟩
  subst e
  unfold lenD at h2
  split at h2
  · cases h2
    obtain ⟨p, vs, rfl, e1, r1⟩ := h1.con fh
    exact call_len_seq pins s σ H _ us Q I rs ⟨p, vs, rfl, .inr e1, by rw [r1.len]; exact k.now fh (.int _)⟩
  · cases h2
    obtain ⟨p, vs, rfl, e1, r1⟩ := h1.lst fh
    exact call_len_seq pins s σ H _ us Q I rs ⟨p, vs, rfl, .inl (SqL.of e1), by rw [r1.len]; exact k.now fh (.int _)⟩
  · cases h2
    obtain ⟨p, vs, rfl, e1, r1⟩ := h1.tup fh
    exact call_len_seq pins s σ H _ us Q I rs ⟨p, vs, rfl, .inr (SqT.of e1), by rw [r1.len]; exact k.now fh (.int _)⟩
  · cases h2
    obtain ⟨rfl, hl, _⟩ := h1.str
    exact call_len_str pins s σ H _ us Q I rs ⟨_, rfl, by rw [str_len, line_eq]; exact hl, by rw [str_len]; exact k.now fh (.int _)⟩
  · cases h2
    obtain ⟨p, rfl, e1⟩ := h1.scr fh
    exact call_len_seq pins s σ H _ us Q I rs ⟨p, _, rfl, .inl e1, by rw [List.length_map]; exact k.now fh (.int _)⟩
  · cases h2
    obtain ⟨p, rfl, z⟩ := h1.dict fh
    rcases z with ⟨_, ks, rd, r⟩ | ⟨z, _⟩
    · rw [Vals.ref1 rs]
      exact d_len I rd fun t s' I' => ⟨.int ks.length, H, I', ⟨t, rfl⟩, by rw [r.len]; exact k.now fh (.int _)⟩
    · cases z
  · cases h2
theorem c_sum (hc : X.calm = true) : Cal1 X (.builtin "sum") sumD := by
  intro pins s σ H xs us Q I rs ⟨F, x, a, c, e, fh, h1, h2, k⟩
  subst e
  unfold sumD at h2
  split at h2
  · obtain ⟨ns, hn, rfl⟩ := Option.map_eq_some_iff.mp h2
    obtain ⟨p, vs, rfl, e1, r1⟩ := h1.lst fh
    have ev := ints_rep r1 hn
    subst ev
    exact cr_sum hc pins s σ H _ us Q I rs ⟨p, ns, rfl, SqL.of e1, k.now fh (.int _)⟩
  · cases h2
theorem maxI_spec : ∀ (m : Int) (l : List Int), (maxI m l = m ∨ maxI m l ∈ l) ∧ m ≤ maxI m l ∧ ∀ y ∈ l, y ≤ maxI m l
  | m, [] => ⟨.inl rfl, Int.le_refl _, fun y h => by cases h⟩
  | m, n :: r => by
    rw [maxI]
    by_cases q : m < n
    · rw [if_pos q]
      obtain ⟨h1, h2, h3⟩ := maxI_spec n r
      refine ⟨.inr (h1.elim (fun z => by rw [z]; exact List.mem_cons_self) (List.mem_cons_of_mem _)), by omega, fun y hy => ?_⟩
      rcases List.mem_cons.mp hy with rfl | hy
      · exact h2
      · exact h3 y hy
    · rw [if_neg q]
      obtain ⟨h1, h2, h3⟩ := maxI_spec m r
      refine ⟨h1.elim .inl fun z => .inr (List.mem_cons_of_mem _ z), h2, fun y hy => ?_⟩
      rcases List.mem_cons.mp hy with rfl | hy
      · omega
      · exact h3 y hy
theorem minI_spec : ∀ (m : Int) (l : List Int), (minI m l = m ∨ minI m l ∈ l) ∧ minI m l ≤ m ∧ ∀ y ∈ l, minI m l ≤ y
  | m, [] => ⟨.inl rfl, Int.le_refl _, fun y h => by cases h⟩
  | m, n :: r => by
    rw [minI]
    by_cases q : n < m
    · rw [if_pos q]
      obtain ⟨h1, h2, h3⟩ := minI_spec n r
      refine ⟨.inr (h1.elim (fun z => by rw [z]; exact List.mem_cons_self) (List.mem_cons_of_mem _)), by omega, fun y hy => ?_⟩
      rcases List.mem_cons.mp hy with rfl | hy
      · exact h2
      · exact h3 y hy
    · rw [if_neg q]
      obtain ⟨h1, h2, h3⟩ := minI_spec m r
      refine ⟨h1.elim .inl fun z => .inr (List.mem_cons_of_mem _ z), h2, fun y hy => ?_⟩
      rcases List.mem_cons.mp hy with rfl | hy
      · omega
      · exact h3 y hy
theorem c_max (hc : X.calm = true) : Cal1 X (.builtin "max") maxD := by
  intro pins s σ H xs us Q I rs ⟨F, x, a, c, e, fh, h1, h2, k⟩
  subst e
  unfold maxD at h2
  split at h2
  · obtain ⟨ns, hn, h2⟩ := bnd h2
    obtain ⟨p, vs, rfl, e1, r1⟩ := h1.lst fh
    have ev := ints_rep r1 hn
    subst ev
    cases ns with
    | nil => cases h2
    | cons n r =>
      cases h2
      refine cr_max hc pins s σ H _ us Q I rs ⟨p, n :: r, rfl, SqL.of e1, Nat.zero_lt_succ _, fun m hm hle => ?_⟩
      obtain ⟨z1, z2, z3⟩ := maxI_spec n r
      have hin : maxI n r ∈ n :: r := z1.elim (fun z => by rw [z]; exact List.mem_cons_self) (List.mem_cons_of_mem _)
      have q1 := hle _ hin
      have q2 : m ≤ maxI n r := (List.mem_cons.mp hm).elim (fun z => by rw [z]; exact z2) (z3 m)
      have q3 : m = maxI n r := by omega
      subst q3
      exact k.now fh (.int _)
  · cases h2
theorem c_min (hc : X.calm = true) : Cal1 X (.builtin "min") minD := by
  intro pins s σ H xs us Q I rs ⟨F, x, a, c, e, fh, h1, h2, k⟩
  subst e
  unfold minD at h2
  split at h2
  · obtain ⟨ns, hn, h2⟩ := bnd h2
    obtain ⟨p, vs, rfl, e1, r1⟩ := h1.lst fh
    have ev := ints_rep r1 hn
    subst ev
    cases ns with
    | nil => cases h2
    | cons n r =>
      cases h2
      refine cr_min hc pins s σ H _ us Q I rs ⟨p, n :: r, rfl, SqL.of e1, Nat.zero_lt_succ _, fun m hm hle => ?_⟩
      obtain ⟨z1, z2, z3⟩ := minI_spec n r
      have hin : minI n r ∈ n :: r := z1.elim (fun z => by rw [z]; exact List.mem_cons_self) (List.mem_cons_of_mem _)
      have q1 := hle _ hin
      have q2 : minI n r ≤ m := (List.mem_cons.mp hm).elim (fun z => by rw [z]; exact z2) (z3 m)
      have q3 : m = minI n r := by omega
      subst q3
      exact k.now fh (.int _)
  · cases h2
theorem c_any (hc : X.calm = true) : Cal1 X (.builtin "any") anyD := by
  intro pins s σ H xs us Q I rs ⟨F, x, a, c, e, fh, h1, h2, k⟩
  subst e
  unfold anyD at h2
  split at h2
  · obtain ⟨ns, hn, rfl⟩ := Option.map_eq_some_iff.mp h2
    obtain ⟨p, vs, rfl, e1, r1⟩ := h1.lst fh
    have ev := bls_rep r1 hn
    subst ev
    exact cr_any hc pins s σ H _ us Q I rs ⟨p, ns, rfl, SqL.of e1, k.now fh (.bl _)⟩
  · cases h2
theorem c_all (hc : X.calm = true) : Cal1 X (.builtin "all") allD := by
  intro pins s σ H xs us Q I rs ⟨F, x, a, c, e, fh, h1, h2, k⟩
  subst e
  unfold allD at h2
  split at h2
  · obtain ⟨ns, hn, rfl⟩ := Option.map_eq_some_iff.mp h2
    obtain ⟨p, vs, rfl, e1, r1⟩ := h1.lst fh
    have ev := bls_rep r1 hn
    subst ev
    exact cr_all hc pins s σ H _ us Q I rs ⟨p, ns, rfl, SqL.of e1, k.now fh (.bl _)⟩
  · cases h2
theorem c_abs : Cal1 X (.builtin "abs") absD := by
  intro pins s σ H xs us Q I rs ⟨F, x, a, c, e, fh, h1, h2, k⟩
  subst e
  unfold absD at h2
  split at h2
  · cases h2
    cases h1.int
    exact call_abs pins s σ H _ us Q I rs ⟨_, rfl, k.now fh (.int _)⟩
  · cases h2
theorem c_int : Cal1 X (.type "int") intD := by
  intro pins s σ H xs us Q I rs ⟨F, x, a, c, e, fh, h1, h2, k⟩
  subst e
  unfold intD at h2
  split at h2
  · cases h2
    cases h1.int
    exact call_int1 pins s σ H _ us Q I rs (.inl ⟨_, rfl, k.now fh (.int _)⟩)
  · cases h2
    cases h1.bl
    exact call_int1 pins s σ H _ us Q I rs (.inr ⟨_, rfl, k.now fh (.int _)⟩)
  · cases h2
theorem c_max2 (hc : X.calm = true) : Cal2 X (.builtin "max") max2 := by
  intro pins s σ H xs us Q I rs ⟨F, x, y, a, b, c, e, fh, h1, h2, h3, k⟩
  subst e
  unfold max2 at h3
  split at h3
  · cases h3
    cases h1.int
    cases h2.int
    exact call_max2 hc pins s σ H _ us Q I rs ⟨_, _, rfl, k.now fh (.int _)⟩
  · cases h3
theorem c_min2 (hc : X.calm = true) : Cal2 X (.builtin "min") min2 := by
  intro pins s σ H xs us Q I rs ⟨F, x, y, a, b, c, e, fh, h1, h2, h3, k⟩
  subst e
  unfold min2 at h3
  split at h3
  · cases h3
    cases h1.int
    cases h2.int
    exact call_min2 hc pins s σ H _ us Q I rs ⟨_, _, rfl, k.now fh (.int _)⟩
  · cases h3
theorem listD_lst (a c : D) (h : listD a = some c) : ∃ ds, c = .lst ds := by
  unfold listD at h
  split at h <;> cases h <;> exact ⟨_, rfl⟩
theorem c_listL : Cal1L X (.type "list") listD := by
  intro pins s σ H xs us Q I rs ⟨F, x, a, ds, e, fh, h1, h2, k⟩
  subst e
  unfold listD at h2
  split at h2
  · cases h2
    obtain ⟨p, vs, rfl, e1, r1⟩ := h1.lst fh
    exact call_list_of pins s σ H _ us Q I rs ⟨p, vs, rfl, .inl (SqL.of e1), fun l n => k l vs n r1⟩
  · cases h2
    obtain ⟨p, vs, rfl, e1, r1⟩ := h1.tup fh
    exact call_list_of pins s σ H _ us Q I rs ⟨p, vs, rfl, .inr (SqT.of e1), fun l n => k l vs n r1⟩
  · cases h2
    obtain ⟨p, vs, rfl, e1, r1⟩ := h1.con fh
    exact call_list_of pins s σ H _ us Q I rs ⟨p, vs, rfl, .inr e1, fun l n => k l vs n r1⟩
  · cases h2
theorem Cal1L.up {f : Value} (h : Cal1L X f g) (hl : ∀ a c, g a = some c → ∃ ds, c = .lst ds) : Cal1 X f g := by
  intro pins s σ H xs us Q I rs ⟨F, x, a, c, e, fh, h1, h2, k⟩
  obtain ⟨ds, rfl⟩ := hl a c h2
  exact h pins s σ H xs us Q I rs ⟨F, x, a, ds, e, fh, h1, h2, k.newL fh⟩
theorem c_list : Cal1 X (.type "list") listD := c_listL.up listD_lst
theorem c_tuple : Cal1 X (.type "tuple") tupleD := by
  intro pins s σ H xs us Q I rs ⟨F, x, a, c, e, fh, h1, h2, k⟩
  subst e
  unfold tupleD at h2
  split at h2
  · cases h2
    obtain ⟨p, vs, rfl, e1, r1⟩ := h1.lst fh
    exact call_tuple_of pins s σ H _ us Q I rs ⟨p, vs, rfl, .inl ⟨SqL.of e1, fun l n => k.newT fh n r1⟩⟩
  · cases h2
    have rp := h1.tupR
    obtain ⟨p, vs, rfl, e1, r1⟩ := h1.tup fh
    exact call_tuple_of pins s σ H _ us Q I rs ⟨p, vs, rfl, .inr ⟨SqT.of e1, k.now fh rp⟩⟩
  · cases h2

/-! ### isinstance -/
def tyN : Ty → String
  | .int => "int"
  | .bool => "bool"
  | .str => "str"
  | .list => "list"
  | .tuple => "tuple"
  | .dict => "dict"
theorem kb_non (t : Ty) : kitB "NoneType" (tyN t) = some (isD t (.non)) := by cases t <;> decide +kernel
theorem kb_bool (t : Ty) : kitB "bool" (tyN t) = some (isD t (.bl true)) := by cases t <;> decide +kernel
theorem kb_int (t : Ty) : kitB "int" (tyN t) = some (isD t (.int 0)) := by cases t <;> decide +kernel
theorem kb_str (t : Ty) : kitB "str" (tyN t) = some (isD t (.str [])) := by cases t <;> decide +kernel
theorem kb_list (t : Ty) : kitB "list" (tyN t) = some (isD t (.lst [])) := by cases t <;> decide +kernel
theorem kb_tuple (t : Ty) : kitB "tuple" (tyN t) = some (isD t (.tup [])) := by cases t <;> decide +kernel
theorem kb_dict (t : Ty) : kitB "dict" (tyN t) = some (isD t (.dic false [])) := by cases t <;> decide +kernel
theorem kit_D {pins : List (Addr × Obj)} {σ : Sl} {F H : Hp} {s : Shared} {x : V} {u : Value} {d : D} (I : Inv X pins σ H s) (fh : ∀ a o, F a = some o → H a = some o) (rx : RelV x u) (h : Pk X.K F H x d) (t : Ty) :
    ∃ (n : String) (P : Heap → Prop), PySem.W.KitX X.K u (.type n) P ∧ P s.heap ∧ u ≠ .builtin "__main__.__loader__#opaque" ∧ kitB n (tyN t) = some (isD t d) := by
  cases d with
  | non => cases h.non; cases rx; exact ⟨"NoneType", _, PySem.W.kitx_none, True.intro, (fun z => nomatch z), (kb_non t).trans (by cases t <;> rfl)⟩
  | bl b => cases h.bl; cases rx; exact ⟨"bool", _, PySem.W.kitx_bool, True.intro, (fun z => nomatch z), (kb_bool t).trans (by cases t <;> rfl)⟩
  | int i => cases h.int; obtain ⟨k, rfl⟩ := rx; exact ⟨"int", _, PySem.W.kitx_int, True.intro, (fun z => nomatch z), (kb_int t).trans (by cases t <;> rfl)⟩
  | str st => cases h.str.1; obtain ⟨k, rfl⟩ := rx; exact ⟨"str", _, PySem.W.kitx_str, True.intro, (fun z => nomatch z), (kb_str t).trans (by cases t <;> rfl)⟩
  | lst ds =>
    obtain ⟨p, vs, rfl, e1, _⟩ := h.lst fh
    cases rx
    obtain ⟨_, _, n, _, h1⟩ := (show ObjOk X.prog X.w H s.heap p (.lst vs) from I.hok p _ e1)
    exact ⟨"list", _, PySem.W.kitx_list, ⟨_, h1, rfl⟩, (fun z => nomatch z), (kb_list t).trans (by cases t <;> rfl)⟩
  | tup ds =>
    obtain ⟨p, vs, rfl, e1, _⟩ := h.tup fh
    cases rx
    obtain ⟨_, _, _, o, h1, h2, _⟩ := (show ObjOk X.prog X.w H s.heap p (.tup vs) from I.hok p _ e1)
    exact ⟨"tuple", _, PySem.W.kitx_tuple, ⟨o, h1, h2⟩, (fun z => nomatch z), (kb_tuple t).trans (by cases t <;> rfl)⟩
  | con ds =>
    obtain ⟨p, vs, rfl, e1, _⟩ := h.con fh
    cases rx
    obtain ⟨its, _, ⟨o, h1, h2, _⟩, _⟩ := I.tuple e1
    exact ⟨"tuple", _, PySem.W.kitx_tuple, ⟨o, h1, h2⟩, (fun z => nomatch z), (kb_tuple t).trans (by cases t <;> rfl)⟩
  | scr ns =>
    obtain ⟨p, rfl, e1⟩ := h.scr fh
    cases rx
    obtain ⟨its, _, ⟨o, n, h1, h2, _⟩, _⟩ := I.list e1
    exact ⟨"list", _, PySem.W.kitx_list, ⟨o, h1, h2⟩, (fun z => nomatch z), (kb_list t).trans (by cases t <;> rfl)⟩
  | dic k kvs =>
    obtain ⟨p, rfl, z⟩ := h.dict fh
    cases rx
    rcases z with ⟨_, ks, rd, _⟩ | ⟨_, ks, rd, _⟩
    · obtain ⟨_, _, vs, _, o, es, ep, h1, h2, _⟩ := dk_rd I.hok rd
      exact ⟨"dict", _, PySem.W.kitx_dict, ⟨o, h1, h2.1⟩, (fun z => nomatch z), (kb_dict t).trans (by cases t <;> rfl)⟩
    · obtain ⟨_, _, vs, _, o, es, ep, h1, h2, _⟩ := dt_rd I.hok rd
      exact ⟨"dict", _, PySem.W.kitx_dict, ⟨o, h1, h2.1⟩, (fun z => nomatch z), (kb_dict t).trans (by cases t <;> rfl)⟩
theorem c_isi (t : Ty) : CallR X (.builtin "isinstance") fun xs H Q => ∃ F x a, xs = [x, .ty (tyN t)] ∧ (∀ a o, F a = some o → H a = some o) ∧ Pk X.K F H x a ∧ OutQ X.K F H (.bl (isD t a)) Q := by
  intro pins s σ H xs us Q I rs ⟨F, x, a, e, fh, h1, k⟩
  subst e
  obtain ⟨u1, u2, rfl, r1, r2⟩ := vals2 rs
  cases r2
  obtain ⟨n, P, Z, hp, hx, hk⟩ := kit_D I fh r1 h1 t
  exact PySem.W.kia_one Z I.kIn hp (kit_ty hk) hx fun tk => ⟨.bl _, H, I.tok tk, rfl, k.now fh (.bl _)⟩
theorem se_isi (t : Ty) {y : Str} {py : Pos} (hg : Gl X "isinstance") (hm : X.mg "isinstance" = none) (hgt : Gl X y) (hmt : X.mg y = none) (hvt : bootBuiltins y = some (.type (tyN t))) (ha : SP X B a oa)
    (he : starEach [a, .Name y py] X.env = (false, eval a X.env) :: starEach [.Name y py] X.env := by rfl) (he2 : starEach [.Name y py] X.env = (false, eval (.Name y py) X.env) :: starEach [] X.env := by rfl) (hpl : (backTo pos (starEach [.Name y py] X.env)).any (·.1) = false := by rfl)
    (hn : y ≠ "__name__" := by decide) (hdb : (y == ("__debug__" : Str)) = false := by decide) : SE X B (.Call (.Name "isinstance" p) [a, .Name y py] [] pos) (op1 (isiD t) oa) :=
  (pe_callB (c_isi t) hg hm (by decide +kernel) (pa_cons ha (pa_cons (pe_bltn (v := .ty (tyN t)) hgt hmt hvt rfl hn hdb) pa_nil he2) he) (by decide) (by decide) he hpl).weak fun σ H Q k => t1 k fun x F a c H fh h1 h2 h3 => by
    cases h2
    exact ⟨F, x, a, rfl, fh, h1, h3⟩
end
end Py


namespace Py
open L2 PySem PySem.Spec
abbrev Wk := L2.It

/-! ### what is walked -/
structure WalkD (K : PySem.W.Frag) (J : Wk) (F : Hp) (ds : List D) (G : Hp → Prop) (Y : Nat → Hp → V → Hp → Prop) : Prop where
  w : Walk J ds.length G Y
  stands : ∀ F' H, Le F F' → (∀ a o, F' a = some o → H a = some o) → G H
  gives : ∀ i H x H' F', Y i H x H' → Le F F' → (∀ a o, F' a = some o → H a = some o) → ∃ F'' d, ds[i]? = some d ∧ Grow F' H F'' H' ∧ Rep K F'' x d
def tI (K : PySem.W.Frag) (B : Base) (iv : It) : TI := fun σ H R => ∃ l F ds l', Gd K B l F σ H ∧ iv l = some (ds, l') ∧ ∀ J F' H' G Y, Le F F' → Gd K B l' F' σ H' → WalkD K J F' ds G Y → R J H'
abbrev SI (X : Cx) (B : Base) (tg e : Expr) (iv : It) : Prop := PI X tg e (tI X.K B iv)
theorem _root_.L2.PI.weak {X : Cx} {tg e : Expr} {t t' : TI} (h : PI X tg e t) (w : ∀ σ H R, t' σ H R → t σ H R) : PI X tg e t' := ⟨fun pins s σ H R I q => h.run pins s σ H R I (w _ _ _ q)⟩
theorem _root_.L2.PI.or {X : Cx} {tg e : Expr} {t t' : TI} (h : PI X tg e t) (h' : PI X tg e t') : PI X tg e (fun σ H R => t σ H R ∨ t' σ H R) := ⟨fun pins s σ H R I q => q.elim (fun q => h.run pins s σ H R I q) fun q => h'.run pins s σ H R I q⟩
section
variable {X : Cx} {B : Base} {a b c e tg : Expr} {pos p : Pos} {oa ob : O} {es : List Expr}
theorem wd_list {K : PySem.W.Frag} {F : Hp} {q : Addr} {vs : List V} {ds : List D} (h : F q = some (.lst vs)) (r : RepAll K F vs ds) : ∃ G Y, WalkD K (Itl K q) F ds G Y := by
  refine ⟨_, _, ⟨by rw [← r.len]; exact walk_list (K := K) (a := q) (xs := vs), fun F' H le fh => SqL.of (fh _ _ (le.lst h)), fun i H x H' F' y le fh => ?_⟩⟩
  obtain ⟨rfl, e⟩ := y
  obtain ⟨d, hd, rd⟩ := r.getV e
  exact ⟨F', d, hd, .refl fh, rd.mono le⟩
theorem wd_tup {K : PySem.W.Frag} {F : Hp} {q : Addr} {vs : List V} {ds : List D} (h : SqT K F q vs) (r : RepAll K F vs ds) : ∃ G Y, WalkD K (Itt K q) F ds G Y := by
  refine ⟨_, _, ⟨by rw [← r.len]; exact walk_tup (K := K) (a := q) (xs := vs), fun F' H le fh => SqT.up fh (le.sqT h), fun i H x H' F' y le fh => ?_⟩⟩
  obtain ⟨rfl, e⟩ := y
  obtain ⟨d, hd, rd⟩ := r.getV e
  exact ⟨F', d, hd, .refl fh, rd.mono le⟩
theorem one_sign {K : PySem.W.Frag} {F : Hp} {s : List Nat} (hc : ∀ c ∈ s, c < 1114112) {ch : Nat} (h : ch ∈ s) : Rep K F (.str ⟨#[ch]⟩) (.str [ch]) :=
  .str [ch] (by show 1 ≤ line; decide) fun z hz => by
    rw [List.mem_singleton] at hz
    subst hz
    exact hc _ h
theorem wd_str {K : PySem.W.Frag} {F : Hp} {s : List Nat} (hc : ∀ c ∈ s, c < 1114112) : ∃ G Y, WalkD K (Its ⟨s.toArray⟩) F (s.map fun c => .str [c]) G Y := by
  refine ⟨_, _, ⟨by
    have e : (s.map fun c => D.str [c]).length = (⟨s.toArray⟩ : Str).cps.size := by simp
    rw [e]; exact walk_str, fun F' H le fh => trivial, fun i H x H' F' y le fh => ?_⟩⟩
  obtain ⟨rfl, ch, e, rfl⟩ := y
  have e' : s[i]? = some ch := by simpa using e
  refine ⟨F', .str [ch], by rw [List.getElem?_map, e']; rfl, .refl fh, one_sign hc (List.mem_of_getElem? e')⟩
theorem si_over {ev : E} (h : SE X B e ev) : SI X B tg e (over ev) := ((pi_list h).or ((pi_tup h).or (pi_str h))).weak fun σ H R ⟨l, F, ds, l', g, q, k⟩ => by
  obtain ⟨⟨d, l1⟩, h1, q⟩ := bnd q
  obtain ⟨xs, h2, q⟩ := bnd q
  cases q
  cases d with
  | lst xs =>
    cases h2
    refine .inl ⟨l, F, _, _, g, h1, fun v F' H' le g' rp => ?_⟩
    cases rp with
    | lst e1 r1 =>
      obtain ⟨G, Y, w⟩ := wd_list (K := X.K) e1 r1
      exact ⟨_, rfl, ⟨_, SqL.of (g'.fh _ _ e1)⟩, k _ F' H' G Y le g' w⟩
  | tup xs =>
    cases h2
    refine .inr (.inl ⟨l, F, _, _, g, h1, fun v F' H' le g' rp => ?_⟩)
    cases rp with
    | tup e1 r1 =>
      obtain ⟨G, Y, w⟩ := wd_tup (K := X.K) (SqT.of e1) r1
      exact ⟨_, rfl, ⟨_, SqT.of (g'.fh _ _ e1)⟩, k _ F' H' G Y le g' w⟩
  | con xs =>
    cases h2
    refine .inr (.inl ⟨l, F, _, _, g, h1, fun v F' H' le g' rp => ?_⟩)
    cases rp with
    | con e1 r1 =>
      obtain ⟨G, Y, w⟩ := wd_tup (K := X.K) e1 r1
      exact ⟨_, rfl, ⟨_, SqT.up g'.fh e1⟩, k _ F' H' G Y le g' w⟩
  | str s =>
    cases h2
    refine .inr (.inr ⟨l, F, _, _, g, h1, fun v F' H' le g' rp => ?_⟩)
    cases rp with
    | str s hl hc =>
      obtain ⟨G, Y, w⟩ := wd_str (K := X.K) (F := F') hc
      exact ⟨_, rfl, k _ F' H' G Y le g' w⟩
  | _ => cases h2
theorem upTo_get : ∀ (n i : Nat) (lo : Int), i < n → (upTo lo n)[i]? = some (.int (lo + i))
  | 0, _, _, h => absurd h (Nat.not_lt_zero _)
  | n + 1, 0, lo, _ => by simp [upTo]
  | n + 1, i + 1, lo, h => by
    rw [upTo, List.getElem?_cons_succ, upTo_get n i (lo + 1) (Nat.lt_of_succ_lt_succ h)]
    congr 2
    omega
theorem upTo_len : ∀ (n : Nat) (lo : Int), (upTo lo n).length = n
  | 0, _ => rfl
  | n + 1, lo => congrArg (· + 1) (upTo_len n (lo + 1))
theorem walk_lt {J : Wk} {n : Nat} {G : Hp → Prop} {Y : Nat → Hp → V → Hp → Prop} (w : Walk J n G Y) : Walk J n G (fun i H x H' => i < n ∧ Y i H x H') :=
  w.mono (fun _ h => h) fun i H x H' hi _ y => ⟨hi, y⟩
theorem wd_rng {K : PySem.W.Frag} {F : Hp} (lo : Int) (n : Nat) : ∃ G Y, WalkD K (Itr lo n) F (upTo lo n) G Y := by
  refine ⟨_, _, ⟨by rw [upTo_len]; exact walk_lt walk_range, fun F' H le fh => trivial, fun i H x H' F' y le fh => ?_⟩⟩
  obtain ⟨hi, rfl, rfl⟩ := y
  exact ⟨F', _, upTo_get n i lo hi, .refl fh, .int _⟩
theorem log_below {a k : Nat} (h : a.log2 < k) : a < 2 ^ k := by
  by_cases ha : a = 0
  · subst ha; exact Nat.two_pow_pos k
  · exact (Nat.log2_lt ha).mp h
theorem small_of {i : Int} (h : small i = true) : -(2 ^ 62) ≤ i ∧ i < 2 ^ 62 := by
  unfold small at h
  have h1 := log_below (of_decide_eq_true h)
  have h2 : (2 : Nat) ^ 61 = 2305843009213693952 := by decide
  rw [h2] at h1
  constructor <;> omega
theorem si_rng1 {ev : E} (hg : Gl X "range") (hm : X.mg "range" = none) (h : SE X B a ev) (hs : starEach [a] X.env = [(false, eval a X.env)] := by rfl) : SI X B tg (.Call (.Name "range" p) [a] [] pos) (rng1 ev) :=
  (pi_range1 hg hm (pa_cons h pa_nil hs) hs).weak fun σ H R ⟨l, F, ds, l', g, q, k⟩ => by
    obtain ⟨⟨d, l1⟩, h1, q⟩ := bnd q
    cases d with
    | int j =>
      simp only at q
      split at q
      · rename_i hj
        cases q
        refine ⟨l, F, _, _, g, h1, fun v F' H' le g' rp => ?_⟩
        cases rp
        obtain ⟨G, Y, w⟩ := wd_rng (K := X.K) (F := F') 0 j.toNat
        exact ⟨j, rfl, (small_of hj).1, (small_of hj).2, k _ F' H' G Y le g' w⟩
      · cases q
    | _ => cases q
theorem si_rng2 {ev eu : E} (hg : Gl X "range") (hm : X.mg "range" = none) (h : SE X B a ev) (h' : SE X B b eu) (hs : starEach [a, b] X.env = [(false, eval a X.env), (false, eval b X.env)] := by rfl) (hs2 : starEach [b] X.env = [(false, eval b X.env)] := by rfl) :
    SI X B tg (.Call (.Name "range" p) [a, b] [] pos) (rng2 ev eu) :=
  (pi_range2 hg hm (sa_cons h (sa_cons h' sa_nil hs2) (by rw [hs2]; exact hs)) hs hs2).weak fun σ H R ⟨l, F, ds, l', g, q, k⟩ => by
    obtain ⟨⟨d, l1⟩, h1, q⟩ := bnd q
    simp only at q
    split at q
    · rename_i i j
      split at q
      · rename_i hj
        cases q
        rw [Bool.and_eq_true] at hj
        refine ⟨l, F, _, _, g, h1, fun vs F' H' le g' rp => ?_⟩
        cases rp with
        | cons r1 r2 =>
          cases r1
          cases r2 with
          | cons r1 r2 =>
            cases r1
            cases r2
            obtain ⟨G, Y, w⟩ := wd_rng (K := X.K) (F := F') i (j - i).toNat
            exact ⟨i, j, rfl, ⟨(small_of hj.1).1, (small_of hj.1).2, (small_of hj.2).1, (small_of hj.2).2⟩, k _ F' H' G Y le g' w⟩
      · cases q
    · cases q
theorem number_get : ∀ (xs : List D) (i : Nat) (lo : Int) (d : D), xs[i]? = some d → (number lo xs)[i]? = some (.tup [.int (lo + i), d])
  | [], _, _, _, h => by simp at h
  | x :: xs, 0, lo, d, h => by
    simp at h
    subst h
    simp [number]
  | x :: xs, i + 1, lo, d, h => by
    rw [number, List.getElem?_cons_succ, number_get xs i (lo + 1) d (by simpa using h)]
    congr 4
    omega
theorem number_len : ∀ (xs : List D) (lo : Int), (number lo xs).length = xs.length
  | [], _ => rfl
  | _ :: xs, lo => congrArg (· + 1) (number_len xs (lo + 1))
theorem pair_new {K : PySem.W.Frag} {F H : Hp} {T : Addr} {x y : V} {d e : D} (fh : ∀ a o, F a = some o → H a = some o) (n : H T = none) (r1 : Rep K F x d) (r2 : Rep K F y e) : ∃ F'', Grow F H F'' (upd H T (.tup [x, y])) ∧ Rep K F'' (.ref T) (.tup [d, e]) := by
  have gr := Grow.frz fh (.tup [x, y]) n
  exact ⟨_, gr, .tup upd_same (.cons (r1.mono gr.le) (.cons (r2.mono gr.le) .nil))⟩
theorem si_enumL {ev : E} {elts : List Expr} {kk : Nat} {tpos : Pos} (hg : Gl X "enumerate") (hm : X.mg "enumerate" = none) (h : SE X B a ev) (hs : starEach [a] X.env = [(false, eval a X.env)] := by rfl) :
    SI X B (.Tuple elts kk tpos) (.Call (.Name "enumerate" p) [a] [] pos) (enumL ev) :=
  (pi_enum hg hm (pa_cons h pa_nil hs) hs).weak fun σ H R ⟨l, F, ds, l', g, q, k⟩ => by
    obtain ⟨⟨d, l1⟩, h1, q⟩ := bnd q
    cases d with
    | lst xs =>
      cases q
      refine ⟨l, F, _, _, g, h1, fun v F' H' le g' rp => ?_⟩
      cases rp with
      | lst e1 r1 =>
        rename_i q vs
        refine ⟨q, vs, rfl, SqL.of (g'.fh _ _ e1), ?_⟩
        refine k (Ite X.K q) F' H' _ _ le g' ⟨by rw [number_len, ← r1.len]; exact walk_enum (K := X.K) (a := q) (xs := vs), fun F2 H2 le2 fh => SqL.of (fh _ _ (le2.lst e1)), fun i H2 x H3 F2 y le2 fh => ?_⟩
        obtain ⟨T, x1, y1, rfl, n, rfl, e3, e4⟩ := y
        cases e3
        obtain ⟨d, hd, rd⟩ := r1.getV e4
        obtain ⟨F3, gr, rp⟩ := pair_new (K := X.K) fh n (.int i) (rd.mono le2)
        exact ⟨F3, _, number_get xs i 0 d hd, gr, by rw [Int.zero_add]; exact rp⟩
    | _ => cases q

/-! ### targets -/
def tG (K : PySem.W.Frag) (B : Base) (gv : G) : TG := fun v σ H Q => ∃ l F d l', Gd K B l F σ H ∧ Rep K F v d ∧ gv d l = some l' ∧ ∀ σ' F' H', Le F F' → Gd K B l' F' σ' H' → Q σ' H'
def tGs (K : PySem.W.Frag) (B : Base) (gs : List G) : TGs := fun vs σ H Q => ∃ l F ds l', Gd K B l F σ H ∧ RepAll K F vs ds ∧ gall gs ds l = some l' ∧ ∀ σ' F' H', Le F F' → Gd K B l' F' σ' H' → Q σ' H'
abbrev SG (X : Cx) (B : Base) (tg : Expr) (gv : G) : Prop := PG X tg (tG X.K B gv)
abbrev SGs (X : Cx) (B : Base) (tgs : List Expr) (gs : List G) : Prop := PGs X tgs (tGs X.K B gs)
theorem _root_.L2.PG.weak {t t' : TG} (h : PG X tg t) (w : ∀ v σ H Q, t' v σ H Q → t v σ H Q) : PG X tg t' := ⟨fun pins s σ H v u Q I r q => h.run pins s σ H v u Q I r (w _ _ _ _ q)⟩
theorem _root_.L2.PGs.weak {tgs : List Expr} {t t' : TGs} (h : PGs X tgs t) (w : ∀ v σ H Q, t' v σ H Q → t v σ H Q) : PGs X tgs t' := ⟨fun pins s σ H v u Q I r q => h.run pins s σ H v u Q I r (w _ _ _ _ q)⟩
theorem _root_.L2.PG.or {t t' : TG} (h : PG X tg t) (h' : PG X tg t') : PG X tg (fun v σ H Q => t v σ H Q ∨ t' v σ H Q) := ⟨fun pins s σ H v u Q I r q => q.elim (fun q => h.run pins s σ H v u Q I r q) fun q => h'.run pins s σ H v u Q I r q⟩
theorem sg_name {i : Nat} (h : PG X tg (gName i)) : SG X B tg (gname i) := h.weak fun v σ H Q ⟨l, F, d, l', g, r, q, k⟩ => by
  cases q
  exact k _ F H (Le.refl F) (g.store i (some v) (.fz d) (.inr ⟨d, v, rfl, rfl, r⟩))
theorem sgs_nil : SGs X B [] [] := pgs_nil.weak fun v σ H Q ⟨l, F, ds, l', g, r, q, k⟩ => by
  cases r with
  | nil =>
    cases q
    exact ⟨rfl, k σ F H (Le.refl F) g⟩
  | cons _ _ => cases q
theorem sgs_cons {tgs : List Expr} {gv : G} {gs : List G} (h1 : SG X B tg gv) (h2 : SGs X B tgs gs) (hs : (assignEach (tg :: tgs) X.env).map (·.2) = assign tg X.env :: (assignEach tgs X.env).map (·.2) := by rfl) : SGs X B (tg :: tgs) (gv :: gs) :=
  (pgs_cons h1 h2 hs).weak fun v σ H Q ⟨l, F, ds, l', g, r, q, k⟩ => by
    cases r with
    | nil => cases q
    | cons r1 r2 =>
      obtain ⟨l1, h1, q⟩ := bnd q
      exact ⟨_, _, rfl, l, F, _, l1, g, r1, h1, fun σ' F' H' le g' => ⟨l1, F', _, l', g', r2.mono le, q, fun σ2 F2 H2 le2 g2 => k σ2 F2 H2 (le.trans le2) g2⟩⟩
theorem gall_len : ∀ {gs : List G} {ds : List D} {l l' : Loc}, gall gs ds l = some l' → gs.length = ds.length
  | [], [], _, _, _ => rfl
  | [], _ :: _, _, _, h => by cases h
  | _ :: _, [], _, _, h => by cases h
  | g :: gs, d :: ds, l, l', h => by
    obtain ⟨l1, _, q⟩ := bnd h
    exact congrArg (· + 1) (gall_len q)
theorem sg_tup {k n : Nat} {gs : List G} (hc : X.calm = true) (h : SGs X B es gs) (hg : gs.length = n := by rfl) (hn : (assignEach es X.env).length = n := by rfl) (hst : (assignEach es X.env).findIdx? (·.1) = none := by rfl) : SG X B (.Tuple es k pos) (gtup gs) :=
  ((pg_tup hc h hn hst).or (pg_unl hc h hn hst)).weak fun v σ H Q ⟨l, F, d, l', g, r, q, kk⟩ => by
    cases d with
    | tup ds =>
      cases r with
      | tup e1 r1 => exact .inl ⟨_, _, rfl, SqT.of (g.fh _ _ e1), by rw [r1.len, ← hg]; exact (gall_len q).symm, l, F, ds, l', g, r1, q, kk⟩
    | con ds =>
      cases r with
      | con e1 r1 => exact .inl ⟨_, _, rfl, SqT.up g.fh e1, by rw [r1.len, ← hg]; exact (gall_len q).symm, l, F, ds, l', g, r1, q, kk⟩
    | lst ds =>
      cases r with
      | lst e1 r1 => exact .inr ⟨_, _, rfl, SqL.of (g.fh _ _ e1), by rw [r1.len, ← hg]; exact (gall_len q).symm, l, F, ds, l', g, r1, q, kk⟩
    | _ => cases q

/-! ### statements -/
def RetOk (K : PySem.W.Frag) (B : Base) (fr : Bool) (l : Loc) (F : Hp) (σ : Sl) (H : Hp) (v : V) (d : D) : Prop := Gd K B l F σ H ∧ (fr = false → Rep K F v d) ∧ (fr = true → ∃ p, v = .ref p ∧ Fresh K B l F σ H p d)
def Post (K : PySem.W.Frag) (B : Base) (fr : Bool) (F : Hp) (D : Ends) : Fl → Prop
  | .nx l' => ∀ σ' F' H', Le F F' → Gd K B l' F' σ' H' → D.nx σ' H'
  | .bk l' => ∀ σ' F' H', Le F F' → Gd K B l' F' σ' H' → D.bk σ' H'
  | .ct l' => ∀ σ' F' H', Le F F' → Gd K B l' F' σ' H' → D.ct σ' H'
  | .rt d l' => ∀ v σ' F' H', Le F F' → RetOk K B fr l' F' σ' H' v d → D.rt v H'
theorem Post.mono {K : PySem.W.Frag} {fr : Bool} {F F' : Hp} {D : Ends} (le : Le F F') : ∀ {f : Fl}, Post K B fr F D f → Post K B fr F' D f
  | .nx _, h => fun σ F2 H le2 g => h σ F2 H (le.trans le2) g
  | .bk _, h => fun σ F2 H le2 g => h σ F2 H (le.trans le2) g
  | .ct _, h => fun σ F2 H le2 g => h σ F2 H (le.trans le2) g
  | .rt _ _, h => fun v σ F2 H le2 g => h v σ F2 H (le.trans le2) g
def tS (K : PySem.W.Frag) (B : Base) (fr : Bool) (sv : S) : TS := fun D σ H => ∃ l F f, Gd K B l F σ H ∧ sv l = some f ∧ Post K B fr F D f
abbrev SS (X : Cx) (B : Base) (fr : Bool) (st : Stmt) (sv : S) : Prop := PS X st (tS X.K B fr sv)
abbrev SB (X : Cx) (B : Base) (fr : Bool) (sts : List Stmt) (sv : S) : Prop := PSs X sts (tS X.K B fr sv)
theorem _root_.L2.PS.weak {st : Stmt} {t t' : TS} (h : PS X st t) (w : ∀ D σ H, t' D σ H → t D σ H) : PS X st t' := ⟨fun pins s σ H D I q => h.run pins s σ H D I (w _ _ _ q)⟩
theorem _root_.L2.PSs.weak {st : List Stmt} {t t' : TS} (h : PSs X st t) (w : ∀ D σ H, t' D σ H → t D σ H) : PSs X st t' := ⟨fun pins s σ H D I q => h.run pins s σ H D I (w _ _ _ q)⟩
variable {fr : Bool} {st : Stmt} {sts sts' : List Stmt} {sv su : S}
theorem sb_nil : SB X B fr [] nop := pss_nil.weak fun D σ H ⟨l, F, f, g, q, k⟩ => by
  cases q
  exact k σ F H (Le.refl F) g
theorem sb_one (h : SS X B fr st sv) : SB X B fr [st] sv := pss_one h
theorem sb_cons (h : SS X B fr st sv) (h' : SB X B fr sts su) : SB X B fr (st :: sts) (seq sv su) := (pss_cons h h').weak fun D σ H ⟨l, F, f, g, q, k⟩ => by
  obtain ⟨f1, h1, q⟩ := bnd q
  refine ⟨l, F, f1, g, h1, ?_⟩
  cases f1 with
  | nx l1 => exact fun σ1 F1 H1 le1 g1 => ⟨l1, F1, f, g1, q, k.mono le1⟩
  | bk l1 => cases q; exact k
  | ct l1 => cases q; exact k
  | rt d l1 => cases q; exact k
theorem ss_pass : SS X B fr (.Pass pos) nop := ps_pass.weak fun D σ H ⟨l, F, f, g, q, k⟩ => by
  cases q
  exact k σ F H (Le.refl F) g
theorem ss_break : SS X B fr (.Break pos) brk := ps_break.weak fun D σ H ⟨l, F, f, g, q, k⟩ => by
  cases q
  exact k σ F H (Le.refl F) g
theorem ss_continue : SS X B fr (.Continue pos) cnt := ps_continue.weak fun D σ H ⟨l, F, f, g, q, k⟩ => by
  cases q
  exact k σ F H (Le.refl F) g
theorem ss_ret {ev : E} (h : SE X B e ev) : SS X B false (.Return (some e) pos) (ret ev) := (ps_ret h).weak fun D σ H ⟨l, F, f, g, q, k⟩ => by
  obtain ⟨⟨d, l1⟩, h1, q⟩ := bnd q
  cases q
  exact ⟨l, F, d, l1, g, h1, fun v F' H' le g' rp => k v σ F' H' le ⟨g', fun _ => rp, fun z => by cases z⟩⟩
theorem ss_retF {ev : E} (h : SF X B e ev) : SS X B true (.Return (some e) pos) (ret ev) := (ps_ret h).weak fun D σ H ⟨l, F, f, g, q, k⟩ => by
  obtain ⟨⟨d, l1⟩, h1, q⟩ := bnd q
  cases q
  exact ⟨l, F, d, l1, g, h1, fun p F' H' le g' rp => k _ σ F' H' le ⟨g', fun z => (by cases z), fun _ => ⟨p, rfl, rp⟩⟩⟩
theorem ss_retV {i : Nat} (h : PE X e (tVar i)) : SS X B true (.Return (some e) pos) (retV i) := (ps_ret h).weak fun D σ H ⟨l, F, f, g, q, k⟩ => by
  unfold retV at q
  split at q
  · rename_i d hd
    cases q
    obtain ⟨p, e1, o1, f1, hh⟩ := g.objAt (i := i) (d := d) (by rw [hd]; rfl)
    have hn : B.H0 p = none := (g.ow i d p hd e1).2
    have hi : i < l.length := by rw [g.len]; exact (List.getElem?_eq_some_iff.mp e1).1
    have g' := g.store i (some (.ref p)) .un (.inl rfl)
    have es : σ.set i (some (.ref p)) = σ := by
      refine List.ext_getElem? fun j => ?_
      by_cases z : j = i
      · subst z
        rw [List.getElem?_set_self (by rw [← g.len]; exact hi), e1]
      · rw [List.getElem?_set_ne (Ne.symm z)]
    rw [es] at g'
    refine ⟨_, e1, k _ σ F H (Le.refl F) ⟨g', fun z => (by cases z), fun _ => ⟨p, rfl, o1, f1, hn, fun j c r h1 h2 => ?_⟩⟩⟩
    by_cases z : j = i
    · subst z
      rw [nth_put_same hi] at h1
      cases h1
    · rw [nth_put_ne z] at h1
      intro y
      subst y
      exact z (g.dist j i c d r h1 (by rw [hd]; rfl) h2 e1)
  · cases q
theorem ss_retN : SS X B false (.Return none pos) retN := ps_retN.weak fun D σ H ⟨l, F, f, g, q, k⟩ => by
  cases q
  exact k .non σ F H (Le.refl F) ⟨g, fun _ => .non, fun z => by cases z⟩
theorem ss_expr {ev : E} (h : SE X B e ev) (hs : swapsWith e none pos.line X.env = pure false := by rfl) : SS X B fr (.Expr e pos) (exprS ev) := (ps_expr h hs).weak fun D σ H ⟨l, F, f, g, q, k⟩ => by
  obtain ⟨⟨d, l1⟩, h1, q⟩ := bnd q
  cases q
  exact ⟨l, F, d, l1, g, h1, fun v F' H' le g' _ => k σ F' H' le g'⟩
theorem ss_if {t : T} (hc : ST X B c t) (ha : SB X B fr sts sv) (hb : SB X B fr sts' su) : SS X B fr (.If c sts sts' pos) (ifS t sv su) := (ps_if hc ha hb).weak fun D σ H ⟨l, F, f, g, q, k⟩ => by
  obtain ⟨⟨b, l1⟩, h1, q⟩ := bnd q
  refine ⟨l, F, b, l1, g, h1, fun F' H' le g' => ?_⟩
  cases b with
  | true =>
    rw [if_pos rfl]
    exact ⟨l1, F', f, g', q, k.mono le⟩
  | false =>
    rw [if_neg Bool.false_ne_true]
    exact ⟨l1, F', f, g', q, k.mono le⟩
theorem ss_asg {ev : E} {gv : G} (he : SE X B e ev) (hg : SG X B tg gv) (hs : swapsWithSole [tg] e pos.line X.env = pure false := by rfl) (hw : swappedStores [tg] e X.env = pure none := by rfl) (h1 : (assignEach [tg] X.env).map (·.2) = [assign tg X.env] := by rfl) : SS X B fr (.Assign [tg] e pos) (asg gv ev) :=
  (ps_asg he hg hs hw h1).weak fun D σ H ⟨l, F, f, g, q, k⟩ => by
    obtain ⟨⟨d, l1⟩, h1, q⟩ := bnd q
    obtain ⟨l2, h2, q⟩ := bnd q
    cases q
    exact ⟨l, F, d, l1, g, h1, fun v F' H' le g' rp => ⟨l1, F', d, l2, g', rp, h2, fun σ2 F2 H2 le2 g2 => k σ2 F2 H2 (le.trans le2) g2⟩⟩
/-- a new object that only this name holds -/
theorem own_read {ev : E} {i : Nat} {x : Str} (hi : X.N[i]? = some x) {D : Ends} {σ : Sl} {H : Hp} (hσ : σ.length = X.N.length) (h : tS X.K B fr (own i ev) D σ H) : tF X.K B ev σ H (fun v H1 => D.nx (σ.set i (some v)) H1) := by
  obtain ⟨l, F, f, g, q, k⟩ := h
  obtain ⟨⟨d, l1⟩, h1, q⟩ := bnd q
  cases q
  refine ⟨l, F, d, l1, g, h1, fun p F' H' le g' fp => k _ F' H' le (g'.storeOwn i fp ?_)⟩
  rw [g'.len, hσ]
  exact (List.getElem?_eq_some_iff.mp hi).1
theorem ss_own {ev : E} {i : Nat} {x : Str} (hi : X.N[i]? = some x) (h : PS X st (tAsg (tF X.K B ev) (gName i))) : SS X B fr st (own i ev) :=
  ⟨fun pins s σ H D I q => h.run pins s σ H D I (own_read hi I.len q)⟩
theorem ss_asgLc {ev : E} {i : Nat} (h : PS X st (tAsg (tE X.K B ev) (gName i))) : SS X B fr st (asg (gname i) ev) := h.weak fun D σ H ⟨l, F, f, g, q, k⟩ => by
  obtain ⟨⟨d, l1⟩, h1, q⟩ := bnd q
  cases q
  exact ⟨l, F, d, l1, g, h1, fun v F' H' le g' rp => k _ F' H' le (g'.store i (some v) (.fz d) (.inr ⟨d, v, rfl, rfl, rp⟩))⟩

/-! ### loops -/
theorem drop_of {α : Type} {xs : List α} {i : Nat} {x : α} (h : xs[i]? = some x) : xs.drop i = x :: xs.drop (i + 1) := by
  obtain ⟨hi, e⟩ := List.getElem?_eq_some_iff.mp h
  rw [List.drop_eq_getElem_cons hi, e]
theorem ss_for {iv : It} {gv : G} (hp : PassesOwn (model X.prog X.w) X.A X.env X.xe) (hc : X.calm = true) (hi : SI X B tg e iv) (hg : SG X B tg gv) (hb : SB X B fr sts sv) (hs : ∀ x, foldedSetIterable e X.env x = pure x := by intro _; rfl) : SS X B fr (.For tg e sts [] pos) (forS iv gv sv) :=
  (ps_for hp hc hi hg hb hs).weak fun D σ H ⟨l, F, f, g, q, k⟩ => by
    obtain ⟨⟨ds, l1⟩, h1, q⟩ := bnd q
    refine ⟨l, F, ds, l1, g, h1, fun J F1 H1 G Y le1 g1 w => ?_⟩
    refine for_it w.w (fun i σ H => ∃ li Fi, Le F1 Fi ∧ Gd X.K B li Fi σ H ∧ forL gv sv (ds.drop i) li = some f) ⟨l1, F1, Le.refl F1, g1, q⟩ (fun i σ H _ ⟨li, Fi, le, gi, _⟩ => w.stands Fi H le gi.fh) ?_ ?_
    · rintro i x σ2 H2 H3 hi ⟨li, Fi, le, gi, hr⟩ y
      obtain ⟨F3, d, hd, gr, rp⟩ := w.gives i H2 x H3 Fi y le gi.fh
      rw [drop_of hd] at hr
      obtain ⟨l2, h2, hr⟩ := bnd hr
      obtain ⟨f2, h3, hr⟩ := bnd hr
      refine ⟨li, F3, d, l2, gi.grow gr, rp, h2, fun σ4 F4 H4 le4 g4 => ⟨l2, F4, f2, g4, h3, ?_⟩⟩
      have le' : Le F1 F4 := le.trans (gr.le.trans le4)
      cases f2 with
      | nx l3 => exact fun σ5 F5 H5 le5 g5 => ⟨l3, F5, le'.trans le5, g5, hr⟩
      | ct l3 => exact fun σ5 F5 H5 le5 g5 => ⟨l3, F5, le'.trans le5, g5, hr⟩
      | bk l3 =>
        cases hr
        exact fun σ5 F5 H5 le5 g5 => k σ5 F5 H5 (le1.trans (le'.trans le5)) g5
      | rt d3 l3 =>
        cases hr
        exact fun v σ5 F5 H5 le5 g5 => k v σ5 F5 H5 (le1.trans (le'.trans le5)) g5
    · rintro σ2 H2 ⟨li, Fi, le, gi, hr⟩
      rw [List.drop_length] at hr
      cases hr
      exact k σ2 Fi H2 (le1.trans le) gi
theorem ss_while {t : T} {fuel : Nat} (hp : PassesOwn (model X.prog X.w) X.A X.env X.xe) (hc : ST X B c t) (hb : SB X B fr sts sv) : SS X B fr (.While c sts [] pos) (whileS fuel t sv) :=
  (ps_while hp hc hb).weak fun D σ H ⟨l, F, f, g, q, k⟩ => by
    refine ⟨fun m σ H => ∃ li Fi, Le F Fi ∧ Gd X.K B li Fi σ H ∧ whileL t sv m li = some f, ⟨fuel, l, F, Le.refl F, g, q⟩, ?_⟩
    rintro m σ2 H2 ⟨li, Fi, le, gi, hr⟩
    cases m with
    | zero => cases hr
    | succ m =>
      obtain ⟨⟨b, l1⟩, h1, hr⟩ := bnd hr
      refine ⟨li, Fi, b, l1, gi, h1, fun F1 H1 le1 g1 => ?_⟩
      cases b with
      | true =>
        rw [if_pos rfl]
        obtain ⟨f2, h3, hr⟩ := bnd hr
        refine ⟨fun σ' H' => ∃ l2 F2, Le F F2 ∧ Gd X.K B l2 F2 σ' H' ∧ whileL t sv m l2 = some f, fun σ' H' z => ⟨m, Nat.lt_succ_self m, z⟩, l1, F1, f2, g1, h3, ?_⟩
        have le' : Le F F1 := le.trans le1
        cases f2 with
        | nx l3 => exact fun σ5 F5 H5 le5 g5 => ⟨l3, F5, le'.trans le5, g5, hr⟩
        | ct l3 => exact fun σ5 F5 H5 le5 g5 => ⟨l3, F5, le'.trans le5, g5, hr⟩
        | bk l3 =>
          cases hr
          exact fun σ5 F5 H5 le5 g5 => k σ5 F5 H5 (le'.trans le5) g5
        | rt d3 l3 =>
          cases hr
          exact fun v σ5 F5 H5 le5 g5 => k v σ5 F5 H5 (le'.trans le5) g5
      | false =>
        rw [if_neg Bool.false_ne_true]
        cases hr
        exact k σ2 F1 H1 (le.trans le1) g1
end
end Py


namespace Py
open L2 PySem PySem.Spec
/-! ### an object beside the names' -/
abbrev Base.prot (B : Base) (p : Addr) (o : HO) : Base := { B with H0 := upd B.H0 p o }
section
variable {K : PySem.W.Frag} {B : Base} {l l' : Loc} {F F' : Hp} {σ σ' : Sl} {H H' : Hp} {p : Addr} {o : HO} {d : D}
theorem Fresh.f0 (g : Gd K B l F σ H) (f : Fresh K B l F σ H p d) : B.F0 p = none ∧ p ∉ B.io := by
  refine ⟨?_, fun h => g.bi p h f.hn⟩
  cases q : B.F0 p with
  | none => rfl
  | some u =>
    obtain ⟨u', e, _⟩ := g.ff p u q
    rw [f.fn] at e
    cases e
theorem Gd.prot (g : Gd K B l F σ H) (f : Fresh K B l F σ H p d) (ho : H p = some o) : Gd K (B.prot p o) l F σ H where
  ff := g.ff
  fh := g.fh
  nw := fun a h => by
    rcases g.nw a h with z | z
    · exact .inl z
    · refine .inr ?_
      show upd B.H0 p o a = none
      rw [upd_ne (fun y => by subst y; exact h f.fn)]
      exact z
  keep := fun a u h1 h2 h3 => by
    have h1 : upd B.H0 p o a = some u := h1
    by_cases y : a = p
    · subst y; rw [upd_same] at h1; rw [ho]; exact h1
    · rw [upd_ne y] at h1; exact g.keep a u h1 h2 h3
  dom := fun a h => by
    have h : upd B.H0 p o a ≠ none := h
    by_cases y : a = p
    · subst y; rw [ho]; exact fun z => by cases z
    · rw [upd_ne y] at h; exact g.dom a h
  len := g.len
  bi := fun q h => by
    show upd B.H0 p o q ≠ none
    by_cases y : q = p
    · subst y; rw [upd_same]; exact fun z => by cases z
    · rw [upd_ne y]; exact g.bi q h
  slot := g.slot
  ow := fun i c r h1 h2 => ⟨(g.ow i c r h1 h2).1, by
    show upd B.H0 p o r = none
    rw [upd_ne (f.ne i c r (by rw [h1]; rfl) h2)]
    exact (g.ow i c r h1 h2).2⟩
  io := g.io
  dist := g.dist
theorem Gd.unprot (g : Gd K (B.prot p o) l F σ H) (hn : B.H0 p = none) (h0 : B.F0 p = none) (hi : p ∉ B.io) : Gd K B l F σ H ∧ H p = some o ∧ F p = none ∧ ∀ i e q, (nth l i).obj = some e → σ[i]? = some (some (.ref q)) → q ≠ p := by
  have hp : H p = some o := g.keep p o upd_same h0 hi
  have hf : F p = none := by
    cases q : F p with
    | none => rfl
    | some u =>
      rcases g.nw p (by rw [q]; exact fun z => by cases z) with z | z
      · exact absurd h0 z
      · have z : upd B.H0 p o p = none := z
        rw [upd_same] at z
        cases z
  have ne : ∀ i e q, (nth l i).obj = some e → σ[i]? = some (some (.ref q)) → q ≠ p := fun i e q h1 h2 y => by
    subst y
    rcases obj_cases h1 with z | z
    · have w : upd B.H0 q o q = none := (g.ow i e q z h2).2
      rw [upd_same] at w
      cases w
    · exact hi (g.io i e q z h2).2
  refine ⟨⟨g.ff, g.fh, fun a h => ?_, fun a u h1 h2 h3 => ?_, fun a h => ?_, g.len, fun q h => ?_, g.slot, fun i c r h1 h2 => ⟨(g.ow i c r h1 h2).1, ?_⟩, g.io, g.dist⟩, hp, hf, ne⟩
  · rcases g.nw a h with z | z
    · exact .inl z
    · have z : upd B.H0 p o a = none := z
      refine .inr ?_
      by_cases y : a = p
      · subst y; exact hn
      · rw [upd_ne y] at z; exact z
  · refine g.keep a u ?_ h2 h3
    show upd B.H0 p o a = some u
    rw [upd_ne (fun y => by subst y; rw [hn] at h1; cases h1)]
    exact h1
  · refine g.dom a ?_
    show upd B.H0 p o a ≠ none
    rw [upd_ne (fun y => by subst y; exact h hn)]
    exact h
  · have z : upd B.H0 p o q ≠ none := g.bi q h
    rw [upd_ne (fun y => by subst y; exact hi h)] at z
    exact z
  · have z : upd B.H0 p o r = none := (g.ow i c r h1 h2).2
    rw [upd_ne (ne i c r (by rw [h1]; rfl) h2)] at z
    exact z
/-- an object beside the names' is changed -/
theorem Gd.poke (g : Gd K B l F σ H) (hf : F p = none) (hn : B.H0 p = none) (ne : ∀ i e q, (nth l i).obj = some e → σ[i]? = some (some (.ref q)) → q ≠ p) (o : HO) : Gd K B l F σ (upd H p o) where
  ff := g.ff
  fh := fun a u h => by rw [upd_ne (ne_of_none h hf)]; exact g.fh a u h
  nw := g.nw
  keep := fun a u h1 h2 h3 => by rw [upd_ne (ne_of_none h1 hn)]; exact g.keep a u h1 h2 h3
  dom := fun a h => by
    by_cases y : a = p
    · subst y; rw [upd_same]; exact fun z => by cases z
    · rw [upd_ne y]; exact g.dom a h
  len := g.len
  bi := g.bi
  slot := fun i => by
    have s := g.slot i
    cases q : nth l i with
    | un => trivial
    | fz c =>
      rw [q] at s
      match hq : σ[i]?, s with
      | some (some v), s => exact s
    | ow c =>
      obtain ⟨r, e1, o1, _⟩ := g.objAt (i := i) (d := c) (by rw [q]; rfl)
      rw [e1]
      exact o1.mono (Le.refl F) (upd_ne (ne i c r (by rw [q]; rfl) e1))
    | io c =>
      obtain ⟨r, e1, o1, _⟩ := g.objAt (i := i) (d := c) (by rw [q]; rfl)
      rw [e1]
      exact o1.mono (Le.refl F) (upd_ne (ne i c r (by rw [q]; rfl) e1))
  ow := g.ow
  io := g.io
  dist := g.dist

/-! ### the names of a block -/
theorem Gd.wip (g : Gd K B l F σ H) : ∀ own : List Nat, Gd K B (wip l own) F (wipe σ own) H
  | [] => g
  | i :: is => (g.wip is).store i none .un (.inl rfl)
theorem wip_length (l : Loc) : ∀ own : List Nat, (Py.wip l own).length = l.length
  | [] => rfl
  | i :: is => by rw [Py.wip, put_length, wip_length l is]
theorem nth_wip_in {l : Loc} : ∀ {own : List Nat} {j : Nat}, j ∈ own → nth (Py.wip l own) j = .un
  | i :: is, j, h => by
    rw [Py.wip]
    by_cases z : j = i
    · subst z
      by_cases hj : j < (Py.wip l is).length
      · exact nth_put_same hj
      · rw [put_ge (Nat.le_of_not_lt hj), nth_ge (Nat.le_of_not_lt hj)]
    · rw [nth_put_ne z]
      exact nth_wip_in ((List.mem_cons.mp h).resolve_left z)
theorem nth_wip_out {l : Loc} : ∀ {own : List Nat} {j : Nat}, j ∉ own → nth (Py.wip l own) j = nth l j
  | [], _, _ => rfl
  | i :: is, j, h => by
    rw [Py.wip, nth_put_ne (fun z => h (by rw [z]; exact List.mem_cons_self))]
    exact nth_wip_out fun z => h (List.mem_cons_of_mem _ z)
theorem wipe_in {σ : Sl} : ∀ {vs : List Nat} {i : Nat}, i ∈ vs → i < σ.length → (wipe σ vs)[i]? = some none
  | v :: vs, i, h, hl => by
    rw [wipe]
    by_cases z : i = v
    · subst z
      exact List.getElem?_set_self (by rw [wipe_length]; exact hl)
    · rw [List.getElem?_set_ne (Ne.symm z)]
      exact wipe_in ((List.mem_cons.mp h).resolve_left z) hl
/-- the slots beside os are as they were -/
structure Out (os : List Nat) (σ σ' : Sl) : Prop where
  len : σ'.length = σ.length
  out : ∀ j, j ∉ os → σ'[j]? = σ[j]?
theorem Out.wipe {os : List Nat} (h : Out os σ σ') : L2.wipe σ' os = L2.wipe σ os := by
  refine List.ext_getElem? fun j => ?_
  by_cases z : j ∈ os
  · by_cases hl : j < σ.length
    · rw [wipe_in z hl, wipe_in z (by rw [h.len]; exact hl)]
    · rw [List.getElem?_eq_none (by rw [wipe_length, h.len]; omega), List.getElem?_eq_none (by rw [wipe_length]; omega)]
  · rw [wipe_out z, wipe_out z]
    exact h.out j z
theorem back_length (l0 l : Loc) : ∀ own : List Nat, (back l0 l own).length = l.length
  | [] => rfl
  | i :: is => by rw [back, put_length, back_length l0 l is]
theorem back_in {l0 l : Loc} (hl : l0.length = l.length) : ∀ {is : List Nat} {j : Nat}, j ∈ is → nth (back l0 l is) j = (match nth l0 j with | .fz d => .fz d | _ => .un)
  | i :: is, j, h => by
    rw [back]
    by_cases z : j = i
    · subst z
      by_cases hj : j < (back l0 l is).length
      · exact nth_put_same hj
      · rw [put_ge (Nat.le_of_not_lt hj), nth_ge (Nat.le_of_not_lt hj)]
        rw [back_length] at hj
        rw [nth_ge (l := l0) (by omega)]
    · rw [nth_put_ne z]
      exact back_in hl ((List.mem_cons.mp h).resolve_left z)
theorem back_out {l0 l : Loc} : ∀ {is : List Nat} {j : Nat}, j ∉ is → nth (back l0 l is) j = nth l j
  | [], _, _ => rfl
  | i :: is, j, h => by
    rw [back, nth_put_ne (fun z => h (by rw [z]; exact List.mem_cons_self))]
    exact back_out fun z => h (List.mem_cons_of_mem _ z)
theorem back_obj {l0 l : Loc} (hl : l0.length = l.length) {own : List Nat} {j : Nat} {c : D} (h : (nth (back l0 l own) j).obj = some c) : j ∉ own ∧ (nth l j).obj = some c := by
  by_cases z : j ∈ own
  · rw [back_in hl z] at h
    split at h <;> cases h
  · rw [back_out z] at h
    exact ⟨z, h⟩
/-- behind the block: its names told again as they were, where that was frozen data -/
theorem Gd.back {l0 : Loc} {F0 : Hp} {H0 : Hp} (g0 : Gd K B l0 F0 σ H0) (le : Le F0 F) {own : List Nat} (g : Gd K B (Py.wip l own) F (wipe σ own) H) : Gd K B (Py.back l0 l own) F σ H := by
  have hlen : l.length = σ.length := by
    have := g.len
    rw [wip_length, wipe_length] at this
    exact this
  have hl0 : l0.length = l.length := by rw [g0.len, hlen]
  have obj_out : ∀ {j : Nat} {c : D}, (nth (Py.back l0 l own) j).obj = some c → j ∉ own ∧ (nth (Py.wip l own) j).obj = some c := fun {j c} h => by
    obtain ⟨z, h⟩ := back_obj hl0 h
    exact ⟨z, by rw [nth_wip_out z]; exact h⟩
  have at_in : ∀ {j : Nat}, j ∈ own → nth (Py.back l0 l own) j = (match nth l0 j with | .fz d => .fz d | _ => .un) := fun {j} h => back_in hl0 h
  have at_out : ∀ {j : Nat}, j ∉ own → nth (Py.back l0 l own) j = nth l j := fun {j} h => back_out h
  refine ⟨g.ff, g.fh, g.nw, g.keep, g.dom, by rw [back_length]; exact hlen, g.bi, fun j => ?_, fun j c r h1 h2 => ?_, fun j c r h1 h2 => ?_, fun j k c c' r h1 h2 h3 h4 => ?_⟩
  · by_cases z : j ∈ own
    · rw [at_in z]
      have s := g0.slot j
      split
      · rename_i d hd
        rw [hd] at s
        match hq : σ[j]?, s with
        | some (some v), s => exact Rep.mono le s
      · trivial
    · rw [at_out z]
      have s := g.slot j
      rw [nth_wip_out z, wipe_out z] at s
      exact s
  · obtain ⟨z, _⟩ := obj_out (j := j) (c := c) (by rw [h1]; rfl)
    refine g.ow j c r (by rw [nth_wip_out z, ← h1, at_out z]) (by rw [wipe_out z]; exact h2)
  · obtain ⟨z, _⟩ := obj_out (j := j) (c := c) (by rw [h1]; rfl)
    refine g.io j c r (by rw [nth_wip_out z, ← h1, at_out z]) (by rw [wipe_out z]; exact h2)
  · obtain ⟨z1, q1⟩ := obj_out h1
    obtain ⟨z2, q2⟩ := obj_out h2
    exact g.dist j k c c' r q1 q2 (by rw [wipe_out z1]; exact h3) (by rw [wipe_out z2]; exact h4)
end

/-! ### the targets of a comprehension -/
def tGo (K : PySem.W.Frag) (B : Base) (os : List Nat) (gv : G) : TG := fun v σ H Q => ∃ l F d l', Gd K B l F σ H ∧ Rep K F v d ∧ gv d l = some l' ∧ ∀ σ' F' H', Le F F' → Gd K B l' F' σ' H' → Out os σ σ' → Q σ' H'
def tGos (K : PySem.W.Frag) (B : Base) (os : List Nat) (gs : List G) : TGs := fun vs σ H Q => ∃ l F ds l', Gd K B l F σ H ∧ RepAll K F vs ds ∧ gall gs ds l = some l' ∧ ∀ σ' F' H', Le F F' → Gd K B l' F' σ' H' → Out os σ σ' → Q σ' H'
abbrev SGo (X : Cx) (B : Base) (os : List Nat) (tg : Expr) (gv : G) : Prop := PG X tg (tGo X.K B os gv)
abbrev SGos (X : Cx) (B : Base) (os : List Nat) (tgs : List Expr) (gs : List G) : Prop := PGs X tgs (tGos X.K B os gs)
theorem Out.refl {os : List Nat} {σ : Sl} : Out os σ σ := ⟨rfl, fun _ _ => rfl⟩
theorem Out.trans {os : List Nat} {σ σ1 σ2 : Sl} (a : Out os σ σ1) (b : Out os σ1 σ2) : Out os σ σ2 := ⟨b.len.trans a.len, fun j h => (b.out j h).trans (a.out j h)⟩
section
variable {X : Cx} {B : Base} {a b c e tg iter tg1 iter1 elt : Expr} {pos p : Pos} {es ifs ifs1 : List Expr} {os : List Nat}
theorem sgo_name {i : Nat} (h : PG X tg (gName i)) (hi : i ∈ os := by decide) : SGo X B os tg (gname i) := h.weak fun v σ H Q ⟨l, F, d, l', g, r, q, k⟩ => by
  cases q
  exact k _ F H (Le.refl F) (g.store i (some v) (.fz d) (.inr ⟨d, v, rfl, rfl, r⟩)) ⟨List.length_set, fun j hj => List.getElem?_set_ne fun z => hj (by rw [← z]; exact hi)⟩
theorem sgos_nil : SGos X B os [] [] := pgs_nil.weak fun v σ H Q ⟨l, F, ds, l', g, r, q, k⟩ => by
  cases r with
  | nil =>
    cases q
    exact ⟨rfl, k σ F H (Le.refl F) g .refl⟩
  | cons _ _ => cases q
theorem sgos_cons {tgs : List Expr} {gv : G} {gs : List G} (h1 : SGo X B os tg gv) (h2 : SGos X B os tgs gs) (hs : (assignEach (tg :: tgs) X.env).map (·.2) = assign tg X.env :: (assignEach tgs X.env).map (·.2) := by rfl) : SGos X B os (tg :: tgs) (gv :: gs) :=
  (pgs_cons h1 h2 hs).weak fun v σ H Q ⟨l, F, ds, l', g, r, q, k⟩ => by
    cases r with
    | nil => cases q
    | cons r1 r2 =>
      obtain ⟨l1, h1, q⟩ := bnd q
      exact ⟨_, _, rfl, l, F, _, l1, g, r1, h1, fun σ' F' H' le g' o1 => ⟨l1, F', _, l', g', r2.mono le, q, fun σ2 F2 H2 le2 g2 o2 => k σ2 F2 H2 (le.trans le2) g2 (o1.trans o2)⟩⟩
theorem sgo_tup {k n : Nat} {gs : List G} (hc : X.calm = true) (h : SGos X B os es gs) (hg : gs.length = n := by rfl) (hn : (assignEach es X.env).length = n := by rfl) (hst : (assignEach es X.env).findIdx? (·.1) = none := by rfl) : SGo X B os (.Tuple es k pos) (gtup gs) :=
  ((pg_tup hc h hn hst).or (pg_unl hc h hn hst)).weak fun v σ H Q ⟨l, F, d, l', g, r, q, kk⟩ => by
    cases d with
    | tup ds =>
      cases r with
      | tup e1 r1 => exact .inl ⟨_, _, rfl, SqT.of (g.fh _ _ e1), by rw [r1.len, ← hg]; exact (gall_len q).symm, l, F, ds, l', g, r1, q, kk⟩
    | con ds =>
      cases r with
      | con e1 r1 => exact .inl ⟨_, _, rfl, SqT.up g.fh e1, by rw [r1.len, ← hg]; exact (gall_len q).symm, l, F, ds, l', g, r1, q, kk⟩
    | lst ds =>
      cases r with
      | lst e1 r1 => exact .inr ⟨_, _, rfl, SqL.of (g.fh _ _ e1), by rw [r1.len, ← hg]; exact (gall_len q).symm, l, F, ds, l', g, r1, q, kk⟩
    | _ => cases q

/-! tests -/
abbrev STs (X : Cx) (B : Base) (ifs : List Expr) (t : T) : Prop := PTs X ifs (tT X.K B t)
theorem sts_nil : STs X B [] tyes := ⟨fun pins s σ H Q I ⟨l, F, b, l', g, q, k⟩ => by
  cases q
  exact pts_nil.run pins s σ H Q I (k F H (Le.refl F) g)⟩
theorem sts_one {t : T} (h : ST X B c t) : STs X B [c] t := pts_one h

/-! ### comprehensions -/
theorem PG.ex {t : Base → TG} (h : ∀ B, PG X tg (t B)) : PG X tg (fun v σ H Q => ∃ B, t B v σ H Q) := ⟨fun pins s σ H v u Q I r ⟨B, q⟩ => (h B).run pins s σ H v u Q I r q⟩
theorem PTs.ex {t : Base → TT} (h : ∀ B, PTs X ifs (t B)) : PTs X ifs (fun σ H Q => ∃ B, t B σ H Q) := ⟨fun pins s σ H Q I ⟨B, q⟩ => (h B).run pins s σ H Q I q⟩
theorem PE.ex {t : Base → TE} (h : ∀ B, PE X e (t B)) : PE X e (fun σ H Q => ∃ B, t B σ H Q) := ⟨fun pins s σ H Q I ⟨B, q⟩ => (h B).run pins s σ H Q I q⟩
theorem PI.ex {t : Base → TI} (h : ∀ B, PI X tg e (t B)) : PI X tg e (fun σ H Q => ∃ B, t B σ H Q) := ⟨fun pins s σ H Q I ⟨B, q⟩ => (h B).run pins s σ H Q I q⟩
def xG (K : PySem.W.Frag) (os : List Nat) (gv : G) : TG := fun v σ H Q => ∃ B, tGo K B os gv v σ H Q
def xT (K : PySem.W.Frag) (t : T) : TT := fun σ H Q => ∃ B, tT K B t σ H Q
def xE (K : PySem.W.Frag) (ev : E) : TE := fun σ H Q => ∃ B, tE K B ev σ H Q
def xI (K : PySem.W.Frag) (iv : It) : TI := fun σ H Q => ∃ B, tI K B iv σ H Q
/-- one element is put at the end of the new list -/
theorem lc_read {K : PySem.W.Frag} {own : List Nat} {iv : It} {gv : G} {t : T} {ev : E} {σ : Sl} {H : Hp} {Q : VK} (h : tF K B (lc own iv gv t ev) σ H Q) :
    tLc (tI K B iv) (xG K own gv) (xT K t) (xE K ev) own σ H Q := by
  obtain ⟨l, F, d, l', g, q, k⟩ := h
  obtain ⟨⟨ds, l1⟩, h1, q⟩ := bnd q
  obtain ⟨⟨acc, l2⟩, h2, q⟩ := bnd q
  cases q
  refine ⟨l, F, ds, l1, g, h1, fun J F1 H1 G Y le1 g1 w D hD => ?_⟩
  refine lc_it (g := xG K own gv) (tt := xT K t) (te := xE K ev) (vs := own) (σ := σ) (H1 := H1) (D := D) (Qd := fun H => Q (.ref D) H) w.w (fun i H => ∃ li Fi ai, Le F1 Fi ∧ Gd K B (wip li own) Fi (wipe σ own) H ∧ Fresh K B (wip li own) Fi (wipe σ own) H D (.lst ai) ∧ lcGo own gv t ev (ds.drop i) ai li = some (acc, l2)) ?_ (fun i H _ ⟨li, Fi, ai, le, gi, _⟩ => w.stands Fi H le gi.fh) ?_ ?_
  · have gw := g1.wip own
    have fr : Fresh K B (wip l1 own) F1 (wipe σ own) (upd H1 D (.lst [])) D (.lst []) := by
      refine ⟨⟨[], upd_same, .nil⟩, fnone g1.fh hD, ?_, fun i e q hq hs => ?_⟩
      · cases z : B.H0 D with
        | none => rfl
        | some o => exact absurd hD (gw.dom D (by rw [z]; exact fun y => by cases y))
      · obtain ⟨p', e1, o1, _⟩ := gw.objAt hq
        rw [hs] at e1
        cases e1
        obtain ⟨o, ho, _⟩ := o1.here
        exact ne_of_none ho hD
    exact ⟨l1, F1, [], Le.refl F1, gw.poke fr.fn fr.hn fr.ne _, fr, h2⟩
  · rintro i x H2 H3 hi ⟨li, Fi, ai, le, gi, fi, hr⟩ y
    obtain ⟨F3, d, hd, gr, rp⟩ := w.gives i H2 x H3 Fi y le gi.fh
    rw [drop_of hd] at hr
    obtain ⟨l3, h3, hr⟩ := bnd hr
    obtain ⟨⟨b, l4⟩, h4, hr⟩ := bnd hr
    obtain ⟨vs, hv, ra⟩ := fi.own
    obtain ⟨f0, f1⟩ := fi.f0 gi
    have g3 : Gd K (B.prot D (.lst vs)) (wip li own) F3 (wipe σ own) H3 := (gi.prot fi hv).grow gr
    refine ⟨B.prot D (.lst vs), wip li own, F3, d, l3, g3, rp, h3, fun σ4 F4 H4 le4 g4 o4 => ⟨?_, B.prot D (.lst vs), l3, F4, b, l4, g4, h4, fun F5 H5 le5 g5 => ?_⟩⟩
    · rw [o4.wipe]
      exact Out.wipe ⟨wipe_length σ own, fun j hj => wipe_out hj⟩
    · have ew : wipe σ4 own = wipe σ own := by
        rw [o4.wipe]
        exact Out.wipe ⟨wipe_length σ own, fun j hj => wipe_out hj⟩
      have le35 : Le F1 F5 := le.trans (gr.le.trans (le4.trans le5))
      cases b with
      | true =>
        refine iteT ?_
        rw [if_pos rfl] at hr
        obtain ⟨⟨de, l6⟩, h6, hr⟩ := bnd hr
        simp only at hr
        split at hr
        · rename_i hz
          refine ⟨B.prot D (.lst vs), l4, F5, de, l6, g5, h6, fun v F6 H6 le6 g6 rv => ?_⟩
          have gw := g6.wip own
          rw [ew] at gw
          obtain ⟨gu, hp, hf, hne⟩ := gw.unprot fi.hn f0 f1
          refine ⟨vs, hp, by rw [ra.len, line_eq]; exact hz, l6, F6, ai ++ [de], le35.trans le6, gu.poke hf fi.hn hne _, ⟨⟨_, upd_same, (ra.mono (gr.le.trans (le4.trans (le5.trans le6)))).app (.one rv)⟩, hf, fi.hn, hne⟩, hr⟩
        · cases hr
      | false =>
        refine iteF ?_
        rw [if_neg Bool.false_ne_true] at hr
        have gw := g5.wip own
        rw [ew] at gw
        obtain ⟨gu, hp, hf, hne⟩ := gw.unprot fi.hn f0 f1
        exact ⟨l4, F5, ai, le35, gu, ⟨⟨vs, hp, ra.mono (gr.le.trans (le4.trans le5))⟩, hf, fi.hn, hne⟩, hr⟩
  · rintro H2 ⟨li, Fi, ai, le, gi, fi, hr⟩
    rw [List.drop_length] at hr
    cases hr
    have gb := Gd.back g1 le gi
    refine k D Fi H2 (le1.trans le) gb ⟨fi.own, fi.fn, fi.hn, fun i e q h1 h2 => ?_⟩
    have hl : l1.length = l2.length := by
      have := gi.len
      rw [wip_length, wipe_length] at this
      rw [g1.len, this]
    obtain ⟨z, h1⟩ := back_obj hl h1
    exact fi.ne i e q (by rw [nth_wip_out z]; exact h1) (by rw [wipe_out z]; exact h2)
end
end Py


namespace Py
open L2 PySem PySem.Spec
theorem nth_ext : ∀ {l m : Loc}, l.length = m.length → (∀ i, nth l i = nth m i) → l = m
  | [], [], _, _ => rfl
  | [], _ :: _, h, _ => by cases h
  | _ :: _, [], h, _ => by cases h
  | x :: l, y :: m, h, k => by
    have e := k 0
    rw [show x = y from e, nth_ext (l := l) (m := m) (Nat.succ.inj h) fun i => k (i + 1)]
theorem wip_wip {l : Loc} {own own1 : List Nat} (h : ∀ i ∈ own1, i ∈ own) : wip (wip l own1) own = wip l own := by
  refine nth_ext (by rw [wip_length, wip_length, wip_length]) fun i => ?_
  by_cases z : i ∈ own
  · rw [nth_wip_in z, nth_wip_in z]
  · rw [nth_wip_out z, nth_wip_out z, nth_wip_out fun y => z (h i y)]
theorem wipe_wipe {σ : Sl} {own own1 : List Nat} (h : ∀ i ∈ own1, i ∈ own) : wipe (wipe σ own1) own = wipe σ own :=
  Out.wipe ⟨wipe_length σ own1, fun j hj => wipe_out fun y => hj (h j y)⟩
section
variable {K : PySem.W.Frag} {B : Base}
/-- the new list D, of acc so far, stands beside -/
structure Acc (K : PySem.W.Frag) (B : Base) (l : Loc) (F : Hp) (σ : Sl) (H : Hp) (D : Addr) (acc : List Py.D) : Prop where
  g : Gd K B l F σ H
  f : Fresh K B l F σ H D (.lst acc)
theorem Acc.wip {l : Loc} {F : Hp} {σ : Sl} {H : Hp} {D : Addr} {acc : List Py.D} (h : Acc K B l F σ H D acc) (own : List Nat) : Acc K B (wip l own) F (wipe σ own) H D acc := by
  refine ⟨h.g.wip own, h.f.own, h.f.fn, h.f.hn, fun i e q h1 h2 => ?_⟩
  by_cases z : i ∈ own
  · rw [nth_wip_in z] at h1; cases h1
  · exact h.f.ne i e q (by rw [← nth_wip_out z]; exact h1) (by rw [← wipe_out z]; exact h2)
/-- behind a step with the list beside it -/
theorem Acc.back {l l' : Loc} {F F' : Hp} {σ σ' : Sl} {H H' : Hp} {D : Addr} {acc : List Py.D} {vs : List V} (h : Acc K B l F σ H D acc) (hv : H D = some (.lst vs)) (r : RepAll K F vs acc) (le : Le F F') (g : Gd K (B.prot D (.lst vs)) l' F' σ' H') : Acc K B l' F' σ' H' D acc := by
  obtain ⟨f0, f1⟩ := h.f.f0 h.g
  obtain ⟨gu, hp, hf, hne⟩ := g.unprot h.f.hn f0 f1
  exact ⟨gu, ⟨vs, hp, r.mono le⟩, hf, h.f.hn, hne⟩
theorem Acc.push {l l' : Loc} {F F' : Hp} {σ σ' : Sl} {H H' : Hp} {D : Addr} {acc : List Py.D} {vs : List V} {v : V} {d : Py.D} (h : Acc K B l F σ H D acc) (hv : H D = some (.lst vs)) (r : RepAll K F vs acc) (le : Le F F') (g : Gd K (B.prot D (.lst vs)) l' F' σ' H') (rv : Rep K F' v d) :
    H' D = some (.lst vs) ∧ Acc K B l' F' σ' (upd H' D (.lst (vs ++ [v]))) D (acc ++ [d]) := by
  obtain ⟨f0, f1⟩ := h.f.f0 h.g
  obtain ⟨gu, hp, hf, hne⟩ := g.unprot h.f.hn f0 f1
  exact ⟨hp, gu.poke hf h.f.hn hne _, ⟨_, upd_same, (r.mono le).app (.one rv)⟩, hf, h.f.hn, hne⟩
theorem Acc.prot {l : Loc} {F : Hp} {σ : Sl} {H : Hp} {D : Addr} {acc : List Py.D} (h : Acc K B l F σ H D acc) : ∃ vs, H D = some (.lst vs) ∧ RepAll K F vs acc ∧ Gd K (B.prot D (.lst vs)) l F σ H := by
  obtain ⟨vs, hv, r⟩ := h.f.own
  exact ⟨vs, hv, r, h.g.prot h.f hv⟩
theorem Acc.new {l : Loc} {F : Hp} {σ : Sl} {H : Hp} {D : Addr} (g : Gd K B l F σ H) (hD : H D = none) : Acc K B l F σ (upd H D (.lst [])) D [] := by
  have fr : Fresh K B l F σ (upd H D (.lst [])) D (.lst []) := by
    refine ⟨⟨[], upd_same, .nil⟩, fnone g.fh hD, ?_, fun i e q hq hs => ?_⟩
    · cases z : B.H0 D with
      | none => rfl
      | some o => exact absurd hD (g.dom D (by rw [z]; exact fun y => by cases y))
    · obtain ⟨p', e1, o1, _⟩ := g.objAt hq
      rw [hs] at e1
      cases e1
      obtain ⟨o, ho, _⟩ := o1.here
      exact ne_of_none ho hD
  exact ⟨g.poke fr.fn fr.hn fr.ne _, fr⟩
theorem lc2_read {own own1 : List Nat} {iv iv1 : It} {gv gv1 : G} {t t1 : T} {ev : E} {σ : Sl} {H : Hp} {Q : VK} (hsub : ∀ i ∈ own1, i ∈ own) (h : tF K B (lc2 own own1 iv gv t iv1 gv1 t1 ev) σ H Q) :
    tLc2 (tI K B iv) (xG K own gv) (xT K t) (xI K iv1) (xG K own1 gv1) (xT K t1) (xE K ev) own own1 σ H Q := by
  obtain ⟨l, F, d, l', g, q, k⟩ := h
  obtain ⟨⟨ds, l1⟩, h1, q⟩ := bnd q
  obtain ⟨⟨aend, l2⟩, h2, q⟩ := bnd q
  cases q
  refine ⟨l, F, ds, l1, g, h1, fun J F1 H1 G Y le1 g1 w D hD => ?_⟩
  let Pv : Nat → Hp → Prop := fun i H => ∃ li Fi ai, Le F1 Fi ∧ Acc K B (wip li own) Fi (wipe σ own) H D ai ∧ lcOut own own1 gv t iv1 gv1 t1 ev (ds.drop i) ai li = some (aend, l2)
  refine ⟨fun i m H => m = ds.length - i ∧ i ≤ ds.length ∧ Pv i H, ⟨ds.length, by simp, Nat.zero_le _, l1, F1, [], Le.refl F1, (Acc.new (g1.wip own) hD), h2⟩, ?_⟩
  rintro i m H2 ⟨rfl, hi, li, Fi, ai, le, A, hr⟩
  have hG := w.stands Fi H2 le A.g.fh
  by_cases hlt : i < ds.length
  · refine .inr ⟨w.w.goes i H2 hlt hG, Pv (i + 1), fun H' p' => ⟨ds.length - (i + 1), by omega, rfl, hlt, p'⟩, fun x H3 y => ?_⟩
    obtain ⟨F3, d, hd, gr, rp⟩ := w.gives i H2 x H3 Fi (w.w.yields i H2 x H3 hlt hG y) le A.g.fh
    rw [drop_of hd] at hr
    obtain ⟨l3, h3, hr⟩ := bnd hr
    obtain ⟨⟨b, l4⟩, h4, hr⟩ := bnd hr
    obtain ⟨vs, hv, ra, gp⟩ := A.prot
    refine ⟨B.prot D (.lst vs), wip li own, F3, d, l3, gp.grow gr, rp, h3, fun σ4 F4 H4 le4 g4 o4 => ⟨?_, B.prot D (.lst vs), l3, F4, b, l4, g4, h4, fun F5 H5 le5 g5 => ?_⟩⟩
    · rw [o4.wipe]
      exact Out.wipe ⟨wipe_length σ own, fun j hj => wipe_out hj⟩
    · have ew : wipe σ4 own = wipe σ own := by
        rw [o4.wipe]
        exact Out.wipe ⟨wipe_length σ own, fun j hj => wipe_out hj⟩
      have leI : Le Fi F5 := gr.le.trans (le4.trans le5)
      have A5 : Acc K B l4 F5 σ4 H5 D ai := A.back hv ra leI g5
      cases b with
      | true =>
        refine iteT ?_
        rw [if_pos rfl] at hr
        obtain ⟨⟨ds1, l6⟩, h6, hr⟩ := bnd hr
        obtain ⟨⟨a7, l7⟩, h7, hr⟩ := bnd hr
        obtain ⟨vs5, hv5, ra5, gp5⟩ := A5.prot
        refine ⟨B.prot D (.lst vs5), l4, F5, ds1, l6, gp5, h6, fun J1 F6 H6 G1 Y1 le6 g6 w1 => ?_⟩
        have A6 : Acc K B l6 F6 σ4 H6 D ai := A5.back hv5 ra5 le6 g6
        let Pv1 : Nat → Hp → Prop := fun j H => ∃ lj Fj aj, Le F6 Fj ∧ Acc K B (wip lj own1) Fj (wipe σ4 own1) H D aj ∧ lcIn own1 gv1 t1 ev (ds1.drop j) aj lj = some (a7, l7)
        refine ⟨fun j k H => k = ds1.length - j ∧ j ≤ ds1.length ∧ Pv1 j H, ⟨ds1.length, by simp, Nat.zero_le _, l6, F6, ai, Le.refl F6, A6.wip own1, h7⟩, ?_⟩
        rintro j kk H7 ⟨rfl, hj, lj, Fj, aj, lej, Aj, hrj⟩
        have hG1 := w1.stands Fj H7 lej Aj.g.fh
        by_cases hjt : j < ds1.length
        · refine .inr ⟨w1.w.goes j H7 hjt hG1, Pv1 (j + 1), fun H' p' => ⟨ds1.length - (j + 1), by omega, rfl, hjt, p'⟩, fun x1 H8 y1 => ?_⟩
          obtain ⟨F8, d8, hd8, gr8, rp8⟩ := w1.gives j H7 x1 H8 Fj (w1.w.yields j H7 x1 H8 hjt hG1 y1) lej Aj.g.fh
          rw [drop_of hd8] at hrj
          obtain ⟨l9, h9, hrj⟩ := bnd hrj
          obtain ⟨⟨b9, l10⟩, h10, hrj⟩ := bnd hrj
          obtain ⟨vsj, hvj, raj, gpj⟩ := Aj.prot
          refine ⟨B.prot D (.lst vsj), wip lj own1, F8, d8, l9, gpj.grow gr8, rp8, h9, fun σ9 F9 H9 le9 g9 o9 => ⟨?_, B.prot D (.lst vsj), l9, F9, b9, l10, g9, h10, fun F10 H10 le10 g10 => ?_⟩⟩
          · rw [o9.wipe]
            exact Out.wipe ⟨wipe_length σ4 own1, fun j hj => wipe_out hj⟩
          · have ew9 : wipe σ9 own1 = wipe σ4 own1 := by
              rw [o9.wipe]
              exact Out.wipe ⟨wipe_length σ4 own1, fun j hj => wipe_out hj⟩
            have lej' : Le Fj F10 := gr8.le.trans (le9.trans le10)
            cases b9 with
            | true =>
              refine iteT ?_
              rw [if_pos rfl] at hrj
              obtain ⟨⟨de, l11⟩, h11, hrj⟩ := bnd hrj
              simp only at hrj
              split at hrj
              · rename_i hz
                refine ⟨B.prot D (.lst vsj), l10, F10, de, l11, g10, h11, fun v F11 H11 le11 g11 rv => ?_⟩
                obtain ⟨hp, An⟩ := Aj.push hvj raj (lej'.trans le11) g11 rv
                have An' := An.wip own1
                rw [ew9] at An'
                exact ⟨vsj, hp, by rw [raj.len, line_eq]; exact hz, l11, F11, _, (lej.trans lej').trans le11, An', hrj⟩
              · cases hrj
            | false =>
              refine iteF ?_
              rw [if_neg Bool.false_ne_true] at hrj
              have An := (Aj.back hvj raj lej' g10).wip own1
              rw [ew9] at An
              exact ⟨l10, F10, aj, lej.trans lej', An, hrj⟩
        · have e : j = ds1.length := by omega
          subst e
          rw [List.drop_length] at hrj
          cases hrj
          have An := Aj.wip own
          rw [wip_wip hsub, wipe_wipe hsub, ew] at An
          exact .inl ⟨w1.w.stops H7 hG1, l7, Fj, a7, le.trans (leI.trans (le6.trans lej)), An, hr⟩
      | false =>
        refine iteF ?_
        rw [if_neg Bool.false_ne_true] at hr
        have An := A5.wip own
        rw [ew] at An
        exact ⟨l4, F5, ai, le.trans leI, An, hr⟩
  · have e : i = ds.length := by omega
    subst e
    rw [List.drop_length] at hr
    cases hr
    have gb := Gd.back g1 le A.g
    have hl : l1.length = l2.length := by
      have := A.g.len
      rw [wip_length, wipe_length] at this
      rw [g1.len, this]
    refine .inl ⟨w.w.stops H2 hG, k D Fi H2 (le1.trans le) gb ⟨A.f.own, A.f.fn, A.f.hn, fun i e q h1 h2 => ?_⟩⟩
    obtain ⟨z, h1⟩ := back_obj hl h1
    exact A.f.ne i e q (by rw [nth_wip_out z]; exact h1) (by rw [wipe_out z]; exact h2)
end
section
variable {X : Cx} {B : Base} {fr : Bool} {tg iter tg1 iter1 elt e : Expr} {ifs ifs1 : List Expr} {scope : Scope} {own : List (Str × Nat)} {os os1 : List Nat} {pos : Pos} {iv iv1 : It} {gv gv1 : G} {t t1 : T} {ev : E}
abbrev Blk (X : Cx) (scope : Scope) (P : Cx → Prop) : Prop := ∀ (s : Shared) (H : Hp) (C : Addr) (cl : List (Str × Addr)) (fp : List Addr), P (X.blk s H scope (compEnvC scope cl C X.env) fp)
theorem sf_lc (hc : X.calm = true) (hN : X.N.Nodup) (ok : BlkOk X.N X.env.scope scope own) (ho : own.map (·.2) = os) (hi : SI X B tg iter iv) (hg : Blk X scope fun Y => ∀ B, SGo Y B os tg gv) (ht : Blk X scope fun Y => ∀ B, STs Y B ifs t) (he : Blk X scope fun Y => ∀ B, SE Y B elt ev)
    (hs : ∀ x, foldedSetIterable iter X.env x = pure x := by intro _; rfl) : SF X B (.ListComp elt [⟨tg, iter, ifs, 0⟩] scope pos) (lc os iv gv t ev) := by
  subst ho
  exact (pe_lc (g := xG X.K _ gv) (tt := xT X.K t) (te := xE X.K ev) hc hN hi ok (fun s H C cl fp => PG.ex fun B => hg s H C cl fp B) (fun s H C cl fp => PTs.ex fun B => ht s H C cl fp B) (fun s H C cl fp => PE.ex fun B => he s H C cl fp B) hs).weak fun σ H Q h => lc_read h
theorem sf_lc2 (hc : X.calm = true) (hN : X.N.Nodup) (ok : BlkOk X.N X.env.scope scope own) (ho : own.map (·.2) = os) (hv : ∀ i ∈ os1, i ∈ os) (hi : SI X B tg iter iv) (hg : Blk X scope fun Y => ∀ B, SGo Y B os tg gv) (ht : Blk X scope fun Y => ∀ B, STs Y B ifs t)
    (hi1 : Blk X scope fun Y => ∀ B, SI Y B tg1 iter1 iv1) (hg1 : Blk X scope fun Y => ∀ B, SGo Y B os1 tg1 gv1) (ht1 : Blk X scope fun Y => ∀ B, STs Y B ifs1 t1) (he : Blk X scope fun Y => ∀ B, SE Y B elt ev)
    (hs : ∀ x, foldedSetIterable iter X.env x = pure x := by intro _; rfl) (hs1 : ∀ env x, foldedSetIterable iter1 env x = pure x := by intro _ _; rfl) :
    SF X B (.ListComp elt [⟨tg, iter, ifs, 0⟩, ⟨tg1, iter1, ifs1, 0⟩] scope pos) (lc2 os os1 iv gv t iv1 gv1 t1 ev) := by
  subst ho
  exact (pe_lc2 (g := xG X.K _ gv) (tt := xT X.K t) (wi1 := xI X.K iv1) (g1 := xG X.K os1 gv1) (tt1 := xT X.K t1) (te := xE X.K ev) hc hN hi ok hv (fun s H C cl fp => PG.ex fun B => hg s H C cl fp B) (fun s H C cl fp => PTs.ex fun B => ht s H C cl fp B) (fun s H C cl fp => PI.ex fun B => hi1 s H C cl fp B) (fun s H C cl fp => PG.ex fun B => hg1 s H C cl fp B) (fun s H C cl fp => PTs.ex fun B => ht1 s H C cl fp B) (fun s H C cl fp => PE.ex fun B => he s H C cl fp B) hs hs1).weak fun σ H Q h => lc2_read hv h
/-! ### name = [..] on one line -/
theorem tF_of {K : PySem.W.Frag} {B : Base} {ev : E} {σ : Sl} {H : Hp} {Q : VK} (h : tE K B ev σ H Q) : tF K B ev σ H Q := by
  obtain ⟨l, F, d, l', g0, q, k⟩ := h
  refine ⟨l, F, d, l', g0, q, fun p F' H' le g' f => ?_⟩
  obtain ⟨o, ho, hr⟩ := f.own.here
  have le2 : Le F' (upd F' p o) := .of fun a u x => by rw [upd_ne (ne_of_none x f.fn)]; exact x
  refine k (.ref p) (upd F' p o) H' (le.trans le2) ⟨g'.ff.trans le2, fun a u x => ?_, fun a x => ?_, g'.keep, g'.dom, g'.len, g'.bi, fun i => (g'.slot i).mono le2 fun _ _ x => x, fun i c r h1 h2 => ?_, fun i c r h1 h2 => ?_, g'.dist⟩ (hr _ upd_same le2)
  · by_cases z : a = p
    · subst z; rw [upd_same] at x; rw [ho]; exact x
    · rw [upd_ne z] at x; exact g'.fh a u x
  · by_cases z : a = p
    · exact .inr (by rw [z]; exact f.hn)
    · rw [upd_ne z] at x; exact g'.nw a x
  · rw [upd_ne (f.ne i c r (by rw [h1]; rfl) h2)]; exact g'.ow i c r h1 h2
  · rw [upd_ne (f.ne i c r (by rw [h1]; rfl) h2)]; exact g'.io i c r h1 h2
variable {i : Nat} {y : Str} {py spos : Pos} {st : Stmt}
theorem ps_lc (hc : X.calm = true) (hN : X.N.Nodup) (hy : X.N[i]? = some y) (hyl : X.env.scope.names.lookup y = some .local) (hsw : swapsWith (.ListComp elt [⟨tg, iter, ifs, 0⟩] scope pos) (some (.Name y py)) spos.line X.env = pure true)
    (ok : BlkOk X.N X.env.scope scope own) (ho : own.map (·.2) = os) (hi : SI X B tg iter iv) (hg : Blk X scope fun Y => ∀ B, SGo Y B os tg gv) (ht : Blk X scope fun Y => ∀ B, STs Y B ifs t) (he : Blk X scope fun Y => ∀ B, SE Y B elt ev)
    (hs : ∀ x, foldedSetIterable iter X.env x = pure x := by intro _; rfl) : PS X (.Assign [.Name y py] (.ListComp elt [⟨tg, iter, ifs, 0⟩] scope pos) spos) (tAsg (tF X.K B (lc os iv gv t ev)) (gName i)) := by
  subst ho
  exact (ps_setLc (g := xG X.K _ gv) (tt := xT X.K t) (te := xE X.K ev) hc hN hy hyl hsw hi ok (fun s H C cl fp => PG.ex fun B => hg s H C cl fp B) (fun s H C cl fp => PTs.ex fun B => ht s H C cl fp B) (fun s H C cl fp => PE.ex fun B => he s H C cl fp B) hs).weak fun D σ H h => lc_read h
theorem ps_lc2 (hc : X.calm = true) (hN : X.N.Nodup) (hy : X.N[i]? = some y) (hyl : X.env.scope.names.lookup y = some .local) (hsw : swapsWith (.ListComp elt [⟨tg, iter, ifs, 0⟩, ⟨tg1, iter1, ifs1, 0⟩] scope pos) (some (.Name y py)) spos.line X.env = pure true)
    (ok : BlkOk X.N X.env.scope scope own) (ho : own.map (·.2) = os) (hv : ∀ i ∈ os1, i ∈ os) (hi : SI X B tg iter iv) (hg : Blk X scope fun Y => ∀ B, SGo Y B os tg gv) (ht : Blk X scope fun Y => ∀ B, STs Y B ifs t)
    (hi1 : Blk X scope fun Y => ∀ B, SI Y B tg1 iter1 iv1) (hg1 : Blk X scope fun Y => ∀ B, SGo Y B os1 tg1 gv1) (ht1 : Blk X scope fun Y => ∀ B, STs Y B ifs1 t1) (he : Blk X scope fun Y => ∀ B, SE Y B elt ev)
    (hs : ∀ x, foldedSetIterable iter X.env x = pure x := by intro _; rfl) (hs1 : ∀ env x, foldedSetIterable iter1 env x = pure x := by intro _ _; rfl) :
    PS X (.Assign [.Name y py] (.ListComp elt [⟨tg, iter, ifs, 0⟩, ⟨tg1, iter1, ifs1, 0⟩] scope pos) spos) (tAsg (tF X.K B (lc2 os os1 iv gv t iv1 gv1 t1 ev)) (gName i)) := by
  subst ho
  exact (ps_setLc2 (g := xG X.K _ gv) (tt := xT X.K t) (wi1 := xI X.K iv1) (g1 := xG X.K os1 gv1) (tt1 := xT X.K t1) (te := xE X.K ev) hc hN hy hyl hsw hi ok hv (fun s H C cl fp => PG.ex fun B => hg s H C cl fp B) (fun s H C cl fp => PTs.ex fun B => ht s H C cl fp B) (fun s H C cl fp => PI.ex fun B => hi1 s H C cl fp B) (fun s H C cl fp => PG.ex fun B => hg1 s H C cl fp B) (fun s H C cl fp => PTs.ex fun B => ht1 s H C cl fp B) (fun s H C cl fp => PE.ex fun B => he s H C cl fp B) hs hs1).weak fun D σ H h => lc2_read hv h
theorem ss_asgLcF {fr : Bool} (h : PS X st (tAsg (tF X.K B ev) (gName i))) : SS X B fr st (asg (gname i) ev) :=
  ss_asgLc (h.weak fun D σ H q => tF_of q)
end
end Py


namespace Py
open L2 PySem PySem.Spec

section
variable {X : Cx} {B : Base} {a b c e tg o : Expr} {pos p apos cpos : Pos} {oa ob : O} {es : List Expr} {fr : Bool} {i : Nat} {ev ek : E}
theorem Gd.lstAt {K : PySem.W.Frag} {B : Base} {l : Loc} {F : Hp} {σ : Sl} {H : Hp} (g : Gd K B l F σ H) {i : Nat} {xs : List D} (h : (nth l i).obj = some (.lst xs)) : ∃ p vs, σ[i]? = some (some (.ref p)) ∧ H p = some (.lst vs) ∧ RepAll K F vs xs ∧ F p = none := by
  obtain ⟨p, e, ⟨vs, hv, r⟩, f, _⟩ := g.objAt h
  exact ⟨p, vs, e, hv, r, f⟩
theorem isL_of {d : D} (h : isL d = true) : ∃ xs, d = .lst xs := by
  cases d <;> first | exact ⟨_, rfl⟩ | cases h
theorem list_ty {K : PySem.W.Frag} {H : Hp} {p : Addr} {vs : List V} (h : H p = some (.lst vs)) : tyV K "list" (.ref p) H := Or.inl ⟨rfl, vs, SqL.of h⟩
theorem ss_app (hv : PE X o (tVar i)) (he : SE X B e ev)
    (hbase : attributeBase o "append" X.env (eval o X.env) = eval o X.env := by rfl)
    (hfew : ((backTo cpos (starEach [e] X.env)).all (fun x => !x.1) && (backToKw cpos (keywordEach [] X.env)).all (fun x => x.1.isSome)
      && decide (([e] : List Expr).length + ([] : List Keyword).length + (if ([] : List Keyword).isEmpty then 0 else 1) < 30)) = true := by rfl)
    (hline : (apos.endLine == cpos.line) = true := by rfl) (hs : starEach [e] X.env = [(false, eval e X.env)] := by rfl)
    (hsw : swapsWith (.Call (.Attribute o "append" apos) [e] [] cpos) none pos.line X.env = pure false := by rfl) :
    SS X B fr (.Expr (.Call (.Attribute o "append" apos) [e] [] cpos) pos) (appS i ev) :=
  (ps_expr (pe_bm PySem.F.plainAttrs_list PySem.F.slot_list_append PySem.F.type_list_append mt_append hv (pa_cons he pa_nil hs) hbase hfew hline hs rfl) hsw).weak fun D σ H ⟨l, F, f, g, q, k⟩ => by
    obtain ⟨c0, h0, q⟩ := bnd q
    split at q
    · rename_i hl0
      obtain ⟨xs0, rfl⟩ := isL_of hl0
      obtain ⟨⟨d, l1⟩, h1, q⟩ := bnd q
      obtain ⟨c1, h2, q⟩ := bnd q
      obtain ⟨c2, h3, q⟩ := bnd q
      cases q
      obtain ⟨p0, vs0, e0, hp0, _, _⟩ := g.lstAt h0
      refine ⟨_, e0, list_ty hp0, l, F, d, l1, g, h1, fun v F1 H1 le1 g1 r1 => ?_⟩
      cases c1 with
      | lst xs =>
        simp only [appD] at h3
        split at h3
        · rename_i hz
          cases h3
          obtain ⟨p1, vs1, e1, hp1, rs, f1⟩ := g1.lstAt h2
          rw [e0] at e1
          cases e1
          refine ⟨_, vs1, v, rfl, rfl, hp1, by rw [rs.len]; exact hz, ?_⟩
          exact k σ F1 _ le1 (g1.change h2 e0 ⟨_, upd_same, rs.app (.one r1)⟩)
        · cases h3
      | _ => cases h3
    · cases q
theorem ss_ext (hv : PE X o (tVar i)) (he : SE X B e ev)
    (hbase : attributeBase o "extend" X.env (eval o X.env) = eval o X.env := by rfl)
    (hfew : ((backTo cpos (starEach [e] X.env)).all (fun x => !x.1) && (backToKw cpos (keywordEach [] X.env)).all (fun x => x.1.isSome)
      && decide (([e] : List Expr).length + ([] : List Keyword).length + (if ([] : List Keyword).isEmpty then 0 else 1) < 30)) = true := by rfl)
    (hline : (apos.endLine == cpos.line) = true := by rfl) (hs : starEach [e] X.env = [(false, eval e X.env)] := by rfl)
    (hsw : swapsWith (.Call (.Attribute o "extend" apos) [e] [] cpos) none pos.line X.env = pure false := by rfl) :
    SS X B fr (.Expr (.Call (.Attribute o "extend" apos) [e] [] cpos) pos) (extS i ev) :=
  (ps_expr (pe_bm PySem.F.plainAttrs_list PySem.F.slot_list_extend PySem.F.type_list_extend mt_extend hv (pa_cons he pa_nil hs) hbase hfew hline hs rfl) hsw).weak fun D σ H ⟨l, F, f, g, q, k⟩ => by
    obtain ⟨c0, h0, q⟩ := bnd q
    split at q
    · rename_i hl0
      obtain ⟨xs0, rfl⟩ := isL_of hl0
      obtain ⟨⟨d, l1⟩, h1, q⟩ := bnd q
      obtain ⟨c1, h2, q⟩ := bnd q
      obtain ⟨c2, h3, q⟩ := bnd q
      cases q
      obtain ⟨p0, vs0, e0, hp0, _, _⟩ := g.lstAt h0
      refine ⟨_, e0, list_ty hp0, l, F, d, l1, g, h1, fun v F1 H1 le1 g1 r1 => ?_⟩
      cases c1 with
      | lst xs =>
        cases d with
        | lst ys =>
          simp only [extD] at h3
          split at h3
          · rename_i hz
            cases h3
            obtain ⟨p1, vs1, e1, hp1, rs, f1⟩ := g1.lstAt h2
            rw [e0] at e1
            cases e1
            cases r1 with
            | lst ey ry =>
              refine ⟨_, _, vs1, _, rfl, rfl, hp1, g1.fh _ _ ey, by rw [rs.len, ry.len]; exact hz, ?_⟩
              exact k σ F1 _ le1 (g1.change h2 e0 ⟨_, upd_same, rs.app ry⟩)
          · cases h3
        | _ => cases h3
      | _ => cases h3
    · cases q
theorem RepAll.dropLast {K : PySem.W.Frag} {F : Hp} : ∀ {vs : List V} {ds : List D}, RepAll K F vs ds → RepAll K F vs.dropLast ds.dropLast
  | _, _, .nil => .nil
  | _, _, .cons a .nil => .nil
  | _, _, .cons a (.cons b c) => .cons a (RepAll.dropLast (.cons b c))
theorem RepAll.erase {K : PySem.W.Frag} {F : Hp} : ∀ {vs : List V} {ds : List D} (n : Nat), RepAll K F vs ds → RepAll K F (vs.eraseIdx n) (ds.eraseIdx n)
  | _, _, _, .nil => .nil
  | _, _, 0, .cons _ b => b
  | _, _, n + 1, .cons a b => .cons a (b.erase n)
theorem se_pop (hv : PE X o (tVar i)) (hbase : attributeBase o "pop" X.env (eval o X.env) = eval o X.env := by rfl) (hline : (apos.endLine == cpos.line) = true := by rfl) :
    SE X B (.Call (.Attribute o "pop" apos) [] [] cpos) (popE i) :=
  (pe_bm0 PySem.F.plainAttrs_list PySem.F.slot_list_pop PySem.F.type_list_pop mt_pop hv hbase hline).weak fun σ H Q ⟨l, F, d, l', g, q, k⟩ => by
    obtain ⟨c, h0, q⟩ := bnd q
    cases c with
    | lst xs =>
      obtain ⟨d', h1, q⟩ := bnd q
      cases q
      obtain ⟨p0, vs0, e0, hp0, rs, f0⟩ := g.lstAt h0
      obtain ⟨v, hv, rv⟩ := rs.get h1
      refine ⟨_, e0, list_ty hp0, _, vs0, v, rfl, rfl, hp0, by rw [rs.len]; exact hv, ?_⟩
      exact k v F _ (Le.refl F) (g.change h0 e0 ⟨_, upd_same, rs.dropLast⟩) rv
    | _ => cases q
theorem se_popAt (hv : PE X o (tVar i)) (he : SE X B e ev)
    (hbase : attributeBase o "pop" X.env (eval o X.env) = eval o X.env := by rfl)
    (hfew : ((backTo cpos (starEach [e] X.env)).all (fun x => !x.1) && (backToKw cpos (keywordEach [] X.env)).all (fun x => x.1.isSome)
      && decide (([e] : List Expr).length + ([] : List Keyword).length + (if ([] : List Keyword).isEmpty then 0 else 1) < 30)) = true := by rfl)
    (hline : (apos.endLine == cpos.line) = true := by rfl) (hs : starEach [e] X.env = [(false, eval e X.env)] := by rfl) :
    SE X B (.Call (.Attribute o "pop" apos) [e] [] cpos) (popA i ev) :=
  (pe_bm PySem.F.plainAttrs_list PySem.F.slot_list_pop PySem.F.type_list_pop mt_popAt hv (pa_cons he pa_nil hs) hbase hfew hline hs rfl).weak fun σ H Q ⟨l, F, d, l', g, q, k⟩ => by
    obtain ⟨c0, h0, q⟩ := bnd q
    split at q
    · rename_i hl0
      obtain ⟨xs0, rfl⟩ := isL_of hl0
      obtain ⟨⟨d1, l1⟩, h1, q⟩ := bnd q
      obtain ⟨c1, h2, q⟩ := bnd q
      obtain ⟨p0, vs0, e0, hp0, _, _⟩ := g.lstAt h0
      refine ⟨_, e0, list_ty hp0, l, F, d1, l1, g, h1, fun v F1 H1 le1 g1 r1 => ?_⟩
      cases c1 with
      | lst xs =>
        cases d1 with
        | int kk =>
          simp only at q
          split at q
          · rename_i hk
            obtain ⟨d', h3, q⟩ := bnd q
            cases q
            obtain ⟨p1, vs1, e1, hp1, rs, f1⟩ := g1.lstAt h2
            rw [e0] at e1
            cases e1
            cases r1
            obtain ⟨w, hw, rw'⟩ := rs.get h3
            have hlt : kk.toNat < vs1.length := (List.getElem?_eq_some_iff.mp hw).1
            refine ⟨_, vs1, kk, kk.toNat, w, rfl, rfl, hp1, by omega, by omega, seqIndex_of hk.1 (by omega), hw, ?_⟩
            exact k w F1 _ le1 (g1.change h2 e0 ⟨_, upd_same, rs.erase kk.toNat⟩) rw'
          · cases q
        | _ => cases q
      | _ => cases q
    · cases q

theorem seti_at {α : Type} {xs ys : List α} {i : Int} {v : α} (h : seti xs i v = some ys) : ∃ j, ixN xs.length i = some j ∧ ys = xs.set j v := by
  unfold seti at h
  unfold ixN
  split at h
  · rename_i h0
    split at h
    · rename_i h1
      cases h
      exact ⟨_, by rw [if_pos h0, if_pos h1], rfl⟩
    · cases h
  · rename_i h0
    split at h
    · rename_i h1
      cases h
      exact ⟨_, by rw [if_neg h0, if_pos h1], rfl⟩
    · cases h
/-- what is stored, by the two readings -/
theorem set_go {K : PySem.W.Frag} {B : Base} {l : Loc} {F : Hp} {σ : Sl} {H : Hp} (g : Gd K B l F σ H) {i : Nat} {c c' k d : D} {y v : V} (h : (nth l i).obj = some c) (q : setD c k d = some c') (ry : Rep K F y k) (rv : Rep K F v d) :
    ∃ p, σ[i]? = some (some (.ref p)) ∧ ((∃ xs kk j, y = .int kk ∧ H p = some (.lst xs) ∧ ixN xs.length kk = some j ∧ Gd K B (put l i ((nth l i).chg c')) F σ (upd H p (.lst (xs.set j v)))) ∨
      ∃ H', DPut H p y v H' ∧ Gd K B (put l i ((nth l i).chg c')) F σ H') := by
  obtain ⟨p, e, ow, f, _⟩ := g.objAt h
  refine ⟨p, e, ?_⟩
  cases c with
  | lst xs =>
    obtain ⟨vs, hv, r⟩ := ow
    cases k with
    | int kk =>
      cases ry
      cases z : seti xs kk d with
      | none => simp only [setD, z] at q; cases q
      | some ys =>
        simp only [setD, z] at q
        cases q
        obtain ⟨j, h1, rfl⟩ := seti_at z
        exact .inl ⟨vs, kk, j, rfl, hv, by rw [r.len]; exact h1, g.change h e ⟨_, upd_same, r.set rv j⟩⟩
    | _ => cases q
  | dic t kvs =>
    have q' : (if isKeyT t k && decide (kvs.length < line) then some (D.dic t (dput kvs k d)) else none) = some c' := by
      cases k <;> exact q
    rw [Option.ite_none_right_eq_some, Bool.and_eq_true] at q'
    obtain ⟨⟨hk, hl⟩, q'⟩ := q'
    cases q'
    have hl := of_decide_eq_true hl
    refine .inr ?_
    cases t with
    | false =>
      obtain ⟨ks, hv, r⟩ := ow
      obtain ⟨e2, _⟩ := Pk.key (H := H) (.inl ry) hk
      subst e2
      exact ⟨_, .k hv (by rw [r.len]; exact hl), g.change h e ⟨_, upd_same, r.put hk ry rv⟩⟩
    | true =>
      obtain ⟨ks, hv, r⟩ := ow
      cases k with
      | tup k =>
        have hk' : k.all isKey = true := hk
        cases ry with
        | tup e1 r1 =>
          have ev := keys_of r1 hk'
          subst ev
          exact ⟨_, .t hv (g.fh _ _ e1) (by rw [r.len]; exact hl), g.change h e ⟨_, upd_same, r.put hk' r1 rv⟩⟩
      | _ => cases hk
  | _ => cases ow
theorem set_any (hu : X.A.units + 1 < cLine) : PSet X fun o y v H Q => ∃ p, o = .ref p ∧ ((∃ xs kk j, y = .int kk ∧ H p = some (.lst xs) ∧ ixN xs.length kk = some j ∧ Q (upd H p (.lst (xs.set j v)))) ∨ ∃ H', DPut H p y v H' ∧ Q H') := by
  intro pins s σ H o y v ov iv u Q I ro ry rv h
  obtain ⟨p, e, h⟩ := h
  rcases h with ⟨xs, kk, j, h1, h2, h3, h4⟩ | ⟨H', h1, h2⟩
  · exact set_list pins s σ H o y v ov iv u Q I ro ry rv ⟨p, xs, kk, j, e, h1, h2, h3, h4⟩
  · subst e
    obtain rfl : ov = Value.ref p := ro
    exact d_setItem hu I h1 ry rv fun s' I' => ⟨H', I', h2⟩
theorem ss_set (hu : X.A.units + 1 < cLine) {spos : Pos} (hv : PE X o (tVar i)) (hk : SE X B c ek) (he : SE X B e ev)
    (ha : ∀ v, assign (.Subscript o c spos) X.env v = (do
      let ov ← holding [v] (eval o X.env)
      let iv ← holding [v, ov] (eval c X.env)
      standAt spos
      holding [v, ov, iv] (setItem ov iv v)
      release [v, ov, iv] []) := by intro _; rfl)
    (hs : swapsWithSole [.Subscript o c spos] e pos.line X.env = pure false := by rfl) (hw : swappedStores [.Subscript o c spos] e X.env = pure none := by rfl) (h1 : (assignEach [.Subscript o c spos] X.env).map (·.2) = [assign (.Subscript o c spos) X.env] := by rfl) :
    SS X B fr (.Assign [.Subscript o c spos] e pos) (setS i ek ev) :=
  (ps_asg he (pg_sub hv hk (set_any hu) ha) hs hw h1).weak fun D σ H ⟨l, F, f, g, q, k⟩ => by
    obtain ⟨⟨d, l1⟩, h1, q⟩ := bnd q
    obtain ⟨c0, h0, q⟩ := bnd q
    obtain ⟨⟨y, l2⟩, h2, q⟩ := bnd q
    obtain ⟨c1, h3, q⟩ := bnd q
    obtain ⟨c2, h4, q⟩ := bnd q
    cases q
    refine ⟨l, F, d, l1, g, h1, fun v F1 H1 le1 g1 r1 => ?_⟩
    obtain ⟨p0, e0, _⟩ := g1.objAt h0
    refine ⟨_, e0, l1, F1, y, l2, g1, h2, fun w F2 H2 le2 g2 r2 => ?_⟩
    obtain ⟨p2, e2, z⟩ := set_go g2 h3 h4 r2 (r1.mono le2)
    rw [e0] at e2
    cases e2
    refine ⟨p0, rfl, ?_⟩
    rcases z with ⟨xs, kk, j, z1, z2, z3, z4⟩ | ⟨H', z1, z2⟩
    · exact .inl ⟨xs, kk, j, z1, z2, z3, k σ F2 _ (le1.trans le2) z4⟩
    · exact .inr ⟨H', z1, k σ F2 _ (le1.trans le2) z2⟩
end
end Py


namespace Py
open L2 PySem PySem.Spec

/-! ### what a def promises -/
structure Aft (F H F' H' : Hp) (io : List Addr) : Prop where
  le : Le F F'
  fh : ∀ a o, F' a = some o → H' a = some o
  nw : ∀ a, F' a ≠ none → F a ≠ none ∨ H a = none
  keep : ∀ a o, H a = some o → F a = none → a ∉ io → H' a = some o
  dom : ∀ a, H a ≠ none → H' a ≠ none
/-- what it gives -/
def Gives (K : PySem.W.Frag) (fr : Bool) (F H F' H' : Hp) (v : V) (d : D) : Prop := if fr then ∃ p, v = .ref p ∧ Own K F' H' p d ∧ F' p = none ∧ H p = none else Rep K F' v d
def spP (K : PySem.W.Frag) (n : Nat) (fn : List D → Option D) (fr : Bool) : Sp := fun vs H Q _ => ∃ F ds d, vs.length = n ∧ (∀ a o, F a = some o → H a = some o) ∧ RepAll K F vs ds ∧ fn ds = some d ∧ (fr = true → isN d = false) ∧
  ∀ v F' H', Aft F H F' H' [] → Gives K fr F H F' H' v d → Q v H'
section
variable {K : PySem.W.Frag} {B : Base} {l : Loc} {F F' : Hp} {σ : Sl} {H H' : Hp}
theorem Gd.self (g : Gd K B l F σ H) : Aft B.F0 B.H0 F H B.io := ⟨g.ff, g.fh, g.nw, g.keep, g.dom⟩
theorem Gd.aft (g : Gd K B l F σ H) (r : Aft F H F' H' []) : Gd K B l F' σ H' := by
  have own : ∀ {i : Nat} {d : D}, (nth l i).obj = some d → ∃ p, σ[i]? = some (some (.ref p)) ∧ Own K F' H' p d ∧ F' p = none := fun {i d} h => by
    obtain ⟨p, h1, h2, h3, _⟩ := g.objAt h
    obtain ⟨o, ho, _⟩ := h2.here
    refine ⟨p, h1, h2.mono r.le (by rw [ho, r.keep p o ho h3 (by simp)]), ?_⟩
    cases q : F' p with
    | none => rfl
    | some o' =>
      rcases r.nw p (by rw [q]; exact fun z => by cases z) with z | z
      · exact absurd h3 z
      · rw [ho] at z
        cases z
  refine ⟨g.ff.trans r.le, r.fh, fun a h => ?_, fun a o h1 h2 h3 => ?_, fun a h => r.dom a (g.dom a h), g.len, g.bi, fun i => ?_, fun i d p h1 h2 => ?_, fun i d p h1 h2 => ?_, g.dist⟩
  · rcases r.nw a h with h | h
    · exact g.nw a h
    · refine .inr ?_
      cases q : B.H0 a with
      | none => rfl
      | some o => exact absurd h (g.dom a (by rw [q]; exact fun z => by cases z))
  · refine r.keep a o (g.keep a o h1 h2 h3) ?_ (by simp)
    cases q : F a with
    | none => rfl
    | some o' =>
      rcases g.nw a (by rw [q]; exact fun z => by cases z) with z | z
      · exact absurd h2 z
      · rw [h1] at z; cases z
  · have s := g.slot i
    cases q : nth l i with
    | un => trivial
    | fz d =>
      rw [q] at s
      match hq : σ[i]?, s with
      | some (some v), s => exact Rep.mono r.le s
    | ow d =>
      obtain ⟨p, h1, h2, _⟩ := own (i := i) (d := d) (by rw [q]; rfl)
      rw [h1]; exact h2
    | io d =>
      obtain ⟨p, h1, h2, _⟩ := own (i := i) (d := d) (by rw [q]; rfl)
      rw [h1]; exact h2
  · obtain ⟨p', q1, _, q3⟩ := own (i := i) (d := d) (by rw [h1]; rfl)
    rw [h2] at q1
    cases q1
    exact ⟨q3, (g.ow i d p h1 h2).2⟩
  · obtain ⟨p', q1, _, q3⟩ := own (i := i) (d := d) (by rw [h1]; rfl)
    rw [h2] at q1
    cases q1
    exact ⟨q3, (g.io i d p h1 h2).2⟩
theorem nth_fz : ∀ {ds : List D} {r : Loc} {i : Nat} {d : D}, ds[i]? = some d → nth (ds.map SV.fz ++ r) i = .fz d
  | [], _, _, _, h => by simp at h
  | _ :: _, _, 0, _, h => by simp at h; subst h; rfl
  | _ :: ds, r, i + 1, d, h => nth_fz (ds := ds) (i := i) (by simpa using h)
theorem nth_app : ∀ {xs r : Loc} {i : Nat}, nth (xs ++ r) (xs.length + i) = nth r i
  | [], r, i => by rw [List.length_nil, Nat.zero_add]; rfl
  | x :: xs, r, i => by
    rw [List.length_cons, Nat.add_right_comm]
    exact nth_app (xs := xs)
theorem nth_un : ∀ {n i : Nat}, nth (List.replicate n SV.un) i = .un
  | 0, _ => by cases ‹Nat› <;> rfl
  | n + 1, 0 => rfl
  | n + 1, i + 1 => nth_un (n := n) (i := i)
theorem gd_start {N : List Str} {vs : List V} {ds : List D} {n extra : Nat} (fh : ∀ a o, F a = some o → H a = some o) (r : RepAll K F vs ds) (hn : vs.length = n) (hN : N.length = n + extra) : Gd K ⟨F, H, []⟩ (ds.map SV.fz ++ List.replicate extra SV.un) F (start N vs) H := by
  have hl : ds.length = n := by rw [← r.len]; exact hn
  have shape : ∀ i, (∃ d v, nth (ds.map SV.fz ++ List.replicate extra SV.un) i = .fz d ∧ (start N vs)[i]? = some (some v) ∧ Rep K F v d) ∨ nth (ds.map SV.fz ++ List.replicate extra SV.un) i = .un := fun i => by
    by_cases hi : i < ds.length
    · have hd := List.getElem?_eq_getElem hi
      obtain ⟨v, hv, rv⟩ := r.get hd
      refine .inl ⟨_, v, nth_fz hd, ?_, rv⟩
      unfold L2.start
      rw [List.getElem?_append_left (by rw [List.length_map, r.len]; exact hi), List.getElem?_map, hv]
      rfl
    · refine .inr ?_
      obtain ⟨j, rfl⟩ := Nat.exists_eq_add_of_le (Nat.le_of_not_lt hi)
      have e : ds.length = (ds.map SV.fz).length := by rw [List.length_map]
      rw [e, nth_app]
      exact nth_un
  refine ⟨Le.refl F, fh, fun a h => .inl h, fun a o h1 _ _ => h1, fun a h => h, ?_, fun p h => (by cases h), fun i => ?_, fun i d p h1 h2 => ?_, fun i d p h1 h2 => ?_, fun i j d e p h1 h2 h3 h4 => ?_⟩
  · unfold L2.start
    rw [List.length_append, List.length_append, List.length_map, List.length_map, List.length_replicate, List.length_replicate, hl, hn, hN]
    omega
  · rcases shape i with ⟨d, v, h1, h2, h3⟩ | h
    · rw [h1, h2]; exact h3
    · rw [h]; trivial
  · rcases shape i with ⟨d', v, q1, q2, q3⟩ | h
    · rw [q1] at h1; cases h1
    · rw [h] at h1; cases h1
  · rcases shape i with ⟨d', v, q1, q2, q3⟩ | h
    · rw [q1] at h1; cases h1
    · rw [h] at h1; cases h1
  · rcases shape i with ⟨d', v, q1, q2, q3⟩ | h
    · rw [q1] at h1; cases h1
    · rw [h] at h1; cases h1
end
section
variable {P : Program} {w : World} {K : PySem.W.Frag} {mg : Str → Option Value} {base : Heap}
theorem fin_run {n extra : Nat} {sv : S} {ds : List D} {d : D} (h : run n extra sv ds = some d) : ds.length = n ∧ ∃ f, sv (ds.map SV.fz ++ List.replicate extra SV.un) = some f ∧ ((∃ l, f = .rt d l) ∨ (∃ l, f = .nx l) ∧ d = .non) := by
  unfold run at h
  split at h
  · rename_i hl
    refine ⟨hl, ?_⟩
    cases q : sv (ds.map SV.fz ++ List.replicate extra SV.un) with
    | none => rw [q] at h; cases h
    | some f =>
      rw [q] at h
      refine ⟨f, rfl, ?_⟩
      cases f with
      | rt d' l => cases h; exact .inl ⟨l, rfl⟩
      | nx l => cases h; exact .inr ⟨⟨l, rfl⟩, rfl⟩
      | bk l => cases h
      | ct l => cases h
  · cases h
/-- a def of the text, by its body's reading -/
theorem ok_of {x qual : Str} {st : Stmt} {f : Addr} {fd : FuncData} {N ps : List Str} {k : Nat} {sv : S} {fr : Bool} (n extra : Nat) (F : Fun K x qual st f fd) (S : FnScope N ps (defScope st)) 
    (hb : ∀ (B : Base) (cdv : Value) (A : Around) (outer : List Env) (s : Shared) (H : Hp) (E : XK), Room k (A.deeper (PyProof.Rows.envOfC qual (defScope st) s.heap.objs.size f cdv)) →
      SB (cxOf CX0 P w K mg base N qual (defScope st) f cdv A outer s H E).nox B fr (defBody st) sv) (hn : ps.length = n := by rfl) (hN : N.length = n + extra := by rfl) : FnOk P w K mg base CX0 (k + 1) f fd ps (spP K n (run n extra sv) fr) := by
  refine F.ok S (fun vs H Q E h => ?_) (fun cdv A outer s H vs Q E hr h => ?_)
  · obtain ⟨F, ds, d, h1, _⟩ := h
    rw [hn]; exact h1
  · obtain ⟨F0, ds, d, h1, fh, r, hd, hnn, q⟩ := h
    refine ⟨_, hb ⟨F0, H, []⟩ cdv A outer s H E hr, ?_⟩
    obtain ⟨_, fl, h2, h3⟩ := fin_run hd
    refine ⟨_, F0, fl, gd_start fh r h1 hN, h2, ?_⟩
    rcases h3 with ⟨l', rfl⟩ | ⟨⟨l', rfl⟩, rfl⟩
    · rintro v σ' F' H' le ⟨g', h4, h5⟩
      refine q v F' H' g'.self ?_
      cases fr with
      | false => exact h4 rfl
      | true =>
        obtain ⟨p, rfl, fp⟩ := h5 rfl
        exact ⟨p, rfl, fp.own, fp.fn, fp.hn⟩
    · rintro σ' F' H' le g'
      refine q .non F' H' g'.self ?_
      cases fr with
      | false => exact Rep.non
      | true => cases hnn rfl
end
section
variable {X : Cx} {B : Base} {a b c e : Expr} {pos p : Pos} {oa ob : O} {es : List Expr} {k n : Nat} {f : Addr} {fd : FuncData} {ps : List Str} {fn : List D → Option D} {x : Str} {ev : E} {evs : List E}
theorem se_call (F : FnOk X.prog X.w X.K X.mg X.base CX0 k f fd ps (spP X.K n fn false)) (hr : Room k X.A) (hg : Gl X x) (hm : X.mg x = some (.ref f)) (hk : PySem.W.keepIn X.K (.ref f) = true) (hb : Binds X.K fd ps [])
    (ha : SA X B (e :: es) (args (ev :: evs))) (hn : evs.length + 1 = n := by rfl) (hdb : (x == ("__debug__" : Str)) = false := by decide) (he : starEach (e :: es) X.env = (false, eval e X.env) :: starEach es X.env := by rfl) (hpl : (backTo pos (starEach es X.env)).any (·.1) = false := by rfl) :
    SE X B (.Call (.Name x p) (e :: es) [] pos) (call fn (ev :: evs)) :=
  (pe_call F hr hg hm hk hb .nil pass0 ha hdb he hpl).weak fun σ H Q ⟨l, F, d, l', g, q, kk⟩ => by
    obtain ⟨⟨ds, l1⟩, h1, q⟩ := bnd q
    obtain ⟨z, h2, q⟩ := bnd q
    cases q
    refine ⟨l, F, ds, l1, g, h1, fun vs F1 H1 le1 g1 r1 => ?_⟩
    refine ⟨F1, ds, d, ?_, g1.fh, by rw [List.append_nil]; exact r1, h2, fun z => (by cases z), fun v F' H' af gv => ?_⟩
    · rw [List.append_nil, r1.len, args_len h1]; exact hn
    · exact kk v F' H' (le1.trans af.le) (g1.aft af) gv
theorem se_call0 (F : FnOk X.prog X.w X.K X.mg X.base CX0 k f fd ps (spP X.K 0 fn false)) (hr : Room k X.A) (hg : Gl X x) (hm : X.mg x = some (.ref f)) (hk : PySem.W.keepIn X.K (.ref f) = true) (hb : Binds X.K fd ps [])
    (hdb : (x == ("__debug__" : Str)) = false := by decide) : SE X B (.Call (.Name x p) [] [] pos) (call fn []) :=
  (pe_call0 F hr hg hm hk hb .nil pass0 hdb).weak fun σ H Q ⟨l, F, d, l', g, q, kk⟩ => by
    obtain ⟨⟨ds, l1⟩, h1, q⟩ := bnd q
    obtain ⟨z, h2, q⟩ := bnd q
    cases h1
    cases q
    exact ⟨F, [], d, rfl, g.fh, .nil, h2, fun z => (by cases z), fun v F' H' af gv => kk v F' H' af.le (g.aft af) gv⟩
theorem sf_call (F : FnOk X.prog X.w X.K X.mg X.base CX0 k f fd ps (spP X.K n fn true)) (hr : Room k X.A) (hg : Gl X x) (hm : X.mg x = some (.ref f)) (hk : PySem.W.keepIn X.K (.ref f) = true) (hb : Binds X.K fd ps [])
    (ha : SA X B (e :: es) (args (ev :: evs))) (hn : evs.length + 1 = n := by rfl) (hdb : (x == ("__debug__" : Str)) = false := by decide) (he : starEach (e :: es) X.env = (false, eval e X.env) :: starEach es X.env := by rfl) (hpl : (backTo pos (starEach es X.env)).any (·.1) = false := by rfl) :
    SF X B (.Call (.Name x p) (e :: es) [] pos) (callF fn (ev :: evs)) :=
  (pe_call F hr hg hm hk hb .nil pass0 ha hdb he hpl).weak fun σ H Q ⟨l, F, d, l', g, q, kk⟩ => by
    obtain ⟨⟨ds, l1⟩, h1, q⟩ := bnd q
    obtain ⟨z, h2, q⟩ := bnd q
    split at q
    · cases q
    · rename_i hz
      cases q
      refine ⟨l, F, ds, l1, g, h1, fun vs F1 H1 le1 g1 r1 => ?_⟩
      refine ⟨F1, ds, d, ?_, g1.fh, by rw [List.append_nil]; exact r1, h2, fun _ => by simpa using hz, fun v F' H' af gv => ?_⟩
      · rw [List.append_nil, r1.len, args_len h1]; exact hn
      · obtain ⟨p, rfl, ow, fn, hn⟩ := gv
        have g2 := g1.aft af
        refine kk p F' H' (le1.trans af.le) g2 ⟨ow, fn, ?_, fun i e q h1 h2 y => ?_⟩
        · cases q : B.H0 p with
          | none => rfl
          | some o => exact absurd hn (g1.dom p (by rw [q]; exact fun z => by cases z))
        · subst y
          obtain ⟨p', e1, o1, _⟩ := g1.objAt h1
          rw [h2] at e1
          cases e1
          obtain ⟨o, ho, _⟩ := o1.here
          rw [ho] at hn
          cases hn
theorem sf_call0 (F : FnOk X.prog X.w X.K X.mg X.base CX0 k f fd ps (spP X.K 0 fn true)) (hr : Room k X.A) (hg : Gl X x) (hm : X.mg x = some (.ref f)) (hk : PySem.W.keepIn X.K (.ref f) = true) (hb : Binds X.K fd ps [])
    (hdb : (x == ("__debug__" : Str)) = false := by decide) : SF X B (.Call (.Name x p) [] [] pos) (callF fn []) :=
  (pe_call0 F hr hg hm hk hb .nil pass0 hdb).weak fun σ H Q ⟨l, F, d, l', g, q, kk⟩ => by
    obtain ⟨⟨ds, l1⟩, h1, q⟩ := bnd q
    obtain ⟨z, h2, q⟩ := bnd q
    cases h1
    split at q
    · cases q
    · rename_i hz
      cases q
      refine ⟨F, [], d, rfl, g.fh, .nil, h2, fun _ => by simpa using hz, fun v F' H' af gv => ?_⟩
      obtain ⟨p, rfl, ow, fn, hn⟩ := gv
      have g2 := g.aft af
      refine kk p F' H' af.le g2 ⟨ow, fn, ?_, fun i e q h1 h2 y => ?_⟩
      · cases q : B.H0 p with
        | none => rfl
        | some o => exact absurd hn (g.dom p (by rw [q]; exact fun z => by cases z))
      · subst y
        obtain ⟨p', e1, o1, _⟩ := g.objAt h1
        rw [h2] at e1
        cases e1
        obtain ⟨o, ho, _⟩ := o1.here
        rw [ho] at hn
        cases hn
end
/-- the law's own promise -/
theorem sp_end {K : PySem.W.Frag} {fn : List D → Option D} {H : Hp} {a : Addr} {ns : List Int} (hS : SqL K H a (ns.map V.int)) (h : fn [.scr ns] = some (.bl true)) : spP K 1 fn false [.ref a] H (fun v _ => v = .bl true) fun _ _ _ => False :=
  ⟨H, [.scr ns], .bl true, rfl, fun _ _ e => e, .cons (.scr hS) .nil, h, fun z => (by cases z), fun v F' H' _ gv => by
    have r : Rep K F' v (.bl true) := gv
    cases r
    rfl⟩
end Py


namespace Py
open L2 PySem PySem.Spec

section
variable {X : Cx} {B : Base} {a b c e tg o : Expr} {pos p apos cpos : Pos} {oa ob : O} {es : List Expr} {fr : Bool} {i : Nat} {ev ek ec : E}
/-! ### range(i, j, k) -/
theorem stepTo_get : ∀ (n i : Nat) (lo c : Int), i < n → (stepTo lo c n)[i]? = some (.int (lo + (i : Nat) * c))
  | 0, _, _, _, h => absurd h (Nat.not_lt_zero _)
  | n + 1, 0, lo, c, _ => by simp [stepTo]
  | n + 1, i + 1, lo, c, h => by
    rw [stepTo, List.getElem?_cons_succ, stepTo_get n i (lo + c) c (Nat.lt_of_succ_lt_succ h)]
    congr 2
    have e : ((i + 1 : Nat) : Int) * c = i * c + c := by rw [Int.natCast_add, Int.add_mul]; simp
    rw [e]
    omega
theorem stepTo_len : ∀ (n : Nat) (lo c : Int), (stepTo lo c n).length = n
  | 0, _, _ => rfl
  | n + 1, lo, c => congrArg (· + 1) (stepTo_len n (lo + c) c)
theorem tiny_of {i : Int} (h : tiny i = true) : -1000000000 < i ∧ i < 1000000000 := by
  unfold tiny at h
  have h1 := log_below (of_decide_eq_true h)
  have h2 : (2 : Nat) ^ 29 = 536870912 := by decide
  rw [h2] at h1
  constructor <;> omega
theorem ediv_le {a c : Int} (h : 0 ≤ a) (hc : 0 < c) : 0 ≤ a / c ∧ a / c ≤ a := ⟨Int.ediv_nonneg h (Int.le_of_lt hc), Int.ediv_le_self _ h⟩
theorem stepN_ok {i j k : Int} (hi : tiny i = true) (hj : tiny j = true) (hk : tiny k = true) (h0 : k ≠ 0) : RgC i j k (stepN i j k).toNat := by
  have hi := tiny_of hi
  have hj := tiny_of hj
  have hk := tiny_of hk
  have b : 0 ≤ stepN i j k ∧ stepN i j k < 3000000000 := by
    unfold stepN
    split
    · split
      · have := ediv_le (a := j - i - 1) (c := k) (by omega) (by omega)
        omega
      · omega
    · split
      · have := ediv_le (a := i - j - 1) (c := -k) (by omega) (by omega)
        omega
      · omega
  have e : Builtin.Range.rangeSize i j k = stepN i j k := rfl
  refine ⟨h0, by omega, ?_, by rw [e]; omega⟩
  unfold Builtin.Range.small
  rw [e]
  unfold Builtin.Range.rangeFitsLong
  have t : ∀ x : Int, -4000000000 < x → x < 4000000000 → (decide (-(2 ^ 63) ≤ x) && decide (x < 2 ^ 63)) = true := fun x h1 h2 => by
    rw [Bool.and_eq_true, decide_eq_true_eq, decide_eq_true_eq]
    omega
  simp only [Bool.and_eq_true, Bool.or_eq_true]
  refine ⟨⟨⟨⟨?_, ?_⟩, ?_⟩, ?_⟩, .inr ?_⟩
  · simpa using t i (by omega) (by omega)
  · simpa using t j (by omega) (by omega)
  · simpa using t k (by omega) (by omega)
  · simpa using t (stepN i j k) (by omega) (by omega)
  · split
    · simpa using t (j + (k - 1)) (by omega) (by omega)
    · simpa using t (j + (k + 1)) (by omega) (by omega)
theorem for_step {K : PySem.W.Frag} {F : Hp} (lo c : Int) (n : Nat) : ∃ G Y, WalkD K (Itc lo c n) F (stepTo lo c n) G Y := by
  refine ⟨_, _, ⟨by rw [stepTo_len]; exact walk_lt walk_rangeC, fun F' H le fh => trivial, fun i H x H' F' y le fh => ?_⟩⟩
  obtain ⟨hi, rfl, rfl⟩ := y
  exact ⟨F', _, stepTo_get n i lo c hi, .refl fh, .int _⟩
theorem si_rng3 (hg : Gl X "range") (hm : X.mg "range" = none) (h : SE X B a ev) (h' : SE X B b ek) (h2 : SE X B c ec) (hs : starEach [a, b, c] X.env = [(false, eval a X.env), (false, eval b X.env), (false, eval c X.env)] := by rfl) (hs2 : starEach [b, c] X.env = [(false, eval b X.env), (false, eval c X.env)] := by rfl) (hs3 : starEach [c] X.env = [(false, eval c X.env)] := by rfl) :
    SI X B tg (.Call (.Name "range" p) [a, b, c] [] pos) (rng3 ev ek ec) :=
  (pi_range3 hg hm (sa_cons h (sa_cons h' (sa_cons h2 sa_nil hs3) (by rw [hs3]; exact hs2)) (by rw [hs2]; exact hs)) (by rw [hs2]; exact hs) (by rw [hs2]; rfl)).weak fun σ H R ⟨l, F, ds, l', g, q, k⟩ => by
    obtain ⟨⟨d, l1⟩, h1, q⟩ := bnd q
    simp only at q
    split at q
    · rename_i i j kk
      split at q
      · rename_i hj
        cases q
        simp only [Bool.and_eq_true, bne_iff_ne, ne_eq] at hj
        refine ⟨l, F, _, _, g, h1, fun vs F' H' le g' rp => ?_⟩
        cases rp with
        | cons r1 r2 =>
          cases r1
          cases r2 with
          | cons r1 r2 =>
            cases r1
            cases r2 with
            | cons r1 r2 =>
              cases r1
              cases r2
              obtain ⟨G, Y, w⟩ := for_step (K := X.K) (F := F') i kk (stepN i j kk).toNat
              exact ⟨i, j, kk, _, rfl, stepN_ok hj.1.1.1 hj.1.1.2 hj.1.2 hj.2, k _ F' H' G Y le g' w⟩
      · cases q
    · cases q

/-! ### list(range(..)) -/
theorem rg_rep {K : PySem.W.Frag} {F : Hp} (lo : Int) (n : Nat) : RepAll K F ((List.range n).map fun i => V.int (lo + (i : Nat))) (upTo lo n) := by
  refine RepAll.of_zip (by rw [List.length_map, List.length_range, upTo_len]) fun i v d h1 h2 => ?_
  have hi : i < n := by
    have := (List.getElem?_eq_some_iff.mp h2).1
    rw [upTo_len] at this
    exact this
  rw [upTo_get n i lo hi] at h2
  cases h2
  rw [List.getElem?_map, List.getElem?_range hi] at h1
  cases h1
  exact .int _
theorem list_new {l : Loc} {F : Hp} {σ : Sl} {H : Hp} {vs : List V} {ds : List D} {p : Addr} {K : PySem.W.Frag} (g : Gd K B l F σ H) (hp : H p = none) (r : RepAll K F vs ds) : Gd K B l F σ (upd H p (.lst vs)) ∧ Fresh K B l F σ (upd H p (.lst vs)) p (.lst ds) := by
  have fp : F p = none := fnone g.fh hp
  have hn : B.H0 p = none := by
    cases z : B.H0 p with
    | none => rfl
    | some o => exact absurd hp (g.dom p (by rw [z]; exact fun y => by cases y))
  have ne : ∀ i e q, (nth l i).obj = some e → σ[i]? = some (some (.ref q)) → q ≠ p := fun i e q hq hs => by
    obtain ⟨p', e1, o1, _⟩ := g.objAt hq
    rw [hs] at e1
    cases e1
    obtain ⟨o, ho, _⟩ := o1.here
    exact ne_of_none ho hp
  exact ⟨g.poke fp hn ne _, ⟨_, upd_same, r⟩, fp, hn, ne⟩
theorem sf_listR1 {p2 : Pos} {p3 : Pos} (hc : X.calm = true) (hgl : Gl X "list") (hml : X.mg "list" = none) (hg : Gl X "range") (hm : X.mg "range" = none) (h : SE X B a ev)
    (na : starEach [a] X.env = (false, eval a X.env) :: starEach [] X.env := by rfl) (na2 : starEach [.Call (.Name "range" p) [a] [] pos] X.env = (false, eval (.Call (.Name "range" p) [a] [] pos) X.env) :: starEach [] X.env := by rfl) :
    SF X B (.Call (.Name "list" p2) [.Call (.Name "range" p) [a] [] pos] [] p3) (listR (rng1 ev)) :=
  (pe_listRg hc hgl hml (prg_1 hg hm h na) na2).weak fun σ H Q ⟨l, F, d, l', g, q, k⟩ => by
    obtain ⟨⟨ds, l1⟩, h1, q⟩ := bnd q
    simp only at q
    split at q
    · rename_i hz
      cases q
      obtain ⟨⟨d, l2⟩, h1, q⟩ := bnd h1
      cases d with
      | int j =>
        simp only at q
        split at q
        · rename_i hj
          cases q
          refine ⟨l, F, _, _, g, h1, fun v F' H' le g' rp => ?_⟩
          cases rp
          have hj := small_of hj
          rw [upTo_len] at hz
          have hz' : j.toNat ≤ 16777216 := hz
          refine ⟨j, rfl, ⟨by omega, by omega, hj.1, hj.2, ?_⟩, fun q hq => ?_⟩
          · show (j - 0).toNat ≤ 16777216
            rw [Int.sub_zero]; exact hz'
          · have e : rgV 0 j = (List.range j.toNat).map fun i => V.int (0 + (i : Nat)) := by unfold rgV; rw [Int.sub_zero]
            obtain ⟨g2, f2⟩ := list_new (B := B) g' hq (rg_rep (K := X.K) 0 j.toNat)
            rw [e]
            exact k q F' _ le g2 f2
        · cases q
      | _ => cases q
    · cases q
theorem sf_listR2 {p2 : Pos} {p3 : Pos} (hc : X.calm = true) (hgl : Gl X "list") (hml : X.mg "list" = none) (hg : Gl X "range") (hm : X.mg "range" = none) (h : SE X B a ev) (h' : SE X B b ek)
    (na : starEach [a, b] X.env = (false, eval a X.env) :: starEach [b] X.env := by rfl) (nb : starEach [b] X.env = (false, eval b X.env) :: starEach [] X.env := by rfl) (na2 : starEach [.Call (.Name "range" p) [a, b] [] pos] X.env = (false, eval (.Call (.Name "range" p) [a, b] [] pos) X.env) :: starEach [] X.env := by rfl) (hp : (backTo pos (starEach [b] X.env)).any (·.1) = false := by rfl) :
    SF X B (.Call (.Name "list" p2) [.Call (.Name "range" p) [a, b] [] pos] [] p3) (listR (rng2 ev ek)) :=
  (pe_listRg hc hgl hml (prg_2 hg hm h h' na nb hp) na2).weak fun σ H Q ⟨l, F, d, l', g, q, k⟩ => by
    obtain ⟨⟨ds, l1⟩, h1, q⟩ := bnd q
    simp only at q
    split at q
    · rename_i hz
      cases q
      obtain ⟨⟨d, l2⟩, h1, q⟩ := bnd h1
      obtain ⟨⟨d1, l3⟩, h2, h1⟩ := bnd h1
      obtain ⟨⟨ds2, l4⟩, h3, h1⟩ := bnd h1
      obtain ⟨⟨d2, l5⟩, h4, h3⟩ := bnd h3
      cases h3
      cases h1
      simp only at q
      split at q
      · rename_i i j he
        cases he
        split at q
        · rename_i hj
          cases q
          rw [Bool.and_eq_true] at hj
          have hi := small_of hj.1
          have hj := small_of hj.2
          refine ⟨l, F, _, _, g, h2, fun v F' H' le g' rp => ⟨_, F', _, _, g', h4, fun v2 F2 H2 le2 g2 rp2 => ?_⟩⟩
          cases rp
          cases rp2
          rw [upTo_len] at hz
          have hz' : (j - i).toNat ≤ 16777216 := hz
          refine ⟨i, j, rfl, rfl, ⟨hi.1, hi.2, hj.1, hj.2, hz'⟩, fun q hq => ?_⟩
          obtain ⟨g3, f3⟩ := list_new (B := B) g2 hq (rg_rep (K := X.K) i (j - i).toNat)
          exact k q F2 _ (le.trans le2) g3 f3
        · cases q
      · cases q
    · cases q

/-! ### chains -/
structure SC (X : Cx) (B : Base) (ops : List CmpOp) (bs : List Expr) (cs : List ((D → D → Option D) × E)) : Prop where
  run : ∀ (pos : Pos) (pins : List (Addr × Obj)) (s : Shared) (σ : Sl) (H : Hp) (Q : VK) (x : V) (v : Value) (l : Loc) (F : Hp) (dx d : D) (l' : Loc), Inv X pins σ H s → RelV x v → Rep X.K F x dx → Gd X.K B l F σ H → chn dx cs l = some (d, l') →
    (∀ v F' H', Le F F' → Gd X.K B l' F' σ H' → Rep X.K F' v d → Q v H') → wpAny (model X.prog X.w) X.A (compareChain pos v ops (evalEach bs X.env)) (EP X pins σ Q) X.xe s
  test : ∀ (pos : Pos) (pins : List (Addr × Obj)) (s : Shared) (σ : Sl) (H : Hp) (Q : Bool → Hp → Prop) (x : V) (v : Value) (l : Loc) (F : Hp) (dx : D) (d : Bool) (l' : Loc), Inv X pins σ H s → RelV x v → Rep X.K F x dx → Gd X.K B l F σ H → chn dx cs l = some (.bl d, l') →
    (∀ F' H', Le F F' → Gd X.K B l' F' σ H' → Q d H') → wpAny (model X.prog X.w) X.A (testChain pos v ops (evalEach bs X.env)) (TP X pins σ Q) X.xe s
variable {op op' : CmpOp} {ops : List CmpOp} {bs : List Expr} {g : D → D → Option D} {cc : (D → D → Option D) × E} {cs : List ((D → D → Option D) × E)}
theorem sc_one (ho : Op2 X (compareOp op) g) (hb : SE X B b ev) : SC X B [op] [b] [(g, ev)] where
  run := fun pos pins s σ H Q x v l F dx d l' I rx rp gd q k => by
    obtain ⟨⟨y, l1⟩, h1, q⟩ := bnd q
    obtain ⟨z, h2, q⟩ := bnd q
    cases q
    refine PyProof.Rows.chain_last (thn (hb.run pins s σ H (fun u H2 => ∃ F2, Le F F2 ∧ Gd X.K B l1 F2 σ H2 ∧ Rep X.K F2 u y) I ⟨l, F, y, l1, gd, h1, fun u F2 H2 le2 g2 r2 => ⟨F2, le2, g2, r2⟩⟩) fun u s2 ⟨y', H2, I2, ry, F2, le2, g2, r2⟩ => ?_)
    exact ho pins s2 σ H2 x y' v u Q I2 rx ry ⟨F2, dx, y, d, g2.fh, .inl (rp.mono le2), .inl r2, h2, fun v F3 H3 gr r3 => k v F3 H3 (le2.trans gr.le) (g2.grow gr) r3⟩
  test := fun pos pins s σ H Q x v l F dx d l' I rx rp gd q k => by
    obtain ⟨⟨y, l1⟩, h1, q⟩ := bnd q
    obtain ⟨z, h2, q⟩ := bnd q
    cases q
    refine PyProof.Rows.test_last (thn (hb.run pins s σ H (fun u H2 => ∃ F2, Le F F2 ∧ Gd X.K B l1 F2 σ H2 ∧ Rep X.K F2 u y) I ⟨l, F, y, l1, gd, h1, fun u F2 H2 le2 g2 r2 => ⟨F2, le2, g2, r2⟩⟩) fun u s2 ⟨y', H2, I2, ry, F2, le2, g2, r2⟩ => ?_)
    refine thn (ho pins s2 σ H2 x y' v u (fun w H3 => w = .bl d ∧ Q d H3) I2 rx ry ⟨F2, dx, y, .bl d, g2.fh, .inl (rp.mono le2), .inl r2, h2, fun v F3 H3 gr r3 => ?_⟩) fun c s3 ⟨z, H3, I3, r3, e, q3⟩ => ?_
    · cases r3
      exact ⟨rfl, k F3 H3 (le2.trans gr.le) (g2.grow gr)⟩
    · subst e
      cases r3
      exact PySem.wpAny_truthy_bool ⟨H3, I3, q3⟩
theorem sc_cons (ho : Op2 X (compareOp op) g) (hb : SE X B b ev) (hr : SC X B (op' :: ops) (c :: bs) (cc :: cs)) : SC X B (op :: op' :: ops) (b :: c :: bs) ((g, ev) :: cc :: cs) where
  run := fun pos pins s σ H Q x v l F dx d l' I rx rp gd q k => by
    obtain ⟨⟨y, l1⟩, h1, q⟩ := bnd q
    obtain ⟨z, h2, q⟩ := bnd q
    refine PyProof.Rows.chain_link (thn (hb.run pins s σ H (fun u H2 => ∃ F2, Le F F2 ∧ Gd X.K B l1 F2 σ H2 ∧ Rep X.K F2 u y) I ⟨l, F, y, l1, gd, h1, fun u F2 H2 le2 g2 r2 => ⟨F2, le2, g2, r2⟩⟩) fun u s2 ⟨y', H2, I2, ry, F2, le2, g2, r2⟩ => ?_)
    refine thn (ho pins s2 σ H2 x y' v u (fun w H3 => ∃ F3, Le F2 F3 ∧ Gd X.K B l1 F3 σ H3 ∧ Rep X.K F3 w z) I2 rx ry ⟨F2, dx, y, z, g2.fh, .inl (rp.mono le2), .inl r2, h2, fun v F3 H3 gr r3 => ⟨F3, gr.le, g2.grow gr, r3⟩⟩) fun cv s3 ⟨w, H3, I3, r3, F3, le3, g3, rw3⟩ => ?_
    simp only at q
    split at q
    · rename_i z1 he
      cases rw3
      cases r3
      refine PySem.wpAny_truthy_bool ?_
      rw [if_pos rfl]
      exact hr.run pos pins s3 σ H3 Q y' u l1 F3 y d l' I3 ry (r2.mono le3) g3 q fun v F4 H4 le4 g4 r4 => k v F4 H4 (le2.trans (le3.trans le4)) g4 r4
    · rename_i z1 he
      cases q
      cases rw3
      cases r3
      refine PySem.wpAny_truthy_bool ?_
      rw [if_neg Bool.false_ne_true]
      exact ⟨.bl false, H3, I3, rfl, k _ F3 H3 (le2.trans le3) g3 (.bl false)⟩
    · cases q
  test := fun pos pins s σ H Q x v l F dx d l' I rx rp gd q k => by
    obtain ⟨⟨y, l1⟩, h1, q⟩ := bnd q
    obtain ⟨z, h2, q⟩ := bnd q
    refine PyProof.Rows.test_link (thn (hb.run pins s σ H (fun u H2 => ∃ F2, Le F F2 ∧ Gd X.K B l1 F2 σ H2 ∧ Rep X.K F2 u y) I ⟨l, F, y, l1, gd, h1, fun u F2 H2 le2 g2 r2 => ⟨F2, le2, g2, r2⟩⟩) fun u s2 ⟨y', H2, I2, ry, F2, le2, g2, r2⟩ => ?_)
    refine thn (ho pins s2 σ H2 x y' v u (fun w H3 => ∃ F3, Le F2 F3 ∧ Gd X.K B l1 F3 σ H3 ∧ Rep X.K F3 w z) I2 rx ry ⟨F2, dx, y, z, g2.fh, .inl (rp.mono le2), .inl r2, h2, fun v F3 H3 gr r3 => ⟨F3, gr.le, g2.grow gr, r3⟩⟩) fun cv s3 ⟨w, H3, I3, r3, F3, le3, g3, rw3⟩ => ?_
    simp only at q
    split at q
    · rename_i z1 he
      cases rw3
      cases r3
      refine PySem.wpAny_truthy_bool ?_
      rw [if_pos rfl]
      exact hr.test pos pins s3 σ H3 Q y' u l1 F3 y d l' I3 ry (r2.mono le3) g3 q fun F4 H4 le4 g4 => k F4 H4 (le2.trans (le3.trans le4)) g4
    · rename_i z1 he
      cases q
      cases rw3
      cases r3
      refine PySem.wpAny_truthy_bool ?_
      rw [if_neg Bool.false_ne_true]
      exact ⟨H3, I3, k F3 H3 (le2.trans le3) g3⟩
    · cases q
theorem se_chain {ea : E} {b' : Expr} (ha : SE X B a ea) (hr : SC X B (op :: op' :: ops) (b :: b' :: bs) cs) (hm : lastMarks (op :: op' :: ops) (b :: b' :: bs) = false := by with_unfolding_all rfl) :
    SE X B (.Compare a (op :: op' :: ops) (b :: b' :: bs) pos) (chain ea cs) := ⟨fun pins s σ H Q I ⟨l, F, d, l', g, q, k⟩ => by
  obtain ⟨⟨x, l1⟩, h1, q⟩ := bnd q
  refine PyProof.Rows.Compare_chain (thn (ha.run pins s σ H (fun u H2 => ∃ F2, Le F F2 ∧ Gd X.K B l1 F2 σ H2 ∧ Rep X.K F2 u x) I ⟨l, F, x, l1, g, h1, fun u F2 H2 le2 g2 r2 => ⟨F2, le2, g2, r2⟩⟩) fun u s2 ⟨y', H2, I2, ry, F2, le2, g2, r2⟩ => ?_) hm
  exact hr.run pos pins s2 σ H2 Q y' u l1 F2 x d l' I2 ry r2 g2 q fun v F3 H3 le3 g3 r3 => k v F3 H3 (le2.trans le3) g3 r3⟩
theorem st_chain {ea : E} {b' : Expr} (ha : SE X B a ea) (hr : SC X B (op :: op' :: ops) (b :: b' :: bs) cs) (hm : lastMarks (op :: op' :: ops) (b :: b' :: bs) = false := by with_unfolding_all rfl) :
    ST X B (.Compare a (op :: op' :: ops) (b :: b' :: bs) pos) (tbl (chain ea cs)) := ⟨fun pins s σ H Q I ⟨l, F, d, l2, g, q, k⟩ => by
  obtain ⟨⟨z, l0⟩, h0, q⟩ := bnd q
  cases z with
  | bl z =>
    cases q
    obtain ⟨⟨x, l1⟩, h1, h0⟩ := bnd h0
    refine PyProof.Rows.isTrue_chain (thn (ha.run pins s σ H (fun u H2 => ∃ F2, Le F F2 ∧ Gd X.K B l1 F2 σ H2 ∧ Rep X.K F2 u x) I ⟨l, F, x, l1, g, h1, fun u F2 H2 le2 g2 r2 => ⟨F2, le2, g2, r2⟩⟩) fun u s2 ⟨y', H2, I2, ry, F2, le2, g2, r2⟩ => ?_) hm
    exact hr.test pos pins s2 σ H2 Q y' u l1 F2 x _ _ I2 ry r2 g2 h0 fun F3 H3 le3 g3 => k F3 H3 (le2.trans le3) g3
  | _ => cases q⟩
/-- a name of the module: a text -/
theorem se_glob {x : Str} {v : V} {u : Value} {d : D} (hg : Gl X x) (hm : X.mg x = some u) (r : RelV v u) (hd : ∀ F, Rep X.K F v d) (hb : (x == ("__debug__" : Str)) = false := by decide) : SE X B (.Name x pos) (cst d) := se_cst (pe_glob hg hm r hb) hd
end
end Py


namespace Py
open L2 PySem PySem.Spec

/-! ### the order of data -/
open PySem.W (dataLt keyToks keyToksAll dataLe TotalLe sameRank)
theorem ltN_lt : ∀ (x y : List Nat), D.ltN x y = decide (x < y)
  | [], [] => by simp [D.ltN]
  | [], _ :: _ => by simp [D.ltN]
  | _ :: _, [] => by simp [D.ltN]
  | x :: xs, y :: ys => by
    rw [D.ltN]
    by_cases h : x = y
    · subst h
      rw [if_pos rfl, ltN_lt xs ys]
      congr 1
      exact propext (by simp)
    · rw [if_neg h]
      congr 1
      exact propext (by simp [List.cons_lt_cons_iff, h])
theorem pyAll_map : ∀ ds : List D, D.pyAll ds = ds.map D.py
  | [] => by rw [D.pyAll]; rfl
  | d :: ds => by rw [D.pyAll, pyAll_map ds]; rfl
mutual
theorem alike_py : ∀ (a b : D), D.alike a b = true → W.alike a.py b.py = true
  | .non, b, h => by cases b <;> simp_all [D.alike, D.py, W.alike]
  | .bl _, b, h => by cases b <;> simp_all [D.alike, D.py, W.alike]
  | .int _, b, h => by cases b <;> simp_all [D.alike, D.py, W.alike]
  | .str _, b, h => by cases b <;> simp_all [D.alike, D.py, W.alike]
  | .lst xs, b, h => by
    cases b with
    | lst ys =>
      rw [D.py, D.py, W.alike]
      exact alikeAll_py xs ys (by simpa [D.alike] using h)
    | _ => simp [D.alike] at h
  | .tup xs, b, h => by
    cases b with
    | tup ys =>
      rw [D.py, D.py, W.alike]
      exact alikeAll_py xs ys (by simpa [D.alike] using h)
    | _ => simp [D.alike] at h
  | .con _, b, h => by simp [D.alike] at h
  | .dic _ _, b, h => by simp [D.alike] at h
  | .scr _, b, h => by simp [D.alike] at h
theorem alikeAll_py : ∀ (a b : List D), D.alikeAll a b = true → W.alikeAll (D.pyAll a) (D.pyAll b) = true
  | [], _, _ => by simp [D.pyAll, W.alikeAll]
  | _ :: _, [], _ => by simp [D.pyAll, W.alikeAll]
  | x :: xs, y :: ys, h => by
    rw [D.alikeAll, Bool.and_eq_true] at h
    rw [D.pyAll, D.pyAll, W.alikeAll, alike_py x y h.1, alikeAll_py xs ys h.2]
    rfl
end
open PyProof.Rows (lexLt lex_irrefl)
theorem lex_nil_cons {x : PyData} {xs : List PyData} : lexLt PyProof.Rows.itemOrd (keyToksAll []) (keyToksAll (x :: xs)) = true := by
  rw [W.toks_all_cons]
  simp only [keyToksAll]
  rw [PyProof.Rows.lex_diff (O := PyProof.Rows.itemOrd) (by simp)]
  rfl
theorem lex_cons_nil {x : PyData} {xs : List PyData} : lexLt PyProof.Rows.itemOrd (keyToksAll (x :: xs)) (keyToksAll []) = false := by
  rw [W.toks_all_cons]
  simp only [keyToksAll]
  rw [PyProof.Rows.lex_diff (O := PyProof.Rows.itemOrd) (by simp)]
  rfl
mutual
theorem lt_py : ∀ (a b : D), D.alike a b = true → a.plain = true → b.plain = true → dataLt a.py b.py = D.lt a b
  | .non, b, h, _, _ => by
    cases b with
    | non =>
      show lexLt PyProof.Rows.itemOrd (keyToks D.non.py) (keyToks D.non.py) = false
      exact lex_irrefl _
    | _ => simp [D.alike] at h
  | .bl a, b, h, _, _ => by
    cases b with
    | bl b =>
      rw [D.py, D.py, W.dataLt_bool, D.lt]
      cases a <;> cases b <;> rfl
    | _ => simp [D.alike] at h
  | .int a, b, h, _, _ => by
    cases b with
    | int b => rw [D.py, D.py, W.dataLt_int, D.lt]
    | _ => simp [D.alike] at h
  | .str a, b, h, _, _ => by
    cases b with
    | str b =>
      rw [D.py, D.py, W.dataLt_str, D.lt, ltN_lt]
    | _ => simp [D.alike] at h
  | .lst xs, b, h, p, q => by
    cases b with
    | lst ys =>
      rw [D.py, D.py, W.dataLt_list, D.lt]
      exact ltAll_py xs ys (by simpa [D.alike] using h) (by simpa [D.plain] using p) (by simpa [D.plain] using q)
    | _ => simp [D.alike] at h
  | .tup xs, b, h, p, q => by
    cases b with
    | tup ys =>
      rw [D.py, D.py, W.dataLt_tuple, D.lt]
      exact ltAll_py xs ys (by simpa [D.alike] using h) (by simpa [D.plain] using p) (by simpa [D.plain] using q)
    | _ => simp [D.alike] at h
  | .con _, b, h, _, _ => by simp [D.alike] at h
  | .dic _ _, b, h, _, _ => by simp [D.alike] at h
  | .scr _, b, h, _, _ => by simp [D.alike] at h
theorem ltAll_py : ∀ (a b : List D), D.alikeAll a b = true → D.plainAll a = true → D.plainAll b = true → lexLt PyProof.Rows.itemOrd (keyToksAll (D.pyAll a)) (keyToksAll (D.pyAll b)) = D.ltAll a b
  | [], [], _, _, _ => by
    rw [D.ltAll]
    exact lex_irrefl _
  | [], _ :: _, _, _, _ => by
    rw [D.pyAll, D.pyAll, D.ltAll]
    exact lex_nil_cons
  | _ :: _, [], _, _, _ => by
    rw [D.pyAll, D.pyAll, D.ltAll]
    exact lex_cons_nil
  | x :: xs, y :: ys, h, p, q => by
    rw [D.alikeAll, Bool.and_eq_true] at h
    rw [D.plainAll, Bool.and_eq_true] at p q
    rw [D.pyAll, D.pyAll, D.ltAll, W.dataLt_cons (alike_py x y h.1), D.eqv_py x y p.1 q.1, ltAll_py xs ys h.2 p.2 q.2, lt_py x y h.1 p.1 q.1]
end

/-! ### sorting by putting in -/
section
variable {α : Type} (lt : α → α → Bool)
def insG (x : α) : List α → List α
  | [] => [x]
  | y :: ys => if lt y x then y :: insG x ys else x :: y :: ys
def isortG : List α → List α
  | [] => []
  | x :: xs => insG lt x (isortG xs)
theorem insG_mem {x z : α} : ∀ {ys : List α}, z ∈ insG lt x ys ↔ z = x ∨ z ∈ ys
  | [] => by simp [insG]
  | y :: ys => by
    rw [insG]
    split
    · rw [List.mem_cons, insG_mem, List.mem_cons]
      constructor
      · rintro (h | h | h)
        · exact .inr (.inl h)
        · exact .inl h
        · exact .inr (.inr h)
      · rintro (h | h | h)
        · exact .inr (.inl h)
        · exact .inl h
        · exact .inr (.inr h)
    · rw [List.mem_cons]
theorem isortG_mem {z : α} : ∀ {ys : List α}, z ∈ isortG lt ys ↔ z ∈ ys
  | [] => by simp [isortG]
  | y :: ys => by rw [isortG, insG_mem, isortG_mem, List.mem_cons]
variable {lt}
theorem insG_congr {lt' : α → α → Bool} {x : α} : ∀ {ys : List α}, (∀ y ∈ ys, lt y x = lt' y x) → insG lt x ys = insG lt' x ys
  | [], _ => rfl
  | y :: ys, h => by
    rw [insG, insG, h y List.mem_cons_self, insG_congr fun z hz => h z (List.mem_cons_of_mem _ hz)]
theorem isortG_congr {lt' : α → α → Bool} : ∀ {ys : List α}, (∀ x ∈ ys, ∀ y ∈ ys, lt x y = lt' x y) → isortG lt ys = isortG lt' ys
  | [], _ => rfl
  | y :: ys, h => by
    rw [isortG, isortG, isortG_congr fun a ha b hb => h a (List.mem_cons_of_mem _ ha) b (List.mem_cons_of_mem _ hb)]
    exact insG_congr fun z hz => h z (List.mem_cons_of_mem _ ((isortG_mem _).mp hz)) y List.mem_cons_self
variable (h : TotalLe fun a b => !lt b a)
include h
theorem insG_sorted {x : α} : ∀ {ys : List α}, ys.Pairwise (fun a b => (!lt b a) = true) → (insG lt x ys).Pairwise (fun a b => (!lt b a) = true)
  | [], _ => by simp [insG]
  | y :: ys, p => by
    rw [List.pairwise_cons] at p
    rw [insG]
    split
    · rename_i hy
      rw [List.pairwise_cons]
      refine ⟨fun z hz => ?_, insG_sorted p.2⟩
      rcases (insG_mem lt).mp hz with e | hz
      · subst e
        rcases h.total y z with t | t
        · exact t
        · rw [hy] at t; cases t
      · exact p.1 z hz
    · rename_i hy
      rw [List.pairwise_cons, List.pairwise_cons]
      have hy' : (!lt y x) = true := by simpa using hy
      refine ⟨fun z hz => ?_, p⟩
      rcases List.mem_cons.mp hz with e | hz
      · subst e; exact hy'
      · exact h.trans x y z hy' (p.1 z hz)
theorem insG_filter {x c : α} : ∀ {ys : List α}, (insG lt x ys).filter (sameRank (fun a b => !lt b a) c) = (x :: ys).filter (sameRank (fun a b => !lt b a) c)
  | [] => rfl
  | y :: ys => by
    rw [insG]
    split
    · rename_i hy
      rw [List.filter_cons, insG_filter, List.filter_cons, List.filter_cons, List.filter_cons]
      by_cases hx : sameRank (fun a b => !lt b a) c x = true
      · have hny : ¬ sameRank (fun a b => !lt b a) c y = true := fun hc => by
          unfold sameRank at hx hc
          rw [Bool.and_eq_true] at hx hc
          have := h.trans x c y hx.2 hc.1
          rw [hy] at this
          cases this
        simp only [if_pos hx, if_neg hny]
      · simp only [if_neg hx]
    · rfl
theorem isortG_sort (ys : List α) : isortG lt ys = ys.mergeSort fun a b => !lt b a := by
  refine W.sort_unique h ?_ ?_
  · induction ys with
    | nil => simp [isortG]
    | cons y ys ih =>
      rw [isortG]
      exact insG_sorted h ih
  · intro c
    induction ys with
    | nil => simp [isortG]
    | cons y ys ih => rw [isortG, insG_filter h, List.filter_cons, List.filter_cons, ih]
end
theorem ins_G (x : D) : ∀ ys : List D, ins x ys = insG D.lt x ys
  | [] => rfl
  | y :: ys => by rw [ins, insG, ins_G x ys]
theorem isort_G : ∀ ys : List D, isort ys = isortG D.lt ys
  | [] => rfl
  | y :: ys => by rw [isort, isortG, isort_G ys, ins_G]
theorem sortable_of {ds : List D} (h : sortable ds = true) : (∀ a ∈ ds, ∀ b ∈ ds, D.alike a b = true) ∧ (∀ a ∈ ds, a.plain = true) ∧ ((∀ a ∈ ds, isT a = true) ∨ ∀ a ∈ ds, isNT a = true) ∧ ∀ a ∈ ds, a.depth ≤ 64 := by
  unfold sortable at h
  simp only [Bool.and_eq_true, Bool.or_eq_true, List.all_eq_true, decide_eq_true_eq] at h
  exact ⟨h.1.1.1, h.1.1.2, h.1.2, h.2⟩
theorem isort_eq {ds : List D} (h : sortable ds = true) : isort ds = ds.mergeSort (dataLe false D.py) := by
  obtain ⟨h1, h2, _, _⟩ := sortable_of h
  rw [isort_G, isortG_congr (lt' := fun a b => dataLt a.py b.py) fun a ha b hb => (lt_py a b (h1 a ha b hb) (h2 a ha) (h2 b hb)).symm]
  exact isortG_sort (lt := fun a b : D => dataLt a.py b.py) (W.sortLe_total (PyProof.Rows.listOrd PyProof.Rows.itemOrd) false (α := D) fun b : D => (keyToks b.py : List (Int ⊕ List Nat))) ds

section
variable {X : Cx} {B : Base} {a b c e : Expr} {pos p : Pos} {oa ob : O} {es : List Expr}
theorem out_rep {K : PySem.W.Frag} {F : Hp} : ∀ {out : List Value} {ds : List D}, W.EachIs (fun v d => ∃ x, RelV x v ∧ Rep K F x d) out ds → ∃ xs, Vals xs out ∧ RepAll K F xs ds
  | _, _, .nil => ⟨[], .nil, .nil⟩
  | _, _, .cons ⟨x, r1, r2⟩ h => by
    obtain ⟨xs, v, r⟩ := out_rep h
    exact ⟨x :: xs, .cons r1 v, .cons r2 r⟩
theorem in_rep {K : PySem.W.Frag} {F : Hp} : ∀ {xs : List V} {us : List Value} {ds : List D}, Vals xs us → RepAll K F xs ds → W.EachIs (fun v d => ∃ x, RelV x v ∧ Rep K F x d) us ds
  | _, _, _, .nil, .nil => .nil
  | _, _, _, .cons a b, .cons c d => .cons ⟨_, a, c⟩ (in_rep b d)
theorem each_and {α β : Type} {R S : α → β → Prop} : ∀ {as : List α} {bs : List β}, W.EachIs R as bs → (∀ a b, b ∈ bs → R a b → S a b) → W.EachIs S as bs
  | _, _, .nil, _ => .nil
  | _, _, .cons h t, k => .cons (k _ _ List.mem_cons_self h) (each_and t fun a b hb => k a b (List.mem_cons_of_mem _ hb))
theorem c_sortedL (hu : X.A.units + 66 < cLine) : Cal1L X (.builtin "sorted") sortedD := by
  intro pins s σ H xs us Q I rs ⟨F, x, a, ds, e, fh, h1, h2, k⟩
  subst e
  cases a with
  | lst xs =>
    unfold sortedD at h2
    simp only at h2
    split at h2
    · rename_i hs
      cases h2
      obtain ⟨p, vs, rfl, e1, r1⟩ := h1.lst fh
      obtain ⟨its, rv, hl, hz⟩ := I.list (SqL.of e1)
      rw [Vals.ref1 rs]
      obtain ⟨s1, s2, s3, s4⟩ := sortable_of hs
      have hlen : xs.length = its.length := by rw [← r1.len, rv.length]
      have hz' : xs.length ≤ sizeLine := by rw [← r1.len]; exact hz
      have hR := in_rep (K := X.K) rv r1
      refine W.sorted_data (R := fun v d => ∃ x, RelV x v ∧ Rep X.K F x d) (enc := D.py) hl.isList hR ?_ ?_ ?_ hz' ?_ fun out ho eo => ?_
      · exact each_and hR fun v d hd ⟨x, h1, h2⟩ => Dp.reads I _ _ _ (h2.dp fh (s2 d hd)) h1
      · intro d hd d' hd'
        obtain ⟨b, hb, rfl⟩ := List.mem_map.mp hd
        obtain ⟨b', hb', rfl⟩ := List.mem_map.mp hd'
        exact alike_py b b' (s1 b hb b' hb')
      · rcases s3 with s3 | s3
        · refine .inl fun d hd => ?_
          obtain ⟨b, hb, rfl⟩ := List.mem_map.mp hd
          have := s3 b hb
          cases b with
          | tup ys =>
            cases ys with
            | nil => cases this
            | cons y ys => exact ⟨y.py, D.pyAll ys, by rw [D.py, D.pyAll]⟩
          | _ => cases this
        · refine .inr fun d hd => ?_
          obtain ⟨b, hb, rfl⟩ := List.mem_map.mp hd
          have h5 := s3 b hb
          have h6 := s1 b hb b hb
          cases b with
          | non => cases h5
          | tup ys => cases h5
          | con ys => simp [D.alike] at h6
          | dic _ _ => simp [D.alike] at h6
          | scr _ => simp [D.alike] at h6
          | _ => exact ⟨by rw [D.py]; exact fun z => (by cases z), fun xs => by rw [D.py]; exact fun z => (by cases z)⟩
      · intro b hb
        have := s4 b hb
        rw [D.depth_py b (s2 b hb)]
        omega
      · rw [← isort_eq hs] at eo
        obtain ⟨xs', v1, v2⟩ := out_rep eo
        obtain ⟨ep, he'⟩ := PyProof.Rows.sortedAll_at s.heap its out.toArray
        refine ⟨.ref _, upd H (s.heap.objs.size + 1) (.lst xs'), I.laid (t' := s.toks) (fun _ _ => PyProof.Rows.sortedAll_old) (Nat.le_succ _) ⟨?_, out, ep, v1, he'⟩, rfl, k _ _ (I.hok.fresh (Nat.le_succ _)) v2⟩
        rw [v1.length, ho]
        exact hz'
    · cases h2
  | _ => cases h2
theorem sorted_lst : ∀ (a c : D), sortedD a = some c → ∃ ds, c = .lst ds := fun a c h => by
  cases a with
  | lst xs =>
    unfold sortedD at h
    simp only at h
    split at h
    · cases h; exact ⟨_, rfl⟩
    · cases h
  | _ => cases h
theorem c_sorted (hu : X.A.units + 66 < cLine) : Cal1 X (.builtin "sorted") sortedD := (c_sortedL hu).up sorted_lst
end
end Py


namespace Py
open L2 PySem PySem.Spec

/-! ### comprehensions of dicts -/
theorem dc_it {J : Wk} {n : Nat} {G : Hp → Prop} {Y : Nat → Hp → V → Hp → Prop} (w : Walk J n G Y) {g : TG} {tt : TT} {tk tv : TE} {vs : List Nat} {σ : Sl} {H1 : Hp} {D : Addr} {Qd : Hp → Prop} (Pv : Nat → Hp → Prop) (h0 : Pv 0 (upd H1 D (.dK []))) (hG : ∀ i H, i ≤ n → Pv i H → G H)
    (hs : ∀ i x H H', i < n → Pv i H → Y i H x H' → g x (wipe σ vs) H' fun σ2 H2 => wipe σ2 vs = wipe σ vs ∧ tt σ2 H2 fun b H3 =>
      if b = true then tk σ2 H3 fun y H4 => tv σ2 H4 fun z H5 => ∃ kvs k, y = kV k ∧ H5 D = some (.dK kvs) ∧ kvs.length < sizeLine ∧ Pv (i + 1) (upd H5 D (.dK (putK kvs k z))) else Pv (i + 1) H3) (hd : ∀ H, Pv n H → Qd H) :
    ∃ W : Nat → Nat → Hp → Prop, (∃ m, W 0 m (upd H1 D (.dK []))) ∧ ∀ i m H, W i m H →
      (J.stop i H ∧ Qd H) ∨ (J.go i H ∧ ∃ Nx : Hp → Prop, (∀ H', Nx H' → ∃ m', m' < m ∧ W (i + 1) m' H') ∧ ∀ x H', J.yld i H x H' → g x (wipe σ vs) H' fun σ2 H2 => wipe σ2 vs = wipe σ vs ∧ tt σ2 H2 fun b H3 =>
        if b = true then tk σ2 H3 fun y H4 => tv σ2 H4 fun z H5 => ∃ kvs k, y = kV k ∧ H5 D = some (.dK kvs) ∧ kvs.length < sizeLine ∧ Nx (upd H5 D (.dK (putK kvs k z))) else Nx H3) := by
  refine ⟨fun i m H => m = n - i ∧ i ≤ n ∧ Pv i H, ⟨n, by simp, Nat.zero_le _, h0⟩, ?_⟩
  rintro i m H ⟨rfl, hi, p⟩
  have q := hG i H hi p
  by_cases hlt : i < n
  · exact .inr ⟨w.goes i H hlt q, Pv (i + 1), fun H' p' => ⟨n - (i + 1), by omega, rfl, hlt, p'⟩, fun x H' y => hs i x H H' hlt p (w.yields i H x H' hlt q y)⟩
  · have e : i = n := by omega
    subst e
    exact .inl ⟨w.stops H q, hd H p⟩
section
variable {K : PySem.W.Frag} {B : Base}
theorem dc_read {own : List Nat} {iv : It} {gv : G} {t : T} {ek ev : E} {σ : Sl} {H : Hp} {Q : VK} (h : tF K B (dc own iv gv t ek ev) σ H Q) :
    tDc (tI K B iv) (xG K own gv) (xT K t) (xE K ek) (xE K ev) own σ H Q := by
  obtain ⟨l, F, d, l', g, q, k⟩ := h
  obtain ⟨⟨ds, l1⟩, h1, q⟩ := bnd q
  obtain ⟨⟨acc, l2⟩, h2, q⟩ := bnd q
  cases q
  refine ⟨l, F, ds, l1, g, h1, fun J F1 H1 G Y le1 g1 w D hD => ?_⟩
  refine dc_it (g := xG K own gv) (tt := xT K t) (tk := xE K ek) (tv := xE K ev) (vs := own) (σ := σ) (H1 := H1) (D := D) (Qd := fun H => Q (.ref D) H) w.w (fun i H => ∃ li Fi ai, Le F1 Fi ∧ Gd K B (wip li own) Fi (wipe σ own) H ∧ Fresh K B (wip li own) Fi (wipe σ own) H D (.dic false ai) ∧ dcGo own gv t ek ev (ds.drop i) ai li = some (acc, l2)) ?_ (fun i H _ ⟨li, Fi, ai, le, gi, _⟩ => w.stands Fi H le gi.fh) ?_ ?_
  · have gw := g1.wip own
    have fr : Fresh K B (wip l1 own) F1 (wipe σ own) (upd H1 D (.dK [])) D (.dic false []) := by
      refine ⟨⟨[], upd_same, .nil⟩, fnone g1.fh hD, ?_, fun i e q hq hs => ?_⟩
      · cases z : B.H0 D with
        | none => rfl
        | some o => exact absurd hD (gw.dom D (by rw [z]; exact fun y => by cases y))
      · obtain ⟨p', e1, o1, _⟩ := gw.objAt hq
        rw [hs] at e1
        cases e1
        obtain ⟨o, ho, _⟩ := o1.here
        exact ne_of_none ho hD
    exact ⟨l1, F1, [], Le.refl F1, gw.poke fr.fn fr.hn fr.ne _, fr, h2⟩
  · rintro i x H2 H3 hi ⟨li, Fi, ai, le, gi, fi, hr⟩ y
    obtain ⟨F3, d, hd, gr, rp⟩ := w.gives i H2 x H3 Fi y le gi.fh
    rw [drop_of hd] at hr
    obtain ⟨l3, h3, hr⟩ := bnd hr
    obtain ⟨⟨b, l4⟩, h4, hr⟩ := bnd hr
    obtain ⟨vs, hv, ra⟩ := fi.own
    obtain ⟨f0, f1⟩ := fi.f0 gi
    have g3 : Gd K (B.prot D (.dK vs)) (wip li own) F3 (wipe σ own) H3 := (gi.prot fi hv).grow gr
    refine ⟨B.prot D (.dK vs), wip li own, F3, d, l3, g3, rp, h3, fun σ4 F4 H4 le4 g4 o4 => ⟨?_, B.prot D (.dK vs), l3, F4, b, l4, g4, h4, fun F5 H5 le5 g5 => ?_⟩⟩
    · rw [o4.wipe]
      exact Out.wipe ⟨wipe_length σ own, fun j hj => wipe_out hj⟩
    · have ew : wipe σ4 own = wipe σ own := by
        rw [o4.wipe]
        exact Out.wipe ⟨wipe_length σ own, fun j hj => wipe_out hj⟩
      have le35 : Le F1 F5 := le.trans (gr.le.trans (le4.trans le5))
      cases b with
      | true =>
        refine iteT ?_
        rw [if_pos rfl] at hr
        obtain ⟨⟨dk, l6⟩, h6, hr⟩ := bnd hr
        obtain ⟨⟨de, l7⟩, h7, hr⟩ := bnd hr
        simp only at hr
        split at hr
        · rename_i hz
          rw [Bool.and_eq_true] at hz
          have hz2 := of_decide_eq_true hz.2
          refine ⟨B.prot D (.dK vs), l4, F5, dk, l6, g5, h6, fun vk F6 H6 le6 g6 rk => ⟨B.prot D (.dK vs), l6, F6, de, l7, g6, h7, fun v F7 H7 le7 g7 rv => ?_⟩⟩
          have gw := g7.wip own
          rw [ew] at gw
          obtain ⟨gu, hp, hf, hne⟩ := gw.unprot fi.hn f0 f1
          obtain ⟨ek2, _⟩ := Pk.key (H := H7) (.inl rk) hz.1
          have rk' : Rep K F7 (kV (keyOf dk)) dk := by rw [← ek2]; exact rk.mono le7
          refine ⟨vs, keyOf dk, ek2, hp, by rw [ra.len]; exact hz2, l7, F7, dput ai dk de, (le35.trans le6).trans le7, gu.poke hf fi.hn hne _, ⟨⟨_, upd_same, (ra.mono (gr.le.trans (le4.trans (le5.trans (le6.trans le7))))).put hz.1 rk' rv⟩, hf, fi.hn, hne⟩, hr⟩
        · cases hr
      | false =>
        refine iteF ?_
        rw [if_neg Bool.false_ne_true] at hr
        have gw := g5.wip own
        rw [ew] at gw
        obtain ⟨gu, hp, hf, hne⟩ := gw.unprot fi.hn f0 f1
        exact ⟨l4, F5, ai, le35, gu, ⟨⟨vs, hp, ra.mono (gr.le.trans (le4.trans le5))⟩, hf, fi.hn, hne⟩, hr⟩
  · rintro H2 ⟨li, Fi, ai, le, gi, fi, hr⟩
    rw [List.drop_length] at hr
    cases hr
    have gb := Gd.back g1 le gi
    refine k D Fi H2 (le1.trans le) gb ⟨fi.own, fi.fn, fi.hn, fun i e q h1 h2 => ?_⟩
    have hl : l1.length = l2.length := by
      have := gi.len
      rw [wip_length, wipe_length] at this
      rw [g1.len, this]
    obtain ⟨z, h1⟩ := back_obj hl h1
    exact fi.ne i e q (by rw [nth_wip_out z]; exact h1) (by rw [wipe_out z]; exact h2)
end
section
variable {X : Cx} {B : Base} {fr : Bool} {tg iter kx vx e : Expr} {ifs : List Expr} {scope : Scope} {own : List (Str × Nat)} {os : List Nat} {pos : Pos} {iv : It} {gv : G} {t : T} {ek ev : E}
theorem sf_dc (hc : X.calm = true) (hN : X.N.Nodup) (ok : BlkOk X.N X.env.scope scope own) (ho : own.map (·.2) = os) (hi : SI X B tg iter iv) (hg : Blk X scope fun Y => ∀ B, SGo Y B os tg gv) (ht : Blk X scope fun Y => ∀ B, STs Y B ifs t) (hk : Blk X scope fun Y => ∀ B, SE Y B kx ek) (he : Blk X scope fun Y => ∀ B, SE Y B vx ev)
    (hs : ∀ x, foldedSetIterable iter X.env x = pure x := by intro _; rfl) : SF X B (.DictComp kx vx [⟨tg, iter, ifs, 0⟩] scope pos) (dc os iv gv t ek ev) := by
  subst ho
  exact (pe_dc (g := xG X.K _ gv) (tt := xT X.K t) (tk := xE X.K ek) (tv := xE X.K ev) hc hN hi ok (fun s H C cl fp => PG.ex fun B => hg s H C cl fp B) (fun s H C cl fp => PTs.ex fun B => ht s H C cl fp B) (fun s H C cl fp => PE.ex fun B => hk s H C cl fp B) (fun s H C cl fp => PE.ex fun B => he s H C cl fp B) hs).weak fun σ H Q h => dc_read h
end
end Py


namespace Py
open L2 PySem PySem.Spec

/-! ### a def that changes its first argument -/
def spI (K : PySem.W.Frag) (n : Nat) (fn : D → List D → Option (D × D)) : Sp := fun vs H Q _ => ∃ F p vs2 c ds r c', vs = .ref p :: vs2 ∧ vs2.length = n ∧ (∀ a o, F a = some o → H a = some o) ∧ Own K F H p c ∧ F p = none ∧ RepAll K F vs2 ds ∧ fn c ds = some (r, c') ∧
  ∀ v F' H', Aft F H F' H' [p] → Own K F' H' p c' → F' p = none → Rep K F' v r → Q v H'
section
variable {K : PySem.W.Frag} {B : Base} {l : Loc} {F F' : Hp} {σ : Sl} {H H' : Hp}
theorem gd_startI {N : List Str} {vs : List V} {ds : List D} {n extra : Nat} {p : Addr} {c : D} (fh : ∀ a o, F a = some o → H a = some o) (ow : Own K F H p c) (hp : F p = none) (r : RepAll K F vs ds) (hn : vs.length = n) (hN : N.length = n + 1 + extra) :
    Gd K ⟨F, H, [p]⟩ (.io c :: (ds.map SV.fz ++ List.replicate extra SV.un)) F (L2.start N (.ref p :: vs)) H := by
  have hl : ds.length = n := by rw [← r.len]; exact hn
  obtain ⟨o, ho, _⟩ := ow.here
  have e0 : (L2.start N (.ref p :: vs))[0]? = some (some (.ref p)) := rfl
  have shape : ∀ i, (∃ d v, nth (ds.map SV.fz ++ List.replicate extra SV.un) i = .fz d ∧ (L2.start N (.ref p :: vs))[i + 1]? = some (some v) ∧ Rep K F v d) ∨ nth (ds.map SV.fz ++ List.replicate extra SV.un) i = .un := fun i => by
    by_cases hi : i < ds.length
    · have hd := List.getElem?_eq_getElem hi
      obtain ⟨v, hv, rv⟩ := r.get hd
      refine .inl ⟨_, v, nth_fz hd, ?_, rv⟩
      unfold L2.start
      rw [List.getElem?_append_left (by rw [List.length_map, List.length_cons, r.len]; omega), List.getElem?_map, List.getElem?_cons_succ, hv]
      rfl
    · refine .inr ?_
      obtain ⟨j, rfl⟩ := Nat.exists_eq_add_of_le (Nat.le_of_not_lt hi)
      have e : ds.length = (ds.map SV.fz).length := by rw [List.length_map]
      rw [e, nth_app]
      exact nth_un
  have inv : ∀ {i : Nat} {d : D}, (nth (.io c :: (ds.map SV.fz ++ List.replicate extra SV.un)) i).obj = some d → i = 0 := fun {i d} h => by
    cases i with
    | zero => rfl
    | succ i =>
      have h' : (nth (ds.map SV.fz ++ List.replicate extra SV.un) i).obj = some d := h
      rcases shape i with ⟨d', v, q1, _⟩ | q
      · rw [q1] at h'; cases h'
      · rw [q] at h'; cases h'
  refine ⟨Le.refl F, fh, fun a h => .inl h, fun a o h1 _ _ => h1, fun a h => h, ?_, fun q h => ?_, fun i => ?_, fun i d q h1 h2 => ?_, fun i d q h1 h2 => ?_, fun i j d e q h1 h2 h3 h4 => ?_⟩
  · unfold L2.start
    rw [List.length_cons, List.length_append, List.length_append, List.length_map, List.length_map, List.length_replicate, List.length_replicate, List.length_cons, hl, hn, hN]
    omega
  · rw [List.mem_singleton] at h
    subst h
    show H q ≠ none
    rw [ho]; exact fun z => by cases z
  · cases i with
    | zero => rw [e0]; exact ow
    | succ i =>
      show SlotOk K F H (nth (ds.map SV.fz ++ List.replicate extra SV.un) i) _
      rcases shape i with ⟨d, v, h1, h2, h3⟩ | h
      · rw [h1, h2]; exact h3
      · rw [h]; trivial
  · obtain rfl := inv (i := i) (d := d) (by rw [h1]; rfl)
    cases h1
  · obtain rfl := inv (i := i) (d := d) (by rw [h1]; rfl)
    rw [e0] at h2
    cases h2
    exact ⟨hp, List.mem_singleton.mpr rfl⟩
  · rw [inv h1, inv h2]
/-- behind a call that changed a name's object -/
theorem Gd.aftI (g : Gd K B l F σ H) {i : Nat} {c c' : D} {p : Addr} (h : (nth l i).obj = some c) (e : σ[i]? = some (some (.ref p))) (r : Aft F H F' H' [p]) (ow : Own K F' H' p c') (hf : F' p = none) : Gd K B (put l i ((nth l i).chg c')) F' σ H' := by
  obtain ⟨p', e', ow0, f0, _⟩ := g.objAt h
  rw [e] at e'
  cases e'
  obtain ⟨o, ho, _⟩ := ow0.here
  obtain ⟨o', ho', _⟩ := ow.here
  have r2 : Aft F H F' (upd H' p o) [] := by
    refine ⟨r.le, fun a u x => ?_, r.nw, fun a u x y _ => ?_, fun a x => ?_⟩
    · rw [upd_ne (ne_of_none x hf)]; exact r.fh a u x
    · by_cases z : a = p
      · subst z; rw [upd_same, ← ho]; exact x
      · rw [upd_ne z]; exact r.keep a u x y (by simpa using z)
    · by_cases z : a = p
      · subst z; rw [upd_same]; exact fun z => by cases z
      · rw [upd_ne z]; exact r.dom a x
  have g2 := g.aft r2
  have eH : upd (upd H' p o) p o' = H' := by
    funext a
    by_cases z : a = p
    · subst z; rw [upd_same, ho']
    · rw [upd_ne z, upd_ne z]
  have g3 := g2.change (o := o') h e (by rw [eH]; exact ow)
  rw [eH] at g3
  exact g3
end
section
variable {P : Program} {w : World} {K : PySem.W.Frag} {mg : Str → Option Value} {base : Heap}
theorem ok_ofI {x qual : Str} {st : Stmt} {f : Addr} {fd : FuncData} {N ps : List Str} {k : Nat} {sv : S} (n extra : Nat) (F : Fun K x qual st f fd) (S : FnScope N ps (defScope st))
    (hb : ∀ (B : Base) (cdv : Value) (A : Around) (outer : List Env) (s : Shared) (H : Hp) (E : XK), Room k (A.deeper (PyProof.Rows.envOfC qual (defScope st) s.heap.objs.size f cdv)) →
      SB (cxOf CX0 P w K mg base N qual (defScope st) f cdv A outer s H E).nox B false (defBody st) sv) (hn : ps.length = n + 1 := by rfl) (hN : N.length = n + 1 + extra := by rfl) : FnOk P w K mg base CX0 (k + 1) f fd ps (spI K n (run1 n extra sv)) := by
  refine F.ok S (fun vs H Q E h => ?_) (fun cdv A outer s H vs Q E hr h => ?_)
  · obtain ⟨F, p, vs2, c, ds, r, c', rfl, h1, _⟩ := h
    rw [hn, List.length_cons, h1]
  · obtain ⟨F0, p, vs2, c, ds, r, c', rfl, h1, fh, ow, hp, rr, hd, q⟩ := h
    refine ⟨_, hb ⟨F0, H, [p]⟩ cdv A outer s H E hr, ?_⟩
    unfold run1 at hd
    split at hd
    · obtain ⟨⟨d, l'⟩, h2, hd⟩ := bnd hd
      simp only at hd
      split at hd
      · rename_i c2 hc
        cases hd
        have last : ∀ (v : V) (σ' : Sl) (F' H' : Hp), Gd K ⟨F0, H, [p]⟩ l' F' σ' H' → Rep K F' v r → Q v H' := fun v σ' F' H' g' rv => by
          obtain ⟨p', e1, o1, f1, z⟩ := g'.objAt (i := 0) (d := c') (by rw [hc]; rfl)
          have hm := (g'.io 0 c' p' hc e1).2
          have : p' = p := by simpa using hm
          subst this
          exact q v F' H' g'.self o1 f1 rv
        cases hq : sv (.io c :: (ds.map SV.fz ++ List.replicate extra SV.un)) with
        | none => rw [hq] at h2; cases h2
        | some fl =>
          refine ⟨_, F0, fl, gd_startI fh ow hp rr h1 hN, hq, ?_⟩
          rw [hq] at h2
          cases fl with
          | rt d l =>
            cases h2
            rintro v σ' F' H' le ⟨g', h4, _⟩
            exact last v σ' F' H' g' (h4 rfl)
          | nx l =>
            cases h2
            rintro σ' F' H' le g'
            exact last .non σ' F' H' g' .non
          | bk l => cases h2
          | ct l => cases h2
      · cases hd
    · cases hd
/-- a def that is known -/
structure Kn (P : Program) (w : World) (K : PySem.W.Frag) (mg : Str → Option Value) (base : Heap) (j : Nat) (x : Str) (ps : List Str) (sp : Sp) : Prop where
  ex : ∃ f fd, FnOk P w K mg base CX0 j f fd ps sp ∧ Binds K fd ps [] ∧ PySem.W.keepIn K (.ref f) = true ∧ mg x = some (.ref f)
end
section
variable {X : Cx} {B : Base} {a b c e o : Expr} {pos p apos : Pos} {oa ob : O} {es : List Expr} {j k n i : Nat} {ps : List Str} {fn : List D → Option D} {f1 : D → List D → Option (D × D)} {x : Str} {ev : E} {evs : List E} {g : D → D → Option D}
theorem hr66 {A : Around} (r : Room k A) : A.units + 66 < cLine := by have := r.un; omega
theorem hr1 {A : Around} (r : Room k A) : A.units + 1 < cLine := by have := r.un; omega
theorem se_fn (c : Kn X.prog X.w X.K X.mg X.base j x ps (spP X.K n fn false)) (hr : Room k X.A) (hj : j ≤ k) (hg : Gl X x) (ha : SA X B (e :: es) (args (ev :: evs))) (hn : evs.length + 1 = n := by rfl) (hdb : (x == ("__debug__" : Str)) = false := by decide) (he : starEach (e :: es) X.env = (false, eval e X.env) :: starEach es X.env := by rfl) (hpl : (backTo pos (starEach es X.env)).any (·.1) = false := by rfl) :
    SE X B (.Call (.Name x p) (e :: es) [] pos) (call fn (ev :: evs)) := by
  obtain ⟨f, fd, F, b, q, m⟩ := c.ex
  exact se_call F (hr.mono hj) hg m q b ha hn hdb he hpl
theorem sf_fn (c : Kn X.prog X.w X.K X.mg X.base j x ps (spP X.K n fn true)) (hr : Room k X.A) (hj : j ≤ k) (hg : Gl X x) (ha : SA X B (e :: es) (args (ev :: evs))) (hn : evs.length + 1 = n := by rfl) (hdb : (x == ("__debug__" : Str)) = false := by decide) (he : starEach (e :: es) X.env = (false, eval e X.env) :: starEach es X.env := by rfl) (hpl : (backTo pos (starEach es X.env)).any (·.1) = false := by rfl) :
    SF X B (.Call (.Name x p) (e :: es) [] pos) (callF fn (ev :: evs)) := by
  obtain ⟨f, fd, F, b, q, m⟩ := c.ex
  exact sf_call F (hr.mono hj) hg m q b ha hn hdb he hpl
theorem se_fnI (c : Kn X.prog X.w X.K X.mg X.base j x ps (spI X.K n f1)) (hr : Room k X.A) (hj : j ≤ k) (hg : Gl X x) (hv : PE X e (tVar i)) (ha : SA X B es (args evs)) (hn : evs.length = n := by rfl) (hdb : (x == ("__debug__" : Str)) = false := by decide) (he : starEach (e :: es) X.env = (false, eval e X.env) :: starEach es X.env := by rfl) (hpl : (backTo pos (starEach es X.env)).any (·.1) = false := by rfl) :
    SE X B (.Call (.Name x p) (e :: es) [] pos) (call1 f1 i evs) := by
  obtain ⟨f, fd, F, b, q, m⟩ := c.ex
  refine (pe_call F (hr.mono hj) hg m q b .nil pass0 (pa_cons hv ha he) hdb he hpl).weak fun σ H Q h => ?_
  obtain ⟨l, F, d, l', g, q, kk⟩ := h
  obtain ⟨c0, h0, q⟩ := bnd q
  obtain ⟨⟨ds, l1⟩, h1, q⟩ := bnd q
  obtain ⟨c1, h2, q⟩ := bnd q
  obtain ⟨⟨r, c'⟩, h3, q⟩ := bnd q
  cases q
  obtain ⟨p0, e0, _⟩ := g.objAt h0
  refine ⟨_, e0, l, F, ds, l1, g, h1, fun vs F1 H1 le1 g1 r1 => ?_⟩
  obtain ⟨p1, e1, o1, f1, _⟩ := g1.objAt h2
  rw [e0] at e1
  cases e1
  refine ⟨F1, p0, vs, c1, ds, r, c', by rw [List.append_nil], by rw [r1.len, args_len h1]; exact hn, g1.fh, o1, f1, r1, h3, fun v F' H' af ow hf rv => ?_⟩
  exact kk v F' H' (le1.trans af.le) (g1.aftI h2 e0 af ow hf) rv
/-! ### texts -/
theorem strs_rep {K : PySem.W.Frag} {F : Hp} : ∀ {vs : List V} {ds : List D} {ys : List (List Nat)}, RepAll K F vs ds → strsD ds = some ys → vs = (ys.map fun s => (⟨s.toArray⟩ : Str)).map V.str ∧ ∀ s ∈ ys, ∀ c ∈ s, c < 1114112
  | _, _, _, .nil, h => by cases h; exact ⟨rfl, fun _ h => by cases h⟩
  | _, _, ns, .cons (d := d) a b, h => by
    cases d with
    | str i =>
      cases a with
      | str s hl hc =>
        obtain ⟨r, hr, rfl⟩ := Option.map_eq_some_iff.mp (show (strsD _).map (i :: ·) = some ns from h)
        obtain ⟨e1, e2⟩ := strs_rep b hr
        subst e1
        refine ⟨rfl, fun s hs => ?_⟩
        rcases List.mem_cons.mp hs with z | z
        · subst z; exact hc
        · exact e2 s z
    | _ => cases h
def tailBy (a : List Nat) : List (List Nat) → List Nat
  | [] => []
  | s :: r => a ++ (s ++ tailBy a r)
theorem sep_tail (a : List Nat) : ∀ (s : List Nat) (ys : List (List Nat)), sepBy a (s :: ys) = s ++ tailBy a ys
  | s, [] => by simp [sepBy, tailBy]
  | s, t :: r => by rw [sepBy, sep_tail a t r, tailBy]
theorem glue_tail (a : List Nat) : ∀ (ys : List (List Nat)) (acc : List Nat), (ys.map fun s => (⟨s.toArray⟩ : Str)).foldl (fun acc p => acc ++ (⟨a.toArray⟩ : Str).cps ++ p.cps) acc.toArray = (acc ++ tailBy a ys).toArray
  | [], acc => by simp [tailBy]
  | s :: ys, acc => by
    rw [List.map_cons, List.foldl_cons]
    have e : acc.toArray ++ (⟨a.toArray⟩ : Str).cps ++ (⟨s.toArray⟩ : Str).cps = (acc ++ a ++ s).toArray := by simp
    rw [e, glue_tail a ys, tailBy]
    simp
theorem join_sep (a : List Nat) : ∀ ys : List (List Nat), Txt.join ⟨a.toArray⟩ (ys.map fun s => (⟨s.toArray⟩ : Str)) = ⟨(sepBy a ys).toArray⟩
  | [] => rfl
  | s :: ys => by
    show (⟨((ys.map fun s => (⟨s.toArray⟩ : Str))).foldl (fun acc p => acc ++ (⟨a.toArray⟩ : Str).cps ++ p.cps) s.toArray⟩ : Str) = _
    rw [glue_tail, sep_tail]
theorem tail_len (a : List Nat) : ∀ ys : List (List Nat), (tailBy a ys).length = (ys.map List.length).sum + ys.length * a.length
  | [] => by simp [tailBy]
  | s :: ys => by
    rw [tailBy, List.length_append, List.length_append, tail_len a ys, List.map_cons, List.sum_cons, List.length_cons, Nat.succ_mul]
    omega
theorem sep_len (a : List Nat) : ∀ ys : List (List Nat), (sepBy a ys).length ≤ (ys.map List.length).sum + ys.length * a.length
  | [] => by simp [sepBy]
  | s :: ys => by
    rw [sep_tail, List.length_append, tail_len, List.map_cons, List.sum_cons, List.length_cons, Nat.succ_mul]
    omega
theorem sep_mem (a : List Nat) {P : Nat → Prop} (ha : ∀ c ∈ a, P c) : ∀ ys : List (List Nat), (∀ s ∈ ys, ∀ c ∈ s, P c) → ∀ c ∈ sepBy a ys, P c
  | [], _, c, h => by simp [sepBy] at h
  | s :: ys, hy, c, h => by
    rw [sep_tail, List.mem_append] at h
    rcases h with h | h
    · exact hy s List.mem_cons_self c h
    · have hy2 : ∀ s ∈ ys, ∀ c ∈ s, P c := fun t ht => hy t (List.mem_cons_of_mem _ ht)
      clear hy
      induction ys with
      | nil => simp [tailBy] at h
      | cons t r ih =>
        rw [tailBy, List.mem_append, List.mem_append] at h
        rcases h with h | h | h
        · exact ha c h
        · exact hy2 t List.mem_cons_self c h
        · exact ih h fun t ht => hy2 t (List.mem_cons_of_mem _ ht)
theorem se_join {j : Nat} {z : Str} (s : List Nat) (he : SE X B e ev) (hz : z = ⟨s.toArray⟩ := by decide +kernel) (hc : ∀ c ∈ s, c < 1114112 := by decide) {p2 cpos : Pos}
    (hs : starEach [e] X.env = (false, eval e X.env) :: starEach [] X.env := by rfl) (hbase : attributeBase (.Constant (.str z) j p2) "join" X.env (eval (.Constant (.str z) j p2) X.env) = eval (.Constant (.str z) j p2) X.env := by rfl) (hline : (apos.endLine == cpos.line) = true := by rfl) :
    SE X B (.Call (.Attribute (.Constant (.str z) j p2) "join" apos) [e] [] cpos) (joinE s ev) := by
  subst hz
  refine (pe_join pe_str he hs hbase hline).weak fun σ H Q h => ?_
  obtain ⟨l, F, d, l', g, q, k⟩ := h
  obtain ⟨⟨x, l1⟩, h1, q⟩ := bnd q
  obtain ⟨y, h2, q⟩ := bnd q
  cases q
  refine ⟨⟨_, rfl⟩, l, F, x, l1, g, h1, fun v F' H' le g' rp => ?_⟩
  cases x with
  | lst xs =>
    obtain ⟨ys, h3, h2⟩ := bnd h2
    split at h2
    · rename_i hz
      cases h2
      cases rp with
      | lst e1 r1 =>
        obtain ⟨e2, e3⟩ := strs_rep r1 h3
        subst e2
        refine ⟨_, _, ys.map fun s => (⟨s.toArray⟩ : Str), rfl, rfl, .inl (SqL.of (g'.fh _ _ e1)), ?_, ?_⟩
        · have e4 : ((ys.map fun s => (⟨s.toArray⟩ : Str)).map fun x => x.length) = ys.map List.length := by
            rw [List.map_map]
            exact List.map_congr_left fun s _ => str_len s
          rw [e4, List.length_map, str_len]
          exact hz
        · rw [join_sep]
          exact k _ F' H' le g' (.str _ (Nat.le_trans (sep_len s ys) hz) (sep_mem s hc ys e3))
    · cases h2
  | _ => cases h2
/-! ### a new list, by an operation -/
theorem sf_op2 {op : Operator} (h : Op2L X (binaryOp op) g) (ha : SP X B a oa) (hb : SP X B b ob) : SF X B (.BinOp a op b pos) (op2L g oa ob) :=
  (pe_op h ha hb).weak fun σ H Q k => t2F k (fun x y z e => by
    obtain ⟨w, _, e⟩ := bnd e
    split at e
    · rename_i hw
      cases e
      exact isL_of hw
    · cases e) fun x y F a b ds H Q fh h1 h2 h3 h4 => by
    obtain ⟨w, e1, e⟩ := bnd h3
    split at e
    · cases e
      exact ⟨F, a, b, ds, fh, h1, h2, e1, h4⟩
    · cases e
end
end Py


namespace Py
open L2 PySem PySem.Spec

/-! ### values at hand: some frozen, some new objects -/
def newOf : List V → List (Bool × D) → List Addr
  | .ref p :: vs, (true, _) :: r => p :: newOf vs r
  | _ :: vs, _ :: r => newOf vs r
  | _, _ => []
def Hold (K : PySem.W.Frag) (B : Base) (l : Loc) (F : Hp) (σ : Sl) (H : Hp) : List V → List (Bool × D) → Prop
  | [], [] => True
  | v :: vs, (false, d) :: r => Rep K F v d ∧ Hold K B l F σ H vs r
  | v :: vs, (true, d) :: r => (∃ p, v = .ref p ∧ Fresh K B l F σ H p d ∧ p ∉ newOf vs r) ∧ Hold K B l F σ H vs r
  | _, _ => False
section
variable {K : PySem.W.Frag} {B : Base} {l : Loc} {F F' : Hp} {σ : Sl} {H H' : Hp}
theorem Hold.len : ∀ {vs : List V} {r : List (Bool × D)}, Hold K B l F σ H vs r → vs.length = r.length
  | [], [], _ => rfl
  | [], _ :: _, h => h.elim
  | _ :: _, [], h => h.elim
  | _ :: vs, (false, _) :: r, h => congrArg (· + 1) h.2.len
  | _ :: vs, (true, _) :: r, h => congrArg (· + 1) h.2.len
/-- out from under the base that kept p -/
theorem Hold.unprot {p : Addr} {o : HO} (g : Gd K B l F σ H) : ∀ {vs : List V} {r : List (Bool × D)}, Hold K (B.prot p o) l F σ H vs r → Hold K B l F σ H vs r ∧ p ∉ newOf vs r
  | [], [], _ => ⟨trivial, by simp [newOf]⟩
  | [], _ :: _, h => h.elim
  | _ :: _, [], h => h.elim
  | v :: vs, (false, d) :: r, h => by
    obtain ⟨h1, h2⟩ := Hold.unprot g h.2
    refine ⟨⟨h.1, h1⟩, ?_⟩
    cases v <;> simpa [newOf] using h2
  | v :: vs, (true, d) :: r, ⟨⟨q, e, f, n⟩, h⟩ => by
    obtain ⟨h1, h2⟩ := Hold.unprot g h
    subst e
    have hq : upd B.H0 p o q = none := f.hn
    have ne : q ≠ p := fun z => by
      subst z
      rw [upd_same] at hq
      cases hq
    rw [upd_ne ne] at hq
    refine ⟨⟨⟨q, rfl, ⟨f.own, f.fn, hq, f.ne⟩, n⟩, h1⟩, ?_⟩
    simp only [newOf, List.mem_cons, not_or]
    exact ⟨Ne.symm ne, h2⟩
/-- a new tuple beside -/
theorem Hold.beside {p : Addr} {o : HO} (n : H p = none) : ∀ {vs : List V} {r : List (Bool × D)}, Hold K B l F σ H vs r → Hold K B l F σ (upd H p o) vs r
  | [], [], _ => trivial
  | [], _ :: _, h => h.elim
  | _ :: _, [], h => h.elim
  | v :: vs, (false, d) :: r, h => ⟨h.1, Hold.beside n h.2⟩
  | v :: vs, (true, d) :: r, ⟨⟨q, e, f, m⟩, h⟩ => by
    obtain ⟨u, hu, _⟩ := f.own.here
    exact ⟨⟨q, e, ⟨f.own.mono (Le.refl F) (upd_ne (ne_of_none hu n)), f.fn, f.hn, f.ne⟩, m⟩, Hold.beside n h⟩
/-- a store of one of them -/
theorem Hold.storeFz {i : Nat} {w : Option V} {d0 : D} : ∀ {vs : List V} {r : List (Bool × D)}, Hold K B l F σ H vs r → σ.length = l.length → Hold K B (put l i (.fz d0)) F (σ.set i w) H vs r
  | [], [], _, _ => trivial
  | [], _ :: _, h, _ => h.elim
  | _ :: _, [], h, _ => h.elim
  | v :: vs, (false, d) :: r, h, e => ⟨h.1, Hold.storeFz h.2 e⟩
  | v :: vs, (true, d) :: r, ⟨⟨q, ev, f, m⟩, h⟩, e => by
    refine ⟨⟨q, ev, ⟨f.own, f.fn, f.hn, fun j c a h1 h2 => ?_⟩, m⟩, Hold.storeFz h e⟩
    by_cases z : j = i
    · subst z
      by_cases hi : j < l.length
      · rw [nth_put_same hi] at h1; cases h1
      · rw [put_ge (Nat.le_of_not_lt hi)] at h1
        rw [List.set_eq_of_length_le (by omega)] at h2
        exact f.ne j c a h1 h2
    · rw [nth_put_ne z] at h1
      rw [List.getElem?_set_ne (Ne.symm z)] at h2
      exact f.ne j c a h1 h2
theorem Hold.storeOw {i : Nat} {p : Addr} {d0 : D} (hi : i < l.length) (hs : σ.length = l.length) : ∀ {vs : List V} {r : List (Bool × D)}, Hold K B l F σ H vs r → p ∉ newOf vs r → Hold K B (put l i (.ow d0)) F (σ.set i (some (.ref p))) H vs r
  | [], [], _, _ => trivial
  | [], _ :: _, h, _ => h.elim
  | _ :: _, [], h, _ => h.elim
  | v :: vs, (false, d) :: r, h, e => ⟨h.1, Hold.storeOw hi hs h.2 (by cases v <;> simpa [newOf] using e)⟩
  | v :: vs, (true, d) :: r, ⟨⟨q, ev, f, m⟩, h⟩, e => by
    subst ev
    simp only [newOf, List.mem_cons, not_or] at e
    refine ⟨⟨q, rfl, ⟨f.own, f.fn, f.hn, fun j c a h1 h2 => ?_⟩, m⟩, Hold.storeOw hi hs h e.2⟩
    by_cases z : j = i
    · subst z
      rw [List.getElem?_set_self (by omega)] at h2
      cases h2
      exact e.1
    · rw [nth_put_ne z] at h1
      rw [List.getElem?_set_ne (Ne.symm z)] at h2
      exact f.ne j c a h1 h2
def setAll : Sl → List (Bool × Nat) → List V → Sl
  | σ, (_, i) :: r, v :: vs => setAll (σ.set i (some v)) r vs
  | σ, _, _ => σ
theorem put_all : ∀ {ks : List (Bool × Nat)} {vs : List V} {ds : List D} {l l' : Loc} {σ : Sl}, Gd K B l F σ H → Hold K B l F σ H vs ((ks.map (·.1)).zip ds) → (∀ k ∈ ks, k.2 < l.length) → putAll ks ds l = some l' → Gd K B l' F (setAll σ ks vs) H
  | [], _, [], _, _, _, g, _, _, h => by
    cases h
    simpa [setAll] using g
  | [], _, _ :: _, _, _, _, _, _, _, h => by cases h
  | _ :: _, _, [], _, _, _, _, _, _, h => by cases h
  | (false, i) :: r, [], d :: ds, _, _, _, _, hh, _, _ => by cases hh
  | (true, i) :: r, [], d :: ds, _, _, _, _, hh, _, _ => by cases hh
  | (false, i) :: r, v :: vs, d :: ds, l, l', σ, g, hh, hk, h => by
    have hh' : Rep K F v d ∧ Hold K B l F σ H vs ((r.map (·.1)).zip ds) := hh
    have h' : putAll r ds (put l i (.fz d)) = some l' := h
    have t := put_all (g.store i (some v) (.fz d) (.inr ⟨d, v, rfl, rfl, hh'.1⟩)) (hh'.2.storeFz g.len.symm) (fun k z => by rw [put_length]; exact hk k (List.mem_cons_of_mem _ z)) h'
    exact t
  | (true, i) :: r, v :: vs, d :: ds, l, l', σ, g, hh, hk, h => by
    obtain ⟨⟨p, e, f, m⟩, h2⟩ : (∃ p, v = .ref p ∧ Fresh K B l F σ H p d ∧ p ∉ newOf vs ((List.map (fun k : Bool × Nat => k.1) r).zip ds)) ∧ Hold K B l F σ H vs ((List.map (fun k : Bool × Nat => k.1) r).zip ds) := hh
    subst e
    have h' : putAll r ds (put l i (.ow d)) = some l' := h
    have hi := hk (true, i) List.mem_cons_self
    have t := put_all (g.storeOwn i f hi) (Hold.storeOw hi g.len.symm h2 m) (fun k z => by rw [put_length]; exact hk k (List.mem_cons_of_mem _ z)) h'
    exact t
end
def tM (K : PySem.W.Frag) (B : Base) (ks : List Bool) (a : M (List D)) : TA := fun σ H Q => ∃ l F ds l', Gd K B l F σ H ∧ a l = some (ds, l') ∧ ∀ vs F' H', Le F F' → Gd K B l' F' σ H' → Hold K B l' F' σ H' vs (ks.zip ds) → Q vs H'
section
variable {X : Cx} {B : Base} {a b c e : Expr} {pos : Pos} {es : List Expr} {ks : List Bool} {ev : E} {evs : List E}
abbrev SM (X : Cx) (es : List Expr) (ks : List Bool) (evs : List E) : Prop := ∀ B, PA X es (tM X.K B ks (args evs))
theorem _root_.L2.PA.ex {t : Base → TA} (h : ∀ B, PA X es (t B)) : PA X es (fun σ H Q => ∃ B, t B σ H Q) := ⟨fun pos pins s σ H Q I ⟨B, q⟩ => (h B).run pos pins s σ H Q I q⟩
theorem sm_nil : SM X [] [] [] := fun B => pa_nil.weak fun σ H Q ⟨l, F, ds, l', g, q, k⟩ => by
  cases q
  exact k [] F H (Le.refl F) g trivial
theorem sm_fz (h : ∀ B, SE X B e ev) (r : SM X es ks evs) (hs : starEach (e :: es) X.env = (false, eval e X.env) :: starEach es X.env := by rfl) : SM X (e :: es) (false :: ks) (ev :: evs) := fun B => (pa_cons (h B) (r B) hs).weak fun σ H Q ⟨l, F, ds, l', g, q, k⟩ => by
  obtain ⟨⟨d, l1⟩, h1, q⟩ := bnd q
  obtain ⟨⟨ds2, l2⟩, h2, q⟩ := bnd q
  cases q
  exact ⟨l, F, d, l1, g, h1, fun v F1 H1 le1 g1 r1 => ⟨l1, F1, ds2, _, g1, h2, fun vs F2 H2 le2 g2 hh => k (v :: vs) F2 H2 (le1.trans le2) g2 ⟨r1.mono le2, hh⟩⟩⟩
theorem sm_fr (h : ∀ B, SF X B e ev) (r : SM X es ks evs) (hs : starEach (e :: es) X.env = (false, eval e X.env) :: starEach es X.env := by rfl) : SM X (e :: es) (true :: ks) (ev :: evs) := fun B => (pa_cons (h B) (PA.ex r) hs).weak fun σ H Q ⟨l, F, ds, l', g, q, k⟩ => by
  obtain ⟨⟨d, l1⟩, h1, q⟩ := bnd q
  obtain ⟨⟨ds2, l2⟩, h2, q⟩ := bnd q
  cases q
  refine ⟨l, F, d, l1, g, h1, fun p F1 H1 le1 g1 f1 => ?_⟩
  obtain ⟨o, ho, hr⟩ := f1.own.here
  obtain ⟨f0, fi⟩ := f1.f0 g1
  refine ⟨B.prot p o, l1, F1, ds2, _, g1.prot f1 ho, h2, fun vs F2 H2 le2 g2 hh => ?_⟩
  obtain ⟨gu, hp, hf, hne⟩ := g2.unprot f1.hn f0 fi
  obtain ⟨hh', hn⟩ := hh.unprot gu
  exact k (.ref p :: vs) F2 H2 (le1.trans le2) gu ⟨⟨p, rfl, ⟨f1.own.mono le2 (by rw [hp, ho]), hf, f1.hn, hne⟩, hn⟩, hh'⟩
variable {fr : Bool} {i j m : Nat} {x y z : Str} {px py pz pt : Pos} {kt k2 : Nat} {pt2 : Pos} {k1 k3 k4 : Bool} {ea eb ec : E}
theorem ss_par2 (hc : X.calm = true) (hN : X.N.Nodup) (hi : X.N[i]? = some x) (hj : X.N[j]? = some y) (hij : i ≠ j)
    (hx : X.env.scope.names.lookup x = some .local) (hy : X.env.scope.names.lookup y = some .local) (ha : SM X [a, b] [k1, k3] [ea, eb])
    (hw : swappedStores [.Tuple [.Name x px, .Name y py] kt pt] (.Tuple [a, b] k2 pt2) X.env = pure (some [x, y]))
    (hs : swapsWithSole [.Tuple [.Name x px, .Name y py] kt pt] (.Tuple [a, b] k2 pt2) pos.line X.env = pure false := by rfl) :
    SS X B fr (.Assign [.Tuple [.Name x px, .Name y py] kt pt] (.Tuple [a, b] k2 pt2) pos) (par [(k1, i), (k3, j)] [ea, eb]) := by
  refine ⟨fun pins s σ H D I h => (ps_par hc hN hi hj hij hx hy (ha B) hw hs).run pins s σ H D I ?_⟩
  obtain ⟨l, F, f, g, q, k⟩ := h
  obtain ⟨⟨ds, l1⟩, h1, q⟩ := bnd q
  obtain ⟨l2, h2, q⟩ := bnd q
  cases q
  refine ⟨l, F, ds, l1, g, h1, fun vs F1 H1 le1 g1 hh => ?_⟩
  have hl := hh.len
  rw [List.length_zip, args_len h1] at hl
  match vs, hl with
  | [v, w], _ =>
    refine ⟨v, w, rfl, ?_⟩
    have hk : ∀ q ∈ [(k1, i), (k3, j)], q.2 < l1.length := ?_
    · have t := put_all (ks := [(k1, i), (k3, j)]) g1 hh hk h2
      exact k _ F1 H1 le1 t
    have el : l1.length = X.N.length := by rw [g1.len, I.len]
    intro q hq
    rcases List.mem_cons.mp hq with e | hq
    · subst e
      rw [el]; exact (List.getElem?_eq_some_iff.mp hi).1
    · rcases List.mem_cons.mp hq with e | hq
      · subst e
        rw [el]; exact (List.getElem?_eq_some_iff.mp hj).1
      · cases hq
theorem ss_par3 (hc : X.calm = true) (hN : X.N.Nodup) (hi : X.N[i]? = some x) (hj : X.N[j]? = some y) (hm : X.N[m]? = some z) (hij : i ≠ j) (him : i ≠ m) (hjm : j ≠ m)
    (hx : X.env.scope.names.lookup x = some .local) (hy : X.env.scope.names.lookup y = some .local) (hz : X.env.scope.names.lookup z = some .local) (ha : SM X [a, b, c] [k1, k3, k4] [ea, eb, ec])
    (hw : swappedStores [.Tuple [.Name x px, .Name y py, .Name z pz] kt pt] (.Tuple [a, b, c] k2 pt2) X.env = pure (some [x, y, z]))
    (hs : swapsWithSole [.Tuple [.Name x px, .Name y py, .Name z pz] kt pt] (.Tuple [a, b, c] k2 pt2) pos.line X.env = pure false := by rfl) :
    SS X B fr (.Assign [.Tuple [.Name x px, .Name y py, .Name z pz] kt pt] (.Tuple [a, b, c] k2 pt2) pos) (par [(k1, i), (k3, j), (k4, m)] [ea, eb, ec]) := by
  refine ⟨fun pins s σ H D I h => (ps_par3 hc hN hi hj hm hij him hjm hx hy hz (ha B) hw hs).run pins s σ H D I ?_⟩
  obtain ⟨l, F, f, g, q, k⟩ := h
  obtain ⟨⟨ds, l1⟩, h1, q⟩ := bnd q
  obtain ⟨l2, h2, q⟩ := bnd q
  cases q
  refine ⟨l, F, ds, l1, g, h1, fun vs F1 H1 le1 g1 hh => ?_⟩
  have hl := hh.len
  rw [List.length_zip, args_len h1] at hl
  match vs, hl with
  | [v, w, u], _ =>
    refine ⟨v, w, u, rfl, ?_⟩
    have hk : ∀ q ∈ [(k1, i), (k3, j), (k4, m)], q.2 < l1.length := ?_
    · have t := put_all (ks := [(k1, i), (k3, j), (k4, m)]) g1 hh hk h2
      exact k _ F1 H1 le1 t
    have el : l1.length = X.N.length := by rw [g1.len, I.len]
    intro q hq
    rcases List.mem_cons.mp hq with e | hq
    · subst e
      rw [el]; exact (List.getElem?_eq_some_iff.mp hi).1
    · rcases List.mem_cons.mp hq with e | hq
      · subst e
        rw [el]; exact (List.getElem?_eq_some_iff.mp hj).1
      · rcases List.mem_cons.mp hq with e | hq
        · subst e
          rw [el]; exact (List.getElem?_eq_some_iff.mp hm).1
        · cases hq
/-- by a tuple that is laid -/
theorem ss_tpar2 (hc : X.calm = true) (hi : X.N[i]? = some x) (hj : X.N[j]? = some y) (pi : PG X (.Name x px) (gName i)) (pj : PG X (.Name y py) (gName j)) (ha : SM X [a, b] [k1, k3] [ea, eb])
    (hs : swapsWithSole [.Tuple [.Name x px, .Name y py] kt pt] (.Tuple [a, b] k2 pt2) pos.line X.env = pure false := by rfl) (hw : swappedStores [.Tuple [.Name x px, .Name y py] kt pt] (.Tuple [a, b] k2 pt2) X.env = pure none := by rfl)
    (h1 : (assignEach [.Tuple [.Name x px, .Name y py] kt pt] X.env).map (·.2) = [assign (.Tuple [.Name x px, .Name y py] kt pt) X.env] := by rfl) :
    SS X B fr (.Assign [.Tuple [.Name x px, .Name y py] kt pt] (.Tuple [a, b] k2 pt2) pos) (par [(k1, i), (k3, j)] [ea, eb]) := by
  refine ⟨fun pins s σ H D I h => (ps_asg (pe_tup (ha B)) (pg_tup (n := 2) hc (pgs_cons pi (pgs_cons pj pgs_nil)) (by rfl) (by rfl)) hs hw h1).run pins s σ H D I ?_⟩
  obtain ⟨l, F, f, g, q, k⟩ := h
  obtain ⟨⟨ds, l1⟩, h1, q⟩ := bnd q
  obtain ⟨l2, h2, q⟩ := bnd q
  cases q
  refine ⟨l, F, ds, l1, g, h1, fun vs F1 H1 le1 g1 hh => ?_⟩
  have hl := hh.len
  rw [List.length_zip, args_len h1] at hl
  match vs, hl with
  | [v, w], _ =>
    refine ⟨by show 2 ≤ sizeLine; decide, fun T nT => ⟨T, [v, w], rfl, SqT.of upd_same, rfl, v, [w], rfl, w, [], rfl, rfl, ?_⟩⟩
    have hk : ∀ q ∈ [(k1, i), (k3, j)], q.2 < l1.length := ?_
    · have t := put_all (ks := [(k1, i), (k3, j)]) (g1.grow (.new g1.fh (.tup [v, w]) nT)) (hh.beside nT) hk h2
      exact k _ F1 _ le1 t
    have el : l1.length = X.N.length := by rw [g1.len, I.len]
    intro q hq
    rcases List.mem_cons.mp hq with e | hq
    · subst e
      rw [el]; exact (List.getElem?_eq_some_iff.mp hi).1
    · rcases List.mem_cons.mp hq with e | hq
      · subst e
        rw [el]; exact (List.getElem?_eq_some_iff.mp hj).1
      · cases hq
theorem ss_tpar3 (hc : X.calm = true) (hi : X.N[i]? = some x) (hj : X.N[j]? = some y) (hm : X.N[m]? = some z) (pi : PG X (.Name x px) (gName i)) (pj : PG X (.Name y py) (gName j)) (pm : PG X (.Name z pz) (gName m)) (ha : SM X [a, b, c] [k1, k3, k4] [ea, eb, ec])
    (hs : swapsWithSole [.Tuple [.Name x px, .Name y py, .Name z pz] kt pt] (.Tuple [a, b, c] k2 pt2) pos.line X.env = pure false := by rfl) (hw : swappedStores [.Tuple [.Name x px, .Name y py, .Name z pz] kt pt] (.Tuple [a, b, c] k2 pt2) X.env = pure none := by rfl)
    (h1 : (assignEach [.Tuple [.Name x px, .Name y py, .Name z pz] kt pt] X.env).map (·.2) = [assign (.Tuple [.Name x px, .Name y py, .Name z pz] kt pt) X.env] := by rfl) :
    SS X B fr (.Assign [.Tuple [.Name x px, .Name y py, .Name z pz] kt pt] (.Tuple [a, b, c] k2 pt2) pos) (par [(k1, i), (k3, j), (k4, m)] [ea, eb, ec]) := by
  refine ⟨fun pins s σ H D I h => (ps_asg (pe_tup (ha B)) (pg_tup (n := 3) hc (pgs_cons pi (pgs_cons pj (pgs_cons pm pgs_nil))) (by rfl) (by rfl)) hs hw h1).run pins s σ H D I ?_⟩
  obtain ⟨l, F, f, g, q, k⟩ := h
  obtain ⟨⟨ds, l1⟩, h1, q⟩ := bnd q
  obtain ⟨l2, h2, q⟩ := bnd q
  cases q
  refine ⟨l, F, ds, l1, g, h1, fun vs F1 H1 le1 g1 hh => ?_⟩
  have hl := hh.len
  rw [List.length_zip, args_len h1] at hl
  match vs, hl with
  | [v, w, u], _ =>
    refine ⟨by show 3 ≤ sizeLine; decide, fun T nT => ⟨T, [v, w, u], rfl, SqT.of upd_same, rfl, v, [w, u], rfl, w, [u], rfl, u, [], rfl, rfl, ?_⟩⟩
    have hk : ∀ q ∈ [(k1, i), (k3, j), (k4, m)], q.2 < l1.length := ?_
    · have t := put_all (ks := [(k1, i), (k3, j), (k4, m)]) (g1.grow (.new g1.fh (.tup [v, w, u]) nT)) (hh.beside nT) hk h2
      exact k _ F1 _ le1 t
    have el : l1.length = X.N.length := by rw [g1.len, I.len]
    intro q hq
    rcases List.mem_cons.mp hq with e | hq
    · subst e
      rw [el]; exact (List.getElem?_eq_some_iff.mp hi).1
    · rcases List.mem_cons.mp hq with e | hq
      · subst e
        rw [el]; exact (List.getElem?_eq_some_iff.mp hj).1
      · rcases List.mem_cons.mp hq with e | hq
        · subst e
          rw [el]; exact (List.getElem?_eq_some_iff.mp hm).1
        · cases hq
/-! ### names of the module -/
/-- a text under a name of the module -/
structure GS (mg : Str → Option Value) (x : Str) (s : List Nat) : Prop where
  ex : ∃ t, mg x = some (.str ⟨s.toArray⟩ t)
theorem se_gstr {s : List Nat} (h : GS X.mg x s) (hg : Gl X x := by rfl) (hl : s.length ≤ line := by decide) (hc : ∀ c ∈ s, c < 1114112 := by decide) (hb : (x == ("__debug__" : Str)) = false := by decide) : SE X B (.Name x pos) (cst (.str s)) := by
  obtain ⟨t, h⟩ := h.ex
  exact se_glob (v := .str ⟨s.toArray⟩) hg h ⟨t, rfl⟩ (fun F => .str s hl hc) hb
theorem ob_gcd : Cal2 X (.builtin "math.gcd") gcdD := by
  intro pins s σ H xs us Q I rs ⟨F, x, y, a, b, c, e, fh, h1, h2, h3, k⟩
  subst e
  cases a with
  | int i =>
    cases b with
    | int j =>
      cases h3
      cases h1.int
      cases h2.int
      exact cr_gcd pins s σ H _ us Q I rs ⟨i, j, rfl, k.now fh (.int _)⟩
    | _ => cases h3
  | _ => cases h3
theorem se_g2 {oa ob : O} {x : Str} {p : Pos} {g2 : D → D → Option D} {id : String} (hc : Cal2 X (.builtin id) g2) (hm : X.mg x = some (.builtin id)) (ha : SP X B a oa) (hb : SP X B b ob) (hg : Gl X x := by rfl) (hdb : (x == ("__debug__" : Str)) = false := by decide)
    (he : starEach [a, b] X.env = (false, eval a X.env) :: starEach [b] X.env := by rfl) (he2 : starEach [b] X.env = (false, eval b X.env) :: starEach [] X.env := by rfl) (hpl : (backTo pos (starEach [b] X.env)).any (·.1) = false := by rfl) : SE X B (.Call (.Name x p) [a, b] [] pos) (op2 g2 oa ob) :=
  (pe_callMB hc hg hm (pa_cons ha (pa_cons hb pa_nil he2) he) hdb he hpl).weak fun σ H Q k => t2 (r := fun x y H Q => ∃ (F : Hp) (x' y' : V) (a b c : D), [x, y] = [x', y'] ∧ (∀ a o, F a = some o → H a = some o) ∧ Pk X.K F H x' a ∧ Pk X.K F H y' b ∧ g2 a b = some c ∧ OutQ X.K F H c Q) k
    fun x y F a b c H Q fh h1 h2 h3 h4 => ⟨F, x, y, a, b, c, rfl, fh, h1, h2, h3, h4⟩
/-- a tuple under a name of the module -/
structure GC (K : PySem.W.Frag) (mg : Str → Option Value) (x : Str) (ds : List D) : Prop where
  ex : ∃ a vs, mg x = some (.ref a) ∧ (∀ F, SqT K F a vs) ∧ ∀ F, RepAll K F vs ds
theorem se_gcon {x : Str} {ds : List D} (h : GC X.K X.mg x ds) (hg : Gl X x := by rfl) (hb : (x == ("__debug__" : Str)) = false := by decide) : SE X B (.Name x pos) (cst (.con ds)) := by
  obtain ⟨a, vs, h1, h2, h3⟩ := h.ex
  exact se_glob (v := .ref a) hg h1 rfl (fun F => .con (h2 F) (h3 F)) hb
end
end Py

namespace Py.Pl
open Py
/-- slots: 0 number 1 place 2 first 3 second 4 third -/
def b__law_mixed : S := seq (asg (gname 2) (op2 modD (oexp (op1 intD (oexp (op2 addD (oexp (op2 addD (oexp (op2 mulD (ovar 0) (oexp (cst (.int 410338673998125441398711))))) (oexp (op2 mulD (ovar 1) (oexp (cst (.int 736418259301774563982039))))))) (oexp (cst (.int 295075153872261839517363))))))) (oexp (cst (.int 618970019642690137449562111))))) (seq (asg (gname 3) (op2 modD (oexp (op1 intD (oexp (op2 addD (oexp (op2 addD (oexp (op2 mulD (ovar 2) (ovar 2))) (oexp (op2 mulD (oexp (cst (.int 7))) (ovar 2))))) (ovar 1))))) (oexp (cst (.int 162259276829213363391578010288127))))) (seq (asg (gname 4) (op2 modD (oexp (op1 intD (oexp (op2 addD (oexp (op2 mulD (ovar 3) (ovar 3))) (ovar 2))))) (oexp (cst (.int 618970019642690137449562111))))) (ret (op2 addD (oexp (op2 mulD (ovar 3) (oexp (cst (.int 618970019642690137449562111))))) (ovar 4)))))
def d__law_mixed : List D → Option D := run 2 3 b__law_mixed
/-- slots: 0 script 1 place 2 again 3 number -/
def b__law_rest : S := seq (asg (gname 3) (cst (.int 0))) (seq (ifS (tbl (op2 gtD (oexp (op1 lenD (ovar 0))) (oexp (cst (.int 0))))) (asg (gname 3) (op1 intD (oexp (op2 ixD (ovar 0) (oexp (op2 modD (oexp (op1 intD (ovar 1))) (oexp (op1 lenD (ovar 0))))))))) (nop)) (seq (ifS (tbl (op2 ltD (ovar 3) (oexp (cst (.int 0))))) (asg (gname 3) (op2 subD (oexp (cst (.int 1))) (oexp (op2 mulD (oexp (cst (.int 2))) (ovar 3))))) (nop)) (seq (ifS (tand (tbl (op2 eqD (ovar 2) (oexp (cst (.int 0))))) (tand (tbl (op2 ltD (ovar 1) (oexp (op1 lenD (ovar 0))))) (tbl (op2 geD (ovar 3) (oexp (op2 powD (oexp (cst (.int 10))) (oexp (cst (.int 18))))))))) (ret (op2 subD (ovar 3) (oexp (op2 powD (oexp (cst (.int 10))) (oexp (cst (.int 18))))))) (nop)) (ret (call d__law_mixed [op2 addD (ovar 3) (oexp (op2 mulD (ovar 2) (oexp (cst (.int 1000003))))), use 1])))))
def d__law_rest : List D → Option D := run 3 1 b__law_rest
/-- slots: 0 script -/
def b__law_pool : S := ret (lstE [use 0, cst (.int 0), call d__law_rest [use 0, cst (.int 0), cst (.int 0)], cst (.int 0)])
def d__law_pool : List D → Option D := run 1 0 b__law_pool
/-- slots: 0 pool -/
def b__law_next : S := seq (setS 0 (cst (.int 1)) (op2 addD (oexp (op2 ixD (ovar 0) (oexp (cst (.int 1))))) (oexp (cst (.int 1))))) (seq (setS 0 (cst (.int 2)) (call d__law_rest [op2 ixD (ovar 0) (oexp (cst (.int 0))), op2 ixD (ovar 0) (oexp (cst (.int 1))), cst (.int 0)])) (setS 0 (cst (.int 3)) (cst (.int 0))))
def d__law_next : D → List D → Option (D × D) := run1 0 0 b__law_next
/-- slots: 0 pool 1 limit 2 value -/
def b__law_draw : S := seq (ifS (tbl (op2 leD (oexp (op2 ixD (ovar 0) (oexp (cst (.int 2))))) (oexp (cst (.int 1))))) (seq (setS 0 (cst (.int 3)) (op2 addD (oexp (op2 ixD (ovar 0) (oexp (cst (.int 3))))) (oexp (cst (.int 1))))) (setS 0 (cst (.int 2)) (call d__law_rest [op2 ixD (ovar 0) (oexp (cst (.int 0))), op2 ixD (ovar 0) (oexp (cst (.int 1))), op2 ixD (ovar 0) (oexp (cst (.int 3)))]))) (nop)) (seq (asg (gname 2) (op2 modD (oexp (op1 intD (oexp (op2 ixD (ovar 0) (oexp (cst (.int 2))))))) (ovar 1))) (seq (setS 0 (cst (.int 2)) (op2 divD (oexp (op1 intD (oexp (op2 ixD (ovar 0) (oexp (cst (.int 2))))))) (ovar 1))) (ret (use 2))))
def d__law_draw : D → List D → Option (D × D) := run1 1 1 b__law_draw
/-- slots: 0 pool 1 options -/
def b__law_pick : S := ret (op2 ixD (ovar 1) (oexp (call1 d__law_draw 0 [op1 lenD (ovar 1)])))
def d__law_pick : D → List D → Option (D × D) := run1 1 0 b__law_pick
/-- slots: 0 pool 1 items 2 left 3 found 4 k -/
def b__law_shuffled : S := seq (own 2 (op1 listD (ovar 1))) (seq (own 3 (lstE [])) (seq (forS (rng1 (op1 lenD (ovar 1))) (gname 4) (appS 3 (popA 2 (call1 d__law_draw 0 [op1 lenD (ovar 2)])))) (ret (use 3))))
def d__law_shuffled : D → List D → Option (D × D) := run1 1 3 b__law_shuffled
/-- slots: 0 answer 1 due 2 key 3 k -/
def b__law_same (n : Nat) (d__law_same : Nat → List D → Option D) : S := seq (ifS (tru (oexp (op1 (isiD .dict) (ovar 1)))) (seq (ifS (tor (tnot (tru (oexp (op1 (isiD .dict) (ovar 0))))) (tbl (op2 neD (oexp (op1 lenD (ovar 0))) (oexp (op1 lenD (ovar 1)))))) (ret (cst (.bl false))) (nop)) (ret (op1 allD (oexp (lc [2] (over (use 1)) (gname 2) (tyes) (eand (op2 inD (ovar 2) (ovar 0)) (call (d__law_same n) [op2 ixD (ovar 0) (ovar 2), op2 ixD (ovar 1) (ovar 2)]))))))) (nop)) (seq (ifS (tor (tru (oexp (op1 (isiD .list) (ovar 1)))) (tru (oexp (op1 (isiD .tuple) (ovar 1))))) (seq (ifS (tor (tbl (op2 neD (oexp (op1 (isiD .list) (ovar 1))) (oexp (op1 (isiD .list) (ovar 0))))) (tbl (op2 neD (oexp (op1 (isiD .tuple) (ovar 1))) (oexp (op1 (isiD .tuple) (ovar 0)))))) (ret (cst (.bl false))) (nop)) (ret (eand (op2 eqD (oexp (op1 lenD (ovar 0))) (oexp (op1 lenD (ovar 1)))) (op1 allD (oexp (lc [3] (rng1 (op1 lenD (ovar 1))) (gname 3) (tyes) (call (d__law_same n) [op2 ixD (ovar 0) (ovar 3), op2 ixD (ovar 1) (ovar 3)]))))))) (nop)) (seq (ifS (tru (oexp (op1 (isiD .str) (ovar 1)))) (ret (eand (op1 (isiD .str) (ovar 0)) (op2 eqD (ovar 0) (ovar 1)))) (nop)) (seq (ifS (tor (tbl (op1 isNon (ovar 1))) (tor (tbl (op1 (isBl true) (ovar 1))) (tbl (op1 (isBl false) (ovar 1))))) (ret (eor (eand (op1 isNon (ovar 1)) (op1 isNon (ovar 0))) (eor (eand (op1 (isBl true) (ovar 1)) (op1 (isBl true) (ovar 0))) (eand (op1 (isBl false) (ovar 1)) (op1 (isBl false) (ovar 0)))))) (nop)) (ret (eand (op1 (isiD .int) (ovar 0)) (eand (op1 notD (oexp (op1 (isiD .bool) (ovar 0)))) (op2 eqD (ovar 0) (ovar 1))))))))
def d__law_same : Nat → List D → Option D
  | 0 => fun _ => none
  | n + 1 => run 2 2 (seq (ifS (tru (oexp (op1 (isiD .dict) (ovar 1)))) (seq (ifS (tor (tnot (tru (oexp (op1 (isiD .dict) (ovar 0))))) (tbl (op2 neD (oexp (op1 lenD (ovar 0))) (oexp (op1 lenD (ovar 1)))))) (ret (cst (.bl false))) (nop)) (ret (op1 allD (oexp (lc [2] (over (use 1)) (gname 2) (tyes) (eand (op2 inD (ovar 2) (ovar 0)) (call (d__law_same n) [op2 ixD (ovar 0) (ovar 2), op2 ixD (ovar 1) (ovar 2)]))))))) (nop)) (seq (ifS (tor (tru (oexp (op1 (isiD .list) (ovar 1)))) (tru (oexp (op1 (isiD .tuple) (ovar 1))))) (seq (ifS (tor (tbl (op2 neD (oexp (op1 (isiD .list) (ovar 1))) (oexp (op1 (isiD .list) (ovar 0))))) (tbl (op2 neD (oexp (op1 (isiD .tuple) (ovar 1))) (oexp (op1 (isiD .tuple) (ovar 0)))))) (ret (cst (.bl false))) (nop)) (ret (eand (op2 eqD (oexp (op1 lenD (ovar 0))) (oexp (op1 lenD (ovar 1)))) (op1 allD (oexp (lc [3] (rng1 (op1 lenD (ovar 1))) (gname 3) (tyes) (call (d__law_same n) [op2 ixD (ovar 0) (ovar 3), op2 ixD (ovar 1) (ovar 3)]))))))) (nop)) (seq (ifS (tru (oexp (op1 (isiD .str) (ovar 1)))) (ret (eand (op1 (isiD .str) (ovar 0)) (op2 eqD (ovar 0) (ovar 1)))) (nop)) (seq (ifS (tor (tbl (op1 isNon (ovar 1))) (tor (tbl (op1 (isBl true) (ovar 1))) (tbl (op1 (isBl false) (ovar 1))))) (ret (eor (eand (op1 isNon (ovar 1)) (op1 isNon (ovar 0))) (eor (eand (op1 (isBl true) (ovar 1)) (op1 (isBl true) (ovar 0))) (eand (op1 (isBl false) (ovar 1)) (op1 (isBl false) (ovar 0)))))) (nop)) (ret (eand (op1 (isiD .int) (ovar 0)) (eand (op1 notD (oexp (op1 (isiD .bool) (ovar 0)))) (op2 eqD (ovar 0) (ovar 1)))))))))
/-- slots: 0 base 1 many 2 found 3 k -/
def b__law_power : S := seq (asg (gname 2) (cst (.int 1))) (seq (forS (rng1 (use 1)) (gname 3) (asg (gname 2) (op2 mulD (ovar 2) (ovar 0)))) (ret (use 2)))
def d__law_power : List D → Option D := run 2 2 b__law_power
end Py.Pl

namespace Py.k13
open Py Py.Pl
/-- slots: 0 p 1 q 2 common -/
def b_frac : S := seq (asg (gname 2) (op2 gcdD (ovar 0) (ovar 1))) (seq (ifS (tbl (op2 ltD (ovar 1) (oexp (cst (.int 0))))) (asg (gname 2) (op1 negD (ovar 2))) (nop)) (ret (tupE [op2 divD (ovar 0) (ovar 2), op2 divD (ovar 1) (ovar 2)])))
def d_frac : List D → Option D := run 2 1 b_frac
/-- slots: 0 a 1 b -/
def b_plus : S := ret (call d_frac [op2 addD (oexp (op2 mulD (oexp (op2 ixD (ovar 0) (oexp (cst (.int 0))))) (oexp (op2 ixD (ovar 1) (oexp (cst (.int 1))))))) (oexp (op2 mulD (oexp (op2 ixD (ovar 1) (oexp (cst (.int 0))))) (oexp (op2 ixD (ovar 0) (oexp (cst (.int 1))))))), op2 mulD (oexp (op2 ixD (ovar 0) (oexp (cst (.int 1))))) (oexp (op2 ixD (ovar 1) (oexp (cst (.int 1)))))])
def d_plus : List D → Option D := run 2 0 b_plus
/-- slots: 0 a 1 b -/
def b_minus : S := ret (call d_frac [op2 subD (oexp (op2 mulD (oexp (op2 ixD (ovar 0) (oexp (cst (.int 0))))) (oexp (op2 ixD (ovar 1) (oexp (cst (.int 1))))))) (oexp (op2 mulD (oexp (op2 ixD (ovar 1) (oexp (cst (.int 0))))) (oexp (op2 ixD (ovar 0) (oexp (cst (.int 1))))))), op2 mulD (oexp (op2 ixD (ovar 0) (oexp (cst (.int 1))))) (oexp (op2 ixD (ovar 1) (oexp (cst (.int 1)))))])
def d_minus : List D → Option D := run 2 0 b_minus
/-- slots: 0 a 1 b -/
def b_times : S := ret (call d_frac [op2 mulD (oexp (op2 ixD (ovar 0) (oexp (cst (.int 0))))) (oexp (op2 ixD (ovar 1) (oexp (cst (.int 0))))), op2 mulD (oexp (op2 ixD (ovar 0) (oexp (cst (.int 1))))) (oexp (op2 ixD (ovar 1) (oexp (cst (.int 1)))))])
def d_times : List D → Option D := run 2 0 b_times
/-- slots: 0 a 1 b -/
def b_over : S := ret (call d_frac [op2 mulD (oexp (op2 ixD (ovar 0) (oexp (cst (.int 0))))) (oexp (op2 ixD (ovar 1) (oexp (cst (.int 1))))), op2 mulD (oexp (op2 ixD (ovar 0) (oexp (cst (.int 1))))) (oexp (op2 ixD (ovar 1) (oexp (cst (.int 0)))))])
def d_over : List D → Option D := run 2 0 b_over
/-- slots: 0 a 1 b -/
def b_less : S := ret (op2 ltD (oexp (op2 mulD (oexp (op2 ixD (ovar 0) (oexp (cst (.int 0))))) (oexp (op2 ixD (ovar 1) (oexp (cst (.int 1))))))) (oexp (op2 mulD (oexp (op2 ixD (ovar 1) (oexp (cst (.int 0))))) (oexp (op2 ixD (ovar 0) (oexp (cst (.int 1))))))))
def d_less : List D → Option D := run 2 0 b_less
/-- slots: 0 one 1 other -/
def b_crease_of : S := ret (call d_over [call d_plus [use 0, use 1], cst (.con [.int 2, .int 1])])
def d_crease_of : List D → Option D := run 2 0 b_crease_of
/-- slots: 0 crease 1 mark -/
def b_mirrored : S := ret (call d_minus [call d_times [cst (.con [.int 2, .int 1]), use 0], use 1])
def d_mirrored : List D → Option D := run 2 0 b_mirrored
/-- slots: 0 marks 1 mark 2 at -/
def b_put_in : S := seq (ifS (tor (tbl (op2 inD (ovar 1) (ovar 0))) (tor (tru (oexp (call d_less [use 1, tupE [cst (.int 0), cst (.int 1)]]))) (tru (oexp (call d_less [tupE [cst (.int 1), cst (.int 1)], use 1]))))) (ret (op1 listD (ovar 0))) (nop)) (seq (asg (gname 2) (cst (.int 0))) (seq (whileS 1000 (tand (tbl (op2 ltD (ovar 2) (oexp (op1 lenD (ovar 0))))) (tru (oexp (call d_less [op2 ixD (ovar 0) (ovar 2), use 1])))) (asg (gname 2) (op2 addD (ovar 2) (oexp (cst (.int 1)))))) (ret (op2 addD (oexp (op2 addD (oexp (op1 listD (oexp (slc (ovar 0) (onone) (osome (use 2)))))) (oexp (lstE [use 1])))) (oexp (op1 listD (oexp (slc (ovar 0) (osome (use 2)) (onone)))))))))
def d_put_in : List D → Option D := run 2 1 b_put_in
/-- slots: 0 marks 1 one 2 other 3 crease 4 found 5 mark -/
def b_folded_marks : S := seq (asg (gname 3) (call d_crease_of [use 1, use 2])) (seq (asg (gname 4) (call d_put_in [use 0, use 3])) (seq (forS (over (use 0)) (gname 5) (asg (gname 4) (call d_put_in [use 4, call d_mirrored [use 3, use 5]]))) (ret (use 4))))
def d_folded_marks : List D → Option D := run 3 3 b_folded_marks
/-- slots: 0 folds 1 marks 2 one 3 other -/
def b_after : S := seq (asg (gname 1) (lstE [tupE [cst (.int 0), cst (.int 1)], tupE [cst (.int 1), cst (.int 1)]])) (seq (forS (over (use 0)) (gtup [gname 2, gname 3]) (seq (ifS (tor (tbl (op2 notInD (ovar 2) (ovar 1))) (tor (tbl (op2 notInD (ovar 3) (ovar 1))) (tbl (op2 eqD (ovar 2) (ovar 3))))) (ret (cst .non)) (nop)) (asg (gname 1) (call d_folded_marks [use 1, use 2, use 3])))) (ret (use 1)))
def d_after : List D → Option D := run 1 3 b_after
/-- slots: 0 most 1 sheets 2 found 3 turn 4 further 5 marks 6 at 7 one 8 other 9 more 10 known 11 mark -/
def b_levels : S := seq (asg (gname 1) (lstE [lstE [tupE [cst (.int 0), cst (.int 1)], tupE [cst (.int 1), cst (.int 1)]]])) (seq (own 2 (lstE [lstE [tupE [cst (.int 0), cst (.int 1)], tupE [cst (.int 1), cst (.int 1)]]])) (seq (forS (rng1 (use 0)) (gname 3) (seq (own 4 (lstE [])) (seq (forS (over (use 1)) (gname 5) (forS (enumL (use 5)) (gtup [gname 6, gname 7]) (forS (over (slc (ovar 5) (osome (op2 addD (ovar 6) (oexp (cst (.int 1))))) (onone))) (gname 8) (seq (asg (gname 9) (call d_folded_marks [use 5, use 7, use 8])) (ifS (tbl (op2 notInD (ovar 9) (ovar 4))) (appS 4 (use 9)) (nop)))))) (seq (asg (gname 1) (use 4)) (seq (asg (gname 10) (op1 listD (oexp (op2 ixD (ovar 2) (oexp (op1 negD (oexp (cst (.int 1))))))))) (seq (forS (over (use 1)) (gname 5) (forS (over (use 5)) (gname 11) (asg (gname 10) (call d_put_in [use 10, use 11])))) (appS 2 (use 10)))))))) (ret (use 2))))
def d_levels : List D → Option D := run 1 11 b_levels
/-- slots: 0 mark 1 most 2 count 3 marks -/
def b_fewest_folds : S := seq (forS (enumL (call d_levels [use 1])) (gtup [gname 2, gname 3]) (ifS (tbl (op2 inD (ovar 0) (ovar 3))) (ret (use 2)) (nop))) (ret (cst .non))
def d_fewest_folds : List D → Option D := run 2 2 b_fewest_folds
/-- slots: 0 a 1 b 2 turn -/
def b__law_gcd : S := seq (forS (rng1 (cst (.int 3000))) (gname 2) (seq (ifS (tbl (op2 eqD (ovar 1) (oexp (cst (.int 0))))) (brk) (nop)) (par [(false, 0), (false, 1)] [use 1, op2 modD (oexp (op1 intD (ovar 0))) (oexp (op1 intD (ovar 1)))]))) (ret (use 0))
def d__law_gcd : List D → Option D := run 2 1 b__law_gcd
/-- slots: 0 p 1 q 2 both -/
def b__law_frac : S := seq (ifS (tbl (op2 ltD (ovar 1) (oexp (cst (.int 0))))) (par [(false, 0), (false, 1)] [op2 subD (oexp (cst (.int 0))) (ovar 0), op2 subD (oexp (cst (.int 0))) (ovar 1)]) (nop)) (seq (asg (gname 2) (call d__law_gcd [ifE (tbl (op2 geD (ovar 0) (oexp (cst (.int 0))))) (use 0) (op2 subD (oexp (cst (.int 0))) (ovar 0)), use 1])) (ret (tupE [op2 divD (ovar 0) (ovar 2), op2 divD (ovar 1) (ovar 2)])))
def d__law_frac : List D → Option D := run 2 1 b__law_frac
/-- slots: 0 one 1 other -/
def b__law_add : S := ret (call d__law_frac [op2 addD (oexp (op2 mulD (oexp (op2 ixD (ovar 0) (oexp (cst (.int 0))))) (oexp (op2 ixD (ovar 1) (oexp (cst (.int 1))))))) (oexp (op2 mulD (oexp (op2 ixD (ovar 1) (oexp (cst (.int 0))))) (oexp (op2 ixD (ovar 0) (oexp (cst (.int 1))))))), op2 mulD (oexp (op2 ixD (ovar 0) (oexp (cst (.int 1))))) (oexp (op2 ixD (ovar 1) (oexp (cst (.int 1)))))])
def d__law_add : List D → Option D := run 2 0 b__law_add
/-- slots: 0 one 1 other -/
def b__law_sub : S := ret (call d__law_frac [op2 subD (oexp (op2 mulD (oexp (op2 ixD (ovar 0) (oexp (cst (.int 0))))) (oexp (op2 ixD (ovar 1) (oexp (cst (.int 1))))))) (oexp (op2 mulD (oexp (op2 ixD (ovar 1) (oexp (cst (.int 0))))) (oexp (op2 ixD (ovar 0) (oexp (cst (.int 1))))))), op2 mulD (oexp (op2 ixD (ovar 0) (oexp (cst (.int 1))))) (oexp (op2 ixD (ovar 1) (oexp (cst (.int 1)))))])
def d__law_sub : List D → Option D := run 2 0 b__law_sub
/-- slots: 0 one 1 other -/
def b__law_mul : S := ret (call d__law_frac [op2 mulD (oexp (op2 ixD (ovar 0) (oexp (cst (.int 0))))) (oexp (op2 ixD (ovar 1) (oexp (cst (.int 0))))), op2 mulD (oexp (op2 ixD (ovar 0) (oexp (cst (.int 1))))) (oexp (op2 ixD (ovar 1) (oexp (cst (.int 1)))))])
def d__law_mul : List D → Option D := run 2 0 b__law_mul
/-- slots: 0 mark -/
def b__law_whole : S := ret (op2 divD (oexp (op2 mulD (oexp (op2 ixD (ovar 0) (oexp (cst (.int 0))))) (oexp (cst (.int 1024))))) (oexp (op2 ixD (ovar 0) (oexp (cst (.int 1))))))
def d__law_whole : List D → Option D := run 1 0 b__law_whole
/-- slots: 0 marks 1 more 2 found 3 mark 4 row -/
def b__law_put : S := seq (own 2 (op1 listD (ovar 0))) (seq (forS (over (use 1)) (gname 3) (ifS (tand (tbl (op2 notInD (ovar 3) (ovar 2))) (tand (tbl (op2 geD (oexp (op2 ixD (ovar 3) (oexp (cst (.int 0))))) (oexp (cst (.int 0))))) (tbl (op2 leD (oexp (op2 ixD (ovar 3) (oexp (cst (.int 0))))) (oexp (op2 ixD (ovar 3) (oexp (cst (.int 1))))))))) (appS 2 (use 3)) (nop))) (ret (lc [4] (over (op1 sortedD (oexp (lc [3] (over (use 2)) (gname 3) (tyes) (tupE [call d__law_whole [use 3], use 3]))))) (gname 4) (tyes) (op2 ixD (ovar 4) (oexp (cst (.int 1)))))))
def d__law_put : List D → Option D := run 2 3 b__law_put
/-- slots: 0 marks 1 one 2 other 3 crease 4 copies 5 mark -/
def b__law_folded : S := seq (asg (gname 3) (call d__law_mul [tupE [cst (.int 1), cst (.int 2)], call d__law_add [use 1, use 2]])) (seq (asg (gname 4) (lc [5] (over (use 0)) (gname 5) (tyes) (call d__law_sub [call d__law_add [use 3, use 3], use 5]))) (ret (call d__law_put [use 0, op2 addD (oexp (lstE [use 3])) (ovar 4)])))
def d__law_folded : List D → Option D := run 3 3 b__law_folded
/-- slots: 0 script 1 pool 2 marks 3 folds 4 turn 5 one 6 other 7 mark 8 fresh 9 crease 10 rows 11 lots 12 most 13 level 14 some 15 i 16 j 17 more 18 everything 19 due 20 k 21 told -/
def b_law : S := seq (own 1 (callF d__law_pool [use 0])) (seq (par [(false, 2), (false, 3)] [lstE [tupE [cst (.int 0), cst (.int 1)], tupE [cst (.int 1), cst (.int 1)]], lstE []]) (seq (forS (rng1 (call1 d__law_draw 1 [cst (.int 4)])) (gname 4) (seq (asg (gname 5) (call1 d__law_pick 1 [use 2])) (seq (asg (gname 6) (call1 d__law_pick 1 [lc [7] (over (use 2)) (gname 7) (tbl (op2 neD (ovar 7) (ovar 5))) (use 7)])) (seq (asg (gname 8) (call d__law_folded [use 2, use 5, use 6])) (seq (ifS (tnot (tru (oexp (call (d__law_same 12) [lstE [call d_folded_marks [use 2, use 5, use 6], call d_crease_of [use 5, use 6]], lstE [use 8, call d__law_mul [tupE [cst (.int 1), cst (.int 2)], call d__law_add [use 5, use 6]]]])))) (ret (cst (.bl false))) (nop)) (seq (par [(false, 2), (false, 3)] [use 8, op2 addD (ovar 3) (oexp (lstE [tupE [use 5, use 6]]))]) (exprS (call1 d__law_next 1 [])))))))) (seq (ifS (tnot (tru (oexp (call (d__law_same 12) [lstE [call d_after [use 3], call d_after [op2 addD (ovar 3) (oexp (lstE [tupE [tupE [cst (.int 1), cst (.int 3)], tupE [cst (.int 0), cst (.int 1)]]]))], call d_after [lstE []]], lstE [use 2, cst .non, lstE [tupE [cst (.int 0), cst (.int 1)], tupE [cst (.int 1), cst (.int 1)]]]])))) (ret (cst (.bl false))) (nop)) (seq (ifS (tbl (op2 neD (oexp (lc [7] (over (use 2)) (gname 7) (tbl (op2 neD (oexp (op2 modD (oexp (op1 intD (oexp (call d__law_power [cst (.int 2), op1 lenD (ovar 3)])))) (oexp (op2 ixD (ovar 7) (oexp (cst (.int 1))))))) (oexp (cst (.int 0))))) (use 7))) (oexp (lstE [])))) (ret (cst (.bl false))) (nop)) (seq (par [(false, 9), (false, 7)] [call1 d__law_pick 1 [use 2], call1 d__law_pick 1 [use 2]]) (seq (ifS (tnot (tru (oexp (call (d__law_same 12) [lstE [call d_mirrored [use 9, use 7], call d_put_in [use 2, use 7]], lstE [call d__law_sub [call d__law_add [use 9, use 9], use 7], use 2]])))) (ret (cst (.bl false))) (nop)) (seq (ifS (tnot (tru (oexp (call (d__law_same 12) [lstE [call d_put_in [use 2, tupE [cst (.int 1), cst (.int 3)]], call d_put_in [use 2, tupE [op1 negD (oexp (cst (.int 1))), cst (.int 3)]], call d_put_in [use 2, tupE [cst (.int 4), cst (.int 3)]]], lstE [call d__law_put [use 2, lstE [tupE [cst (.int 1), cst (.int 3)]]], use 2, use 2]])))) (ret (cst (.bl false))) (nop)) (seq (par [(true, 10), (false, 11)] [lstE [lstE [tupE [cst (.int 0), cst (.int 1)], tupE [cst (.int 1), cst (.int 1)]]], lstE [lstE [tupE [cst (.int 0), cst (.int 1)], tupE [cst (.int 1), cst (.int 1)]]]]) (seq (asg (gname 12) (call1 d__law_draw 1 [cst (.int 3)])) (seq (forS (rng1 (use 12)) (gname 13) (seq (asg (gname 8) (lstE [])) (seq (forS (over (use 11)) (gname 14) (forS (rng1 (op1 lenD (ovar 14))) (gname 15) (forS (rng1 (use 15)) (gname 16) (seq (asg (gname 17) (call d__law_folded [use 14, op2 ixD (ovar 14) (ovar 16), op2 ixD (ovar 14) (ovar 15)])) (asg (gname 8) (op2 addD (ovar 8) (oexp (ifE (tbl (op2 notInD (ovar 17) (ovar 8))) (lstE [use 17]) (lstE []))))))))) (seq (asg (gname 11) (use 8)) (seq (asg (gname 18) (op1 listD (oexp (op2 ixD (ovar 10) (oexp (op1 negD (oexp (cst (.int 1))))))))) (seq (forS (over (use 11)) (gname 14) (asg (gname 18) (call d__law_put [use 18, use 14]))) (appS 10 (use 18)))))))) (seq (ifS (tnot (tru (oexp (call (d__law_same 12) [call d_levels [use 12], use 10])))) (ret (cst (.bl false))) (nop)) (seq (forS (rng1 (cst (.int 3))) (gname 4) (seq (asg (gname 7) (call d__law_frac [call1 d__law_draw 1 [cst (.int 9)], cst (.int 8)])) (seq (asg (gname 19) (lc [20] (rng1 (op1 lenD (ovar 10))) (gname 20) (tbl (op2 inD (ovar 7) (oexp (op2 ixD (ovar 10) (ovar 20))))) (use 20))) (seq (asg (gname 21) (call d_fewest_folds [use 7, use 12])) (ifS (tnot (tru (oexp (call (d__law_same 12) [use 21, ifE (tbl (op2 neD (ovar 19) (oexp (lstE [])))) (op2 ixD (ovar 19) (oexp (cst (.int 0)))) (cst .non)])))) (ret (cst (.bl false))) (nop)))))) (ret (cst (.bl true)))))))))))))))
def d_law : List D → Option D := run 1 21 b_law
end Py.k13


namespace Py.k13
open Py Py.Pl L2 PySem PySem.Spec
section
variable {P : Program} {w : World} {K : PySem.W.Frag} {mg : Str → Option Value} {base : Heap}
def topS (i : Nat) : Stmt := PySem.Challenge.pw_creasewise_k13_whole_marks_laid_on_marks.main.body.getD i (.Pass ⟨0, 0, 0, 0⟩)
abbrev s_frac : Stmt := topS 2
theorem sc_frac : FnScope ["p", "q", "common"] ["p", "q"] (defScope s_frac) := ⟨rfl, rfl, rfl, by decide +kernel, rfl, by decide +kernel, by decide +kernel⟩
theorem ok_frac {f : Addr} {fd : FuncData} (F : Fun K "frac" "frac" s_frac f fd) (i_gcd : mg "gcd" = some (.builtin "math.gcd")) : FnOk P w K mg base CX0 1 f fd ["p", "q"] (spP K 2 d_frac false) :=
  have nd := (sc_frac).nd
  ok_of (k := 0) 2 1 F sc_frac fun B cdv A outer s H E hr => sb_cons (ss_asg (se_g2 ob_gcd i_gcd (so_var (pv 0)) (so_var (pv 1))) (sg_name (pg_name (i := 2) nd rfl (by first | exact .inl rfl | exact .inr rfl)))) (sb_cons (ss_if (st_cmp (o_lt) (so_var (pv 1)) (so_exp (se_int)) (nomark _)) (sb_one (ss_asg (se_neg (so_var (pv 2))) (sg_name (pg_name (i := 2) nd rfl (by first | exact .inl rfl | exact .inr rfl))))) (sb_nil)) (sb_one (ss_ret (se_tup (sa_cons (se_op2 o_div (so_var (pv 0)) (so_var (pv 2))) (sa_cons (se_op2 o_div (so_var (pv 1)) (so_var (pv 2))) (sa_nil)))))))
abbrev s_plus : Stmt := topS 3
theorem sc_plus : FnScope ["a", "b"] ["a", "b"] (defScope s_plus) := ⟨rfl, rfl, rfl, by decide +kernel, rfl, by decide +kernel, by decide +kernel⟩
theorem ok_plus {f : Addr} {fd : FuncData} (F : Fun K "plus" "plus" s_plus f fd) (c_frac : Kn P w K mg base 1 "frac" ["p", "q"] (spP K 2 d_frac false)) : FnOk P w K mg base CX0 2 f fd ["a", "b"] (spP K 2 d_plus false) :=
  have nd := (sc_plus).nd
  ok_of (k := 1) 2 0 F sc_plus fun B cdv A outer s H E hr => sb_one (ss_ret (se_fn c_frac hr (by omega) (by rfl) (sa_cons (se_op2 o_add (so_exp (se_op2 o_mul (so_exp (se_ix (hr1 hr) (so_var (pv 0)) (so_exp (se_int)))) (so_exp (se_ix (hr1 hr) (so_var (pv 1)) (so_exp (se_int)))))) (so_exp (se_op2 o_mul (so_exp (se_ix (hr1 hr) (so_var (pv 1)) (so_exp (se_int)))) (so_exp (se_ix (hr1 hr) (so_var (pv 0)) (so_exp (se_int))))))) (sa_cons (se_op2 o_mul (so_exp (se_ix (hr1 hr) (so_var (pv 0)) (so_exp (se_int)))) (so_exp (se_ix (hr1 hr) (so_var (pv 1)) (so_exp (se_int))))) (sa_nil)))))
abbrev s_minus : Stmt := topS 4
theorem sc_minus : FnScope ["a", "b"] ["a", "b"] (defScope s_minus) := ⟨rfl, rfl, rfl, by decide +kernel, rfl, by decide +kernel, by decide +kernel⟩
theorem ok_minus {f : Addr} {fd : FuncData} (F : Fun K "minus" "minus" s_minus f fd) (c_frac : Kn P w K mg base 1 "frac" ["p", "q"] (spP K 2 d_frac false)) : FnOk P w K mg base CX0 2 f fd ["a", "b"] (spP K 2 d_minus false) :=
  have nd := (sc_minus).nd
  ok_of (k := 1) 2 0 F sc_minus fun B cdv A outer s H E hr => sb_one (ss_ret (se_fn c_frac hr (by omega) (by rfl) (sa_cons (se_op2 o_sub (so_exp (se_op2 o_mul (so_exp (se_ix (hr1 hr) (so_var (pv 0)) (so_exp (se_int)))) (so_exp (se_ix (hr1 hr) (so_var (pv 1)) (so_exp (se_int)))))) (so_exp (se_op2 o_mul (so_exp (se_ix (hr1 hr) (so_var (pv 1)) (so_exp (se_int)))) (so_exp (se_ix (hr1 hr) (so_var (pv 0)) (so_exp (se_int))))))) (sa_cons (se_op2 o_mul (so_exp (se_ix (hr1 hr) (so_var (pv 0)) (so_exp (se_int)))) (so_exp (se_ix (hr1 hr) (so_var (pv 1)) (so_exp (se_int))))) (sa_nil)))))
abbrev s_times : Stmt := topS 5
theorem sc_times : FnScope ["a", "b"] ["a", "b"] (defScope s_times) := ⟨rfl, rfl, rfl, by decide +kernel, rfl, by decide +kernel, by decide +kernel⟩
theorem ok_times {f : Addr} {fd : FuncData} (F : Fun K "times" "times" s_times f fd) (c_frac : Kn P w K mg base 1 "frac" ["p", "q"] (spP K 2 d_frac false)) : FnOk P w K mg base CX0 2 f fd ["a", "b"] (spP K 2 d_times false) :=
  have nd := (sc_times).nd
  ok_of (k := 1) 2 0 F sc_times fun B cdv A outer s H E hr => sb_one (ss_ret (se_fn c_frac hr (by omega) (by rfl) (sa_cons (se_op2 o_mul (so_exp (se_ix (hr1 hr) (so_var (pv 0)) (so_exp (se_int)))) (so_exp (se_ix (hr1 hr) (so_var (pv 1)) (so_exp (se_int))))) (sa_cons (se_op2 o_mul (so_exp (se_ix (hr1 hr) (so_var (pv 0)) (so_exp (se_int)))) (so_exp (se_ix (hr1 hr) (so_var (pv 1)) (so_exp (se_int))))) (sa_nil)))))
abbrev s_over : Stmt := topS 6
theorem sc_over : FnScope ["a", "b"] ["a", "b"] (defScope s_over) := ⟨rfl, rfl, rfl, by decide +kernel, rfl, by decide +kernel, by decide +kernel⟩
theorem ok_over {f : Addr} {fd : FuncData} (F : Fun K "over" "over" s_over f fd) (c_frac : Kn P w K mg base 1 "frac" ["p", "q"] (spP K 2 d_frac false)) : FnOk P w K mg base CX0 2 f fd ["a", "b"] (spP K 2 d_over false) :=
  have nd := (sc_over).nd
  ok_of (k := 1) 2 0 F sc_over fun B cdv A outer s H E hr => sb_one (ss_ret (se_fn c_frac hr (by omega) (by rfl) (sa_cons (se_op2 o_mul (so_exp (se_ix (hr1 hr) (so_var (pv 0)) (so_exp (se_int)))) (so_exp (se_ix (hr1 hr) (so_var (pv 1)) (so_exp (se_int))))) (sa_cons (se_op2 o_mul (so_exp (se_ix (hr1 hr) (so_var (pv 0)) (so_exp (se_int)))) (so_exp (se_ix (hr1 hr) (so_var (pv 1)) (so_exp (se_int))))) (sa_nil)))))
abbrev s_less : Stmt := topS 7
theorem sc_less : FnScope ["a", "b"] ["a", "b"] (defScope s_less) := ⟨rfl, rfl, rfl, by decide +kernel, rfl, by decide +kernel, by decide +kernel⟩
theorem ok_less {f : Addr} {fd : FuncData} (F : Fun K "less" "less" s_less f fd) : FnOk P w K mg base CX0 1 f fd ["a", "b"] (spP K 2 d_less false) :=
  have nd := (sc_less).nd
  ok_of (k := 0) 2 0 F sc_less fun B cdv A outer s H E hr => sb_one (ss_ret (se_cmp (o_lt) (so_exp (se_op2 o_mul (so_exp (se_ix (hr1 hr) (so_var (pv 0)) (so_exp (se_int)))) (so_exp (se_ix (hr1 hr) (so_var (pv 1)) (so_exp (se_int)))))) (so_exp (se_op2 o_mul (so_exp (se_ix (hr1 hr) (so_var (pv 1)) (so_exp (se_int)))) (so_exp (se_ix (hr1 hr) (so_var (pv 0)) (so_exp (se_int)))))) (nomark _)))
abbrev s_crease_of : Stmt := topS 10
theorem sc_crease_of : FnScope ["one", "other"] ["one", "other"] (defScope s_crease_of) := ⟨rfl, rfl, rfl, by decide +kernel, rfl, by decide +kernel, by decide +kernel⟩
theorem ok_crease_of {f : Addr} {fd : FuncData} (F : Fun K "crease_of" "crease_of" s_crease_of f fd) (k_TWO : GC K mg "TWO" [.int 2, .int 1]) (c_plus : Kn P w K mg base 2 "plus" ["a", "b"] (spP K 2 d_plus false)) (c_over : Kn P w K mg base 2 "over" ["a", "b"] (spP K 2 d_over false)) : FnOk P w K mg base CX0 3 f fd ["one", "other"] (spP K 2 d_crease_of false) :=
  have nd := (sc_crease_of).nd
  ok_of (k := 2) 2 0 F sc_crease_of fun B cdv A outer s H E hr => sb_one (ss_ret (se_fn c_over hr (by omega) (by rfl) (sa_cons (se_fn c_plus hr (by omega) (by rfl) (sa_cons (se_var (pv 0)) (sa_cons (se_var (pv 1)) (sa_nil)))) (sa_cons (se_gcon k_TWO) (sa_nil)))))
abbrev s_mirrored : Stmt := topS 11
theorem sc_mirrored : FnScope ["crease", "mark"] ["crease", "mark"] (defScope s_mirrored) := ⟨rfl, rfl, rfl, by decide +kernel, rfl, by decide +kernel, by decide +kernel⟩
theorem ok_mirrored {f : Addr} {fd : FuncData} (F : Fun K "mirrored" "mirrored" s_mirrored f fd) (k_TWO : GC K mg "TWO" [.int 2, .int 1]) (c_times : Kn P w K mg base 2 "times" ["a", "b"] (spP K 2 d_times false)) (c_minus : Kn P w K mg base 2 "minus" ["a", "b"] (spP K 2 d_minus false)) : FnOk P w K mg base CX0 3 f fd ["crease", "mark"] (spP K 2 d_mirrored false) :=
  have nd := (sc_mirrored).nd
  ok_of (k := 2) 2 0 F sc_mirrored fun B cdv A outer s H E hr => sb_one (ss_ret (se_fn c_minus hr (by omega) (by rfl) (sa_cons (se_fn c_times hr (by omega) (by rfl) (sa_cons (se_gcon k_TWO) (sa_cons (se_var (pv 0)) (sa_nil)))) (sa_cons (se_var (pv 1)) (sa_nil)))))
abbrev s_put_in : Stmt := topS 12
theorem sc_put_in : FnScope ["marks", "mark", "at"] ["marks", "mark"] (defScope s_put_in) := ⟨rfl, rfl, rfl, by decide +kernel, rfl, by decide +kernel, by decide +kernel⟩
theorem ok_put_in {f : Addr} {fd : FuncData} (F : Fun K "put_in" "put_in" s_put_in f fd) (m_list : mg "list" = none) (m_len : mg "len" = none) (c_less : Kn P w K mg base 1 "less" ["a", "b"] (spP K 2 d_less false)) : FnOk P w K mg base CX0 2 f fd ["marks", "mark"] (spP K 2 d_put_in false) :=
  have nd := (sc_put_in).nd
  ok_of (k := 1) 2 1 F sc_put_in fun B cdv A outer s H E hr => sb_cons (ss_if (st_w (sw_or (st_cmp (o_in (hr66 hr)) (so_var (pv 1)) (so_var (pv 0)) (by with_unfolding_all rfl)) (sw_or (st_tru (so_exp (se_fn c_less hr (by omega) (by rfl) (sa_cons (se_var (pv 1)) (sa_cons (se_tup (sa_cons (se_int) (sa_cons (se_int) (sa_nil)))) (sa_nil)))))) (sw_or1 (st_tru (so_exp (se_fn c_less hr (by omega) (by rfl) (sa_cons (se_tup (sa_cons (se_int) (sa_cons (se_int) (sa_nil)))) (sa_cons (se_var (pv 1)) (sa_nil)))))))))) (sb_one (ss_ret (se_t1 (c_list) (by rfl) m_list (by decide +kernel) (so_var (pv 0))))) (sb_nil)) (sb_cons (ss_asg (se_int) (sg_name (pg_name (i := 2) nd rfl (by first | exact .inl rfl | exact .inr rfl)))) (sb_cons (ss_while (fuel := 1000) PassesOwn.never (st_w (sw_and (st_cmp (o_lt) (so_var (pv 2)) (so_exp (se_b1 (c_len) (by rfl) m_len (by decide +kernel) (so_var (pv 0)))) (nomark _)) (sw_and1 (st_tru (so_exp (se_fn c_less hr (by omega) (by rfl) (sa_cons (se_ix (hr1 hr) (so_var (pv 0)) (so_var (pv 2))) (sa_cons (se_var (pv 1)) (sa_nil))))))))) (sb_one (ss_asg (se_op2 o_add (so_var (pv 2)) (so_exp (se_int))) (sg_name (pg_name (i := 2) nd rfl (by first | exact .inl rfl | exact .inr rfl)))))) (sb_one (ss_ret (se_op2 o_add (so_exp (se_op2 o_add (so_exp (se_t1 (c_list) (by rfl) m_list (by decide +kernel) (so_exp (se_slc (so_var (pv 0)) (so_none) (so_some (se_var (pv 2))))))) (so_exp (se_lst (sa_cons (se_var (pv 1)) (sa_nil)))))) (so_exp (se_t1 (c_list) (by rfl) m_list (by decide +kernel) (so_exp (se_slc (so_var (pv 0)) (so_some (se_var (pv 2))) (so_none))))))))))
abbrev s_folded_marks : Stmt := topS 13
theorem sc_folded_marks : FnScope ["marks", "one", "other", "crease", "found", "mark"] ["marks", "one", "other"] (defScope s_folded_marks) := ⟨rfl, rfl, rfl, by decide +kernel, rfl, by decide +kernel, by decide +kernel⟩
theorem ok_folded_marks {f : Addr} {fd : FuncData} (F : Fun K "folded_marks" "folded_marks" s_folded_marks f fd) (c_mirrored : Kn P w K mg base 3 "mirrored" ["crease", "mark"] (spP K 2 d_mirrored false)) (c_put_in : Kn P w K mg base 2 "put_in" ["marks", "mark"] (spP K 2 d_put_in false)) (c_crease_of : Kn P w K mg base 3 "crease_of" ["one", "other"] (spP K 2 d_crease_of false)) : FnOk P w K mg base CX0 4 f fd ["marks", "one", "other"] (spP K 3 d_folded_marks false) :=
  have nd := (sc_folded_marks).nd
  ok_of (k := 3) 3 3 F sc_folded_marks fun B cdv A outer s H E hr => sb_cons (ss_asg (se_fn c_crease_of hr (by omega) (by rfl) (sa_cons (se_var (pv 1)) (sa_cons (se_var (pv 2)) (sa_nil)))) (sg_name (pg_name (i := 3) nd rfl (by first | exact .inl rfl | exact .inr rfl)))) (sb_cons (ss_asg (se_fn c_put_in hr (by omega) (by rfl) (sa_cons (se_var (pv 0)) (sa_cons (se_var (pv 3)) (sa_nil)))) (sg_name (pg_name (i := 4) nd rfl (by first | exact .inl rfl | exact .inr rfl)))) (sb_cons (ss_for PassesOwn.never rfl (si_over (se_var (pv 0))) (sg_name (pg_name (i := 5) nd rfl (by first | exact .inl rfl | exact .inr rfl))) (sb_one (ss_asg (se_fn c_put_in hr (by omega) (by rfl) (sa_cons (se_var (pv 4)) (sa_cons (se_fn c_mirrored hr (by omega) (by rfl) (sa_cons (se_var (pv 3)) (sa_cons (se_var (pv 5)) (sa_nil)))) (sa_nil)))) (sg_name (pg_name (i := 4) nd rfl (by first | exact .inl rfl | exact .inr rfl)))))) (sb_one (ss_ret (se_var (pv 4))))))
abbrev s_after : Stmt := topS 14
theorem sc_after : FnScope ["folds", "marks", "one", "other"] ["folds"] (defScope s_after) := ⟨rfl, rfl, rfl, by decide +kernel, rfl, by decide +kernel, by decide +kernel⟩
theorem ok_after {f : Addr} {fd : FuncData} (F : Fun K "after" "after" s_after f fd) (c_folded_marks : Kn P w K mg base 4 "folded_marks" ["marks", "one", "other"] (spP K 3 d_folded_marks false)) : FnOk P w K mg base CX0 5 f fd ["folds"] (spP K 1 d_after false) :=
  have nd := (sc_after).nd
  ok_of (k := 4) 1 3 F sc_after fun B cdv A outer s H E hr => sb_cons (ss_asg (se_lst (sa_cons (se_tup (sa_cons (se_int) (sa_cons (se_int) (sa_nil)))) (sa_cons (se_tup (sa_cons (se_int) (sa_cons (se_int) (sa_nil)))) (sa_nil)))) (sg_name (pg_name (i := 1) nd rfl (by first | exact .inl rfl | exact .inr rfl)))) (sb_cons (ss_for PassesOwn.never rfl (si_over (se_var (pv 0))) (sg_tup rfl (sgs_cons (sg_name (pg_name (i := 2) nd rfl (by first | exact .inl rfl | exact .inr rfl))) (sgs_cons (sg_name (pg_name (i := 3) nd rfl (by first | exact .inl rfl | exact .inr rfl))) (sgs_nil)))) (sb_cons (ss_if (st_w (sw_or (st_cmp (o_notin (hr66 hr)) (so_var (pv 2)) (so_var (pv 1)) (by with_unfolding_all rfl)) (sw_or (st_cmp (o_notin (hr66 hr)) (so_var (pv 3)) (so_var (pv 1)) (by with_unfolding_all rfl)) (sw_or1 (st_cmp (o_eq hr.units) (so_var (pv 2)) (so_var (pv 3)) (nomark _)))))) (sb_one (ss_ret (se_non))) (sb_nil)) (sb_one (ss_asg (se_fn c_folded_marks hr (by omega) (by rfl) (sa_cons (se_var (pv 1)) (sa_cons (se_var (pv 2)) (sa_cons (se_var (pv 3)) (sa_nil))))) (sg_name (pg_name (i := 1) nd rfl (by first | exact .inl rfl | exact .inr rfl))))))) (sb_one (ss_ret (se_var (pv 1)))))
abbrev s_levels : Stmt := topS 15
theorem sc_levels : FnScope ["most", "sheets", "found", "turn", "further", "marks", "at", "one", "other", "more", "known", "mark"] ["most"] (defScope s_levels) := ⟨rfl, rfl, rfl, by decide +kernel, rfl, by decide +kernel, by decide +kernel⟩
theorem ok_levels {f : Addr} {fd : FuncData} (F : Fun K "levels" "levels" s_levels f fd) (m_range : mg "range" = none) (m_list : mg "list" = none) (m_enumerate : mg "enumerate" = none) (c_put_in : Kn P w K mg base 2 "put_in" ["marks", "mark"] (spP K 2 d_put_in false)) (c_folded_marks : Kn P w K mg base 4 "folded_marks" ["marks", "one", "other"] (spP K 3 d_folded_marks false)) : FnOk P w K mg base CX0 5 f fd ["most"] (spP K 1 d_levels false) :=
  have nd := (sc_levels).nd
  ok_of (k := 4) 1 11 F sc_levels fun B cdv A outer s H E hr => sb_cons (ss_asg (se_lst (sa_cons (se_lst (sa_cons (se_tup (sa_cons (se_int) (sa_cons (se_int) (sa_nil)))) (sa_cons (se_tup (sa_cons (se_int) (sa_cons (se_int) (sa_nil)))) (sa_nil)))) (sa_nil))) (sg_name (pg_name (i := 1) nd rfl (by first | exact .inl rfl | exact .inr rfl)))) (sb_cons (ss_own rfl (ps_set (i := 2) nd rfl (by first | exact .inl rfl | exact .inr rfl) (sf_lst (sa_cons (se_lst (sa_cons (se_tup (sa_cons (se_int) (sa_cons (se_int) (sa_nil)))) (sa_cons (se_tup (sa_cons (se_int) (sa_cons (se_int) (sa_nil)))) (sa_nil)))) (sa_nil))))) (sb_cons (ss_for PassesOwn.never rfl (si_rng1 (by rfl) m_range (se_var (pv 0))) (sg_name (pg_name (i := 3) nd rfl (by first | exact .inl rfl | exact .inr rfl))) (sb_cons (ss_own rfl (ps_set (i := 4) nd rfl (by first | exact .inl rfl | exact .inr rfl) (sf_lst (sa_nil)))) (sb_cons (ss_for PassesOwn.never rfl (si_over (se_var (pv 1))) (sg_name (pg_name (i := 5) nd rfl (by first | exact .inl rfl | exact .inr rfl))) (sb_one (ss_for PassesOwn.never rfl (si_enumL (by rfl) m_enumerate (se_var (pv 5))) (sg_tup rfl (sgs_cons (sg_name (pg_name (i := 6) nd rfl (by first | exact .inl rfl | exact .inr rfl))) (sgs_cons (sg_name (pg_name (i := 7) nd rfl (by first | exact .inl rfl | exact .inr rfl))) (sgs_nil)))) (sb_one (ss_for PassesOwn.never rfl (si_over (se_slc (so_var (pv 5)) (so_some (se_op2 o_add (so_var (pv 6)) (so_exp (se_int)))) (so_none))) (sg_name (pg_name (i := 8) nd rfl (by first | exact .inl rfl | exact .inr rfl))) (sb_cons (ss_asg (se_fn c_folded_marks hr (by omega) (by rfl) (sa_cons (se_var (pv 5)) (sa_cons (se_var (pv 7)) (sa_cons (se_var (pv 8)) (sa_nil))))) (sg_name (pg_name (i := 9) nd rfl (by first | exact .inl rfl | exact .inr rfl)))) (sb_one (ss_if (st_cmp (o_notin (hr66 hr)) (so_var (pv 9)) (so_var (pv 4)) (by with_unfolding_all rfl)) (sb_one (ss_app (pv 4) (se_var (pv 9)))) (sb_nil))))))))) (sb_cons (ss_asg (se_var (pv 4)) (sg_name (pg_name (i := 1) nd rfl (by first | exact .inl rfl | exact .inr rfl)))) (sb_cons (ss_asg (se_t1 (c_list) (by rfl) m_list (by decide +kernel) (so_exp (se_ix (hr1 hr) (so_var (pv 2)) (so_exp (se_neg (so_exp (se_int))))))) (sg_name (pg_name (i := 10) nd rfl (by first | exact .inl rfl | exact .inr rfl)))) (sb_cons (ss_for PassesOwn.never rfl (si_over (se_var (pv 1))) (sg_name (pg_name (i := 5) nd rfl (by first | exact .inl rfl | exact .inr rfl))) (sb_one (ss_for PassesOwn.never rfl (si_over (se_var (pv 5))) (sg_name (pg_name (i := 11) nd rfl (by first | exact .inl rfl | exact .inr rfl))) (sb_one (ss_asg (se_fn c_put_in hr (by omega) (by rfl) (sa_cons (se_var (pv 10)) (sa_cons (se_var (pv 11)) (sa_nil)))) (sg_name (pg_name (i := 10) nd rfl (by first | exact .inl rfl | exact .inr rfl)))))))) (sb_one (ss_app (pv 2) (se_var (pv 10)))))))))) (sb_one (ss_ret (se_var (pv 2))))))
abbrev s_fewest_folds : Stmt := topS 16
theorem sc_fewest_folds : FnScope ["mark", "most", "count", "marks"] ["mark", "most"] (defScope s_fewest_folds) := ⟨rfl, rfl, rfl, by decide +kernel, rfl, by decide +kernel, by decide +kernel⟩
theorem ok_fewest_folds {f : Addr} {fd : FuncData} (F : Fun K "fewest_folds" "fewest_folds" s_fewest_folds f fd) (m_enumerate : mg "enumerate" = none) (c_levels : Kn P w K mg base 5 "levels" ["most"] (spP K 1 d_levels false)) : FnOk P w K mg base CX0 6 f fd ["mark", "most"] (spP K 2 d_fewest_folds false) :=
  have nd := (sc_fewest_folds).nd
  ok_of (k := 5) 2 2 F sc_fewest_folds fun B cdv A outer s H E hr => sb_cons (ss_for PassesOwn.never rfl (si_enumL (by rfl) m_enumerate (se_fn c_levels hr (by omega) (by rfl) (sa_cons (se_var (pv 1)) (sa_nil)))) (sg_tup rfl (sgs_cons (sg_name (pg_name (i := 2) nd rfl (by first | exact .inl rfl | exact .inr rfl))) (sgs_cons (sg_name (pg_name (i := 3) nd rfl (by first | exact .inl rfl | exact .inr rfl))) (sgs_nil)))) (sb_one (ss_if (st_cmp (o_in (hr66 hr)) (so_var (pv 0)) (so_var (pv 3)) (by with_unfolding_all rfl)) (sb_one (ss_ret (se_var (pv 2)))) (sb_nil)))) (sb_one (ss_ret (se_non)))
abbrev s__law_mixed : Stmt := topS 18
theorem sc__law_mixed : FnScope ["number", "place", "first", "second", "third"] ["number", "place"] (defScope s__law_mixed) := ⟨rfl, rfl, rfl, by decide +kernel, rfl, by decide +kernel, by decide +kernel⟩
theorem ok__law_mixed {f : Addr} {fd : FuncData} (F : Fun K "_law_mixed" "_law_mixed" s__law_mixed f fd) (m_int : mg "int" = none) : FnOk P w K mg base CX0 1 f fd ["number", "place"] (spP K 2 d__law_mixed false) :=
  have nd := (sc__law_mixed).nd
  ok_of (k := 0) 2 3 F sc__law_mixed fun B cdv A outer s H E hr => sb_cons (ss_asg (se_op2 o_mod (so_exp (se_t1 (c_int) (by rfl) m_int (by decide +kernel) (so_exp (se_op2 o_add (so_exp (se_op2 o_add (so_exp (se_op2 o_mul (so_var (pv 0)) (so_exp (se_int)))) (so_exp (se_op2 o_mul (so_var (pv 1)) (so_exp (se_int)))))) (so_exp (se_int)))))) (so_exp (se_int))) (sg_name (pg_name (i := 2) nd rfl (by first | exact .inl rfl | exact .inr rfl)))) (sb_cons (ss_asg (se_op2 o_mod (so_exp (se_t1 (c_int) (by rfl) m_int (by decide +kernel) (so_exp (se_op2 o_add (so_exp (se_op2 o_add (so_exp (se_op2 o_mul (so_var (pv 2)) (so_var (pv 2)))) (so_exp (se_op2 o_mul (so_exp (se_int)) (so_var (pv 2)))))) (so_var (pv 1)))))) (so_exp (se_int))) (sg_name (pg_name (i := 3) nd rfl (by first | exact .inl rfl | exact .inr rfl)))) (sb_cons (ss_asg (se_op2 o_mod (so_exp (se_t1 (c_int) (by rfl) m_int (by decide +kernel) (so_exp (se_op2 o_add (so_exp (se_op2 o_mul (so_var (pv 3)) (so_var (pv 3)))) (so_var (pv 2)))))) (so_exp (se_int))) (sg_name (pg_name (i := 4) nd rfl (by first | exact .inl rfl | exact .inr rfl)))) (sb_one (ss_ret (se_op2 o_add (so_exp (se_op2 o_mul (so_var (pv 3)) (so_exp (se_int)))) (so_var (pv 4)))))))
abbrev s__law_rest : Stmt := topS 19
theorem sc__law_rest : FnScope ["script", "place", "again", "number"] ["script", "place", "again"] (defScope s__law_rest) := ⟨rfl, rfl, rfl, by decide +kernel, rfl, by decide +kernel, by decide +kernel⟩
theorem ok__law_rest {f : Addr} {fd : FuncData} (F : Fun K "_law_rest" "_law_rest" s__law_rest f fd) (m_len : mg "len" = none) (m_int : mg "int" = none) (c__law_mixed : Kn P w K mg base 1 "_law_mixed" ["number", "place"] (spP K 2 d__law_mixed false)) : FnOk P w K mg base CX0 2 f fd ["script", "place", "again"] (spP K 3 d__law_rest false) :=
  have nd := (sc__law_rest).nd
  ok_of (k := 1) 3 1 F sc__law_rest fun B cdv A outer s H E hr => sb_cons (ss_asg (se_int) (sg_name (pg_name (i := 3) nd rfl (by first | exact .inl rfl | exact .inr rfl)))) (sb_cons (ss_if (st_cmp (o_gt) (so_exp (se_b1 (c_len) (by rfl) m_len (by decide +kernel) (so_var (pv 0)))) (so_exp (se_int)) (nomark _)) (sb_one (ss_asg (se_t1 (c_int) (by rfl) m_int (by decide +kernel) (so_exp (se_ix (hr1 hr) (so_var (pv 0)) (so_exp (se_op2 o_mod (so_exp (se_t1 (c_int) (by rfl) m_int (by decide +kernel) (so_var (pv 1)))) (so_exp (se_b1 (c_len) (by rfl) m_len (by decide +kernel) (so_var (pv 0))))))))) (sg_name (pg_name (i := 3) nd rfl (by first | exact .inl rfl | exact .inr rfl))))) (sb_nil)) (sb_cons (ss_if (st_cmp (o_lt) (so_var (pv 3)) (so_exp (se_int)) (nomark _)) (sb_one (ss_asg (se_op2 o_sub (so_exp (se_int)) (so_exp (se_op2 o_mul (so_exp (se_int)) (so_var (pv 3))))) (sg_name (pg_name (i := 3) nd rfl (by first | exact .inl rfl | exact .inr rfl))))) (sb_nil)) (sb_cons (ss_if (st_w (sw_and (st_cmp (o_eq hr.units) (so_var (pv 2)) (so_exp (se_int)) (nomark _)) (sw_and (st_cmp (o_lt) (so_var (pv 1)) (so_exp (se_b1 (c_len) (by rfl) m_len (by decide +kernel) (so_var (pv 0)))) (nomark _)) (sw_and1 (st_cmp (o_ge) (so_var (pv 3)) (so_exp (se_op2 o_pow (so_exp (se_int)) (so_exp (se_int)))) (nomark _)))))) (sb_one (ss_ret (se_op2 o_sub (so_var (pv 3)) (so_exp (se_op2 o_pow (so_exp (se_int)) (so_exp (se_int))))))) (sb_nil)) (sb_one (ss_ret (se_fn c__law_mixed hr (by omega) (by rfl) (sa_cons (se_op2 o_add (so_var (pv 3)) (so_exp (se_op2 o_mul (so_var (pv 2)) (so_exp (se_int))))) (sa_cons (se_var (pv 1)) (sa_nil)))))))))
abbrev s__law_pool : Stmt := topS 20
theorem sc__law_pool : FnScope ["script"] ["script"] (defScope s__law_pool) := ⟨rfl, rfl, rfl, by decide +kernel, rfl, by decide +kernel, by decide +kernel⟩
theorem ok__law_pool {f : Addr} {fd : FuncData} (F : Fun K "_law_pool" "_law_pool" s__law_pool f fd) (c__law_rest : Kn P w K mg base 2 "_law_rest" ["script", "place", "again"] (spP K 3 d__law_rest false)) : FnOk P w K mg base CX0 3 f fd ["script"] (spP K 1 d__law_pool true) :=
  have nd := (sc__law_pool).nd
  ok_of (k := 2) 1 0 F sc__law_pool fun B cdv A outer s H E hr => sb_one (ss_retF (sf_lst (sa_cons (se_var (pv 0)) (sa_cons (se_int) (sa_cons (se_fn c__law_rest hr (by omega) (by rfl) (sa_cons (se_var (pv 0)) (sa_cons (se_int) (sa_cons (se_int) (sa_nil))))) (sa_cons (se_int) (sa_nil)))))))
abbrev s__law_next : Stmt := topS 21
theorem sc__law_next : FnScope ["pool"] ["pool"] (defScope s__law_next) := ⟨rfl, rfl, rfl, by decide +kernel, rfl, by decide +kernel, by decide +kernel⟩
theorem ok__law_next {f : Addr} {fd : FuncData} (F : Fun K "_law_next" "_law_next" s__law_next f fd) (c__law_rest : Kn P w K mg base 2 "_law_rest" ["script", "place", "again"] (spP K 3 d__law_rest false)) : FnOk P w K mg base CX0 3 f fd ["pool"] (spI K 0 d__law_next) :=
  have nd := (sc__law_next).nd
  ok_ofI (k := 2) 0 0 F sc__law_next fun B cdv A outer s H E hr => sb_cons (ss_set (hr1 hr) (pv 0) (se_int) (se_op2 o_add (so_exp (se_ix (hr1 hr) (so_var (pv 0)) (so_exp (se_int)))) (so_exp (se_int)))) (sb_cons (ss_set (hr1 hr) (pv 0) (se_int) (se_fn c__law_rest hr (by omega) (by rfl) (sa_cons (se_ix (hr1 hr) (so_var (pv 0)) (so_exp (se_int))) (sa_cons (se_ix (hr1 hr) (so_var (pv 0)) (so_exp (se_int))) (sa_cons (se_int) (sa_nil)))))) (sb_one (ss_set (hr1 hr) (pv 0) (se_int) (se_int))))
abbrev s__law_draw : Stmt := topS 22
theorem sc__law_draw : FnScope ["pool", "limit", "value"] ["pool", "limit"] (defScope s__law_draw) := ⟨rfl, rfl, rfl, by decide +kernel, rfl, by decide +kernel, by decide +kernel⟩
theorem ok__law_draw {f : Addr} {fd : FuncData} (F : Fun K "_law_draw" "_law_draw" s__law_draw f fd) (m_int : mg "int" = none) (c__law_rest : Kn P w K mg base 2 "_law_rest" ["script", "place", "again"] (spP K 3 d__law_rest false)) : FnOk P w K mg base CX0 3 f fd ["pool", "limit"] (spI K 1 d__law_draw) :=
  have nd := (sc__law_draw).nd
  ok_ofI (k := 2) 1 1 F sc__law_draw fun B cdv A outer s H E hr => sb_cons (ss_if (st_cmp (o_le) (so_exp (se_ix (hr1 hr) (so_var (pv 0)) (so_exp (se_int)))) (so_exp (se_int)) (nomark _)) (sb_cons (ss_set (hr1 hr) (pv 0) (se_int) (se_op2 o_add (so_exp (se_ix (hr1 hr) (so_var (pv 0)) (so_exp (se_int)))) (so_exp (se_int)))) (sb_one (ss_set (hr1 hr) (pv 0) (se_int) (se_fn c__law_rest hr (by omega) (by rfl) (sa_cons (se_ix (hr1 hr) (so_var (pv 0)) (so_exp (se_int))) (sa_cons (se_ix (hr1 hr) (so_var (pv 0)) (so_exp (se_int))) (sa_cons (se_ix (hr1 hr) (so_var (pv 0)) (so_exp (se_int))) (sa_nil)))))))) (sb_nil)) (sb_cons (ss_asg (se_op2 o_mod (so_exp (se_t1 (c_int) (by rfl) m_int (by decide +kernel) (so_exp (se_ix (hr1 hr) (so_var (pv 0)) (so_exp (se_int)))))) (so_var (pv 1))) (sg_name (pg_name (i := 2) nd rfl (by first | exact .inl rfl | exact .inr rfl)))) (sb_cons (ss_set (hr1 hr) (pv 0) (se_int) (se_op2 o_div (so_exp (se_t1 (c_int) (by rfl) m_int (by decide +kernel) (so_exp (se_ix (hr1 hr) (so_var (pv 0)) (so_exp (se_int)))))) (so_var (pv 1)))) (sb_one (ss_ret (se_var (pv 2))))))
abbrev s__law_pick : Stmt := topS 23
theorem sc__law_pick : FnScope ["pool", "options"] ["pool", "options"] (defScope s__law_pick) := ⟨rfl, rfl, rfl, by decide +kernel, rfl, by decide +kernel, by decide +kernel⟩
theorem ok__law_pick {f : Addr} {fd : FuncData} (F : Fun K "_law_pick" "_law_pick" s__law_pick f fd) (m_len : mg "len" = none) (c__law_draw : Kn P w K mg base 3 "_law_draw" ["pool", "limit"] (spI K 1 d__law_draw)) : FnOk P w K mg base CX0 4 f fd ["pool", "options"] (spI K 1 d__law_pick) :=
  have nd := (sc__law_pick).nd
  ok_ofI (k := 3) 1 0 F sc__law_pick fun B cdv A outer s H E hr => sb_one (ss_ret (se_ix (hr1 hr) (so_var (pv 1)) (so_exp (se_fnI c__law_draw hr (by omega) (by rfl) (pv 0) (sa_cons (se_b1 (c_len) (by rfl) m_len (by decide +kernel) (so_var (pv 1))) (sa_nil))))))
abbrev s__law_same : Stmt := topS 24
theorem sc__law_same : FnScope ["answer", "due", "key", "k"] ["answer", "due"] (defScope s__law_same) := ⟨rfl, rfl, rfl, by decide +kernel, rfl, by decide +kernel, by decide +kernel⟩
theorem ok__law_same {f : Addr} {fd : FuncData} (F : Fun K "_law_same" "_law_same" s__law_same f fd) (bb : Binds K fd ["answer", "due"] []) (kk : PySem.W.keepIn K (.ref f) = true) (mm : mg "_law_same" = some (.ref f)) (m_isinstance : mg "isinstance" = none) (m_bool : mg "bool" = none) (m_int : mg "int" = none) (m_str : mg "str" = none) (m_tuple : mg "tuple" = none) (m_list : mg "list" = none) (m_len : mg "len" = none) (m_range : mg "range" = none) (m_all : mg "all" = none) (m_dict : mg "dict" = none) : ∀ n, FnOk P w K mg base CX0 (n + 1) f fd ["answer", "due"] (spP K 2 (d__law_same n) false)
  | 0 => ⟨fun vs H Q E h => by obtain ⟨F, ds, d, h1, _⟩ := h; exact h1, fun A outer s H args us vs Q E hr he hb hv hs => by obtain ⟨F, ds, d, h1, h2, h3, h4, _⟩ := hs; cases h4⟩
  | n + 1 => by
    have ih : Kn P w K mg base (n + 1) "_law_same" ["answer", "due"] (spP K 2 (d__law_same n) false) := ⟨f, fd, ok__law_same F bb kk mm m_isinstance m_bool m_int m_str m_tuple m_list m_len m_range m_all m_dict n, bb, kk, mm⟩
    have nd := (sc__law_same).nd
    rw [Nat.add_right_comm n 1 1]
    exact ok_of 2 2 F sc__law_same fun B cdv A outer s H E hr => sb_cons (ss_if (st_tru (so_exp (se_isi .dict (by rfl) m_isinstance (by rfl) m_dict (by decide +kernel) (so_var (pv 1))))) (sb_cons (ss_if (st_w (sw_or (st_not (st_tru (so_exp (se_isi .dict (by rfl) m_isinstance (by rfl) m_dict (by decide +kernel) (so_var (pv 0)))))) (sw_or1 (st_cmp (o_ne hr.units) (so_exp (se_b1 (c_len) (by rfl) m_len (by decide +kernel) (so_var (pv 0)))) (so_exp (se_b1 (c_len) (by rfl) m_len (by decide +kernel) (so_var (pv 1)))) (nomark _))))) (sb_one (ss_ret (se_bl))) (sb_nil)) (sb_one (ss_ret (se_b1 (c_all rfl) (by rfl) m_all (by decide +kernel) (so_exp (se_of (sf_lc rfl nd (own := [("key", 2)]) (blkOk_by (by rfl)) rfl (si_over (se_var (pv 1))) (fun s H C cl fp B => sgo_name (pg_name (i := 2) nd rfl (by first | exact .inl rfl | exact .inr rfl))) (fun s H C cl fp B => sts_nil) (fun s H C cl fp B => se_and (se_cmp (o_in (hr66 hr)) (so_var (pv 2)) (so_var (pv 0)) (by with_unfolding_all rfl)) (se_one (se_fn ih hr (Nat.le_refl _) (by rfl) (sa_cons (se_ix (hr1 hr) (so_var (pv 0)) (so_var (pv 2))) (sa_cons (se_ix (hr1 hr) (so_var (pv 1)) (so_var (pv 2))) (sa_nil))))))))))))) (sb_nil)) (sb_cons (ss_if (st_w (sw_or (st_tru (so_exp (se_isi .list (by rfl) m_isinstance (by rfl) m_list (by decide +kernel) (so_var (pv 1))))) (sw_or1 (st_tru (so_exp (se_isi .tuple (by rfl) m_isinstance (by rfl) m_tuple (by decide +kernel) (so_var (pv 1)))))))) (sb_cons (ss_if (st_w (sw_or (st_cmp (o_ne hr.units) (so_exp (se_isi .list (by rfl) m_isinstance (by rfl) m_list (by decide +kernel) (so_var (pv 1)))) (so_exp (se_isi .list (by rfl) m_isinstance (by rfl) m_list (by decide +kernel) (so_var (pv 0)))) (nomark _)) (sw_or1 (st_cmp (o_ne hr.units) (so_exp (se_isi .tuple (by rfl) m_isinstance (by rfl) m_tuple (by decide +kernel) (so_var (pv 1)))) (so_exp (se_isi .tuple (by rfl) m_isinstance (by rfl) m_tuple (by decide +kernel) (so_var (pv 0)))) (nomark _))))) (sb_one (ss_ret (se_bl))) (sb_nil)) (sb_one (ss_ret (se_and (se_cmp (o_eq hr.units) (so_exp (se_b1 (c_len) (by rfl) m_len (by decide +kernel) (so_var (pv 0)))) (so_exp (se_b1 (c_len) (by rfl) m_len (by decide +kernel) (so_var (pv 1)))) (nomark _)) (se_one (se_b1 (c_all rfl) (by rfl) m_all (by decide +kernel) (so_exp (se_of (sf_lc rfl nd (own := [("k", 3)]) (blkOk_by (by rfl)) rfl (si_rng1 (by rfl) m_range (se_b1 (c_len) (by rfl) m_len (by decide +kernel) (so_var (pv 1)))) (fun s H C cl fp B => sgo_name (pg_name (i := 3) nd rfl (by first | exact .inl rfl | exact .inr rfl))) (fun s H C cl fp B => sts_nil) (fun s H C cl fp B => se_fn ih hr (Nat.le_refl _) (by rfl) (sa_cons (se_ix (hr1 hr) (so_var (pv 0)) (so_var (pv 3))) (sa_cons (se_ix (hr1 hr) (so_var (pv 1)) (so_var (pv 3))) (sa_nil))))))))))))) (sb_nil)) (sb_cons (ss_if (st_tru (so_exp (se_isi .str (by rfl) m_isinstance (by rfl) m_str (by decide +kernel) (so_var (pv 1))))) (sb_one (ss_ret (se_and (se_isi .str (by rfl) m_isinstance (by rfl) m_str (by decide +kernel) (so_var (pv 0))) (se_one (se_cmp (o_eq hr.units) (so_var (pv 0)) (so_var (pv 1)) (nomark _)))))) (sb_nil)) (sb_cons (ss_if (st_w (sw_or (st_isN (so_var (pv 1))) (sw_or (st_isB (so_var (pv 1))) (sw_or1 (st_isB (so_var (pv 1))))))) (sb_one (ss_ret (se_or (se_and (se_isN (so_var (pv 1))) (se_one (se_isN (so_var (pv 0))))) (se_or (se_and (se_isB (so_var (pv 1))) (se_one (se_isB (so_var (pv 0))))) (se_one (se_and (se_isB (so_var (pv 1))) (se_one (se_isB (so_var (pv 0)))))))))) (sb_nil)) (sb_one (ss_ret (se_and (se_isi .int (by rfl) m_isinstance (by rfl) m_int (by decide +kernel) (so_var (pv 0))) (se_and (se_not (se_isi .bool (by rfl) m_isinstance (by rfl) m_bool (by decide +kernel) (so_var (pv 0)))) (se_one (se_cmp (o_eq hr.units) (so_var (pv 0)) (so_var (pv 1)) (nomark _))))))))))
abbrev s__law_gcd : Stmt := topS 25
theorem sc__law_gcd : FnScope ["a", "b", "turn"] ["a", "b"] (defScope s__law_gcd) := ⟨rfl, rfl, rfl, by decide +kernel, rfl, by decide +kernel, by decide +kernel⟩
theorem ok__law_gcd {f : Addr} {fd : FuncData} (F : Fun K "_law_gcd" "_law_gcd" s__law_gcd f fd) (m_range : mg "range" = none) (m_int : mg "int" = none) : FnOk P w K mg base CX0 1 f fd ["a", "b"] (spP K 2 d__law_gcd false) :=
  have nd := (sc__law_gcd).nd
  ok_of (k := 0) 2 1 F sc__law_gcd fun B cdv A outer s H E hr => sb_cons (ss_for PassesOwn.never rfl (si_rng1 (by rfl) m_range (se_int)) (sg_name (pg_name (i := 2) nd rfl (by first | exact .inl rfl | exact .inr rfl))) (sb_cons (ss_if (st_cmp (o_eq hr.units) (so_var (pv 1)) (so_exp (se_int)) (nomark _)) (sb_one (ss_break)) (sb_nil)) (sb_one (ss_par2 rfl nd rfl rfl (by decide) rfl rfl (sm_fz (fun B => se_var (pv 1)) (sm_fz (fun B => se_op2 o_mod (so_exp (se_t1 (c_int) (by rfl) m_int (by decide +kernel) (so_var (pv 0)))) (so_exp (se_t1 (c_int) (by rfl) m_int (by decide +kernel) (so_var (pv 1))))) (sm_nil))) (by rfl))))) (sb_one (ss_ret (se_var (pv 0))))
abbrev s__law_frac : Stmt := topS 26
theorem sc__law_frac : FnScope ["p", "q", "both"] ["p", "q"] (defScope s__law_frac) := ⟨rfl, rfl, rfl, by decide +kernel, rfl, by decide +kernel, by decide +kernel⟩
theorem ok__law_frac {f : Addr} {fd : FuncData} (F : Fun K "_law_frac" "_law_frac" s__law_frac f fd) (c__law_gcd : Kn P w K mg base 1 "_law_gcd" ["a", "b"] (spP K 2 d__law_gcd false)) : FnOk P w K mg base CX0 2 f fd ["p", "q"] (spP K 2 d__law_frac false) :=
  have nd := (sc__law_frac).nd
  ok_of (k := 1) 2 1 F sc__law_frac fun B cdv A outer s H E hr => sb_cons (ss_if (st_cmp (o_lt) (so_var (pv 1)) (so_exp (se_int)) (nomark _)) (sb_one (ss_par2 rfl nd rfl rfl (by decide) rfl rfl (sm_fz (fun B => se_op2 o_sub (so_exp (se_int)) (so_var (pv 0))) (sm_fz (fun B => se_op2 o_sub (so_exp (se_int)) (so_var (pv 1))) (sm_nil))) (by rfl))) (sb_nil)) (sb_cons (ss_asg (se_fn c__law_gcd hr (by omega) (by rfl) (sa_cons (se_if (st_cmp (o_ge) (so_var (pv 0)) (so_exp (se_int)) (nomark _)) (se_var (pv 0)) (se_op2 o_sub (so_exp (se_int)) (so_var (pv 0)))) (sa_cons (se_var (pv 1)) (sa_nil)))) (sg_name (pg_name (i := 2) nd rfl (by first | exact .inl rfl | exact .inr rfl)))) (sb_one (ss_ret (se_tup (sa_cons (se_op2 o_div (so_var (pv 0)) (so_var (pv 2))) (sa_cons (se_op2 o_div (so_var (pv 1)) (so_var (pv 2))) (sa_nil)))))))
abbrev s__law_add : Stmt := topS 27
theorem sc__law_add : FnScope ["one", "other"] ["one", "other"] (defScope s__law_add) := ⟨rfl, rfl, rfl, by decide +kernel, rfl, by decide +kernel, by decide +kernel⟩
theorem ok__law_add {f : Addr} {fd : FuncData} (F : Fun K "_law_add" "_law_add" s__law_add f fd) (c__law_frac : Kn P w K mg base 2 "_law_frac" ["p", "q"] (spP K 2 d__law_frac false)) : FnOk P w K mg base CX0 3 f fd ["one", "other"] (spP K 2 d__law_add false) :=
  have nd := (sc__law_add).nd
  ok_of (k := 2) 2 0 F sc__law_add fun B cdv A outer s H E hr => sb_one (ss_ret (se_fn c__law_frac hr (by omega) (by rfl) (sa_cons (se_op2 o_add (so_exp (se_op2 o_mul (so_exp (se_ix (hr1 hr) (so_var (pv 0)) (so_exp (se_int)))) (so_exp (se_ix (hr1 hr) (so_var (pv 1)) (so_exp (se_int)))))) (so_exp (se_op2 o_mul (so_exp (se_ix (hr1 hr) (so_var (pv 1)) (so_exp (se_int)))) (so_exp (se_ix (hr1 hr) (so_var (pv 0)) (so_exp (se_int))))))) (sa_cons (se_op2 o_mul (so_exp (se_ix (hr1 hr) (so_var (pv 0)) (so_exp (se_int)))) (so_exp (se_ix (hr1 hr) (so_var (pv 1)) (so_exp (se_int))))) (sa_nil)))))
abbrev s__law_sub : Stmt := topS 28
theorem sc__law_sub : FnScope ["one", "other"] ["one", "other"] (defScope s__law_sub) := ⟨rfl, rfl, rfl, by decide +kernel, rfl, by decide +kernel, by decide +kernel⟩
theorem ok__law_sub {f : Addr} {fd : FuncData} (F : Fun K "_law_sub" "_law_sub" s__law_sub f fd) (c__law_frac : Kn P w K mg base 2 "_law_frac" ["p", "q"] (spP K 2 d__law_frac false)) : FnOk P w K mg base CX0 3 f fd ["one", "other"] (spP K 2 d__law_sub false) :=
  have nd := (sc__law_sub).nd
  ok_of (k := 2) 2 0 F sc__law_sub fun B cdv A outer s H E hr => sb_one (ss_ret (se_fn c__law_frac hr (by omega) (by rfl) (sa_cons (se_op2 o_sub (so_exp (se_op2 o_mul (so_exp (se_ix (hr1 hr) (so_var (pv 0)) (so_exp (se_int)))) (so_exp (se_ix (hr1 hr) (so_var (pv 1)) (so_exp (se_int)))))) (so_exp (se_op2 o_mul (so_exp (se_ix (hr1 hr) (so_var (pv 1)) (so_exp (se_int)))) (so_exp (se_ix (hr1 hr) (so_var (pv 0)) (so_exp (se_int))))))) (sa_cons (se_op2 o_mul (so_exp (se_ix (hr1 hr) (so_var (pv 0)) (so_exp (se_int)))) (so_exp (se_ix (hr1 hr) (so_var (pv 1)) (so_exp (se_int))))) (sa_nil)))))
abbrev s__law_mul : Stmt := topS 29
theorem sc__law_mul : FnScope ["one", "other"] ["one", "other"] (defScope s__law_mul) := ⟨rfl, rfl, rfl, by decide +kernel, rfl, by decide +kernel, by decide +kernel⟩
theorem ok__law_mul {f : Addr} {fd : FuncData} (F : Fun K "_law_mul" "_law_mul" s__law_mul f fd) (c__law_frac : Kn P w K mg base 2 "_law_frac" ["p", "q"] (spP K 2 d__law_frac false)) : FnOk P w K mg base CX0 3 f fd ["one", "other"] (spP K 2 d__law_mul false) :=
  have nd := (sc__law_mul).nd
  ok_of (k := 2) 2 0 F sc__law_mul fun B cdv A outer s H E hr => sb_one (ss_ret (se_fn c__law_frac hr (by omega) (by rfl) (sa_cons (se_op2 o_mul (so_exp (se_ix (hr1 hr) (so_var (pv 0)) (so_exp (se_int)))) (so_exp (se_ix (hr1 hr) (so_var (pv 1)) (so_exp (se_int))))) (sa_cons (se_op2 o_mul (so_exp (se_ix (hr1 hr) (so_var (pv 0)) (so_exp (se_int)))) (so_exp (se_ix (hr1 hr) (so_var (pv 1)) (so_exp (se_int))))) (sa_nil)))))
abbrev s__law_power : Stmt := topS 30
theorem sc__law_power : FnScope ["base", "many", "found", "k"] ["base", "many"] (defScope s__law_power) := ⟨rfl, rfl, rfl, by decide +kernel, rfl, by decide +kernel, by decide +kernel⟩
theorem ok__law_power {f : Addr} {fd : FuncData} (F : Fun K "_law_power" "_law_power" s__law_power f fd) (m_range : mg "range" = none) : FnOk P w K mg base CX0 1 f fd ["base", "many"] (spP K 2 d__law_power false) :=
  have nd := (sc__law_power).nd
  ok_of (k := 0) 2 2 F sc__law_power fun B cdv A outer s H E hr => sb_cons (ss_asg (se_int) (sg_name (pg_name (i := 2) nd rfl (by first | exact .inl rfl | exact .inr rfl)))) (sb_cons (ss_for PassesOwn.never rfl (si_rng1 (by rfl) m_range (se_var (pv 1))) (sg_name (pg_name (i := 3) nd rfl (by first | exact .inl rfl | exact .inr rfl))) (sb_one (ss_asg (se_op2 o_mul (so_var (pv 2)) (so_var (pv 0))) (sg_name (pg_name (i := 2) nd rfl (by first | exact .inl rfl | exact .inr rfl)))))) (sb_one (ss_ret (se_var (pv 2)))))
abbrev s__law_whole : Stmt := topS 32
theorem sc__law_whole : FnScope ["mark"] ["mark"] (defScope s__law_whole) := ⟨rfl, rfl, rfl, by decide +kernel, rfl, by decide +kernel, by decide +kernel⟩
theorem ok__law_whole {f : Addr} {fd : FuncData} (F : Fun K "_law_whole" "_law_whole" s__law_whole f fd) : FnOk P w K mg base CX0 1 f fd ["mark"] (spP K 1 d__law_whole false) :=
  have nd := (sc__law_whole).nd
  ok_of (k := 0) 1 0 F sc__law_whole fun B cdv A outer s H E hr => sb_one (ss_ret (se_op2 o_div (so_exp (se_op2 o_mul (so_exp (se_ix (hr1 hr) (so_var (pv 0)) (so_exp (se_int)))) (so_exp (se_int)))) (so_exp (se_ix (hr1 hr) (so_var (pv 0)) (so_exp (se_int))))))
abbrev s__law_put : Stmt := topS 31
theorem sc__law_put : FnScope ["marks", "more", "found", "mark", "row"] ["marks", "more"] (defScope s__law_put) := ⟨rfl, rfl, rfl, by decide +kernel, rfl, by decide +kernel, by decide +kernel⟩
theorem ok__law_put {f : Addr} {fd : FuncData} (F : Fun K "_law_put" "_law_put" s__law_put f fd) (m_sorted : mg "sorted" = none) (m_list : mg "list" = none) (c__law_whole : Kn P w K mg base 1 "_law_whole" ["mark"] (spP K 1 d__law_whole false)) : FnOk P w K mg base CX0 2 f fd ["marks", "more"] (spP K 2 d__law_put false) :=
  have nd := (sc__law_put).nd
  ok_of (k := 1) 2 3 F sc__law_put fun B cdv A outer s H E hr => sb_cons (ss_own rfl (ps_set (i := 2) nd rfl (by first | exact .inl rfl | exact .inr rfl) (sf_t1 (c_listL) listD_lst (by rfl) m_list (by decide +kernel) (so_var (pv 0))))) (sb_cons (ss_for PassesOwn.never rfl (si_over (se_var (pv 1))) (sg_name (pg_name (i := 3) nd rfl (by first | exact .inl rfl | exact .inr rfl))) (sb_one (ss_if (st_w (sw_and (st_cmp (o_notin (hr66 hr)) (so_var (pv 3)) (so_var (pv 2)) (by with_unfolding_all rfl)) (sw_and (st_cmp (o_ge) (so_exp (se_ix (hr1 hr) (so_var (pv 3)) (so_exp (se_int)))) (so_exp (se_int)) (nomark _)) (sw_and1 (st_cmp (o_le) (so_exp (se_ix (hr1 hr) (so_var (pv 3)) (so_exp (se_int)))) (so_exp (se_ix (hr1 hr) (so_var (pv 3)) (so_exp (se_int)))) (nomark _)))))) (sb_one (ss_app (pv 2) (se_var (pv 3)))) (sb_nil)))) (sb_one (ss_ret (se_of (sf_lc rfl nd (own := [("row", 4)]) (blkOk_by (by rfl)) rfl (si_over (se_b1 (c_sorted (hr66 hr)) (by rfl) m_sorted (by decide +kernel) (so_exp (se_of (sf_lc rfl nd (own := [("mark", 3)]) (blkOk_by (by rfl)) rfl (si_over (se_var (pv 2))) (fun s H C cl fp B => sgo_name (pg_name (i := 3) nd rfl (by first | exact .inl rfl | exact .inr rfl))) (fun s H C cl fp B => sts_nil) (fun s H C cl fp B => se_tup (sa_cons (se_fn c__law_whole hr (by omega) (by rfl) (sa_cons (se_var (pv 3)) (sa_nil))) (sa_cons (se_var (pv 3)) (sa_nil))))))))) (fun s H C cl fp B => sgo_name (pg_name (i := 4) nd rfl (by first | exact .inl rfl | exact .inr rfl))) (fun s H C cl fp B => sts_nil) (fun s H C cl fp B => se_ix (hr1 hr) (so_var (pv 4)) (so_exp (se_int))))))))
abbrev s__law_folded : Stmt := topS 33
theorem sc__law_folded : FnScope ["marks", "one", "other", "crease", "copies", "mark"] ["marks", "one", "other"] (defScope s__law_folded) := ⟨rfl, rfl, rfl, by decide +kernel, rfl, by decide +kernel, by decide +kernel⟩
theorem ok__law_folded {f : Addr} {fd : FuncData} (F : Fun K "_law_folded" "_law_folded" s__law_folded f fd) (c__law_put : Kn P w K mg base 2 "_law_put" ["marks", "more"] (spP K 2 d__law_put false)) (c__law_add : Kn P w K mg base 3 "_law_add" ["one", "other"] (spP K 2 d__law_add false)) (c__law_sub : Kn P w K mg base 3 "_law_sub" ["one", "other"] (spP K 2 d__law_sub false)) (c__law_mul : Kn P w K mg base 3 "_law_mul" ["one", "other"] (spP K 2 d__law_mul false)) : FnOk P w K mg base CX0 4 f fd ["marks", "one", "other"] (spP K 3 d__law_folded false) :=
  have nd := (sc__law_folded).nd
  ok_of (k := 3) 3 3 F sc__law_folded fun B cdv A outer s H E hr => sb_cons (ss_asg (se_fn c__law_mul hr (by omega) (by rfl) (sa_cons (se_tup (sa_cons (se_int) (sa_cons (se_int) (sa_nil)))) (sa_cons (se_fn c__law_add hr (by omega) (by rfl) (sa_cons (se_var (pv 1)) (sa_cons (se_var (pv 2)) (sa_nil)))) (sa_nil)))) (sg_name (pg_name (i := 3) nd rfl (by first | exact .inl rfl | exact .inr rfl)))) (sb_cons (ss_asgLcF (ps_lc rfl nd rfl rfl (by rfl) (own := [("mark", 5)]) (blkOk_by (by rfl)) rfl (si_over (se_var (pv 0))) (fun s H C cl fp B => sgo_name (pg_name (i := 5) nd rfl (by first | exact .inl rfl | exact .inr rfl))) (fun s H C cl fp B => sts_nil) (fun s H C cl fp B => se_fn c__law_sub hr (by omega) (by rfl) (sa_cons (se_fn c__law_add hr (by omega) (by rfl) (sa_cons (se_var (pv 3)) (sa_cons (se_var (pv 3)) (sa_nil)))) (sa_cons (se_var (pv 5)) (sa_nil)))))) (sb_one (ss_ret (se_fn c__law_put hr (by omega) (by rfl) (sa_cons (se_var (pv 0)) (sa_cons (se_op2 o_add (so_exp (se_lst (sa_cons (se_var (pv 3)) (sa_nil)))) (so_var (pv 4))) (sa_nil)))))))
abbrev s_law : Stmt := topS 34
theorem sc_law : FnScope ["script", "pool", "marks", "folds", "turn", "one", "other", "mark", "fresh", "crease", "rows", "lots", "most", "level", "some", "i", "j", "more", "everything", "due", "k", "told"] ["script"] (defScope s_law) := ⟨rfl, rfl, rfl, by decide +kernel, rfl, by decide +kernel, by decide +kernel⟩
theorem ok_law {f : Addr} {fd : FuncData} (F : Fun K "law" "law" s_law f fd) (m_range : mg "range" = none) (m_len : mg "len" = none) (m_list : mg "list" = none) (m_int : mg "int" = none) (c__law_same : Kn P w K mg base 13 "_law_same" ["answer", "due"] (spP K 2 (d__law_same 12) false)) (c_fewest_folds : Kn P w K mg base 6 "fewest_folds" ["mark", "most"] (spP K 2 d_fewest_folds false)) (c__law_draw : Kn P w K mg base 3 "_law_draw" ["pool", "limit"] (spI K 1 d__law_draw)) (c__law_frac : Kn P w K mg base 2 "_law_frac" ["p", "q"] (spP K 2 d__law_frac false)) (c_levels : Kn P w K mg base 5 "levels" ["most"] (spP K 1 d_levels false)) (c__law_put : Kn P w K mg base 2 "_law_put" ["marks", "more"] (spP K 2 d__law_put false)) (c__law_folded : Kn P w K mg base 4 "_law_folded" ["marks", "one", "other"] (spP K 3 d__law_folded false)) (c_put_in : Kn P w K mg base 2 "put_in" ["marks", "mark"] (spP K 2 d_put_in false)) (c__law_add : Kn P w K mg base 3 "_law_add" ["one", "other"] (spP K 2 d__law_add false)) (c__law_sub : Kn P w K mg base 3 "_law_sub" ["one", "other"] (spP K 2 d__law_sub false)) (c_mirrored : Kn P w K mg base 3 "mirrored" ["crease", "mark"] (spP K 2 d_mirrored false)) (c__law_pick : Kn P w K mg base 4 "_law_pick" ["pool", "options"] (spI K 1 d__law_pick)) (c__law_power : Kn P w K mg base 1 "_law_power" ["base", "many"] (spP K 2 d__law_power false)) (c_after : Kn P w K mg base 5 "after" ["folds"] (spP K 1 d_after false)) (c__law_next : Kn P w K mg base 3 "_law_next" ["pool"] (spI K 0 d__law_next)) (c__law_mul : Kn P w K mg base 3 "_law_mul" ["one", "other"] (spP K 2 d__law_mul false)) (c_crease_of : Kn P w K mg base 3 "crease_of" ["one", "other"] (spP K 2 d_crease_of false)) (c_folded_marks : Kn P w K mg base 4 "folded_marks" ["marks", "one", "other"] (spP K 3 d_folded_marks false)) (c__law_pool : Kn P w K mg base 3 "_law_pool" ["script"] (spP K 1 d__law_pool true)) : FnOk P w K mg base CX0 14 f fd ["script"] (spP K 1 d_law false) :=
  have nd := (sc_law).nd
  ok_of (k := 13) 1 21 F sc_law fun B cdv A outer s H E hr => sb_cons (ss_own rfl (ps_set (i := 1) nd rfl (by first | exact .inl rfl | exact .inr rfl) (sf_fn c__law_pool hr (by omega) (by rfl) (sa_cons (se_var (pv 0)) (sa_nil))))) (sb_cons (ss_tpar2 rfl rfl rfl (pg_name (i := 2) nd rfl (by first | exact .inl rfl | exact .inr rfl)) (pg_name (i := 3) nd rfl (by first | exact .inl rfl | exact .inr rfl)) (sm_fz (fun B => se_lst (sa_cons (se_tup (sa_cons (se_int) (sa_cons (se_int) (sa_nil)))) (sa_cons (se_tup (sa_cons (se_int) (sa_cons (se_int) (sa_nil)))) (sa_nil)))) (sm_fz (fun B => se_lst (sa_nil)) (sm_nil)))) (sb_cons (ss_for PassesOwn.never rfl (si_rng1 (by rfl) m_range (se_fnI c__law_draw hr (by omega) (by rfl) (pv 1) (sa_cons (se_int) (sa_nil)))) (sg_name (pg_name (i := 4) nd rfl (by first | exact .inl rfl | exact .inr rfl))) (sb_cons (ss_asg (se_fnI c__law_pick hr (by omega) (by rfl) (pv 1) (sa_cons (se_var (pv 2)) (sa_nil))) (sg_name (pg_name (i := 5) nd rfl (by first | exact .inl rfl | exact .inr rfl)))) (sb_cons (ss_asg (se_fnI c__law_pick hr (by omega) (by rfl) (pv 1) (sa_cons (se_of (sf_lc rfl nd (own := [("mark", 7)]) (blkOk_by (by rfl)) rfl (si_over (se_var (pv 2))) (fun s H C cl fp B => sgo_name (pg_name (i := 7) nd rfl (by first | exact .inl rfl | exact .inr rfl))) (fun s H C cl fp B => sts_one (st_cmp (o_ne hr.units) (so_var (pv 7)) (so_var (pv 5)) (nomark _))) (fun s H C cl fp B => se_var (pv 7)))) (sa_nil))) (sg_name (pg_name (i := 6) nd rfl (by first | exact .inl rfl | exact .inr rfl)))) (sb_cons (ss_asg (se_fn c__law_folded hr (by omega) (by rfl) (sa_cons (se_var (pv 2)) (sa_cons (se_var (pv 5)) (sa_cons (se_var (pv 6)) (sa_nil))))) (sg_name (pg_name (i := 8) nd rfl (by first | exact .inl rfl | exact .inr rfl)))) (sb_cons (ss_if (st_not (st_tru (so_exp (se_fn c__law_same hr (by omega) (by rfl) (sa_cons (se_lst (sa_cons (se_fn c_folded_marks hr (by omega) (by rfl) (sa_cons (se_var (pv 2)) (sa_cons (se_var (pv 5)) (sa_cons (se_var (pv 6)) (sa_nil))))) (sa_cons (se_fn c_crease_of hr (by omega) (by rfl) (sa_cons (se_var (pv 5)) (sa_cons (se_var (pv 6)) (sa_nil)))) (sa_nil)))) (sa_cons (se_lst (sa_cons (se_var (pv 8)) (sa_cons (se_fn c__law_mul hr (by omega) (by rfl) (sa_cons (se_tup (sa_cons (se_int) (sa_cons (se_int) (sa_nil)))) (sa_cons (se_fn c__law_add hr (by omega) (by rfl) (sa_cons (se_var (pv 5)) (sa_cons (se_var (pv 6)) (sa_nil)))) (sa_nil)))) (sa_nil)))) (sa_nil))))))) (sb_one (ss_ret (se_bl))) (sb_nil)) (sb_cons (ss_tpar2 rfl rfl rfl (pg_name (i := 2) nd rfl (by first | exact .inl rfl | exact .inr rfl)) (pg_name (i := 3) nd rfl (by first | exact .inl rfl | exact .inr rfl)) (sm_fz (fun B => se_var (pv 8)) (sm_fz (fun B => se_op2 o_add (so_var (pv 3)) (so_exp (se_lst (sa_cons (se_tup (sa_cons (se_var (pv 5)) (sa_cons (se_var (pv 6)) (sa_nil)))) (sa_nil))))) (sm_nil)))) (sb_one (ss_expr (se_fnI c__law_next hr (by omega) (by rfl) (pv 1) (sa_nil)))))))))) (sb_cons (ss_if (st_not (st_tru (so_exp (se_fn c__law_same hr (by omega) (by rfl) (sa_cons (se_lst (sa_cons (se_fn c_after hr (by omega) (by rfl) (sa_cons (se_var (pv 3)) (sa_nil))) (sa_cons (se_fn c_after hr (by omega) (by rfl) (sa_cons (se_op2 o_add (so_var (pv 3)) (so_exp (se_lst (sa_cons (se_tup (sa_cons (se_tup (sa_cons (se_int) (sa_cons (se_int) (sa_nil)))) (sa_cons (se_tup (sa_cons (se_int) (sa_cons (se_int) (sa_nil)))) (sa_nil)))) (sa_nil))))) (sa_nil))) (sa_cons (se_fn c_after hr (by omega) (by rfl) (sa_cons (se_lst (sa_nil)) (sa_nil))) (sa_nil))))) (sa_cons (se_lst (sa_cons (se_var (pv 2)) (sa_cons (se_non) (sa_cons (se_lst (sa_cons (se_tup (sa_cons (se_int) (sa_cons (se_int) (sa_nil)))) (sa_cons (se_tup (sa_cons (se_int) (sa_cons (se_int) (sa_nil)))) (sa_nil)))) (sa_nil))))) (sa_nil))))))) (sb_one (ss_ret (se_bl))) (sb_nil)) (sb_cons (ss_if (st_cmp (o_ne hr.units) (so_exp (se_of (sf_lc rfl nd (own := [("mark", 7)]) (blkOk_by (by rfl)) rfl (si_over (se_var (pv 2))) (fun s H C cl fp B => sgo_name (pg_name (i := 7) nd rfl (by first | exact .inl rfl | exact .inr rfl))) (fun s H C cl fp B => sts_one (st_cmp (o_ne hr.units) (so_exp (se_op2 o_mod (so_exp (se_t1 (c_int) (by rfl) m_int (by decide +kernel) (so_exp (se_fn c__law_power hr (by omega) (by rfl) (sa_cons (se_int) (sa_cons (se_b1 (c_len) (by rfl) m_len (by decide +kernel) (so_var (pv 3))) (sa_nil))))))) (so_exp (se_ix (hr1 hr) (so_var (pv 7)) (so_exp (se_int)))))) (so_exp (se_int)) (nomark _))) (fun s H C cl fp B => se_var (pv 7))))) (so_exp (se_lst (sa_nil))) (nomark _)) (sb_one (ss_ret (se_bl))) (sb_nil)) (sb_cons (ss_tpar2 rfl rfl rfl (pg_name (i := 9) nd rfl (by first | exact .inl rfl | exact .inr rfl)) (pg_name (i := 7) nd rfl (by first | exact .inl rfl | exact .inr rfl)) (sm_fz (fun B => se_fnI c__law_pick hr (by omega) (by rfl) (pv 1) (sa_cons (se_var (pv 2)) (sa_nil))) (sm_fz (fun B => se_fnI c__law_pick hr (by omega) (by rfl) (pv 1) (sa_cons (se_var (pv 2)) (sa_nil))) (sm_nil)))) (sb_cons (ss_if (st_not (st_tru (so_exp (se_fn c__law_same hr (by omega) (by rfl) (sa_cons (se_lst (sa_cons (se_fn c_mirrored hr (by omega) (by rfl) (sa_cons (se_var (pv 9)) (sa_cons (se_var (pv 7)) (sa_nil)))) (sa_cons (se_fn c_put_in hr (by omega) (by rfl) (sa_cons (se_var (pv 2)) (sa_cons (se_var (pv 7)) (sa_nil)))) (sa_nil)))) (sa_cons (se_lst (sa_cons (se_fn c__law_sub hr (by omega) (by rfl) (sa_cons (se_fn c__law_add hr (by omega) (by rfl) (sa_cons (se_var (pv 9)) (sa_cons (se_var (pv 9)) (sa_nil)))) (sa_cons (se_var (pv 7)) (sa_nil)))) (sa_cons (se_var (pv 2)) (sa_nil)))) (sa_nil))))))) (sb_one (ss_ret (se_bl))) (sb_nil)) (sb_cons (ss_if (st_not (st_tru (so_exp (se_fn c__law_same hr (by omega) (by rfl) (sa_cons (se_lst (sa_cons (se_fn c_put_in hr (by omega) (by rfl) (sa_cons (se_var (pv 2)) (sa_cons (se_tup (sa_cons (se_int) (sa_cons (se_int) (sa_nil)))) (sa_nil)))) (sa_cons (se_fn c_put_in hr (by omega) (by rfl) (sa_cons (se_var (pv 2)) (sa_cons (se_tup (sa_cons (se_neg (so_exp (se_int))) (sa_cons (se_int) (sa_nil)))) (sa_nil)))) (sa_cons (se_fn c_put_in hr (by omega) (by rfl) (sa_cons (se_var (pv 2)) (sa_cons (se_tup (sa_cons (se_int) (sa_cons (se_int) (sa_nil)))) (sa_nil)))) (sa_nil))))) (sa_cons (se_lst (sa_cons (se_fn c__law_put hr (by omega) (by rfl) (sa_cons (se_var (pv 2)) (sa_cons (se_lst (sa_cons (se_tup (sa_cons (se_int) (sa_cons (se_int) (sa_nil)))) (sa_nil))) (sa_nil)))) (sa_cons (se_var (pv 2)) (sa_cons (se_var (pv 2)) (sa_nil))))) (sa_nil))))))) (sb_one (ss_ret (se_bl))) (sb_nil)) (sb_cons (ss_tpar2 rfl rfl rfl (pg_name (i := 10) nd rfl (by first | exact .inl rfl | exact .inr rfl)) (pg_name (i := 11) nd rfl (by first | exact .inl rfl | exact .inr rfl)) (sm_fr (fun B => sf_lst (sa_cons (se_lst (sa_cons (se_tup (sa_cons (se_int) (sa_cons (se_int) (sa_nil)))) (sa_cons (se_tup (sa_cons (se_int) (sa_cons (se_int) (sa_nil)))) (sa_nil)))) (sa_nil))) (sm_fz (fun B => se_lst (sa_cons (se_lst (sa_cons (se_tup (sa_cons (se_int) (sa_cons (se_int) (sa_nil)))) (sa_cons (se_tup (sa_cons (se_int) (sa_cons (se_int) (sa_nil)))) (sa_nil)))) (sa_nil))) (sm_nil)))) (sb_cons (ss_asg (se_fnI c__law_draw hr (by omega) (by rfl) (pv 1) (sa_cons (se_int) (sa_nil))) (sg_name (pg_name (i := 12) nd rfl (by first | exact .inl rfl | exact .inr rfl)))) (sb_cons (ss_for PassesOwn.never rfl (si_rng1 (by rfl) m_range (se_var (pv 12))) (sg_name (pg_name (i := 13) nd rfl (by first | exact .inl rfl | exact .inr rfl))) (sb_cons (ss_asg (se_lst (sa_nil)) (sg_name (pg_name (i := 8) nd rfl (by first | exact .inl rfl | exact .inr rfl)))) (sb_cons (ss_for PassesOwn.never rfl (si_over (se_var (pv 11))) (sg_name (pg_name (i := 14) nd rfl (by first | exact .inl rfl | exact .inr rfl))) (sb_one (ss_for PassesOwn.never rfl (si_rng1 (by rfl) m_range (se_b1 (c_len) (by rfl) m_len (by decide +kernel) (so_var (pv 14)))) (sg_name (pg_name (i := 15) nd rfl (by first | exact .inl rfl | exact .inr rfl))) (sb_one (ss_for PassesOwn.never rfl (si_rng1 (by rfl) m_range (se_var (pv 15))) (sg_name (pg_name (i := 16) nd rfl (by first | exact .inl rfl | exact .inr rfl))) (sb_cons (ss_asg (se_fn c__law_folded hr (by omega) (by rfl) (sa_cons (se_var (pv 14)) (sa_cons (se_ix (hr1 hr) (so_var (pv 14)) (so_var (pv 16))) (sa_cons (se_ix (hr1 hr) (so_var (pv 14)) (so_var (pv 15))) (sa_nil))))) (sg_name (pg_name (i := 17) nd rfl (by first | exact .inl rfl | exact .inr rfl)))) (sb_one (ss_asg (se_op2 o_add (so_var (pv 8)) (so_exp (se_if (st_cmp (o_notin (hr66 hr)) (so_var (pv 17)) (so_var (pv 8)) (by with_unfolding_all rfl)) (se_lst (sa_cons (se_var (pv 17)) (sa_nil))) (se_lst (sa_nil))))) (sg_name (pg_name (i := 8) nd rfl (by first | exact .inl rfl | exact .inr rfl))))))))))) (sb_cons (ss_asg (se_var (pv 8)) (sg_name (pg_name (i := 11) nd rfl (by first | exact .inl rfl | exact .inr rfl)))) (sb_cons (ss_asg (se_t1 (c_list) (by rfl) m_list (by decide +kernel) (so_exp (se_ix (hr1 hr) (so_var (pv 10)) (so_exp (se_neg (so_exp (se_int))))))) (sg_name (pg_name (i := 18) nd rfl (by first | exact .inl rfl | exact .inr rfl)))) (sb_cons (ss_for PassesOwn.never rfl (si_over (se_var (pv 11))) (sg_name (pg_name (i := 14) nd rfl (by first | exact .inl rfl | exact .inr rfl))) (sb_one (ss_asg (se_fn c__law_put hr (by omega) (by rfl) (sa_cons (se_var (pv 18)) (sa_cons (se_var (pv 14)) (sa_nil)))) (sg_name (pg_name (i := 18) nd rfl (by first | exact .inl rfl | exact .inr rfl)))))) (sb_one (ss_app (pv 10) (se_var (pv 18)))))))))) (sb_cons (ss_if (st_not (st_tru (so_exp (se_fn c__law_same hr (by omega) (by rfl) (sa_cons (se_fn c_levels hr (by omega) (by rfl) (sa_cons (se_var (pv 12)) (sa_nil))) (sa_cons (se_var (pv 10)) (sa_nil))))))) (sb_one (ss_ret (se_bl))) (sb_nil)) (sb_cons (ss_for PassesOwn.never rfl (si_rng1 (by rfl) m_range (se_int)) (sg_name (pg_name (i := 4) nd rfl (by first | exact .inl rfl | exact .inr rfl))) (sb_cons (ss_asg (se_fn c__law_frac hr (by omega) (by rfl) (sa_cons (se_fnI c__law_draw hr (by omega) (by rfl) (pv 1) (sa_cons (se_int) (sa_nil))) (sa_cons (se_int) (sa_nil)))) (sg_name (pg_name (i := 7) nd rfl (by first | exact .inl rfl | exact .inr rfl)))) (sb_cons (ss_asgLcF (ps_lc rfl nd rfl rfl (by rfl) (own := [("k", 20)]) (blkOk_by (by rfl)) rfl (si_rng1 (by rfl) m_range (se_b1 (c_len) (by rfl) m_len (by decide +kernel) (so_var (pv 10)))) (fun s H C cl fp B => sgo_name (pg_name (i := 20) nd rfl (by first | exact .inl rfl | exact .inr rfl))) (fun s H C cl fp B => sts_one (st_cmp (o_in (hr66 hr)) (so_var (pv 7)) (so_exp (se_ix (hr1 hr) (so_var (pv 10)) (so_var (pv 20)))) (by with_unfolding_all rfl))) (fun s H C cl fp B => se_var (pv 20)))) (sb_cons (ss_asg (se_fn c_fewest_folds hr (by omega) (by rfl) (sa_cons (se_var (pv 7)) (sa_cons (se_var (pv 12)) (sa_nil)))) (sg_name (pg_name (i := 21) nd rfl (by first | exact .inl rfl | exact .inr rfl)))) (sb_one (ss_if (st_not (st_tru (so_exp (se_fn c__law_same hr (by omega) (by rfl) (sa_cons (se_var (pv 21)) (sa_cons (se_if (st_cmp (o_ne hr.units) (so_var (pv 19)) (so_exp (se_lst (sa_nil))) (nomark _)) (se_ix (hr1 hr) (so_var (pv 19)) (so_exp (se_int))) (se_non)) (sa_nil))))))) (sb_one (ss_ret (se_bl))) (sb_nil))))))) (sb_one (ss_ret (se_bl)))))))))))))))
end
end Py.k13

namespace Py
/-! ### the readings, step by step -/
section
variable (l : Loc) (d : D) (i : Nat) (e a b : E) (oa ob : O) (t u : T) (s r : S) (g : D → D → Option D) (h : D → Option D) (es : List E)
@[simp] theorem cst_s : cst d l = some (d, l) := (rfl)
@[simp] theorem nth_0 (x : SV) (xs : Loc) : nth (x :: xs) 0 = x := (rfl)
@[simp] theorem nth_s (x : SV) (xs : Loc) (n : Nat) : nth (x :: xs) (n + 1) = nth xs n := (rfl)
@[simp] theorem put_0 (x v : SV) (xs : Loc) : put (x :: xs) 0 v = v :: xs := (rfl)
@[simp] theorem put_s (x v : SV) (xs : Loc) (n : Nat) : put (x :: xs) (n + 1) v = x :: put xs n v := (rfl)
theorem use_s : use i l = match nth l i with
    | .fz d => some (d, l)
    | .ow d => some (d, put l i (.fz d))
    | _ => none := (rfl)
@[simp] theorem ovar_s : ovar i l = (nth l i).dat.bind fun _ => some (fun l' => (nth l' i).dat, l) := (rfl)
@[simp] theorem oexp_s : oexp e l = (e l).bind fun p => some (fun _ => some p.1, p.2) := (rfl)
@[simp] theorem op1_s : op1 h oa l = (oa l).bind fun p => (p.1 p.2).bind fun x => (h x).bind fun z => some (z, p.2) := (rfl)
@[simp] theorem op2_s : op2 g oa ob l = (oa l).bind fun p => (ob p.2).bind fun q => (p.1 q.2).bind fun x => (q.1 q.2).bind fun y => (g x y).bind fun z => some (z, q.2) := (rfl)
@[simp] theorem seq_s : seq s r l = (s l).bind fun f => match f with
  | .nx l' => r l'
  | f => some f := (rfl)
@[simp] theorem nop_s : nop l = some (.nx l) := (rfl)
@[simp] theorem asg_s (gv : G) : asg gv e l = (e l).bind fun p => (gv p.1 p.2).bind fun l' => some (.nx l') := (rfl)
@[simp] theorem own_s : own i e l = (e l).bind fun p => some (.nx (put p.2 i (.ow p.1))) := (rfl)
@[simp] theorem gname_s : gname i d l = some (put l i (.fz d)) := (rfl)
@[simp] theorem ret_s : ret e l = (e l).bind fun p => some (.rt p.1 p.2) := (rfl)
@[simp] theorem exprS_s : exprS e l = (e l).bind fun p => some (.nx p.2) := (rfl)
@[simp] theorem retN_s : retN l = some (.rt .non l) := (rfl)
@[simp] theorem ifS_s : ifS t s r l = (t l).bind fun p => if p.1 then s p.2 else r p.2 := (rfl)
@[simp] theorem ifE_s : ifE t a b l = (t l).bind fun p => if p.1 then a p.2 else b p.2 := (rfl)
@[simp] theorem tand_s : tand t u l = (t l).bind fun p => if p.1 then u p.2 else some (false, p.2) := (rfl)
@[simp] theorem tor_s : tor t u l = (t l).bind fun p => if p.1 then some (true, p.2) else u p.2 := (rfl)
@[simp] theorem tnot_s : tnot t l = (t l).bind fun p => some (!p.1, p.2) := (rfl)
@[simp] theorem tru_s : tru oa l = (oa l).bind fun p => (p.1 p.2).bind fun x => (truth x).bind fun b => some (b, p.2) := (rfl)
theorem tbl_s : tbl e l = (e l).bind fun p => match p.1 with
  | .bl b => some (b, p.2)
  | _ => none := (rfl)
theorem tbl_b {e : E} {l l' : Loc} {b : Bool} (h : e l = some (.bl b, l')) : tbl e l = some (b, l') := by rw [tbl_s, h]; rfl
@[simp] theorem args_0 : args [] l = some ([], l) := (rfl)
@[simp] theorem args_s : args (e :: es) l = (e l).bind fun p => (args es p.2).bind fun q => some (p.1 :: q.1, q.2) := (rfl)
@[simp] theorem lstE_s : lstE es l = (args es l).bind fun p => some (.lst p.1, p.2) := (rfl)
@[simp] theorem tupE_s : tupE es l = (args es l).bind fun p => some (.tup p.1, p.2) := (rfl)
@[simp] theorem call_s (f : List D → Option D) : call f es l = (args es l).bind fun p => (f p.1).bind fun z => some (z, p.2) := (rfl)
@[simp] theorem callF_s (f : List D → Option D) : callF f es l = (args es l).bind fun p => (f p.1).bind fun z => if isN z then none else some (z, p.2) := (rfl)
@[simp] theorem call1_s (f : D → List D → Option (D × D)) : call1 f i es l = (nth l i).obj.bind fun _ => (args es l).bind fun q => (nth q.2 i).obj.bind fun c =>
  (f c q.1).bind fun r => some (r.1, put q.2 i ((nth q.2 i).chg r.2)) := (rfl)
@[simp] theorem setS_s (k : E) : setS i k e l = (e l).bind fun p => (nth p.2 i).obj.bind fun _ => (k p.2).bind fun q => (nth q.2 i).obj.bind fun c => (setD c q.1 p.1).bind fun c' => some (.nx (put q.2 i ((nth q.2 i).chg c'))) := (rfl)
@[simp] theorem dat_fz : (SV.fz d).dat = some d := (rfl)
@[simp] theorem dat_ow : (SV.ow d).dat = some d := (rfl)
@[simp] theorem dat_io : (SV.io d).dat = some d := (rfl)
@[simp] theorem obj_ow : (SV.ow d).obj = some d := (rfl)
@[simp] theorem obj_io : (SV.io d).obj = some d := (rfl)
@[simp] theorem chg_ow (c : D) : (SV.ow d).chg c = .ow c := (rfl)
@[simp] theorem chg_io (c : D) : (SV.io d).chg c = .io c := (rfl)
@[simp] theorem add_i (x y : Int) : addD (.int x) (.int y) = some (.int (x + y)) := (rfl)
@[simp] theorem sub_i (x y : Int) : subD (.int x) (.int y) = some (.int (x - y)) := (rfl)
@[simp] theorem neg_i (x : Int) : negD (.int x) = some (.int (-x)) := (rfl)
@[simp] theorem int_i (x : Int) : intD (.int x) = some (.int x) := (rfl)
@[simp] theorem lt_i (x y : Int) : ltD (.int x) (.int y) = some (.bl (decide (x < y))) := (rfl)
@[simp] theorem le_i (x y : Int) : leD (.int x) (.int y) = some (.bl (decide (x ≤ y))) := (rfl)
@[simp] theorem gt_i (x y : Int) : gtD (.int x) (.int y) = some (.bl (decide (y < x))) := (rfl)
@[simp] theorem ge_i (x y : Int) : geD (.int x) (.int y) = some (.bl (decide (y ≤ x))) := (rfl)
@[simp] theorem eq_i (x y : Int) : eqD (.int x) (.int y) = some (.bl (x == y)) := (rfl)
@[simp] theorem ne_i (x y : Int) : neD (.int x) (.int y) = some (.bl (!(x == y))) := (rfl)
@[simp] theorem len_l (x : List D) : lenD (.lst x) = some (.int x.length) := (rfl)
@[simp] theorem len_t (x : List D) : lenD (.tup x) = some (.int x.length) := (rfl)
@[simp] theorem len_s (x : List Int) : lenD (.scr x) = some (.int x.length) := (rfl)
@[simp] theorem ix_l (x : List D) (k : Int) : ixD (.lst x) (.int k) = geti x k := (rfl)
@[simp] theorem ix_t (x : List D) (k : Int) : ixD (.tup x) (.int k) = geti x k := (rfl)
@[simp] theorem ix_c (x : List D) (k : Int) : ixD (.con x) (.int k) = geti x k := (rfl)
@[simp] theorem ix_s (x : List Int) (k : Int) : ixD (.scr x) (.int k) = (geti x k).map .int := (rfl)
@[simp] theorem set_l (x : List D) (k : Int) (v : D) : setD (.lst x) (.int k) v = (seti x k v).map .lst := (rfl)
@[simp] theorem tr_b (b : Bool) : truth (.bl b) = some b := (rfl)
@[simp] theorem tr_l (b : List D) : truth (.lst b) = some (!b.isEmpty) := (rfl)
theorem mul_i {x y : Int} (h : x.natAbs.log2 + y.natAbs.log2 < bits) : mulD (.int x) (.int y) = some (.int (x * y)) := if_pos h
@[simp] theorem mod_i {x y : Int} (h : 0 < y) : modD (.int x) (.int y) = some (.int (x % y)) := if_pos h
theorem div_i {x y : Int} (h : 0 < y) (h2 : y.natAbs.log2 < 9000) : divD (.int x) (.int y) = some (.int (x / y)) := if_pos ⟨h, h2⟩
@[simp] theorem fin_rt : fin (some (.rt d l)) = some (d, l) := (rfl)
@[simp] theorem fin_nx : fin (some (.nx l)) = some (.non, l) := (rfl)
end
/-! ### sizes -/
theorem log_le {a b : Nat} (h : a ≤ b) : a.log2 ≤ b.log2 := by
  by_cases ha : a = 0
  · subst ha; simp
  · have hb : b ≠ 0 := by omega
    exact (Nat.le_log2 hb).mpr (Nat.le_trans (Nat.log2_self_le ha) h)
theorem log_lt {a k : Nat} (h : a < 2 ^ k) (hk : 0 < k) : a.log2 < k := by
  by_cases ha : a = 0
  · subst ha; simpa using hk
  · exact (Nat.log2_lt ha).mpr h
theorem log_bd (a : Nat) : a < 2 ^ (a.log2 + 1) := by
  by_cases ha : a = 0
  · subst ha; simp
  · exact Nat.lt_log2_self
theorem log_add (x y : Int) (k : Nat) (hx : x.natAbs.log2 < k) (hy : y.natAbs.log2 < k) : (x + y).natAbs.log2 < k + 1 := by
  have h1 := log_bd x.natAbs
  have h2 := log_bd y.natAbs
  have e1 : 2 ^ (x.natAbs.log2 + 1) ≤ 2 ^ k := Nat.pow_le_pow_right (by decide) hx
  have e2 : 2 ^ (y.natAbs.log2 + 1) ≤ 2 ^ k := Nat.pow_le_pow_right (by decide) hy
  refine log_lt ?_ (by omega)
  rw [Nat.pow_succ]
  omega
theorem log_mul (x y : Int) (j k : Nat) (hx : x.natAbs.log2 < j) (hy : y.natAbs.log2 < k) : (x * y).natAbs.log2 < j + k := by
  have h1 := log_bd x.natAbs
  have h2 := log_bd y.natAbs
  have e1 : 2 ^ (x.natAbs.log2 + 1) ≤ 2 ^ j := Nat.pow_le_pow_right (by decide) hx
  have e2 : 2 ^ (y.natAbs.log2 + 1) ≤ 2 ^ k := Nat.pow_le_pow_right (by decide) hy
  refine log_lt ?_ (by omega)
  rw [Int.natAbs_mul, Nat.pow_add]
  exact Nat.mul_lt_mul'' (Nat.lt_of_lt_of_le h1 e1) (Nat.lt_of_lt_of_le h2 e2)
theorem log_mod (x : Int) {m : Int} (h : 0 < m) : (x % m).natAbs.log2 ≤ m.natAbs.log2 := by
  have h1 := Int.emod_nonneg x (Int.ne_of_gt h)
  have h2 := Int.emod_lt_of_pos x h
  exact log_le (by omega)
open Py.Pl
theorem mixed (n p : Int) (h : n.natAbs.log2 < 10000000) (h2 : p.natAbs.log2 < 10000) : ∃ r, d__law_mixed [.int n, .int p] = some (.int r) := by
  have c1 : (410338673998125441398711 : Int).natAbs.log2 = 78 := by decide +kernel
  have c2 : (736418259301774563982039 : Int).natAbs.log2 = 79 := by decide +kernel
  have c3 : (618970019642690137449562111 : Int).natAbs.log2 = 88 := by decide +kernel
  have c4 : (162259276829213363391578010288127 : Int).natAbs.log2 = 106 := by decide +kernel
  have c5 : (7 : Int).natAbs.log2 = 2 := by decide +kernel
  have b1 : bits = 100000000 := rfl
  have m1 : mulD (.int n) (.int 410338673998125441398711) = _ := mul_i (by omega)
  have m2 : mulD (.int p) (.int 736418259301774563982039) = _ := mul_i (by omega)
  simp [d__law_mixed, run, b__law_mixed, m1, m2]
  have k1 := log_mod (n * 410338673998125441398711 + p * 736418259301774563982039 + 295075153872261839517363) (m := 618970019642690137449562111) (by decide)
  generalize (n * 410338673998125441398711 + p * 736418259301774563982039 + 295075153872261839517363) % 618970019642690137449562111 = f at *
  have m3 : mulD (.int f) (.int f) = _ := mul_i (by omega)
  have m4 : mulD (.int 7) (.int f) = _ := mul_i (by omega)
  simp [m3, m4]
  have k2 := log_mod (f * f + 7 * f + p) (m := 162259276829213363391578010288127) (by decide)
  generalize (f * f + 7 * f + p) % 162259276829213363391578010288127 = g at *
  have m5 : mulD (.int g) (.int g) = _ := mul_i (by omega)
  have m6 : mulD (.int g) (.int 618970019642690137449562111) = _ := mul_i (by omega)
  simp [m5, m6]
end Py

namespace Py
open Py.Pl
theorem pow18 : powD (.int 10) (.int 18) = some (.int 1000000000000000000) := by
  show (if (0 : Int) ≤ 18 ∧ (18 : Int) ≤ 1000000 ∧ (10 : Int).natAbs < 2 ^ 64 then some (D.int (10 ^ (18 : Int).toNat)) else none) = _
  rw [if_pos (by decide)]
  rfl
theorem seq_assoc (s t r : S) (l : Loc) : seq s (seq t r) l = seq (seq s t) r l := by
  rw [seq_s, seq_s, seq_s]
  cases s l with
  | none => rfl
  | some f => cases f <;> rfl
theorem geti_in {α : Type} {xs : List α} {k : Int} (h0 : 0 ≤ k) (h1 : k < xs.length) : ∃ z ∈ xs, geti xs k = some z := by
  unfold geti
  rw [if_pos h0]
  have h2 : k.toNat < xs.length := by omega
  exact ⟨xs[k.toNat], List.getElem_mem h2, List.getElem?_eq_getElem h2⟩
theorem geti_mod {α : Type} {xs : List α} (k : Int) (h : 0 < (xs.length : Int)) : ∃ z ∈ xs, geti xs (k % xs.length) = some z :=
  geti_in (Int.emod_nonneg _ (Int.ne_of_gt h)) (Int.emod_lt_of_pos _ h)
theorem run_of {k extra : Nat} {body : S} {ds : List D} {r : D} {l : Loc} (h : ds.length = k) (e : fin (body (ds.map SV.fz ++ List.replicate extra SV.un)) = some (r, l)) : run k extra body ds = some r := by
  unfold run
  rw [if_pos h, e]
  rfl
theorem run1_of {k extra : Nat} {body : S} {c c' : D} {ds : List D} {r : D} {l : Loc} (h : ds.length = k) (e : fin (body (.io c :: (ds.map SV.fz ++ List.replicate extra SV.un))) = some (r, l)) (h2 : nth l 0 = .io c') : run1 k extra body c ds = some (r, c') := by
  unfold run1
  rw [if_pos h, e]
  show (match nth l 0 with
    | .io c' => some (r, c')
    | _ => none) = _
  rw [h2]
theorem rest (ns : List Int) (p a : Int) (hb : ∀ z ∈ ns, z.natAbs.log2 < 1100000) (hp : p.natAbs.log2 < 1000) (ha : a.natAbs.log2 < 1000) : ∃ r, d__law_rest [.scr ns, .int p, .int a] = some (.int r) := by
  have b1 : bits = 100000000 := rfl
  -- the number
  have tail : ∀ z : Int, z.natAbs.log2 < 1100000 → ∃ r l, fin (seq (ifS (tbl (op2 ltD (ovar 3) (oexp (cst (.int 0))))) (asg (gname 3) (op2 subD (oexp (cst (.int 1))) (oexp (op2 mulD (oexp (cst (.int 2))) (ovar 3))))) (nop)) (seq (ifS (tand (tbl (op2 eqD (ovar 2) (oexp (cst (.int 0))))) (tand (tbl (op2 ltD (ovar 1) (oexp (op1 lenD (ovar 0))))) (tbl (op2 geD (ovar 3) (oexp (op2 powD (oexp (cst (.int 10))) (oexp (cst (.int 18))))))))) (ret (op2 subD (ovar 3) (oexp (op2 powD (oexp (cst (.int 10))) (oexp (cst (.int 18))))))) (nop)) (ret (call d__law_mixed [op2 addD (ovar 3) (oexp (op2 mulD (ovar 2) (oexp (cst (.int 1000003))))), use 1]))) [.fz (.scr ns), .fz (.int p), .fz (.int a), .fz (.int z)]) = some (.int r, l) := by
    intro z hz
    have last : ∀ y : Int, y.natAbs.log2 < 1200000 → ∃ r l, fin ((seq (ifS (tand (tbl (op2 eqD (ovar 2) (oexp (cst (.int 0))))) (tand (tbl (op2 ltD (ovar 1) (oexp (op1 lenD (ovar 0))))) (tbl (op2 geD (ovar 3) (oexp (op2 powD (oexp (cst (.int 10))) (oexp (cst (.int 18))))))))) (ret (op2 subD (ovar 3) (oexp (op2 powD (oexp (cst (.int 10))) (oexp (cst (.int 18))))))) (nop)) (ret (call d__law_mixed [op2 addD (ovar 3) (oexp (op2 mulD (ovar 2) (oexp (cst (.int 1000003))))), use 1]))) [.fz (.scr ns), .fz (.int p), .fz (.int a), .fz (.int y)]) = some (.int r, l) := by
      intro y hy
      have c1 : (1000003 : Int).natAbs.log2 = 19 := by decide +kernel
      have m1 : mulD (.int a) (.int 1000003) = _ := mul_i (by omega)
      have k1 := log_mul a 1000003 1000 20 ha (by omega)
      have k2 := log_add y (a * 1000003) 1200000 hy (by omega)
      obtain ⟨r, hr⟩ := mixed (y + a * 1000003) p (by omega) (by omega)
      obtain ⟨r2, hr2⟩ := mixed y p (by omega) (by omega)
      by_cases q1 : a = 0
      · by_cases q2 : p < ns.length
        · by_cases q3 : 1000000000000000000 ≤ y
          · simp [tbl_s, pow18, q1, q2, q3]
          · subst q1
            simp [tbl_s, pow18, q2, q3, m1, hr2, use_s]
        · subst q1
          simp [tbl_s, pow18, q2, m1, hr2, use_s]
      · simp [tbl_s, pow18, q1, m1, hr, use_s]
    by_cases q : z < 0
    · have c1 : (2 : Int).natAbs.log2 = 1 := by decide +kernel
      have c2 : (1 : Int).natAbs.log2 = 0 := by decide +kernel
      have m1 : mulD (.int 2) (.int z) = _ := mul_i (by omega)
      have k1 := log_mul 2 z 2 1100000 (by omega) hz
      have k2 : (-(2 * z)).natAbs.log2 < 1100003 := by rw [Int.natAbs_neg]; omega
      have k3 := log_add 1 (-(2 * z)) 1100003 (by omega) k2
      have e : (1 : Int) + -(2 * z) = 1 - 2 * z := by omega
      rw [e] at k3
      obtain ⟨r, l, hr⟩ := last (1 - 2 * z) (by omega)
      refine ⟨r, l, ?_⟩
      rw [← hr]
      rw [seq_s]
      simp only [ifS_s, tbl_s, op2_s, ovar_s, oexp_s, cst_s, asg_s, gname_s]
      simp [q, m1]
    · obtain ⟨r, l, hr⟩ := last z (by omega)
      refine ⟨r, l, ?_⟩
      rw [← hr]
      rw [seq_s]
      simp only [ifS_s, tbl_s, op2_s, ovar_s, oexp_s, cst_s, asg_s, gname_s]
      simp [q]
  have fin2 : ∀ z : Int, z.natAbs.log2 < 1100000 → (∃ l : Loc, (seq (asg (gname 3) (cst (.int 0))) (ifS (tbl (op2 gtD (oexp (op1 lenD (ovar 0))) (oexp (cst (.int 0))))) (asg (gname 3) (op1 intD (oexp (op2 ixD (ovar 0) (oexp (op2 modD (oexp (op1 intD (ovar 1))) (oexp (op1 lenD (ovar 0))))))))) (nop))) [.fz (.scr ns), .fz (.int p), .fz (.int a), .un] = some (.nx [.fz (.scr ns), .fz (.int p), .fz (.int a), .fz (.int z)])) → ∃ r, d__law_rest [.scr ns, .int p, .int a] = some (.int r) := by
    rintro z hz ⟨_, h⟩
    obtain ⟨r, l, hr⟩ := tail z hz
    refine ⟨r, ?_⟩
    refine run_of (l := l) rfl ?_
    show fin (b__law_rest [.fz (.scr ns), .fz (.int p), .fz (.int a), .un]) = _
    unfold b__law_rest
    rw [seq_assoc, seq_s, h]
    exact hr
  by_cases q : ns = []
  · subst q
    exact fin2 0 (by decide) ⟨[], by simp [tbl_s]⟩
  · have hl : 0 < (ns.length : Int) := by
      cases ns with
      | nil => exact absurd rfl q
      | cons x xs => rw [List.length_cons]; omega
    obtain ⟨z, hz, e⟩ := geti_mod p hl
    have hl2 : 0 < ns.length := by omega
    have mp : modD (.int p) (.int ns.length) = _ := mod_i hl
    refine fin2 z (hb z hz) ⟨[], ?_⟩
    simp [tbl_s, hl2, e, mp]

/-- the pool of draws -/
def pl (ns : List Int) (p r a : Int) : D := .lst [.scr ns, .int p, .int r, .int a]
/-- .. after n steps at most -/
structure Pool (ns : List Int) (n : Nat) (c : D) : Prop where
  ex : ∃ p r a : Int, c = pl ns p r a ∧ 0 ≤ p ∧ p ≤ n ∧ 0 ≤ a ∧ a ≤ n
  hb : ∀ z ∈ ns, z.natAbs.log2 < 1100000
theorem log_small {a : Int} {n : Nat} (h0 : 0 ≤ a) (h : a ≤ n) (hn : n ≤ 1000000000) : a.natAbs.log2 < 1000 := by
  have e : a.natAbs ≤ 1000000000 := by omega
  have h1 := log_le e
  have h2 : Nat.log2 1000000000 = 29 := by decide +kernel
  omega
theorem Pool.mono {ns : List Int} {n m : Nat} {c : D} (h : Pool ns n c) (k : n ≤ m) : Pool ns m c := by
  obtain ⟨p, r, a, e, h1, h2, h3, h4⟩ := h.ex
  exact ⟨⟨p, r, a, e, h1, by omega, h3, by omega⟩, h.hb⟩
theorem pool_new {ns : List Int} (hb : ∀ z ∈ ns, z.natAbs.log2 < 1100000) : ∃ c, d__law_pool [.scr ns] = some c ∧ isN c = false ∧ Pool ns 0 c := by
  obtain ⟨r, hr⟩ := rest ns 0 0 hb (by decide +kernel) (by decide +kernel)
  refine ⟨pl ns 0 r 0, ?_, rfl, ⟨0, r, 0, rfl, by omega, by omega, by omega, by omega⟩, hb⟩
  simp [d__law_pool, run, b__law_pool, use_s, hr, pl]
theorem pool_next {ns : List Int} {n : Nat} {c : D} (h : Pool ns n c) (hn : n < 1000000) : ∃ c', d__law_next c [] = some (.non, c') ∧ Pool ns (n + 1) c' := by
  obtain ⟨p, r, a, rfl, h1, h2, h3, h4⟩ := h.ex
  obtain ⟨r2, hr⟩ := rest ns (p + 1) 0 h.hb (log_small (n := n + 1) (by omega) (by omega) (by omega)) (by decide +kernel)
  refine ⟨pl ns (p + 1) r2 0, ?_, ⟨p + 1, r2, 0, rfl, by omega, by omega, by omega, by omega⟩, h.hb⟩
  simp [d__law_next, run1, b__law_next, pl, geti, seti, hr]
theorem pool_draw {ns : List Int} {n : Nat} {c : D} {m : Int} (h : Pool ns n c) (hn : n < 1000000) (hm : 0 < m) (hm2 : m.natAbs.log2 < 9000) : ∃ v c', d__law_draw c [.int m] = some (.int v, c') ∧ Pool ns (n + 1) c' ∧ 0 ≤ v ∧ v < m := by
  obtain ⟨p, r, a, rfl, h1, h2, h3, h4⟩ := h.ex
  obtain ⟨r2, hr⟩ := rest ns p (a + 1) h.hb (log_small (n := n) (by omega) (by omega) (by omega)) (log_small (n := n + 1) (by omega) (by omega) (by omega))
  by_cases q : r ≤ 1
  · refine ⟨r2 % m, pl ns p (r2 / m) (a + 1), ?_, ⟨⟨p, r2 / m, a + 1, rfl, by omega, by omega, by omega, by omega⟩, h.hb⟩, Int.emod_nonneg _ (by omega), Int.emod_lt_of_pos _ hm⟩
    simp [d__law_draw, run1, b__law_draw, pl, geti, seti, hr, q, tbl_s, use_s, hm, div_i hm hm2]
  · refine ⟨r % m, pl ns p (r / m) a, ?_, ⟨⟨p, r / m, a, rfl, by omega, by omega, by omega, by omega⟩, h.hb⟩, Int.emod_nonneg _ (by omega), Int.emod_lt_of_pos _ hm⟩
    simp [d__law_draw, run1, b__law_draw, pl, geti, seti, hr, q, tbl_s, use_s, hm, div_i hm hm2]
theorem pool_pick {ns : List Int} {n : Nat} {c : D} {xs : List D} (h : Pool ns n c) (hn : n < 1000000) (hx : xs ≠ []) (hl : xs.length < 1000000) : ∃ x c', x ∈ xs ∧ d__law_pick c [.lst xs] = some (x, c') ∧ Pool ns (n + 1) c' := by
  have h0 : 0 < (xs.length : Int) := by
    cases xs with
    | nil => exact absurd rfl hx
    | cons y ys => rw [List.length_cons]; omega
  obtain ⟨v, c', h1, h2, h3, h4⟩ := pool_draw h hn h0 (by
    have := log_small (a := xs.length) (n := 1000000) (by omega) (by omega) (by omega)
    omega)
  obtain ⟨x, hx, e⟩ := geti_in h3 h4
  refine ⟨x, c', hx, ?_, h2⟩
  simp [d__law_pick, run1, b__law_pick, h1, e]
end Py


namespace Py
open Py.Pl
/-! ### loops and comprehensions -/
/-- a comprehension whose condition and element are functions of the item; J holds of the slots throughout -/
theorem lcGo_of {own : List Nat} {g : G} {t : T} {e : E} (J : Loc → Prop) (p : D → Bool) (f : D → D) : ∀ (xs acc : List D) (l : Loc), J l → acc.length + xs.length ≤ line →
    (∀ x ∈ xs, ∀ l, J l → ∃ l1 l2, g x (wip l own) = some l1 ∧ t l1 = some (p x, l2) ∧ if p x then ∃ l3, e l2 = some (f x, l3) ∧ J l3 else J l2) →
    ∃ l', lcGo own g t e xs acc l = some (acc ++ (xs.filter p).map f, l') ∧ J l'
  | [], acc, l, j, _, _ => ⟨l, by simp [lcGo], j⟩
  | x :: xs, acc, l, j, hz, h => by
    obtain ⟨l1, l2, h1, h2, h3⟩ := h x List.mem_cons_self l j
    rw [List.length_cons] at hz
    rw [lcGo, h1]
    simp only [Option.bind_some, h2]
    by_cases q : p x = true
    · rw [if_pos q] at h3
      obtain ⟨l3, h3, h4⟩ := h3
      obtain ⟨l', h5, h6⟩ := lcGo_of J p f xs (acc ++ [f x]) l3 h4 (by rw [List.length_append, List.length_singleton]; omega) fun y hy => h y (List.mem_cons_of_mem _ hy)
      refine ⟨l', ?_, h6⟩
      rw [if_pos q, h3]
      simp only [Option.bind_some]
      rw [if_pos (by omega), h5, List.filter_cons_of_pos q]
      simp
    · rw [if_neg q] at h3
      obtain ⟨l', h5, h6⟩ := lcGo_of J p f xs acc l2 h3 (by omega) fun y hy => h y (List.mem_cons_of_mem _ hy)
      refine ⟨l', ?_, h6⟩
      rw [if_neg q, h5, List.filter_cons_of_neg q]
theorem filter_all {α : Type} (xs : List α) : xs.filter (fun _ => true) = xs := by simp
/-- .. without a condition -/
theorem lcGo_map {own : List Nat} {g : G} {e : E} (J : Loc → Prop) (f : D → D) (xs : List D) (l : Loc) (j : J l) (hz : xs.length ≤ line) (h : ∀ x ∈ xs, ∀ l, J l → ∃ l1 l3, g x (wip l own) = some l1 ∧ e l1 = some (f x, l3) ∧ J l3) :
    ∃ l', lcGo own g tyes e xs [] l = some (xs.map f, l') ∧ J l' := by
  obtain ⟨l', h1, h2⟩ := lcGo_of (own := own) (g := g) (t := tyes) (e := e) J (fun _ => true) f xs [] l j (by simpa using hz) fun x hx l j => by
    obtain ⟨l1, l3, h1, h2, h3⟩ := h x hx l j
    exact ⟨l1, l1, h1, rfl, by rw [if_pos rfl]; exact ⟨l3, h2, h3⟩⟩
  refine ⟨l', ?_, h2⟩
  rw [h1, filter_all]
  rfl
@[simp] theorem eq_b (x y : Bool) : eqD (.bl x) (.bl y) = some (.bl (x == y)) := (rfl)
@[simp] theorem ne_b (x y : Bool) : neD (.bl x) (.bl y) = some (.bl (!(x == y))) := (rfl)
/-! ### the same -/
mutual
/-- data that _law_same compares: no dicts, no script; depth below n -/
def okD : Nat → D → Bool
  | _, .non => true
  | _, .bl _ => true
  | _, .int _ => true
  | _, .str _ => true
  | 0, _ => false
  | n + 1, .lst xs => okDs n xs && decide (xs.length ≤ 1000000)
  | n + 1, .tup xs => okDs n xs && decide (xs.length ≤ 1000000)
  | _, _ => false
def okDs : Nat → List D → Bool
  | _, [] => true
  | n, x :: xs => okD n x && okDs n xs
end
theorem okDs_mem : ∀ {n : Nat} {xs : List D}, okDs n xs = true → ∀ x ∈ xs, okD n x = true
  | _, [], _, x, h => by cases h
  | n, y :: ys, h, x, hx => by
    rw [okDs, Bool.and_eq_true] at h
    rcases List.mem_cons.mp hx with e | hx
    · subst e; exact h.1
    · exact okDs_mem h.2 x hx
theorem blsD_true : ∀ n : Nat, blsD (List.replicate n (.bl true)) = some (List.replicate n true)
  | 0 => rfl
  | n + 1 => by
    rw [List.replicate_succ, blsD, blsD_true n]
    rfl
theorem all_true (n : Nat) : allD (.lst (List.replicate n (.bl true))) = some (.bl true) := by
  show (blsD (List.replicate n (.bl true))).map (fun ns => D.bl (ns.all id)) = _
  rw [blsD_true]
  simp
theorem upTo_length : ∀ (n : Nat) (lo : Int), (upTo lo n).length = n
  | 0, _ => rfl
  | n + 1, lo => congrArg (· + 1) (upTo_length n (lo + 1))
theorem upTo_mem : ∀ {n : Nat} {lo : Int} {x : D}, x ∈ upTo lo n → ∃ i : Nat, i < n ∧ x = .int (lo + i)
  | 0, _, _, h => by cases h
  | n + 1, lo, x, h => by
    rw [upTo] at h
    rcases List.mem_cons.mp h with e | h
    · exact ⟨0, by omega, by rw [e]; simp⟩
    · obtain ⟨i, hi, e⟩ := upTo_mem h
      exact ⟨i + 1, by omega, by rw [e]; congr 1; omega⟩
theorem map_const {α : Type} (c : D) : ∀ xs : List α, xs.map (fun _ => c) = List.replicate xs.length c
  | [] => rfl
  | _ :: xs => by rw [List.map_cons, map_const c xs, List.length_cons, List.replicate_succ]
theorem line_v : line = 16777216 := by unfold line; rfl
theorem small_len {n : Nat} (h : n ≤ 1000000) : small (n : Int) = true := by
  unfold small
  have h1 := log_small (a := n) (n := 1000000) (by omega) (by omega) (by omega)
  have h2 := log_le h
  have h3 : Nat.log2 1000000 = 19 := by decide +kernel
  exact decide_eq_true (by rw [Int.natAbs_natCast]; omega)
theorem same_step (n : Nat) : d__law_same (n + 1) = run 2 2 (b__law_same n d__law_same) := rfl
theorem same_refl : ∀ (n : Nat) (d : D), okD n d = true → d__law_same (n + 1) [d, d] = some (.bl true)
  | n, .non, _ => by simp [d__law_same, run, isiD, isD, truth, tbl_s, isNon, use_s, eor, eand, isBl]
  | n, .bl b, _ => by cases b <;> simp [d__law_same, run, isiD, isD, truth, tbl_s, isNon, use_s, eor, eand, isBl]
  | n, .int i, _ => by simp [d__law_same, run, isiD, isD, truth, tbl_s, isNon, use_s, eor, eand, isBl, notD]
  | n, .str s, _ => by simp [d__law_same, run, isiD, isD, truth, tbl_s, isNon, use_s, eor, eand, isBl, notD, eqD, okEq, D.plain, D.depth, D.eqv]
  | 0, .lst xs, h => by simp [okD] at h
  | 0, .tup xs, h => by simp [okD] at h
  | n + 1, .lst xs, h => by
    rw [okD, Bool.and_eq_true] at h
    obtain ⟨h1, h2⟩ := h
    have h2 := of_decide_eq_true h2
    obtain ⟨l', e, _⟩ := lcGo_map (own := [3]) (g := gname 3) (e := call (d__law_same (n + 1)) [op2 ixD (ovar 0) (ovar 3), op2 ixD (ovar 1) (ovar 3)]) (fun l => ∃ s, l = [.fz (.lst xs), .fz (.lst xs), .un, s]) (fun _ => .bl true) (upTo 0 xs.length) [.fz (.lst xs), .fz (.lst xs), .un, .un] ⟨_, rfl⟩ (by rw [upTo_length, line_v]; omega) (by
      rintro x hx l ⟨s, rfl⟩
      obtain ⟨i, hi, rfl⟩ := upTo_mem hx
      obtain ⟨z, hz, e⟩ := geti_in (xs := xs) (k := 0 + i) (by omega) (by omega)
      have := same_refl n z (okDs_mem h1 z hz)
      have e2 : geti xs (i : Int) = some z := by simpa using e
      exact ⟨_, _, rfl, by simp [wip, e2, this]; rfl, _, rfl⟩)
    have hsm : small (xs.length : Int) = true := small_len h2
    rw [map_const, upTo_length] at e
    rw [same_step]
    generalize d__law_same = ff at e ⊢
    have hr : rng1 (op1 lenD (ovar 1)) [.fz (.lst xs), .fz (.lst xs), .un, .un] = some (upTo 0 xs.length, [.fz (.lst xs), .fz (.lst xs), .un, .un]) := by
      unfold rng1
      simp [hsm]
    have hl : lc [3] (rng1 (op1 lenD (ovar 1))) (gname 3) tyes (call (ff (n + 1)) [op2 ixD (ovar 0) (ovar 3), op2 ixD (ovar 1) (ovar 3)]) [.fz (.lst xs), .fz (.lst xs), .un, .un] = some (.lst (List.replicate xs.length (.bl true)), back [.fz (.lst xs), .fz (.lst xs), .un, .un] l' [3]) := by
      unfold lc
      rw [hr]
      simp only [Option.bind_some]
      rw [e]
      rfl
    have ha := all_true xs.length
    generalize D.lst (List.replicate xs.length (.bl true)) = aa at hl ha
    clear e hr
    simp [run, b__law_same, isiD, isD, truth, tbl_s, eand, hl, ha]
  | n + 1, .tup xs, h => by
    rw [okD, Bool.and_eq_true] at h
    obtain ⟨h1, h2⟩ := h
    have h2 := of_decide_eq_true h2
    obtain ⟨l', e, _⟩ := lcGo_map (own := [3]) (g := gname 3) (e := call (d__law_same (n + 1)) [op2 ixD (ovar 0) (ovar 3), op2 ixD (ovar 1) (ovar 3)]) (fun l => ∃ s, l = [.fz (.tup xs), .fz (.tup xs), .un, s]) (fun _ => .bl true) (upTo 0 xs.length) [.fz (.tup xs), .fz (.tup xs), .un, .un] ⟨_, rfl⟩ (by rw [upTo_length, line_v]; omega) (by
      rintro x hx l ⟨s, rfl⟩
      obtain ⟨i, hi, rfl⟩ := upTo_mem hx
      obtain ⟨z, hz, e⟩ := geti_in (xs := xs) (k := 0 + i) (by omega) (by omega)
      have := same_refl n z (okDs_mem h1 z hz)
      have e2 : geti xs (i : Int) = some z := by simpa using e
      exact ⟨_, _, rfl, by simp [wip, e2, this]; rfl, _, rfl⟩)
    have hsm : small (xs.length : Int) = true := small_len h2
    rw [map_const, upTo_length] at e
    rw [same_step]
    generalize d__law_same = ff at e ⊢
    have hr : rng1 (op1 lenD (ovar 1)) [.fz (.tup xs), .fz (.tup xs), .un, .un] = some (upTo 0 xs.length, [.fz (.tup xs), .fz (.tup xs), .un, .un]) := by
      unfold rng1
      simp [hsm]
    have hl : lc [3] (rng1 (op1 lenD (ovar 1))) (gname 3) tyes (call (ff (n + 1)) [op2 ixD (ovar 0) (ovar 3), op2 ixD (ovar 1) (ovar 3)]) [.fz (.tup xs), .fz (.tup xs), .un, .un] = some (.lst (List.replicate xs.length (.bl true)), back [.fz (.tup xs), .fz (.tup xs), .un, .un] l' [3]) := by
      unfold lc
      rw [hr]
      simp only [Option.bind_some]
      rw [e]
      rfl
    have ha := all_true xs.length
    generalize D.lst (List.replicate xs.length (.bl true)) = aa at hl ha
    clear e hr
    simp [run, b__law_same, isiD, isD, truth, tbl_s, eand, hl, ha]
  | 0, .con _, h => by simp [okD] at h
  | _ + 1, .con _, h => by simp [okD] at h
  | 0, .dic _ _, h => by simp [okD] at h
  | _ + 1, .dic _ _, h => by simp [okD] at h
  | 0, .scr _, h => by simp [okD] at h
  | _ + 1, .scr _, h => by simp [okD] at h
end Py


namespace Py
open Py.Pl
/-! ### statements -/
/-- it returns True -/
def Ret (x : Option Fl) : Prop := ∃ l, fin x = some (.bl true, l)
theorem ret_seq {s r : S} {l l' : Loc} (h : s l = some (.nx l')) (k : Ret (r l')) : Ret (seq s r l) := by
  obtain ⟨l2, k⟩ := k
  refine ⟨l2, ?_⟩
  rw [seq_s, h]
  exact k
theorem ret_end {l : Loc} : Ret (ret (cst (.bl true)) l) := ⟨l, rfl⟩
theorem law_of {extra : Nat} {body : S} {d : D} (h : Ret (body (.fz d :: List.replicate extra SV.un))) : run 1 extra body [d] = some (.bl true) := by
  obtain ⟨l, h⟩ := h
  exact run_of rfl h
theorem seq_nx {s r : S} {l l' : Loc} (h : s l = some (.nx l')) : seq s r l = r l' := by
  rw [seq_s, h]
  rfl
theorem forL_inv {g : G} {body : S} (J : Nat → Loc → Prop) : ∀ (xs : List D) (n : Nat) (l : Loc), J n l → (∀ i x l, xs[i]? = some x → J (n + i) l → ∃ l1 l2, g x l = some l1 ∧ body l1 = some (.nx l2) ∧ J (n + i + 1) l2) → ∃ l', forL g body xs l = some (.nx l') ∧ J (n + xs.length) l'
  | [], n, l, j, _ => ⟨l, rfl, j⟩
  | x :: xs, n, l, j, h => by
    obtain ⟨l1, l2, h1, h2, h3⟩ := h 0 x l rfl j
    obtain ⟨l', h4, h5⟩ := forL_inv J xs (n + 1) l2 h3 fun i y l e j => by
      have := h (i + 1) y l (by simpa using e) (by rw [← Nat.add_assoc, Nat.add_right_comm]; exact j)
      obtain ⟨a, b, c, d, e2⟩ := this
      exact ⟨a, b, c, d, by rw [show n + 1 + i + 1 = n + (i + 1) + 1 by omega]; exact e2⟩
    refine ⟨l', ?_, by rw [List.length_cons, show n + (xs.length + 1) = n + 1 + xs.length by omega]; exact h5⟩
    rw [forL, h1]
    simp only [Option.bind_some, h2]
    exact h4
theorem forS_inv {it : It} {g : G} {body : S} (J : Nat → Loc → Prop) {xs : List D} {l l0 : Loc} (hi : it l = some (xs, l0)) (j : J 0 l0) (h : ∀ i x l, xs[i]? = some x → J i l → ∃ l1 l2, g x l = some l1 ∧ body l1 = some (.nx l2) ∧ J (i + 1) l2) : ∃ l', forS it g body l = some (.nx l') ∧ J xs.length l' := by
  obtain ⟨l', h1, h2⟩ := forL_inv (g := g) (body := body) J xs 0 l0 j fun i x l e j => by
    have := h i x l e (by simpa using j)
    obtain ⟨a, b, c, d, e2⟩ := this
    exact ⟨a, b, c, d, by simpa using e2⟩
  refine ⟨l', ?_, by simpa using h2⟩
  unfold forS
  rw [hi]
  exact h1
/-! ### equality, told by a test -/
namespace D
mutual
def same : D → D → Bool
  | .non, .non => true
  | .bl a, .bl b => a == b
  | .int a, .int b => a == b
  | .str a, .str b => a == b
  | .lst a, .lst b => sameAll a b
  | .tup a, .tup b => sameAll a b
  | .con a, .con b => sameAll a b
  | _, _ => false
def sameAll : List D → List D → Bool
  | [], [] => true
  | x :: xs, y :: ys => same x y && sameAll xs ys
  | _, _ => false
end
mutual
theorem same_eq : ∀ (a b : D), same a b = true → a = b
  | .non, b, h => by cases b <;> simp [same] at h <;> rfl
  | .bl a, b, h => by cases b <;> simp [same] at h <;> rw [h]
  | .int a, b, h => by cases b <;> simp [same] at h <;> rw [h]
  | .str a, b, h => by cases b <;> simp [same] at h <;> rw [h]
  | .lst a, b, h => by cases b <;> simp [same] at h <;> rw [sameAll_eq _ _ h]
  | .tup a, b, h => by cases b <;> simp [same] at h <;> rw [sameAll_eq _ _ h]
  | .con a, b, h => by cases b <;> simp [same] at h <;> rw [sameAll_eq _ _ h]
  | .dic _ _, b, h => by simp [same] at h
  | .scr _, b, h => by simp [same] at h
theorem sameAll_eq : ∀ (a b : List D), sameAll a b = true → a = b
  | [], [], _ => rfl
  | [], _ :: _, h => by simp [sameAll] at h
  | _ :: _, [], h => by simp [sameAll] at h
  | x :: xs, y :: ys, h => by
    rw [sameAll, Bool.and_eq_true] at h
    rw [same_eq x y h.1, sameAll_eq xs ys h.2]
end
end D
/-- x gives d -/
def gives (x : Option D) (d : D) : Bool := match x with
  | some e => D.same e d
  | none => false
theorem gives_eq {x : Option D} {d : D} (h : gives x d = true) : x = some d := by
  cases x with
  | none => cases h
  | some e => rw [D.same_eq e d h]
end Py


namespace Py.k13
open Py Py.Pl
/-! ### the states that the first loop can reach -/
def fr (a b : Int) : D := .tup [.int a, .int b]
def m0 : List D := [fr 0 1, fr 1 1]
def m1 : List D := [fr 0 1, fr 1 2, fr 1 1]
def m2 : List D := [fr 0 1, fr 1 4, fr 1 2, fr 1 1]
def m3 : List D := [fr 0 1, fr 1 2, fr 3 4, fr 1 1]
def R : Nat → List (List D)
  | 0 => [m0]
  | 1 => [m1]
  | 2 => [m1, m2, m3]
  | 3 => [m1, m2, m3, [fr 0 1, fr 1 8, fr 1 4, fr 1 2, fr 1 1], [fr 0 1, fr 1 4, fr 1 2, fr 3 4, fr 1 1], [fr 0 1, fr 1 4, fr 3 8, fr 1 2, fr 3 4, fr 1 1], [fr 0 1, fr 1 4, fr 1 2, fr 5 8, fr 3 4, fr 1 1], [fr 0 1, fr 1 2, fr 3 4, fr 7 8, fr 1 1]]
  | _ => []
def but (marks : List D) (one : D) : List D := marks.filter fun x => !D.eqv x one
def goodF : D → Bool
  | .tup [.int a, .int b] => decide (0 ≤ a) && decide (a ≤ b) && decide (0 < b) && decide (b ≤ 8)
  | _ => false
def okM (s : List D) : Bool := s.all goodF && decide (s.length ≤ 6) && !s.isEmpty
/-- one step of the first loop -/
def step1 (i : Nat) (s : List D) : Bool := okM s && s.all fun one => !(but s one).isEmpty && (but s one).all fun other =>
  match d__law_folded [.lst s, one, other], d_crease_of [one, other], d__law_add [one, other] with
  | some (.lst f), some c, some a => gives (d_folded_marks [.lst s, one, other]) (.lst f) && gives (d__law_mul [fr 1 2, a]) c && okD 11 (.lst [.lst f, c]) && (R (i + 1)).any (fun t => D.sameAll f t) && !D.eqv one other && (s.any fun y => D.eqv y one) && (s.any fun y => D.eqv y other)
  | _, _, _ => false
theorem st0 : (R 0).all (step1 0) = true := by decide +kernel
theorem st1 : (R 1).all (step1 1) = true := by decide +kernel
theorem st2 : (R 2).all (step1 2) = true := by decide +kernel
end Py.k13


namespace Py.k13
open Py Py.Pl
/-! ### after(folds), step by step -/
def aBody : S := seq (ifS (tor (tbl (op2 notInD (ovar 2) (ovar 1))) (tor (tbl (op2 notInD (ovar 3) (ovar 1))) (tbl (op2 eqD (ovar 2) (ovar 3))))) (ret (cst .non)) (nop)) (asg (gname 1) (call d_folded_marks [use 1, use 2, use 3]))
/-- the steps folds lead from s to t -/
inductive Steps : List D → List D → List D → Prop
  | nil (s : List D) : Steps [] s s
  | snoc {fs s t u : List D} {one other : D} : Steps fs s t → notInD one (.lst t) = some (.bl false) → notInD other (.lst t) = some (.bl false) → eqD one other = some (.bl false) → d_folded_marks [.lst t, one, other] = some (.lst u) → Steps (fs ++ [.tup [one, other]]) s u
theorem forL_nx {g : G} {body : S} : ∀ {xs ys : List D} {l l' : Loc}, (∀ l f, body l = some f → ∃ l2, f = .nx l2 ∨ ∃ d, f = .rt d l2) → forL g body xs l = some (.nx l') → forL g body (xs ++ ys) l = forL g body ys l'
  | [], _, _, _, _, h => by cases h; rfl
  | x :: xs, ys, l, l', hb, h => by
    rw [forL] at h
    rw [List.cons_append, forL]
    cases h1 : g x l with
    | none => rw [h1] at h; cases h
    | some l1 =>
      rw [h1] at h
      simp only [Option.bind_some] at h ⊢
      cases h2 : body l1 with
      | none => rw [h2] at h; cases h
      | some f =>
        rw [h2] at h
        simp only [Option.bind_some] at h ⊢
        obtain ⟨l2, e | ⟨d, e⟩⟩ := hb _ _ h2
        · subst e; exact forL_nx hb h
        · subst e; cases h
theorem aBody_ends (l : Loc) (f : Fl) (h : aBody l = some f) : ∃ l2, f = .nx l2 ∨ ∃ d, f = .rt d l2 := by
  unfold aBody at h
  rw [seq_s] at h
  obtain ⟨f1, h1, h⟩ := Option.bind_eq_some_iff.mp h
  rw [ifS_s] at h1
  obtain ⟨p, _, h1⟩ := Option.bind_eq_some_iff.mp h1
  split at h1
  · rw [ret_s] at h1
    cases h1
    cases h
    exact ⟨_, .inr ⟨_, rfl⟩⟩
  · cases h1
    simp only at h
    rw [asg_s] at h
    obtain ⟨p2, _, h⟩ := Option.bind_eq_some_iff.mp h
    cases h
    exact ⟨_, .inl rfl⟩
theorem steps_run {fs s t : List D} (h : Steps fs s t) (F0 : D) (x y : SV) : ∃ x' y', forL (gtup [gname 2, gname 3]) aBody fs [.fz F0, .fz (.lst s), x, y] = some (.nx [.fz F0, .fz (.lst t), x', y']) := by
  induction h with
  | nil s => exact ⟨x, y, rfl⟩
  | @snoc fs s t u one other _ h1 h2 h3 h4 ih =>
    obtain ⟨x', y', ih⟩ := ih
    refine ⟨.fz one, .fz other, ?_⟩
    rw [forL_nx aBody_ends ih]
    simp [forL, gtup, gall, aBody, tbl_s, use_s, h1, h2, h3, h4]
theorem after_of {F r : D} {f : Fl} {l : Loc} (h : forS (over (use 0)) (gtup [gname 2, gname 3]) aBody [.fz F, .fz (.lst m0), .un, .un] = some f) (hf : fin (match f with
  | .nx l' => ret (use 1) l'
  | f => some f) = some (r, l)) : d_after [F] = some r := by
  unfold d_after
  refine run_of (l := l) rfl ?_
  show fin (seq (asg (gname 1) (lstE [tupE [cst (.int 0), cst (.int 1)], tupE [cst (.int 1), cst (.int 1)]])) (seq (forS (over (use 0)) (gtup [gname 2, gname 3]) aBody) (ret (use 1))) [.fz F, .un, .un, .un]) = _
  rw [seq_nx (l' := [.fz F, .fz (.lst m0), .un, .un]) rfl, seq_s, h]
  cases f <;> exact hf
theorem after_ok {fs t : List D} (h : Steps fs m0 t) : d_after [.lst fs] = some (.lst t) := by
  obtain ⟨x', y', e⟩ := steps_run h (.lst fs) .un .un
  refine after_of (f := .nx [.fz (.lst fs), .fz (.lst t), x', y']) (l := [.fz (.lst fs), .fz (.lst t), x', y']) ?_ rfl
  unfold forS
  rw [show over (use 0) [.fz (.lst fs), .fz (.lst m0), .un, .un] = some (fs, [.fz (.lst fs), .fz (.lst m0), .un, .un]) from rfl]
  exact e
/-- .. and then one that is no mark -/
theorem after_none {fs t : List D} {one other : D} (h : Steps fs m0 t) (h1 : notInD one (.lst t) = some (.bl true)) : d_after [.lst (fs ++ [.tup [one, other]])] = some .non := by
  generalize hF : fs ++ [.tup [one, other]] = F
  obtain ⟨x', y', e⟩ := steps_run h (.lst F) .un .un
  refine after_of (f := .rt .non [.fz (.lst F), .fz (.lst t), .fz one, .fz other]) (l := [.fz (.lst F), .fz (.lst t), .fz one, .fz other]) ?_ rfl
  unfold forS
  rw [show over (use 0) [.fz (.lst F), .fz (.lst m0), .un, .un] = some (F, [.fz (.lst F), .fz (.lst m0), .un, .un]) from rfl]
  show forL _ _ F _ = _
  rw [← hF] at e ⊢
  rw [forL_nx aBody_ends e]
  simp [forL, gtup, gall, aBody, tbl_s, use_s, h1]
end Py.k13


namespace Py.k13
open Py Py.Pl
theorem good_shape {x : D} (h : goodF x = true) : ∃ a b : Int, x = .tup [.int a, .int b] ∧ 0 ≤ a ∧ a ≤ b ∧ 0 < b ∧ b ≤ 8 := by
  unfold goodF at h
  split at h
  · simp only [Bool.and_eq_true, decide_eq_true_eq] at h
    exact ⟨_, _, rfl, h.1.1.1, h.1.1.2, h.1.2, h.2⟩
  · cases h
theorem ok_good {x y : D} (hx : goodF x = true) (hy : goodF y = true) : okEq x y = true := by
  obtain ⟨a, b, rfl, _⟩ := good_shape hx
  obtain ⟨c, d, rfl, _⟩ := good_shape hy
  simp [okEq, D.plain, D.plainAll, D.depth, D.depthAll]
theorem ne_good {x y : D} (hx : goodF x = true) (hy : goodF y = true) : neD x y = some (.bl (!D.eqv x y)) := by
  unfold neD
  rw [if_pos (ok_good hx hy)]
theorem eq_good {x y : D} (hx : goodF x = true) (hy : goodF y = true) : eqD x y = some (.bl (D.eqv x y)) := by
  unfold eqD
  rw [if_pos (ok_good hx hy)]
theorem plain_good : ∀ {s : List D}, (∀ x ∈ s, goodF x = true) → D.plainAll s = true ∧ D.depthAll s ≤ 1
  | [], _ => ⟨rfl, Nat.zero_le _⟩
  | x :: s, h => by
    obtain ⟨h1, h2⟩ := plain_good fun y hy => h y (List.mem_cons_of_mem _ hy)
    obtain ⟨a, b, rfl, _⟩ := good_shape (h x List.mem_cons_self)
    refine ⟨by simp [D.plainAll, D.plain, h1], ?_⟩
    simp only [D.depthAll, D.depth]
    omega
theorem in_good {x : D} {s : List D} (hx : goodF x = true) (hs : ∀ y ∈ s, goodF y = true) : inD x (.lst s) = some (.bl (s.any fun y => D.eqv y x)) := by
  have ok : okEq x (.lst s) = true := by
    obtain ⟨h1, h2⟩ := plain_good hs
    obtain ⟨a, b, rfl, _⟩ := good_shape hx
    simp [okEq, D.plain, D.plainAll, D.depth, D.depthAll, h1]
    omega
  show (if okEq x (.lst s) then some (D.bl (s.any fun y => D.eqv y x)) else none) = _
  rw [if_pos ok]
theorem notin_good {x : D} {s : List D} (hx : goodF x = true) (hs : ∀ y ∈ s, goodF y = true) : notInD x (.lst s) = some (.bl (!(s.any fun y => D.eqv y x))) := by
  unfold notInD
  rw [in_good hx hs]
/-- what step1 tells -/
theorem step_of {i : Nat} {s : List D} (h : step1 i s = true) : (∀ x ∈ s, goodF x = true) ∧ s ≠ [] ∧ s.length ≤ 6 ∧ ∀ one ∈ s, but s one ≠ [] ∧ ∀ other ∈ but s one, ∃ f c a, d__law_folded [.lst s, one, other] = some (.lst f) ∧ d_folded_marks [.lst s, one, other] = some (.lst f) ∧ d_crease_of [one, other] = some c ∧ d__law_add [one, other] = some a ∧ d__law_mul [.tup [.int 1, .int 2], a] = some c ∧
    okD 11 (.lst [.lst f, c]) = true ∧ f ∈ R (i + 1) ∧ D.eqv one other = false ∧ (s.any fun y => D.eqv y one) = true ∧ (s.any fun y => D.eqv y other) = true := by
  unfold step1 okM at h
  simp only [Bool.and_eq_true, List.all_eq_true, Bool.not_eq_true', decide_eq_true_eq] at h
  obtain ⟨⟨⟨h1, h2⟩, h3⟩, h4⟩ := h
  refine ⟨h1, (fun z => (by rw [z] at h3; cases h3)), h2, fun one ho => ?_⟩
  obtain ⟨h5, h6⟩ := h4 one ho
  refine ⟨(fun z => (by rw [z] at h5; cases h5)), fun other hot => ?_⟩
  have h7 := h6 other hot
  split at h7
  · rename_i f c a e1 e2 e3
    simp only [Bool.and_eq_true, Bool.not_eq_true'] at h7
    obtain ⟨⟨⟨⟨⟨⟨g1, g2⟩, g3⟩, g4⟩, g5⟩, g6⟩, g7⟩ := h7
    obtain ⟨t, ht, e⟩ := List.any_eq_true.mp g4
    rw [← D.sameAll_eq f t e] at ht
    exact ⟨f, c, a, e1, gives_eq g1, e2, e3, gives_eq g2, g3, ht, g5, g6, g7⟩
  · cases h7
/-- the marks but one -/
theorem rest_ok {s : List D} {one : D} (hs : ∀ x ∈ s, goodF x = true) (ho : goodF one = true) (hl : s.length ≤ 6) (v0 v1 v3 v4 v6 v8 : SV) (tl : Loc) :
    lc [7] (over (use 2)) (gname 7) (tbl (op2 neD (ovar 7) (ovar 5))) (use 7) (v0 :: v1 :: .fz (.lst s) :: v3 :: v4 :: .fz one :: v6 :: .un :: v8 :: tl) = some (.lst (but s one), v0 :: v1 :: .fz (.lst s) :: v3 :: v4 :: .fz one :: v6 :: .un :: v8 :: tl) := by
  obtain ⟨l', e, z, rfl⟩ := lcGo_of (own := [7]) (g := gname 7) (t := tbl (op2 neD (ovar 7) (ovar 5))) (e := use 7) (fun l => ∃ z, l = v0 :: v1 :: .fz (.lst s) :: v3 :: v4 :: .fz one :: v6 :: z :: v8 :: tl) (fun x => !D.eqv x one) id s [] (v0 :: v1 :: .fz (.lst s) :: v3 :: v4 :: .fz one :: v6 :: .un :: v8 :: tl) ⟨_, rfl⟩ (by rw [line_v, List.length_nil]; omega) (by
    rintro x hx l ⟨z, rfl⟩
    refine ⟨v0 :: v1 :: .fz (.lst s) :: v3 :: v4 :: .fz one :: v6 :: .fz x :: v8 :: tl, v0 :: v1 :: .fz (.lst s) :: v3 :: v4 :: .fz one :: v6 :: .fz x :: v8 :: tl, rfl, ?_, ?_⟩
    · simp [tbl_s, ne_good (hs x hx) ho]
    · split
      · exact ⟨_, rfl, _, rfl⟩
      · exact ⟨_, rfl⟩)
  have hi : over (use 2) (v0 :: v1 :: .fz (.lst s) :: v3 :: v4 :: .fz one :: v6 :: .un :: v8 :: tl) = some (s, v0 :: v1 :: .fz (.lst s) :: v3 :: v4 :: .fz one :: v6 :: .un :: v8 :: tl) := rfl
  unfold lc
  rw [hi]
  simp only [Option.bind_some]
  rw [e]
  simp [but, back]
theorem steps_at {i : Nat} {s : List D} (hi : i < 3) (h : s ∈ R i) : step1 i s = true := by
  match i, hi with
  | 0, _ => exact List.all_eq_true.mp st0 s h
  | 1, _ => exact List.all_eq_true.mp st1 s h
  | 2, _ => exact List.all_eq_true.mp st2 s h

/-- the body of the first loop -/
def body1 : S := seq (asg (gname 5) (call1 d__law_pick 1 [use 2])) (seq (asg (gname 6) (call1 d__law_pick 1 [lc [7] (over (use 2)) (gname 7) (tbl (op2 neD (ovar 7) (ovar 5))) (use 7)])) (seq (asg (gname 8) (call d__law_folded [use 2, use 5, use 6])) (seq (ifS (tnot (tru (oexp (call (d__law_same 12) [lstE [call d_folded_marks [use 2, use 5, use 6], call d_crease_of [use 5, use 6]], lstE [use 8, call d__law_mul [tupE [cst (.int 1), cst (.int 2)], call d__law_add [use 5, use 6]]]])))) (ret (cst (.bl false))) (nop)) (seq (par [(false, 2), (false, 3)] [use 8, op2 addD (ovar 3) (oexp (lstE [tupE [use 5, use 6]]))]) (exprS (call1 d__law_next 1 []))))))
theorem but_in {s : List D} {one x : D} (h : x ∈ but s one) : x ∈ s := (List.mem_filter.mp h).1
theorem body1_ok {ns : List Int} {n i : Nat} {c : D} {s fs : List D} (hi : i < 3) (hs : s ∈ R i) (hp : Pool ns n c) (hn : n < 1000) (hf : Steps fs m0 s) (hl : fs.length = i) (v4 v5 v6 v8 : SV) (tl : Loc) :
    ∃ c' f fs' w5 w6 w8, body1 (.fz (.scr ns) :: .ow c :: .fz (.lst s) :: .fz (.lst fs) :: v4 :: v5 :: v6 :: .un :: v8 :: tl) = some (.nx (.fz (.scr ns) :: .ow c' :: .fz (.lst f) :: .fz (.lst fs') :: v4 :: w5 :: w6 :: .un :: w8 :: tl)) ∧ Pool ns (n + 3) c' ∧ f ∈ R (i + 1) ∧ Steps fs' m0 f ∧ fs'.length = i + 1 := by
  obtain ⟨g, hne, hlen, h⟩ := step_of (steps_at hi hs)
  obtain ⟨one, c1, ho, e1, p1⟩ := pool_pick hp (by omega) hne (by omega)
  obtain ⟨hb, h⟩ := h one ho
  have hbl : (but s one).length ≤ 6 := Nat.le_trans (List.length_filter_le _ _) hlen
  obtain ⟨other, c2, hot, e2, p2⟩ := pool_pick p1 (by omega) hb (by omega)
  obtain ⟨f, cr, a, h1, h2, h3, h4, h5, h6, h7, h8, h9, h10⟩ := h other hot
  obtain ⟨c3, e3, p3⟩ := pool_next p2 (by omega)
  have go := g one ho
  have got := g other (but_in hot)
  have hsame := same_refl 11 (.lst [.lst f, cr]) h6
  refine ⟨c3, f, fs ++ [.tup [one, other]], .fz one, .fz other, .fz (.lst f), ?_, p3, h7, ?_, by rw [List.length_append, hl]; rfl⟩
  · have hlc := rest_ok g go hlen (.fz (.scr ns)) (.ow c1) (.fz (.lst fs)) v4 v6 v8 tl
    unfold body1
    rw [seq_nx (l' := .fz (.scr ns) :: .ow c1 :: .fz (.lst s) :: .fz (.lst fs) :: v4 :: .fz one :: v6 :: .un :: v8 :: tl) (by simp [use_s, e1])]
    rw [seq_nx (l' := .fz (.scr ns) :: .ow c2 :: .fz (.lst s) :: .fz (.lst fs) :: v4 :: .fz one :: .fz other :: .un :: v8 :: tl) (by simp [use_s, e2, hlc])]
    rw [seq_nx (l' := .fz (.scr ns) :: .ow c2 :: .fz (.lst s) :: .fz (.lst fs) :: v4 :: .fz one :: .fz other :: .un :: .fz (.lst f) :: tl) (by simp [use_s, h1])]
    rw [seq_nx (l' := .fz (.scr ns) :: .ow c2 :: .fz (.lst s) :: .fz (.lst fs) :: v4 :: .fz one :: .fz other :: .un :: .fz (.lst f) :: tl) (by simp [use_s, h2, h3, h4, h5, hsame])]
    rw [seq_nx (l' := .fz (.scr ns) :: .ow c2 :: .fz (.lst f) :: .fz (.lst (fs ++ [.tup [one, other]])) :: v4 :: .fz one :: .fz other :: .un :: .fz (.lst f) :: tl) (by
      have : addD (.lst fs) (.lst [.tup [one, other]]) = some (.lst (fs ++ [.tup [one, other]])) := by
        show (if fs.length + 1 ≤ line then some (D.lst (fs ++ [.tup [one, other]])) else none) = _
        rw [if_pos (by rw [line_v]; omega)]
      simp [par, putAll, use_s, this])]
    simp [e3]
  · refine .snoc hf ?_ ?_ ?_ h2
    · rw [notin_good go g, h9]; rfl
    · rw [notin_good got g, h10]; rfl
    · rw [eq_good go got, h8]
end Py.k13


namespace Py.k13
open Py Py.Pl
theorem upTo_get2 : ∀ (n i : Nat) (lo : Int) (x : D), (upTo lo n)[i]? = some x → i < n ∧ x = .int (lo + i)
  | 0, i, _, _, h => by simp [upTo] at h
  | n + 1, 0, lo, x, h => by
    simp [upTo] at h
    exact ⟨by omega, by rw [← h]; simp⟩
  | n + 1, i + 1, lo, x, h => by
    rw [upTo, List.getElem?_cons_succ] at h
    obtain ⟨h1, h2⟩ := upTo_get2 n i (lo + 1) x h
    exact ⟨by omega, by rw [h2]; congr 1; omega⟩
theorem rng_of {e : E} {l l' : Loc} {v : Int} (h : e l = some (.int v, l')) (h0 : 0 ≤ v) (h1 : v < 1000000) : rng1 e l = some (upTo 0 v.toNat, l') := by
  unfold rng1
  rw [h]
  show (if small v = true then some (upTo 0 v.toNat, l') else none) = _
  rw [if_pos]
  have := small_len (n := v.toNat) (by omega)
  rw [show ((v.toNat : Nat) : Int) = v by omega] at this
  exact this
theorem loop1 {ns : List Int} {c : D} (hp : Pool ns 0 c) (v4 v5 v6 v8 : SV) (tl : Loc) :
    ∃ n c' s fs w4 w5 w6 w8, forS (rng1 (call1 d__law_draw 1 [cst (.int 4)])) (gname 4) body1 (.fz (.scr ns) :: .ow c :: .fz (.lst m0) :: .fz (.lst []) :: v4 :: v5 :: v6 :: .un :: v8 :: tl) = some (.nx (.fz (.scr ns) :: .ow c' :: .fz (.lst s) :: .fz (.lst fs) :: w4 :: w5 :: w6 :: .un :: w8 :: tl)) ∧ n ≤ 3 ∧ Pool ns 20 c' ∧ s ∈ R n ∧ Steps fs m0 s ∧ fs.length = n := by
  obtain ⟨v, c1, e1, p1, h0, h1⟩ := pool_draw hp (by omega) (m := 4) (by decide) (by decide +kernel)
  have hr := rng_of (e := call1 d__law_draw 1 [cst (.int 4)]) (l := .fz (.scr ns) :: .ow c :: .fz (.lst m0) :: .fz (.lst []) :: v4 :: v5 :: v6 :: .un :: v8 :: tl) (l' := .fz (.scr ns) :: .ow c1 :: .fz (.lst m0) :: .fz (.lst []) :: v4 :: v5 :: v6 :: .un :: v8 :: tl) (v := v) (by simp [e1]) h0 (by omega)
  obtain ⟨l', h2, c', s, fs, w4, w5, w6, w8, rfl, h3, h4, h5, h6⟩ := forS_inv (body := body1) (g := gname 4) (fun i l => ∃ c s fs w4 w5 w6 w8, l = .fz (.scr ns) :: .ow c :: .fz (.lst s) :: .fz (.lst fs) :: w4 :: w5 :: w6 :: .un :: w8 :: tl ∧ Pool ns (1 + 3 * i) c ∧ s ∈ R i ∧ Steps fs m0 s ∧ fs.length = i) hr ⟨c1, m0, [], v4, v5, v6, v8, rfl, p1, by simp [R], .nil _, rfl⟩ (by
    rintro i x l hx ⟨c, s, fs, w4, w5, w6, w8, rfl, q1, q2, q3, q4⟩
    obtain ⟨hi, rfl⟩ := upTo_get2 _ _ _ _ hx
    obtain ⟨c', f, fs', y5, y6, y8, r1, r2, r3, r4, r5⟩ := body1_ok (by omega) q2 q1 (by omega) q3 q4 (.fz (.int (0 + i))) w5 w6 w8 tl
    exact ⟨_, _, rfl, r1, c', f, fs', _, y5, y6, y8, rfl, r2.mono (by omega), r3, r4, r5⟩)
  rw [upTo_length] at h3 h4 h6
  exact ⟨v.toNat, c', s, fs, w4, w5, w6, w8, h2, by omega, h3.mono (by omega), h4, h5, h6⟩
end Py.k13


namespace Py.k13
open Py Py.Pl
def allF : List D := [fr 0 1, fr 1 8, fr 1 4, fr 3 8, fr 1 2, fr 5 8, fr 3 4, fr 7 8, fr 1 1]
def mirC : Bool := allF.all fun c => allF.all fun m => match d__law_add [c, c] with
  | some a => match d__law_sub [a, m] with
    | some x => gives (d_mirrored [c, m]) x && okD 9 x
    | none => false
  | none => false
theorem mir_ok : mirC = true := by decide +kernel
def denF (x : D) : Int := match x with
  | .tup [.int _, .int b] => b
  | _ => 0
/-- what stands behind the first loop -/
def back1 (n : Nat) (s : List D) : Bool := okM s && okD 9 (.lst s) && (s.all fun x => allF.any fun y => D.same x y) && !(s.any fun y => D.eqv y (fr 1 3)) && (s.all fun x => decide ((2 : Int) ^ n % denF x = 0)) && (s.all fun m => gives (d_put_in [.lst s, m]) (.lst s)) &&
  gives (d_put_in [.lst s, fr (-1) 3]) (.lst s) && gives (d_put_in [.lst s, fr 4 3]) (.lst s) && match d__law_put [.lst s, .lst [fr 1 3]] with
  | some x => gives (d_put_in [.lst s, fr 1 3]) x && okD 9 x
  | none => false
theorem bk0 : (R 0).all (back1 0) = true := by decide +kernel
theorem bk1 : (R 1).all (back1 1) = true := by decide +kernel
theorem bk2 : (R 2).all (back1 2) = true := by decide +kernel
theorem bk3 : (R 3).all (back1 3) = true := by decide +kernel
def powC : Bool := [0, 1, 2, 3].all fun n => gives (d__law_power [.int 2, .int (n : Nat)]) (.int (2 ^ n))
theorem pow_ok : powC = true := by decide +kernel
end Py.k13


namespace Py.k13
open Py Py.Pl
def law_1 : S := own 1 (callF d__law_pool [use 0])
def law_2 : S := par [(false, 2), (false, 3)] [lstE [tupE [cst (.int 0), cst (.int 1)], tupE [cst (.int 1), cst (.int 1)]], lstE []]
def law_3 : S := forS (rng1 (call1 d__law_draw 1 [cst (.int 4)])) (gname 4) (seq (asg (gname 5) (call1 d__law_pick 1 [use 2])) (seq (asg (gname 6) (call1 d__law_pick 1 [lc [7] (over (use 2)) (gname 7) (tbl (op2 neD (ovar 7) (ovar 5))) (use 7)])) (seq (asg (gname 8) (call d__law_folded [use 2, use 5, use 6])) (seq (ifS (tnot (tru (oexp (call (d__law_same 12) [lstE [call d_folded_marks [use 2, use 5, use 6], call d_crease_of [use 5, use 6]], lstE [use 8, call d__law_mul [tupE [cst (.int 1), cst (.int 2)], call d__law_add [use 5, use 6]]]])))) (ret (cst (.bl false))) (nop)) (seq (par [(false, 2), (false, 3)] [use 8, op2 addD (ovar 3) (oexp (lstE [tupE [use 5, use 6]]))]) (exprS (call1 d__law_next 1 [])))))))
def law_4 : S := ifS (tnot (tru (oexp (call (d__law_same 12) [lstE [call d_after [use 3], call d_after [op2 addD (ovar 3) (oexp (lstE [tupE [tupE [cst (.int 1), cst (.int 3)], tupE [cst (.int 0), cst (.int 1)]]]))], call d_after [lstE []]], lstE [use 2, cst .non, lstE [tupE [cst (.int 0), cst (.int 1)], tupE [cst (.int 1), cst (.int 1)]]]])))) (ret (cst (.bl false))) (nop)
def law_5 : S := ifS (tbl (op2 neD (oexp (lc [7] (over (use 2)) (gname 7) (tbl (op2 neD (oexp (op2 modD (oexp (op1 intD (oexp (call d__law_power [cst (.int 2), op1 lenD (ovar 3)])))) (oexp (op2 ixD (ovar 7) (oexp (cst (.int 1))))))) (oexp (cst (.int 0))))) (use 7))) (oexp (lstE [])))) (ret (cst (.bl false))) (nop)
def law_6 : S := par [(false, 9), (false, 7)] [call1 d__law_pick 1 [use 2], call1 d__law_pick 1 [use 2]]
def law_7 : S := ifS (tnot (tru (oexp (call (d__law_same 12) [lstE [call d_mirrored [use 9, use 7], call d_put_in [use 2, use 7]], lstE [call d__law_sub [call d__law_add [use 9, use 9], use 7], use 2]])))) (ret (cst (.bl false))) (nop)
def law_8 : S := ifS (tnot (tru (oexp (call (d__law_same 12) [lstE [call d_put_in [use 2, tupE [cst (.int 1), cst (.int 3)]], call d_put_in [use 2, tupE [op1 negD (oexp (cst (.int 1))), cst (.int 3)]], call d_put_in [use 2, tupE [cst (.int 4), cst (.int 3)]]], lstE [call d__law_put [use 2, lstE [tupE [cst (.int 1), cst (.int 3)]]], use 2, use 2]])))) (ret (cst (.bl false))) (nop)
def law_9 : S := par [(true, 10), (false, 11)] [lstE [lstE [tupE [cst (.int 0), cst (.int 1)], tupE [cst (.int 1), cst (.int 1)]]], lstE [lstE [tupE [cst (.int 0), cst (.int 1)], tupE [cst (.int 1), cst (.int 1)]]]]
def law_10 : S := asg (gname 12) (call1 d__law_draw 1 [cst (.int 3)])
def law_11 : S := forS (rng1 (use 12)) (gname 13) (seq (asg (gname 8) (lstE [])) (seq (forS (over (use 11)) (gname 14) (forS (rng1 (op1 lenD (ovar 14))) (gname 15) (forS (rng1 (use 15)) (gname 16) (seq (asg (gname 17) (call d__law_folded [use 14, op2 ixD (ovar 14) (ovar 16), op2 ixD (ovar 14) (ovar 15)])) (asg (gname 8) (op2 addD (ovar 8) (oexp (ifE (tbl (op2 notInD (ovar 17) (ovar 8))) (lstE [use 17]) (lstE []))))))))) (seq (asg (gname 11) (use 8)) (seq (asg (gname 18) (op1 listD (oexp (op2 ixD (ovar 10) (oexp (op1 negD (oexp (cst (.int 1))))))))) (seq (forS (over (use 11)) (gname 14) (asg (gname 18) (call d__law_put [use 18, use 14]))) (appS 10 (use 18)))))))
def law_12 : S := ifS (tnot (tru (oexp (call (d__law_same 12) [call d_levels [use 12], use 10])))) (ret (cst (.bl false))) (nop)
def law_13 : S := forS (rng1 (cst (.int 3))) (gname 4) (seq (asg (gname 7) (call d__law_frac [call1 d__law_draw 1 [cst (.int 9)], cst (.int 8)])) (seq (asg (gname 19) (lc [20] (rng1 (op1 lenD (ovar 10))) (gname 20) (tbl (op2 inD (ovar 7) (oexp (op2 ixD (ovar 10) (ovar 20))))) (use 20))) (seq (asg (gname 21) (call d_fewest_folds [use 7, use 12])) (ifS (tnot (tru (oexp (call (d__law_same 12) [use 21, ifE (tbl (op2 neD (ovar 19) (oexp (lstE [])))) (op2 ixD (ovar 19) (oexp (cst (.int 0)))) (cst .non)])))) (ret (cst (.bl false))) (nop)))))
def law_14 : S := ret (cst (.bl true))
theorem law_eq : b_law = seq law_1 (seq law_2 (seq law_3 (seq law_4 (seq law_5 (seq law_6 (seq law_7 (seq law_8 (seq law_9 (seq law_10 (seq law_11 (seq law_12 (seq law_13 (law_14))))))))))))) := rfl
theorem law_3_eq : law_3 = forS (rng1 (call1 d__law_draw 1 [cst (.int 4)])) (gname 4) body1 := rfl
theorem back_of {n : Nat} {s : List D} (hn : n ≤ 3) (h : s ∈ R n) : back1 n s = true := by
  match n, hn with
  | 0, _ => exact List.all_eq_true.mp bk0 s h
  | 1, _ => exact List.all_eq_true.mp bk1 s h
  | 2, _ => exact List.all_eq_true.mp bk2 s h
  | 3, _ => exact List.all_eq_true.mp bk3 s h
theorem back_tells {n : Nat} {s : List D} (h : back1 n s = true) : (∀ x ∈ s, goodF x = true) ∧ s.length ≤ 6 ∧ s ≠ [] ∧ okD 9 (.lst s) = true ∧ (∀ x ∈ s, x ∈ allF) ∧ (s.any fun y => D.eqv y (fr 1 3)) = false ∧ (∀ x ∈ s, (2 : Int) ^ n % denF x = 0) ∧ (∀ m ∈ s, d_put_in [.lst s, m] = some (.lst s)) ∧ d_put_in [.lst s, fr (-1) 3] = some (.lst s) ∧ d_put_in [.lst s, fr 4 3] = some (.lst s) ∧
    ∃ x, d__law_put [.lst s, .lst [fr 1 3]] = some x ∧ d_put_in [.lst s, fr 1 3] = some x ∧ okD 9 x = true := by
  unfold back1 okM at h
  simp only [Bool.and_eq_true, List.all_eq_true, Bool.not_eq_true', decide_eq_true_eq] at h
  obtain ⟨⟨⟨⟨⟨⟨⟨⟨⟨⟨a1, a2⟩, a3⟩, a4⟩, a5⟩, a6⟩, a7⟩, a8⟩, a9⟩, a10⟩, a11⟩ := h
  refine ⟨a1, a2, (fun z => (by rw [z] at a3; cases a3)), a4, fun x hx => ?_, a6, a7, fun m hm => gives_eq (a8 m hm), gives_eq a9, gives_eq a10, ?_⟩
  · obtain ⟨y, hy, e⟩ := List.any_eq_true.mp (a5 x hx)
    rw [D.same_eq x y e]; exact hy
  · split at a11
    · rename_i x e
      rw [Bool.and_eq_true] at a11
      exact ⟨x, e, gives_eq a11.1, a11.2⟩
    · cases a11
mutual
theorem okD_mono : ∀ {d : D} {n m : Nat}, okD n d = true → n ≤ m → okD m d = true
  | .non, _, _, _, _ => by simp [okD]
  | .bl _, _, _, _, _ => by simp [okD]
  | .int _, _, _, _, _ => by simp [okD]
  | .str _, _, _, _, _ => by simp [okD]
  | .lst xs, 0, _, h, _ => by simp [okD] at h
  | .lst xs, n + 1, 0, h, k => by omega
  | .lst xs, n + 1, m + 1, h, k => by
    rw [okD, Bool.and_eq_true] at h ⊢
    exact ⟨okDs_mono h.1 (by omega), h.2⟩
  | .tup xs, 0, _, h, _ => by simp [okD] at h
  | .tup xs, n + 1, 0, h, k => by omega
  | .tup xs, n + 1, m + 1, h, k => by
    rw [okD, Bool.and_eq_true] at h ⊢
    exact ⟨okDs_mono h.1 (by omega), h.2⟩
  | .con _, 0, _, h, _ => by simp [okD] at h
  | .con _, _ + 1, _, h, _ => by simp [okD] at h
  | .dic _ _, 0, _, h, _ => by simp [okD] at h
  | .dic _ _, _ + 1, _, h, _ => by simp [okD] at h
  | .scr _, 0, _, h, _ => by simp [okD] at h
  | .scr _, _ + 1, _, h, _ => by simp [okD] at h
theorem okDs_mono : ∀ {xs : List D} {n m : Nat}, okDs n xs = true → n ≤ m → okDs m xs = true
  | [], _, _, _, _ => by simp [okDs]
  | x :: xs, n, m, h, k => by
    rw [okDs, Bool.and_eq_true] at h ⊢
    exact ⟨okD_mono h.1 k, okDs_mono h.2 k⟩
end
theorem same_list {xs : List D} (h : okDs 10 xs = true) (hl : xs.length ≤ 1000000) : d__law_same 12 [.lst xs, .lst xs] = some (.bl true) := same_refl 11 (.lst xs) (by
  rw [okD, h, decide_eq_true hl]
  rfl)
theorem mir_of {c m : D} (hc : c ∈ allF) (hm : m ∈ allF) : ∃ a x, d__law_add [c, c] = some a ∧ d__law_sub [a, m] = some x ∧ d_mirrored [c, m] = some x ∧ okD 9 x = true := by
  have h := mir_ok
  unfold mirC at h
  rw [List.all_eq_true] at h
  have h := List.all_eq_true.mp (h c hc) m hm
  split at h
  · rename_i a e1
    split at h
    · rename_i x e2
      rw [Bool.and_eq_true] at h
      exact ⟨a, x, e1, e2, gives_eq h.1, h.2⟩
    · cases h
  · cases h
theorem pow_of {n : Nat} (hn : n ≤ 3) : d__law_power [.int 2, .int n] = some (.int (2 ^ n)) := by
  have h := pow_ok
  unfold powC at h
  rw [List.all_eq_true] at h
  exact gives_eq (h n (by simp; omega))

theorem mid4 {n : Nat} {s fs : List D} (hn : n ≤ 3) (hs : s ∈ R n) (hf : Steps fs m0 s) (hl : fs.length = n) (v0 v1 : SV) (tl : Loc) :
    law_4 (v0 :: v1 :: .fz (.lst s) :: .fz (.lst fs) :: tl) = some (.nx (v0 :: v1 :: .fz (.lst s) :: .fz (.lst fs) :: tl)) := by
  obtain ⟨g, hlen, hne, ok, hin, h13, hpow, hput, hp1, hp2, x, hx1, hx2, hx3⟩ := back_tells (back_of hn hs)
  have a1 := after_ok hf
  have a2 := after_none (one := fr 1 3) (other := fr 0 1) hf (by rw [notin_good rfl g, h13]; rfl)
  have a3 := after_ok (Steps.nil m0)
  have ad : addD (.lst fs) (.lst [.tup [fr 1 3, fr 0 1]]) = some (.lst (fs ++ [.tup [fr 1 3, fr 0 1]])) := by
    show (if fs.length + 1 ≤ line then some (D.lst (fs ++ [.tup [fr 1 3, fr 0 1]])) else none) = _
    rw [if_pos (by rw [line_v]; omega)]
  have hsame := same_list (xs := [.lst s, .non, .lst m0]) (by simp only [okDs, okD_mono ok (by decide : 9 ≤ 10)]; decide) (by simp)
  unfold fr at a2 ad
  unfold m0 at a3 hsame
  unfold fr at a3 hsame
  simp [law_4, use_s, a1, a2, a3, ad, hsame]
theorem mid5 {n : Nat} {s fs : List D} (hn : n ≤ 3) (hs : s ∈ R n) (hl : fs.length = n) (v0 v1 v4 v5 v6 v8 : SV) (tl : Loc) :
    law_5 (v0 :: v1 :: .fz (.lst s) :: .fz (.lst fs) :: v4 :: v5 :: v6 :: .un :: v8 :: tl) = some (.nx (v0 :: v1 :: .fz (.lst s) :: .fz (.lst fs) :: v4 :: v5 :: v6 :: .un :: v8 :: tl)) := by
  obtain ⟨g, hlen, hne, ok, hin, h13, hpow, _⟩ := back_tells (back_of hn hs)
  have hp := pow_of hn
  obtain ⟨l', e, z, rfl⟩ := lcGo_of (own := [7]) (g := gname 7) (t := tbl (op2 neD (oexp (op2 modD (oexp (op1 intD (oexp (call d__law_power [cst (.int 2), op1 lenD (ovar 3)])))) (oexp (op2 ixD (ovar 7) (oexp (cst (.int 1))))))) (oexp (cst (.int 0))))) (e := use 7) (fun l => ∃ z, l = v0 :: v1 :: .fz (.lst s) :: .fz (.lst fs) :: v4 :: v5 :: v6 :: z :: v8 :: tl) (fun _ => false) id s [] (v0 :: v1 :: .fz (.lst s) :: .fz (.lst fs) :: v4 :: v5 :: v6 :: .un :: v8 :: tl) ⟨_, rfl⟩ (by rw [line_v, List.length_nil]; omega) (by
    rintro x hx l ⟨z, rfl⟩
    obtain ⟨a, b, rfl, _, _, hb, _⟩ := good_shape (g x hx)
    have h0 : (2 : Int) ^ n % b = 0 := hpow _ hx
    have hm : modD (.int (2 ^ n)) (.int b) = some (.int 0) := by rw [mod_i hb, h0]
    refine ⟨v0 :: v1 :: .fz (.lst s) :: .fz (.lst fs) :: v4 :: v5 :: v6 :: .fz (.tup [.int a, .int b]) :: v8 :: tl, v0 :: v1 :: .fz (.lst s) :: .fz (.lst fs) :: v4 :: v5 :: v6 :: .fz (.tup [.int a, .int b]) :: v8 :: tl, rfl, ?_, ?_⟩
    · simp [tbl_s, hl, hp, geti, hm]
    · exact ⟨_, rfl⟩)
  have hi : over (use 2) (v0 :: v1 :: .fz (.lst s) :: .fz (.lst fs) :: v4 :: v5 :: v6 :: .un :: v8 :: tl) = some (s, v0 :: v1 :: .fz (.lst s) :: .fz (.lst fs) :: v4 :: v5 :: v6 :: .un :: v8 :: tl) := rfl
  have hf : ([] : List D) ++ ((s.filter fun _ => false).map id) = [] := by simp
  rw [hf] at e
  have hl : lc [7] (over (use 2)) (gname 7) (tbl (op2 neD (oexp (op2 modD (oexp (op1 intD (oexp (call d__law_power [cst (.int 2), op1 lenD (ovar 3)])))) (oexp (op2 ixD (ovar 7) (oexp (cst (.int 1))))))) (oexp (cst (.int 0))))) (use 7) (v0 :: v1 :: .fz (.lst s) :: .fz (.lst fs) :: v4 :: v5 :: v6 :: .un :: v8 :: tl) = some (.lst [], v0 :: v1 :: .fz (.lst s) :: .fz (.lst fs) :: v4 :: v5 :: v6 :: .un :: v8 :: tl) := by
    unfold lc
    rw [hi]
    simp only [Option.bind_some]
    rw [e]
    simp [back]
  have hne : neD (.lst []) (.lst []) = some (.bl false) := rfl
  simp [law_5, tbl_s, hl, hne]

theorem mid6 {ns : List Int} {n k : Nat} {c : D} {s : List D} (hn : n ≤ 3) (hs : s ∈ R n) (hp : Pool ns k c) (hk : k < 1000) (v0 v3 v4 v5 v6 v7 v8 v9 : SV) (tl : Loc) :
    ∃ c' x y, law_6 (v0 :: .ow c :: .fz (.lst s) :: v3 :: v4 :: v5 :: v6 :: v7 :: v8 :: v9 :: tl) = some (.nx (v0 :: .ow c' :: .fz (.lst s) :: v3 :: v4 :: v5 :: v6 :: .fz y :: v8 :: .fz x :: tl)) ∧ Pool ns (k + 2) c' ∧ x ∈ s ∧ y ∈ s := by
  obtain ⟨g, hlen, hne, _⟩ := back_tells (back_of hn hs)
  obtain ⟨x, c1, hx, e1, p1⟩ := pool_pick hp (by omega) hne (by omega)
  obtain ⟨y, c2, hy, e2, p2⟩ := pool_pick p1 (by omega) hne (by omega)
  exact ⟨c2, x, y, by simp [law_6, par, putAll, use_s, e1, e2], p2, hx, hy⟩
theorem mid7 {n : Nat} {s : List D} {x y : D} (hn : n ≤ 3) (hs : s ∈ R n) (hx : x ∈ s) (hy : y ∈ s) (v0 v1 v3 v4 v5 v6 v8 : SV) (tl : Loc) :
    law_7 (v0 :: v1 :: .fz (.lst s) :: v3 :: v4 :: v5 :: v6 :: .fz y :: v8 :: .fz x :: tl) = some (.nx (v0 :: v1 :: .fz (.lst s) :: v3 :: v4 :: v5 :: v6 :: .fz y :: v8 :: .fz x :: tl)) := by
  obtain ⟨g, hlen, hne, ok, hin, h13, hpow, hput, hp1, hp2, _⟩ := back_tells (back_of hn hs)
  obtain ⟨a, z, e1, e2, e3, e4⟩ := mir_of (hin x hx) (hin y hy)
  have hsame := same_list (xs := [z, .lst s]) (by simp only [okDs, okD_mono ok (by decide : 9 ≤ 10), okD_mono e4 (by decide : 9 ≤ 10)]; decide) (by simp)
  simp [law_7, use_s, e1, e2, e3, hput y hy, hsame]
theorem mid8 {n : Nat} {s : List D} (hn : n ≤ 3) (hs : s ∈ R n) (v0 v1 : SV) (tl : Loc) : law_8 (v0 :: v1 :: .fz (.lst s) :: tl) = some (.nx (v0 :: v1 :: .fz (.lst s) :: tl)) := by
  obtain ⟨g, hlen, hne, ok, hin, h13, hpow, hput, hp1, hp2, x, hx1, hx2, hx3⟩ := back_tells (back_of hn hs)
  have hsame := same_list (xs := [x, .lst s, .lst s]) (by simp only [okDs, okD_mono ok (by decide : 9 ≤ 10), okD_mono hx3 (by decide : 9 ≤ 10)]; decide) (by simp)
  unfold fr at hp1 hp2 hx1 hx2
  simp [law_8, use_s, hp1, hp2, hx1, hx2, hsame]
end Py.k13


namespace Py.k13
open Py Py.Pl
def e1 : List D := [fr 0 1, fr 1 4, fr 1 2, fr 1 1]
def e2 : List D := [fr 0 1, fr 1 4, fr 1 2, fr 3 4, fr 1 1]
theorem f0 : d__law_folded [.lst m0, fr 0 1, fr 1 1] = some (.lst m1) := gives_eq (by decide +kernel)
theorem f1 : d__law_folded [.lst m1, fr 0 1, fr 1 2] = some (.lst m2) := gives_eq (by decide +kernel)
theorem f2 : d__law_folded [.lst m1, fr 0 1, fr 1 1] = some (.lst m1) := gives_eq (by decide +kernel)
theorem f3 : d__law_folded [.lst m1, fr 1 2, fr 1 1] = some (.lst m3) := gives_eq (by decide +kernel)
theorem u0 : d__law_put [.lst m0, .lst m1] = some (.lst m1) := gives_eq (by decide +kernel)
theorem u1 : d__law_put [.lst m1, .lst m2] = some (.lst e1) := gives_eq (by decide +kernel)
theorem u2 : d__law_put [.lst e1, .lst m1] = some (.lst e1) := gives_eq (by decide +kernel)
theorem u3 : d__law_put [.lst e1, .lst m3] = some (.lst e2) := gives_eq (by decide +kernel)
theorem n0 : notInD (.lst m1) (.lst []) = some (.bl true) := gives_eq (by decide +kernel)
theorem n1 : notInD (.lst m2) (.lst []) = some (.bl true) := gives_eq (by decide +kernel)
theorem n2 : notInD (.lst m1) (.lst [.lst m2]) = some (.bl true) := gives_eq (by decide +kernel)
theorem n3 : notInD (.lst m3) (.lst [.lst m2, .lst m1]) = some (.bl true) := gives_eq (by decide +kernel)
theorem l0 : m0.length = 2 := rfl
theorem l1 : m1.length = 3 := rfl
theorem g00 : geti m0 0 = some (fr 0 1) := rfl
theorem g01 : geti m0 1 = some (fr 1 1) := rfl
theorem g10 : geti m1 0 = some (fr 0 1) := rfl
theorem g11 : geti m1 1 = some (fr 1 2) := rfl
theorem g12 : geti m1 2 = some (fr 1 1) := rfl
def rows : Nat → List D
  | 0 => [.lst m0]
  | 1 => [.lst m0, .lst m1]
  | _ => [.lst m0, .lst m1, .lst e2]
theorem add_l {x y : List D} (h : x.length + y.length ≤ line) : addD (.lst x) (.lst y) = some (.lst (x ++ y)) := if_pos h
/-- the inner loops, once -/
def in11 : S := forS (over (use 11)) (gname 14) (forS (rng1 (op1 lenD (ovar 14))) (gname 15) (forS (rng1 (use 15)) (gname 16) (seq (asg (gname 17) (call d__law_folded [use 14, op2 ixD (ovar 14) (ovar 16), op2 ixD (ovar 14) (ovar 15)])) (asg (gname 8) (op2 addD (ovar 8) (oexp (ifE (tbl (op2 notInD (ovar 17) (ovar 8))) (lstE [use 17]) (lstE []))))))))
theorem sm0 : small 0 = true := by decide +kernel
theorem sm1 : small 1 = true := by decide +kernel
theorem sm2 : small 2 = true := by decide +kernel
theorem sm3 : small 3 = true := by decide +kernel
theorem up0 : upTo 0 0 = [] := rfl
theorem up1 : upTo 0 1 = [.int 0] := rfl
theorem up2 : upTo 0 2 = [.int 0, .int 1] := rfl
theorem up3 : upTo 0 3 = [.int 0, .int 1, .int 2] := rfl
theorem ad0 (x : D) : addD (.lst []) (.lst [x]) = some (.lst [x]) := rfl
theorem ad1 (x y : D) : addD (.lst [x]) (.lst [y]) = some (.lst [x, y]) := rfl
theorem ad2 (x y z : D) : addD (.lst [x, y]) (.lst [z]) = some (.lst [x, y, z]) := rfl
theorem in11_0 (v0 v1 v2 v3 v4 v5 v6 v7 v9 v10 v12 v13 v14 v15 v16 v17 : SV) (tl : Loc) : ∃ w14 w15 w16 w17, in11 (v0 :: v1 :: v2 :: v3 :: v4 :: v5 :: v6 :: v7 :: .fz (.lst []) :: v9 :: v10 :: .fz (.lst [.lst m0]) :: v12 :: v13 :: v14 :: v15 :: v16 :: v17 :: tl) = some (.nx (v0 :: v1 :: v2 :: v3 :: v4 :: v5 :: v6 :: v7 :: .fz (.lst [.lst m1]) :: v9 :: v10 :: .fz (.lst [.lst m0]) :: v12 :: v13 :: w14 :: w15 :: w16 :: w17 :: tl)) := by
  simp [in11, forS, forL, over, items, use_s, rng1, l0, sm0, sm1, sm2, up0, up1, up2, g00, g01, f0, n0, tbl_s, ad0]

theorem in11_1 (v0 v1 v2 v3 v4 v5 v6 v7 v9 v10 v12 v13 v14 v15 v16 v17 : SV) (tl : Loc) : ∃ w14 w15 w16 w17, in11 (v0 :: v1 :: v2 :: v3 :: v4 :: v5 :: v6 :: v7 :: .fz (.lst []) :: v9 :: v10 :: .fz (.lst [.lst m1]) :: v12 :: v13 :: v14 :: v15 :: v16 :: v17 :: tl) = some (.nx (v0 :: v1 :: v2 :: v3 :: v4 :: v5 :: v6 :: v7 :: .fz (.lst [.lst m2, .lst m1, .lst m3]) :: v9 :: v10 :: .fz (.lst [.lst m1]) :: v12 :: v13 :: w14 :: w15 :: w16 :: w17 :: tl)) := by
  simp [in11, forS, forL, over, items, use_s, rng1, l1, sm0, sm1, sm2, sm3, up0, up1, up2, up3, g10, g11, g12, f1, f2, f3, n1, n2, n3, tbl_s, ad0, ad1, ad2]
def out11 : S := seq (asg (gname 11) (use 8)) (seq (asg (gname 18) (op1 listD (oexp (op2 ixD (ovar 10) (oexp (op1 negD (oexp (cst (.int 1))))))))) (seq (forS (over (use 11)) (gname 14) (asg (gname 18) (call d__law_put [use 18, use 14]))) (appS 10 (use 18))))
def body11 : S := seq (asg (gname 8) (lstE [])) (seq in11 out11)
theorem law_11_eq : law_11 = forS (rng1 (use 12)) (gname 13) body11 := rfl
theorem lst_i (x : List D) : listD (.lst x) = some (.lst x) := rfl
theorem g_l1 (x : D) : geti [x] (-1) = some x := rfl
theorem g_l2 (x y : D) : geti [x, y] (-1) = some y := rfl
theorem ap1 (x y : D) : appD (.lst [x]) y = some (.lst [x, y]) := rfl
theorem ap2 (x y z : D) : appD (.lst [x, y]) z = some (.lst [x, y, z]) := rfl
theorem out11_0 (v0 v1 v2 v3 v4 v5 v6 v7 v9 v11 v12 v13 v14 v15 v16 v17 v18 : SV) (tl : Loc) : ∃ w14 w18, out11 (v0 :: v1 :: v2 :: v3 :: v4 :: v5 :: v6 :: v7 :: .fz (.lst [.lst m1]) :: v9 :: .ow (.lst [.lst m0]) :: v11 :: v12 :: v13 :: v14 :: v15 :: v16 :: v17 :: v18 :: tl) = some (.nx (v0 :: v1 :: v2 :: v3 :: v4 :: v5 :: v6 :: v7 :: .fz (.lst [.lst m1]) :: v9 :: .ow (.lst [.lst m0, .lst m1]) :: .fz (.lst [.lst m1]) :: v12 :: v13 :: w14 :: v15 :: v16 :: v17 :: w18 :: tl)) := by
  simp [out11, forS, forL, over, items, use_s, lst_i, g_l1, u0, appS, isL, ap1]
theorem out11_1 (v0 v1 v2 v3 v4 v5 v6 v7 v9 v11 v12 v13 v14 v15 v16 v17 v18 : SV) (tl : Loc) : ∃ w14 w18, out11 (v0 :: v1 :: v2 :: v3 :: v4 :: v5 :: v6 :: v7 :: .fz (.lst [.lst m2, .lst m1, .lst m3]) :: v9 :: .ow (.lst [.lst m0, .lst m1]) :: v11 :: v12 :: v13 :: v14 :: v15 :: v16 :: v17 :: v18 :: tl) = some (.nx (v0 :: v1 :: v2 :: v3 :: v4 :: v5 :: v6 :: v7 :: .fz (.lst [.lst m2, .lst m1, .lst m3]) :: v9 :: .ow (.lst [.lst m0, .lst m1, .lst e2]) :: .fz (.lst [.lst m2, .lst m1, .lst m3]) :: v12 :: v13 :: w14 :: v15 :: v16 :: v17 :: w18 :: tl)) := by
  simp [out11, forS, forL, over, items, use_s, lst_i, g_l2, u1, u2, u3, appS, isL, ap2]
theorem body11_0 (v0 v1 v2 v3 v4 v5 v6 v7 v8 v9 v12 v13 v14 v15 v16 v17 v18 : SV) (tl : Loc) : ∃ w8 w14 w15 w16 w17 w18, body11 (v0 :: v1 :: v2 :: v3 :: v4 :: v5 :: v6 :: v7 :: v8 :: v9 :: .ow (.lst [.lst m0]) :: .fz (.lst [.lst m0]) :: v12 :: v13 :: v14 :: v15 :: v16 :: v17 :: v18 :: tl) = some (.nx (v0 :: v1 :: v2 :: v3 :: v4 :: v5 :: v6 :: v7 :: w8 :: v9 :: .ow (.lst [.lst m0, .lst m1]) :: .fz (.lst [.lst m1]) :: v12 :: v13 :: w14 :: w15 :: w16 :: w17 :: w18 :: tl)) := by
  obtain ⟨a14, a15, a16, a17, h1⟩ := in11_0 v0 v1 v2 v3 v4 v5 v6 v7 v9 (.ow (.lst [.lst m0])) v12 v13 v14 v15 v16 v17 (v18 :: tl)
  obtain ⟨b14, b18, h2⟩ := out11_0 v0 v1 v2 v3 v4 v5 v6 v7 v9 (.fz (.lst [.lst m0])) v12 v13 a14 a15 a16 a17 v18 tl
  refine ⟨.fz (.lst [.lst m1]), b14, a15, a16, a17, b18, ?_⟩
  unfold body11
  rw [seq_nx (l' := v0 :: v1 :: v2 :: v3 :: v4 :: v5 :: v6 :: v7 :: .fz (.lst []) :: v9 :: .ow (.lst [.lst m0]) :: .fz (.lst [.lst m0]) :: v12 :: v13 :: v14 :: v15 :: v16 :: v17 :: v18 :: tl) rfl, seq_nx h1]
  exact h2
theorem body11_1 (v0 v1 v2 v3 v4 v5 v6 v7 v8 v9 v12 v13 v14 v15 v16 v17 v18 : SV) (tl : Loc) : ∃ w8 w14 w15 w16 w17 w18, body11 (v0 :: v1 :: v2 :: v3 :: v4 :: v5 :: v6 :: v7 :: v8 :: v9 :: .ow (.lst [.lst m0, .lst m1]) :: .fz (.lst [.lst m1]) :: v12 :: v13 :: v14 :: v15 :: v16 :: v17 :: v18 :: tl) = some (.nx (v0 :: v1 :: v2 :: v3 :: v4 :: v5 :: v6 :: v7 :: w8 :: v9 :: .ow (.lst [.lst m0, .lst m1, .lst e2]) :: .fz (.lst [.lst m2, .lst m1, .lst m3]) :: v12 :: v13 :: w14 :: w15 :: w16 :: w17 :: w18 :: tl)) := by
  obtain ⟨a14, a15, a16, a17, h1⟩ := in11_1 v0 v1 v2 v3 v4 v5 v6 v7 v9 (.ow (.lst [.lst m0, .lst m1])) v12 v13 v14 v15 v16 v17 (v18 :: tl)
  obtain ⟨b14, b18, h2⟩ := out11_1 v0 v1 v2 v3 v4 v5 v6 v7 v9 (.fz (.lst [.lst m1])) v12 v13 a14 a15 a16 a17 v18 tl
  refine ⟨.fz (.lst [.lst m2, .lst m1, .lst m3]), b14, a15, a16, a17, b18, ?_⟩
  unfold body11
  rw [seq_nx (l' := v0 :: v1 :: v2 :: v3 :: v4 :: v5 :: v6 :: v7 :: .fz (.lst []) :: v9 :: .ow (.lst [.lst m0, .lst m1]) :: .fz (.lst [.lst m1]) :: v12 :: v13 :: v14 :: v15 :: v16 :: v17 :: v18 :: tl) rfl, seq_nx h1]
  exact h2
theorem mid11 {m : Nat} (hm : m ≤ 2) (v0 v1 v2 v3 v4 v5 v6 v7 v8 v9 v13 v14 v15 v16 v17 v18 : SV) (tl : Loc) : ∃ w8 w11 w13 w14 w15 w16 w17 w18, law_11 (v0 :: v1 :: v2 :: v3 :: v4 :: v5 :: v6 :: v7 :: v8 :: v9 :: .ow (.lst [.lst m0]) :: .fz (.lst [.lst m0]) :: .fz (.int m) :: v13 :: v14 :: v15 :: v16 :: v17 :: v18 :: tl) = some (.nx (v0 :: v1 :: v2 :: v3 :: v4 :: v5 :: v6 :: v7 :: w8 :: v9 :: .ow (.lst (rows m)) :: w11 :: .fz (.int m) :: w13 :: w14 :: w15 :: w16 :: w17 :: w18 :: tl)) := by
  rw [law_11_eq]
  unfold forS
  match m, hm with
  | 0, _ =>
    refine ⟨v8, .fz (.lst [.lst m0]), v13, v14, v15, v16, v17, v18, ?_⟩
    simp [rng1, use_s, sm0, up0, forL, rows]
  | 1, _ =>
    obtain ⟨w8, w14, w15, w16, w17, w18, h⟩ := body11_0 v0 v1 v2 v3 v4 v5 v6 v7 v8 v9 (.fz (.int 1)) (.fz (.int 0)) v14 v15 v16 v17 v18 tl
    refine ⟨w8, .fz (.lst [.lst m1]), .fz (.int 0), w14, w15, w16, w17, w18, ?_⟩
    simp [rng1, use_s, sm1, up1, forL, rows, h]
  | 2, _ =>
    obtain ⟨a8, a14, a15, a16, a17, a18, h⟩ := body11_0 v0 v1 v2 v3 v4 v5 v6 v7 v8 v9 (.fz (.int 2)) (.fz (.int 0)) v14 v15 v16 v17 v18 tl
    obtain ⟨w8, w14, w15, w16, w17, w18, h2⟩ := body11_1 v0 v1 v2 v3 v4 v5 v6 v7 a8 v9 (.fz (.int 2)) (.fz (.int 1)) a14 a15 a16 a17 a18 tl
    refine ⟨w8, .fz (.lst [.lst m2, .lst m1, .lst m3]), .fz (.int 1), w14, w15, w16, w17, w18, ?_⟩
    simp [rng1, use_s, sm2, up2, forL, rows, h, h2]
end Py.k13


namespace Py.k13
open Py Py.Pl
def pD (m : Nat) (mk x : D) : Bool := match x with
  | .int k => match geti (rows m) k with
    | some (.lst r) => r.any fun y => D.eqv y mk
    | _ => false
  | _ => false
def dueD (m : Nat) (mk : D) : List D := (upTo 0 (rows m).length).filter (pD m mk)
def tab (m : Nat) (v : Nat) : Bool := match d__law_frac [.int v, .int 8] with
  | some mk => goodF mk && (match d_fewest_folds [mk, .int m] with
    | some t => okD 10 t && gives (neD (.lst (dueD m mk)) (.lst [])) (.bl (!(dueD m mk).isEmpty)) && (match dueD m mk with
      | [] => D.same t .non
      | x :: _ => D.same t x)
    | none => false)
  | none => false
theorem tab0 : (List.range 9).all (tab 0) = true := by decide +kernel
theorem tab1 : (List.range 9).all (tab 1) = true := by decide +kernel
theorem tab2 : (List.range 9).all (tab 2) = true := by decide +kernel
def lev (m : Nat) : Bool := gives (d_levels [.int m]) (.lst (rows m)) && okDs 10 (rows m) && ((rows m).all fun r => match r with
  | .lst s => s.all goodF
  | _ => false) && decide ((rows m).length ≤ 3)
theorem lev_ok : (List.range 3).all lev = true := by decide +kernel
end Py.k13


namespace Py.k13
open Py Py.Pl
theorem lev_of {m : Nat} (hm : m ≤ 2) : d_levels [.int m] = some (.lst (rows m)) ∧ okDs 10 (rows m) = true ∧ (∀ r ∈ rows m, ∃ s, r = .lst s ∧ ∀ x ∈ s, goodF x = true) ∧ (rows m).length ≤ 3 := by
  have h := List.all_eq_true.mp lev_ok m (by rw [List.mem_range]; omega)
  unfold lev at h
  simp only [Bool.and_eq_true, decide_eq_true_eq] at h
  obtain ⟨⟨⟨h1, h2⟩, h3⟩, h4⟩ := h
  refine ⟨gives_eq h1, h2, fun r hr => ?_, h4⟩
  have := List.all_eq_true.mp h3 r hr
  split at this
  · exact ⟨_, rfl, List.all_eq_true.mp this⟩
  · cases this
theorem tab_of {m v : Nat} (hm : m ≤ 2) (hv : v < 9) : ∃ mk t, d__law_frac [.int v, .int 8] = some mk ∧ goodF mk = true ∧ d_fewest_folds [mk, .int m] = some t ∧ okD 10 t = true ∧ neD (.lst (dueD m mk)) (.lst []) = some (.bl (!(dueD m mk).isEmpty)) ∧ ((dueD m mk = [] ∧ t = .non) ∨ ∃ r, dueD m mk = t :: r) := by
  have h : tab m v = true := by
    have hr : v ∈ List.range 9 := List.mem_range.mpr hv
    match m, hm with
    | 0, _ => exact List.all_eq_true.mp tab0 v hr
    | 1, _ => exact List.all_eq_true.mp tab1 v hr
    | 2, _ => exact List.all_eq_true.mp tab2 v hr
  unfold tab at h
  split at h
  · rename_i mk e1
    rw [Bool.and_eq_true] at h
    obtain ⟨h1, h⟩ := h
    split at h
    · rename_i t e2
      simp only [Bool.and_eq_true] at h
      obtain ⟨⟨h2, h3⟩, h4⟩ := h
      refine ⟨mk, t, e1, h1, e2, h2, gives_eq h3, ?_⟩
      split at h4
      · rename_i e3
        exact .inl ⟨e3, D.same_eq _ _ h4⟩
      · rename_i x r e3
        rw [← D.same_eq _ _ h4] at e3
        exact .inr ⟨r, e3⟩
    · cases h
  · cases h
theorem mid12 {m : Nat} (hm : m ≤ 2) (v0 v1 v2 v3 v4 v5 v6 v7 v8 v9 v11 : SV) (tl : Loc) : law_12 (v0 :: v1 :: v2 :: v3 :: v4 :: v5 :: v6 :: v7 :: v8 :: v9 :: .ow (.lst (rows m)) :: v11 :: .fz (.int m) :: tl) = some (.nx (v0 :: v1 :: v2 :: v3 :: v4 :: v5 :: v6 :: v7 :: v8 :: v9 :: .fz (.lst (rows m)) :: v11 :: .fz (.int m) :: tl)) := by
  obtain ⟨h1, h2, _, h4⟩ := lev_of hm
  have hs := same_list h2 (by omega)
  simp [law_12, use_s, h1, hs]
def body13 : S := seq (asg (gname 7) (call d__law_frac [call1 d__law_draw 1 [cst (.int 9)], cst (.int 8)])) (seq (asg (gname 19) (lc [20] (rng1 (op1 lenD (ovar 10))) (gname 20) (tbl (op2 inD (ovar 7) (oexp (op2 ixD (ovar 10) (ovar 20))))) (use 20))) (seq (asg (gname 21) (call d_fewest_folds [use 7, use 12])) (ifS (tnot (tru (oexp (call (d__law_same 12) [use 21, ifE (tbl (op2 neD (ovar 19) (oexp (lstE [])))) (op2 ixD (ovar 19) (oexp (cst (.int 0)))) (cst .non)])))) (ret (cst (.bl false))) (nop))))
theorem law_13_eq : law_13 = forS (rng1 (cst (.int 3))) (gname 4) body13 := rfl
theorem due_ok {m : Nat} {mk : D} (hm : m ≤ 2) (hk : goodF mk = true) (v0 v1 v2 v3 v4 v5 v6 v8 v9 v11 v12 v13 v14 v15 v16 v17 v18 v19 v21 : SV) :
    lc [20] (rng1 (op1 lenD (ovar 10))) (gname 20) (tbl (op2 inD (ovar 7) (oexp (op2 ixD (ovar 10) (ovar 20))))) (use 20) [v0, v1, v2, v3, v4, v5, v6, .fz mk, v8, v9, .fz (.lst (rows m)), v11, v12, v13, v14, v15, v16, v17, v18, v19, .un, v21] = some (.lst (dueD m mk), [v0, v1, v2, v3, v4, v5, v6, .fz mk, v8, v9, .fz (.lst (rows m)), v11, v12, v13, v14, v15, v16, v17, v18, v19, .un, v21]) := by
  obtain ⟨_, _, h3, h4⟩ := lev_of hm
  obtain ⟨l', e, z, rfl⟩ := lcGo_of (own := [20]) (g := gname 20) (t := tbl (op2 inD (ovar 7) (oexp (op2 ixD (ovar 10) (ovar 20))))) (e := use 20) (fun l => ∃ z, l = [v0, v1, v2, v3, v4, v5, v6, .fz mk, v8, v9, .fz (.lst (rows m)), v11, v12, v13, v14, v15, v16, v17, v18, v19, z, v21]) (pD m mk) id (upTo 0 (rows m).length) [] [v0, v1, v2, v3, v4, v5, v6, .fz mk, v8, v9, .fz (.lst (rows m)), v11, v12, v13, v14, v15, v16, v17, v18, v19, .un, v21] ⟨_, rfl⟩ (by rw [line_v, List.length_nil, upTo_length]; omega) (by
    rintro x hx l ⟨z, rfl⟩
    obtain ⟨i, hi, rfl⟩ := upTo_mem hx
    obtain ⟨r, hr, er⟩ := geti_in (xs := rows m) (k := 0 + i) (by omega) (by omega)
    obtain ⟨s, rfl, hs⟩ := h3 r hr
    have hp : pD m mk (.int (0 + i)) = s.any fun y => D.eqv y mk := by
      unfold pD
      simp only [er]
    have er2 : geti (rows m) (i : Int) = some (.lst s) := by simpa using er
    refine ⟨_, [v0, v1, v2, v3, v4, v5, v6, .fz mk, v8, v9, .fz (.lst (rows m)), v11, v12, v13, v14, v15, v16, v17, v18, v19, .fz (.int (0 + i)), v21], rfl, ?_, ?_⟩
    · rw [hp]
      simp [tbl_s, er2, in_good hk hs, wip]
    · split
      · exact ⟨_, rfl, _, rfl⟩
      · exact ⟨_, rfl⟩)
  have hsm := small_len (n := (rows m).length) (by omega)
  have hi : rng1 (op1 lenD (ovar 10)) [v0, v1, v2, v3, v4, v5, v6, .fz mk, v8, v9, .fz (.lst (rows m)), v11, v12, v13, v14, v15, v16, v17, v18, v19, .un, v21] = some (upTo 0 (rows m).length, [v0, v1, v2, v3, v4, v5, v6, .fz mk, v8, v9, .fz (.lst (rows m)), v11, v12, v13, v14, v15, v16, v17, v18, v19, .un, v21]) := by
    unfold rng1
    simp [hsm]
  unfold lc
  rw [hi]
  simp only [Option.bind_some]
  rw [e]
  simp [dueD, back]
theorem body13_ok {ns : List Int} {k m : Nat} {c : D} (hm : m ≤ 2) (hp : Pool ns k c) (hk : k < 1000) (v0 v2 v3 v4 v5 v6 v7 v8 v9 v11 v13 v14 v15 v16 v17 v18 v19 v21 : SV) :
    ∃ c' w7 w19 w21, body13 [v0, .ow c, v2, v3, v4, v5, v6, v7, v8, v9, .fz (.lst (rows m)), v11, .fz (.int m), v13, v14, v15, v16, v17, v18, v19, .un, v21] = some (.nx [v0, .ow c', v2, v3, v4, v5, v6, w7, v8, v9, .fz (.lst (rows m)), v11, .fz (.int m), v13, v14, v15, v16, v17, v18, w19, .un, w21]) ∧ Pool ns (k + 1) c' := by
  obtain ⟨v, c1, e1, p1, h0, h1⟩ := pool_draw hp (by omega) (m := 9) (by decide) (by decide +kernel)
  obtain ⟨mk, t, a1, a2, a3, a4, a5, a6⟩ := tab_of (v := v.toNat) hm (by omega)
  rw [show ((v.toNat : Nat) : Int) = v by omega] at a1
  have hd := due_ok (m := m) (mk := mk) hm a2 v0 (.ow c1) v2 v3 v4 v5 v6 v8 v9 v11 (.fz (.int m)) v13 v14 v15 v16 v17 v18 v19 v21
  have hsame := same_refl 11 t (okD_mono a4 (by decide))
  refine ⟨c1, .fz mk, .fz (.lst (dueD m mk)), .fz t, ?_, p1⟩
  unfold body13
  rw [seq_nx (l' := [v0, .ow c1, v2, v3, v4, v5, v6, .fz mk, v8, v9, .fz (.lst (rows m)), v11, .fz (.int m), v13, v14, v15, v16, v17, v18, v19, .un, v21]) (by simp [e1, a1])]
  rw [seq_nx (l' := [v0, .ow c1, v2, v3, v4, v5, v6, .fz mk, v8, v9, .fz (.lst (rows m)), v11, .fz (.int m), v13, v14, v15, v16, v17, v18, .fz (.lst (dueD m mk)), .un, v21]) (by simp [hd])]
  rw [seq_nx (l' := [v0, .ow c1, v2, v3, v4, v5, v6, .fz mk, v8, v9, .fz (.lst (rows m)), v11, .fz (.int m), v13, v14, v15, v16, v17, v18, .fz (.lst (dueD m mk)), .un, .fz t]) (by simp [use_s, a3])]
  rcases a6 with ⟨b1, b2⟩ | ⟨r, b1⟩
  · subst b2
    rw [b1] at a5
    simp [use_s, tbl_s, b1, a5, hsame]
  · rw [b1] at a5
    simp [use_s, tbl_s, b1, a5, geti, hsame]
theorem mid13 {ns : List Int} {m k : Nat} {c : D} (hm : m ≤ 2) (hp : Pool ns k c) (hk : k < 900) (v0 v2 v3 v4 v5 v6 v7 v8 v9 v11 v13 v14 v15 v16 v17 v18 v19 v21 : SV) :
    ∃ l', law_13 [v0, .ow c, v2, v3, v4, v5, v6, v7, v8, v9, .fz (.lst (rows m)), v11, .fz (.int m), v13, v14, v15, v16, v17, v18, v19, .un, v21] = some (.nx l') := by
  rw [law_13_eq]
  obtain ⟨l', h, _⟩ := forS_inv (body := body13) (g := gname 4) (it := rng1 (cst (.int 3))) (fun i l => ∃ c v4 v7 v19 v21, l = [v0, .ow c, v2, v3, v4, v5, v6, v7, v8, v9, .fz (.lst (rows m)), v11, .fz (.int m), v13, v14, v15, v16, v17, v18, v19, .un, v21] ∧ Pool ns (k + i) c) (xs := upTo 0 3) (l := [v0, .ow c, v2, v3, v4, v5, v6, v7, v8, v9, .fz (.lst (rows m)), v11, .fz (.int m), v13, v14, v15, v16, v17, v18, v19, .un, v21]) (rng_of (v := 3) rfl (by omega) (by omega)) ⟨c, v4, v7, v19, v21, rfl, hp⟩ (by
    rintro i x l hx ⟨c, v4, v7, v19, v21, rfl, q⟩
    obtain ⟨hi, rfl⟩ := upTo_get2 _ _ _ _ hx
    obtain ⟨c', w7, w19, w21, r1, r2⟩ := body13_ok hm q (by omega) v0 v2 v3 (.fz (.int (0 + i))) v5 v6 v7 v8 v9 v11 v13 v14 v15 v16 v17 v18 v19 v21
    exact ⟨_, _, rfl, r1, c', _, w7, w19, w21, rfl, r2⟩)
  exact ⟨l', h⟩
end Py.k13


namespace Py.k13
open Py Py.Pl
set_option maxHeartbeats 4000000 in
theorem law_plain (ns : List Int) (hb : ∀ z ∈ ns, z.natAbs.log2 < 1100000) : d_law [.scr ns] = some (.bl true) := by
  unfold d_law
  refine law_of ?_
  show Ret (b_law [.fz (.scr ns), .un, .un, .un, .un, .un, .un, .un, .un, .un, .un, .un, .un, .un, .un, .un, .un, .un, .un, .un, .un, .un])
  obtain ⟨c0, q1, q2, p0⟩ := pool_new hb
  obtain ⟨n, c1, s, fs, w4, w5, w6, w8, r1, hn, p1, hs, hf, hl⟩ := loop1 p0 .un .un .un .un [.un, .un, .un, .un, .un, .un, .un, .un, .un, .un, .un, .un, .un]
  obtain ⟨c2, x, y, r2, p2, hx, hy⟩ := mid6 hn hs p1 (by omega) (.fz (.scr ns)) (.fz (.lst fs)) w4 w5 w6 .un w8 .un [.un, .un, .un, .un, .un, .un, .un, .un, .un, .un, .un, .un]
  obtain ⟨v, c3, r3, p3, h0, h1⟩ := pool_draw p2 (by omega) (m := 3) (by decide) (by decide +kernel)
  have hv : v = ((v.toNat : Nat) : Int) := by omega
  have hm : v.toNat ≤ 2 := by omega
  obtain ⟨u8, u11, u13, u14, u15, u16, u17, u18, r4⟩ := mid11 hm (.fz (.scr ns)) (.ow c3) (.fz (.lst s)) (.fz (.lst fs)) w4 w5 w6 (.fz y) w8 (.fz x) .un .un .un .un .un .un [.un, .un, .un]
  obtain ⟨l', r5⟩ := mid13 hm p3 (by omega) (.fz (.scr ns)) (.fz (.lst s)) (.fz (.lst fs)) w4 w5 w6 (.fz y) u8 (.fz x) u11 u13 u14 u15 u16 u17 u18 .un .un
  rw [law_eq]
  refine ret_seq (l' := [.fz (.scr ns), .ow c0, .un, .un, .un, .un, .un, .un, .un, .un, .un, .un, .un, .un, .un, .un, .un, .un, .un, .un, .un, .un]) (by simp [law_1, use_s, q1, q2]) ?_
  refine ret_seq (l' := [.fz (.scr ns), .ow c0, .fz (.lst m0), .fz (.lst []), .un, .un, .un, .un, .un, .un, .un, .un, .un, .un, .un, .un, .un, .un, .un, .un, .un, .un]) rfl ?_
  refine ret_seq (by rw [law_3_eq]; exact r1) ?_
  refine ret_seq (mid4 hn hs hf hl _ _ _) ?_
  refine ret_seq (mid5 hn hs hl _ _ _ _ _ _ _) ?_
  refine ret_seq r2 ?_
  refine ret_seq (mid7 hn hs hx hy _ _ _ _ _ _ _ _) ?_
  refine ret_seq (mid8 hn hs _ _ _) ?_
  refine ret_seq (l' := [.fz (.scr ns), .ow c2, .fz (.lst s), .fz (.lst fs), w4, w5, w6, .fz y, w8, .fz x, .ow (.lst [.lst m0]), .fz (.lst [.lst m0]), .un, .un, .un, .un, .un, .un, .un, .un, .un, .un]) (by simp [law_9, par, putAll, m0, fr]) ?_
  refine ret_seq (l' := [.fz (.scr ns), .ow c3, .fz (.lst s), .fz (.lst fs), w4, w5, w6, .fz y, w8, .fz x, .ow (.lst [.lst m0]), .fz (.lst [.lst m0]), .fz (.int v), .un, .un, .un, .un, .un, .un, .un, .un, .un]) (by simp [law_10, r3]) ?_
  rw [hv]
  refine ret_seq r4 ?_
  refine ret_seq (mid12 hm _ _ _ _ _ _ _ _ _ _ _ _) ?_
  refine ret_seq r5 ?_
  exact ret_end
end Py.k13


namespace Py.k13
open Py Py.Pl L2 PySem PySem.Spec
theorem law_true (ns : List Int) (h : ns.length ≤ 63) (hb : ∀ z ∈ ns, Builtin.Int.intBits z ≤ 1048576) : d_law [.scr ns] = some (.bl true) := law_plain ns fun z hz => by
  have h1 := hb z hz
  unfold Builtin.Int.intBits at h1
  split at h1
  · rename_i h2
    have h3 : z = 0 := by simpa using h2
    subst h3
    decide
  · omega
theorem all_mk {l : PySem.W.OpenLaw} {w : World} {K : PySem.W.Frag} {h : Heap} {mg : Str → Option Value} {fa : Addr} {f1 : Addr} {od1 an1 : Option Addr} {sl1 : Array (Option Value)} {oc1 kV1 dc1 pm1 cd1 ct1 : Value} {f2 : Addr} {od2 an2 : Option Addr} {sl2 : Array (Option Value)} {oc2 kV2 dc2 pm2 cd2 ct2 : Value} {f3 : Addr} {od3 an3 : Option Addr} {sl3 : Array (Option Value)} {oc3 kV3 dc3 pm3 cd3 ct3 : Value} {f4 : Addr} {od4 an4 : Option Addr} {sl4 : Array (Option Value)} {oc4 kV4 dc4 pm4 cd4 ct4 : Value} {f5 : Addr} {od5 an5 : Option Addr} {sl5 : Array (Option Value)} {oc5 kV5 dc5 pm5 cd5 ct5 : Value} {f6 : Addr} {od6 an6 : Option Addr} {sl6 : Array (Option Value)} {oc6 kV6 dc6 pm6 cd6 ct6 : Value} {f7 : Addr} {od7 an7 : Option Addr} {sl7 : Array (Option Value)} {oc7 kV7 dc7 pm7 cd7 ct7 : Value} {f8 : Addr} {od8 an8 : Option Addr} {sl8 : Array (Option Value)} {oc8 kV8 dc8 pm8 cd8 ct8 : Value} {f9 : Addr} {od9 an9 : Option Addr} {sl9 : Array (Option Value)} {oc9 kV9 dc9 pm9 cd9 ct9 : Value} {f10 : Addr} {od10 an10 : Option Addr} {sl10 : Array (Option Value)} {oc10 kV10 dc10 pm10 cd10 ct10 : Value} {f11 : Addr} {od11 an11 : Option Addr} {sl11 : Array (Option Value)} {oc11 kV11 dc11 pm11 cd11 ct11 : Value} {f12 : Addr} {od12 an12 : Option Addr} {sl12 : Array (Option Value)} {oc12 kV12 dc12 pm12 cd12 ct12 : Value} {f13 : Addr} {od13 an13 : Option Addr} {sl13 : Array (Option Value)} {oc13 kV13 dc13 pm13 cd13 ct13 : Value} {f14 : Addr} {od14 an14 : Option Addr} {sl14 : Array (Option Value)} {oc14 kV14 dc14 pm14 cd14 ct14 : Value} {f15 : Addr} {od15 an15 : Option Addr} {sl15 : Array (Option Value)} {oc15 kV15 dc15 pm15 cd15 ct15 : Value} {f16 : Addr} {od16 an16 : Option Addr} {sl16 : Array (Option Value)} {oc16 kV16 dc16 pm16 cd16 ct16 : Value} {f17 : Addr} {od17 an17 : Option Addr} {sl17 : Array (Option Value)} {oc17 kV17 dc17 pm17 cd17 ct17 : Value} {f18 : Addr} {od18 an18 : Option Addr} {sl18 : Array (Option Value)} {oc18 kV18 dc18 pm18 cd18 ct18 : Value} {f19 : Addr} {od19 an19 : Option Addr} {sl19 : Array (Option Value)} {oc19 kV19 dc19 pm19 cd19 ct19 : Value} {f20 : Addr} {od20 an20 : Option Addr} {sl20 : Array (Option Value)} {oc20 kV20 dc20 pm20 cd20 ct20 : Value} {f21 : Addr} {od21 an21 : Option Addr} {sl21 : Array (Option Value)} {oc21 kV21 dc21 pm21 cd21 ct21 : Value} {f22 : Addr} {od22 an22 : Option Addr} {sl22 : Array (Option Value)} {oc22 kV22 dc22 pm22 cd22 ct22 : Value} {f23 : Addr} {od23 an23 : Option Addr} {sl23 : Array (Option Value)} {oc23 kV23 dc23 pm23 cd23 ct23 : Value} {f24 : Addr} {od24 an24 : Option Addr} {sl24 : Array (Option Value)} {oc24 kV24 dc24 pm24 cd24 ct24 : Value} {f25 : Addr} {od25 an25 : Option Addr} {sl25 : Array (Option Value)} {oc25 kV25 dc25 pm25 cd25 ct25 : Value} {f26 : Addr} {od26 an26 : Option Addr} {sl26 : Array (Option Value)} {oc26 kV26 dc26 pm26 cd26 ct26 : Value} {f27 : Addr} {od27 an27 : Option Addr} {sl27 : Array (Option Value)} {oc27 kV27 dc27 pm27 cd27 ct27 : Value} {f28 : Addr} {od28 an28 : Option Addr} {sl28 : Array (Option Value)} {oc28 kV28 dc28 pm28 cd28 ct28 : Value} {f29 : Addr} {od29 an29 : Option Addr} {sl29 : Array (Option Value)} {oc29 kV29 dc29 pm29 cd29 ct29 : Value} {f30 : Addr} {od30 an30 : Option Addr} {sl30 : Array (Option Value)} {oc30 kV30 dc30 pm30 cd30 ct30 : Value} {p_TWO_1 : Addr} {od_TWO_1 : Option Addr} {n_TWO_1 : Nat} {sl_TWO_1 : Array (Option Value)} {t_TWO_1_0 : Tok} {t_TWO_1_1 : Tok} (X : K.In h) (G : h.Ns mainGlobals mg) (hfa : mg "law" = some (.ref fa))
    (a1 : PySem.W.nsIn K mainGlobals "frac" = some (some (.ref f1))) (l1 : K.lookup f1 = some ⟨oc1, od1, .func (PySem.W.fnOf "frac" "frac" (defArgs s_frac) (defBody s_frac) (defScope s_frac) .none kV1 dc1 pm1 an1 cd1 ct1), sl1⟩) (c1 : PySem.W.codeIn K cd1 "frac" = true) (k1 : PySem.W.keepIn K (.ref f1) = true)
    (a2 : PySem.W.nsIn K mainGlobals "plus" = some (some (.ref f2))) (l2 : K.lookup f2 = some ⟨oc2, od2, .func (PySem.W.fnOf "plus" "plus" (defArgs s_plus) (defBody s_plus) (defScope s_plus) .none kV2 dc2 pm2 an2 cd2 ct2), sl2⟩) (c2 : PySem.W.codeIn K cd2 "plus" = true) (k2 : PySem.W.keepIn K (.ref f2) = true)
    (a3 : PySem.W.nsIn K mainGlobals "minus" = some (some (.ref f3))) (l3 : K.lookup f3 = some ⟨oc3, od3, .func (PySem.W.fnOf "minus" "minus" (defArgs s_minus) (defBody s_minus) (defScope s_minus) .none kV3 dc3 pm3 an3 cd3 ct3), sl3⟩) (c3 : PySem.W.codeIn K cd3 "minus" = true) (k3 : PySem.W.keepIn K (.ref f3) = true)
    (a4 : PySem.W.nsIn K mainGlobals "times" = some (some (.ref f4))) (l4 : K.lookup f4 = some ⟨oc4, od4, .func (PySem.W.fnOf "times" "times" (defArgs s_times) (defBody s_times) (defScope s_times) .none kV4 dc4 pm4 an4 cd4 ct4), sl4⟩) (c4 : PySem.W.codeIn K cd4 "times" = true) (k4 : PySem.W.keepIn K (.ref f4) = true)
    (a5 : PySem.W.nsIn K mainGlobals "over" = some (some (.ref f5))) (l5 : K.lookup f5 = some ⟨oc5, od5, .func (PySem.W.fnOf "over" "over" (defArgs s_over) (defBody s_over) (defScope s_over) .none kV5 dc5 pm5 an5 cd5 ct5), sl5⟩) (c5 : PySem.W.codeIn K cd5 "over" = true) (k5 : PySem.W.keepIn K (.ref f5) = true)
    (a6 : PySem.W.nsIn K mainGlobals "less" = some (some (.ref f6))) (l6 : K.lookup f6 = some ⟨oc6, od6, .func (PySem.W.fnOf "less" "less" (defArgs s_less) (defBody s_less) (defScope s_less) .none kV6 dc6 pm6 an6 cd6 ct6), sl6⟩) (c6 : PySem.W.codeIn K cd6 "less" = true) (k6 : PySem.W.keepIn K (.ref f6) = true)
    (a7 : PySem.W.nsIn K mainGlobals "crease_of" = some (some (.ref f7))) (l7 : K.lookup f7 = some ⟨oc7, od7, .func (PySem.W.fnOf "crease_of" "crease_of" (defArgs s_crease_of) (defBody s_crease_of) (defScope s_crease_of) .none kV7 dc7 pm7 an7 cd7 ct7), sl7⟩) (c7 : PySem.W.codeIn K cd7 "crease_of" = true) (k7 : PySem.W.keepIn K (.ref f7) = true)
    (a8 : PySem.W.nsIn K mainGlobals "mirrored" = some (some (.ref f8))) (l8 : K.lookup f8 = some ⟨oc8, od8, .func (PySem.W.fnOf "mirrored" "mirrored" (defArgs s_mirrored) (defBody s_mirrored) (defScope s_mirrored) .none kV8 dc8 pm8 an8 cd8 ct8), sl8⟩) (c8 : PySem.W.codeIn K cd8 "mirrored" = true) (k8 : PySem.W.keepIn K (.ref f8) = true)
    (a9 : PySem.W.nsIn K mainGlobals "put_in" = some (some (.ref f9))) (l9 : K.lookup f9 = some ⟨oc9, od9, .func (PySem.W.fnOf "put_in" "put_in" (defArgs s_put_in) (defBody s_put_in) (defScope s_put_in) .none kV9 dc9 pm9 an9 cd9 ct9), sl9⟩) (c9 : PySem.W.codeIn K cd9 "put_in" = true) (k9 : PySem.W.keepIn K (.ref f9) = true)
    (a10 : PySem.W.nsIn K mainGlobals "folded_marks" = some (some (.ref f10))) (l10 : K.lookup f10 = some ⟨oc10, od10, .func (PySem.W.fnOf "folded_marks" "folded_marks" (defArgs s_folded_marks) (defBody s_folded_marks) (defScope s_folded_marks) .none kV10 dc10 pm10 an10 cd10 ct10), sl10⟩) (c10 : PySem.W.codeIn K cd10 "folded_marks" = true) (k10 : PySem.W.keepIn K (.ref f10) = true)
    (a11 : PySem.W.nsIn K mainGlobals "after" = some (some (.ref f11))) (l11 : K.lookup f11 = some ⟨oc11, od11, .func (PySem.W.fnOf "after" "after" (defArgs s_after) (defBody s_after) (defScope s_after) .none kV11 dc11 pm11 an11 cd11 ct11), sl11⟩) (c11 : PySem.W.codeIn K cd11 "after" = true) (k11 : PySem.W.keepIn K (.ref f11) = true)
    (a12 : PySem.W.nsIn K mainGlobals "levels" = some (some (.ref f12))) (l12 : K.lookup f12 = some ⟨oc12, od12, .func (PySem.W.fnOf "levels" "levels" (defArgs s_levels) (defBody s_levels) (defScope s_levels) .none kV12 dc12 pm12 an12 cd12 ct12), sl12⟩) (c12 : PySem.W.codeIn K cd12 "levels" = true) (k12 : PySem.W.keepIn K (.ref f12) = true)
    (a13 : PySem.W.nsIn K mainGlobals "fewest_folds" = some (some (.ref f13))) (l13 : K.lookup f13 = some ⟨oc13, od13, .func (PySem.W.fnOf "fewest_folds" "fewest_folds" (defArgs s_fewest_folds) (defBody s_fewest_folds) (defScope s_fewest_folds) .none kV13 dc13 pm13 an13 cd13 ct13), sl13⟩) (c13 : PySem.W.codeIn K cd13 "fewest_folds" = true) (k13 : PySem.W.keepIn K (.ref f13) = true)
    (a14 : PySem.W.nsIn K mainGlobals "_law_mixed" = some (some (.ref f14))) (l14 : K.lookup f14 = some ⟨oc14, od14, .func (PySem.W.fnOf "_law_mixed" "_law_mixed" (defArgs s__law_mixed) (defBody s__law_mixed) (defScope s__law_mixed) .none kV14 dc14 pm14 an14 cd14 ct14), sl14⟩) (c14 : PySem.W.codeIn K cd14 "_law_mixed" = true) (k14 : PySem.W.keepIn K (.ref f14) = true)
    (a15 : PySem.W.nsIn K mainGlobals "_law_rest" = some (some (.ref f15))) (l15 : K.lookup f15 = some ⟨oc15, od15, .func (PySem.W.fnOf "_law_rest" "_law_rest" (defArgs s__law_rest) (defBody s__law_rest) (defScope s__law_rest) .none kV15 dc15 pm15 an15 cd15 ct15), sl15⟩) (c15 : PySem.W.codeIn K cd15 "_law_rest" = true) (k15 : PySem.W.keepIn K (.ref f15) = true)
    (a16 : PySem.W.nsIn K mainGlobals "_law_pool" = some (some (.ref f16))) (l16 : K.lookup f16 = some ⟨oc16, od16, .func (PySem.W.fnOf "_law_pool" "_law_pool" (defArgs s__law_pool) (defBody s__law_pool) (defScope s__law_pool) .none kV16 dc16 pm16 an16 cd16 ct16), sl16⟩) (c16 : PySem.W.codeIn K cd16 "_law_pool" = true) (k16 : PySem.W.keepIn K (.ref f16) = true)
    (a17 : PySem.W.nsIn K mainGlobals "_law_next" = some (some (.ref f17))) (l17 : K.lookup f17 = some ⟨oc17, od17, .func (PySem.W.fnOf "_law_next" "_law_next" (defArgs s__law_next) (defBody s__law_next) (defScope s__law_next) .none kV17 dc17 pm17 an17 cd17 ct17), sl17⟩) (c17 : PySem.W.codeIn K cd17 "_law_next" = true) (k17 : PySem.W.keepIn K (.ref f17) = true)
    (a18 : PySem.W.nsIn K mainGlobals "_law_draw" = some (some (.ref f18))) (l18 : K.lookup f18 = some ⟨oc18, od18, .func (PySem.W.fnOf "_law_draw" "_law_draw" (defArgs s__law_draw) (defBody s__law_draw) (defScope s__law_draw) .none kV18 dc18 pm18 an18 cd18 ct18), sl18⟩) (c18 : PySem.W.codeIn K cd18 "_law_draw" = true) (k18 : PySem.W.keepIn K (.ref f18) = true)
    (a19 : PySem.W.nsIn K mainGlobals "_law_pick" = some (some (.ref f19))) (l19 : K.lookup f19 = some ⟨oc19, od19, .func (PySem.W.fnOf "_law_pick" "_law_pick" (defArgs s__law_pick) (defBody s__law_pick) (defScope s__law_pick) .none kV19 dc19 pm19 an19 cd19 ct19), sl19⟩) (c19 : PySem.W.codeIn K cd19 "_law_pick" = true) (k19 : PySem.W.keepIn K (.ref f19) = true)
    (a20 : PySem.W.nsIn K mainGlobals "_law_same" = some (some (.ref f20))) (l20 : K.lookup f20 = some ⟨oc20, od20, .func (PySem.W.fnOf "_law_same" "_law_same" (defArgs s__law_same) (defBody s__law_same) (defScope s__law_same) .none kV20 dc20 pm20 an20 cd20 ct20), sl20⟩) (c20 : PySem.W.codeIn K cd20 "_law_same" = true) (k20 : PySem.W.keepIn K (.ref f20) = true)
    (a21 : PySem.W.nsIn K mainGlobals "_law_gcd" = some (some (.ref f21))) (l21 : K.lookup f21 = some ⟨oc21, od21, .func (PySem.W.fnOf "_law_gcd" "_law_gcd" (defArgs s__law_gcd) (defBody s__law_gcd) (defScope s__law_gcd) .none kV21 dc21 pm21 an21 cd21 ct21), sl21⟩) (c21 : PySem.W.codeIn K cd21 "_law_gcd" = true) (k21 : PySem.W.keepIn K (.ref f21) = true)
    (a22 : PySem.W.nsIn K mainGlobals "_law_frac" = some (some (.ref f22))) (l22 : K.lookup f22 = some ⟨oc22, od22, .func (PySem.W.fnOf "_law_frac" "_law_frac" (defArgs s__law_frac) (defBody s__law_frac) (defScope s__law_frac) .none kV22 dc22 pm22 an22 cd22 ct22), sl22⟩) (c22 : PySem.W.codeIn K cd22 "_law_frac" = true) (k22 : PySem.W.keepIn K (.ref f22) = true)
    (a23 : PySem.W.nsIn K mainGlobals "_law_add" = some (some (.ref f23))) (l23 : K.lookup f23 = some ⟨oc23, od23, .func (PySem.W.fnOf "_law_add" "_law_add" (defArgs s__law_add) (defBody s__law_add) (defScope s__law_add) .none kV23 dc23 pm23 an23 cd23 ct23), sl23⟩) (c23 : PySem.W.codeIn K cd23 "_law_add" = true) (k23 : PySem.W.keepIn K (.ref f23) = true)
    (a24 : PySem.W.nsIn K mainGlobals "_law_sub" = some (some (.ref f24))) (l24 : K.lookup f24 = some ⟨oc24, od24, .func (PySem.W.fnOf "_law_sub" "_law_sub" (defArgs s__law_sub) (defBody s__law_sub) (defScope s__law_sub) .none kV24 dc24 pm24 an24 cd24 ct24), sl24⟩) (c24 : PySem.W.codeIn K cd24 "_law_sub" = true) (k24 : PySem.W.keepIn K (.ref f24) = true)
    (a25 : PySem.W.nsIn K mainGlobals "_law_mul" = some (some (.ref f25))) (l25 : K.lookup f25 = some ⟨oc25, od25, .func (PySem.W.fnOf "_law_mul" "_law_mul" (defArgs s__law_mul) (defBody s__law_mul) (defScope s__law_mul) .none kV25 dc25 pm25 an25 cd25 ct25), sl25⟩) (c25 : PySem.W.codeIn K cd25 "_law_mul" = true) (k25 : PySem.W.keepIn K (.ref f25) = true)
    (a26 : PySem.W.nsIn K mainGlobals "_law_power" = some (some (.ref f26))) (l26 : K.lookup f26 = some ⟨oc26, od26, .func (PySem.W.fnOf "_law_power" "_law_power" (defArgs s__law_power) (defBody s__law_power) (defScope s__law_power) .none kV26 dc26 pm26 an26 cd26 ct26), sl26⟩) (c26 : PySem.W.codeIn K cd26 "_law_power" = true) (k26 : PySem.W.keepIn K (.ref f26) = true)
    (a27 : PySem.W.nsIn K mainGlobals "_law_whole" = some (some (.ref f27))) (l27 : K.lookup f27 = some ⟨oc27, od27, .func (PySem.W.fnOf "_law_whole" "_law_whole" (defArgs s__law_whole) (defBody s__law_whole) (defScope s__law_whole) .none kV27 dc27 pm27 an27 cd27 ct27), sl27⟩) (c27 : PySem.W.codeIn K cd27 "_law_whole" = true) (k27 : PySem.W.keepIn K (.ref f27) = true)
    (a28 : PySem.W.nsIn K mainGlobals "_law_put" = some (some (.ref f28))) (l28 : K.lookup f28 = some ⟨oc28, od28, .func (PySem.W.fnOf "_law_put" "_law_put" (defArgs s__law_put) (defBody s__law_put) (defScope s__law_put) .none kV28 dc28 pm28 an28 cd28 ct28), sl28⟩) (c28 : PySem.W.codeIn K cd28 "_law_put" = true) (k28 : PySem.W.keepIn K (.ref f28) = true)
    (a29 : PySem.W.nsIn K mainGlobals "_law_folded" = some (some (.ref f29))) (l29 : K.lookup f29 = some ⟨oc29, od29, .func (PySem.W.fnOf "_law_folded" "_law_folded" (defArgs s__law_folded) (defBody s__law_folded) (defScope s__law_folded) .none kV29 dc29 pm29 an29 cd29 ct29), sl29⟩) (c29 : PySem.W.codeIn K cd29 "_law_folded" = true) (k29 : PySem.W.keepIn K (.ref f29) = true)
    (a30 : PySem.W.nsIn K mainGlobals "law" = some (some (.ref f30))) (l30 : K.lookup f30 = some ⟨oc30, od30, .func (PySem.W.fnOf "law" "law" (defArgs s_law) (defBody s_law) (defScope s_law) .none kV30 dc30 pm30 an30 cd30 ct30), sl30⟩) (c30 : PySem.W.codeIn K cd30 "law" = true) (k30 : PySem.W.keepIn K (.ref f30) = true)
    (i_gcd : PySem.W.nsIn K mainGlobals "gcd" = some (some (.builtin "math.gcd")))
    (k_TWO : PySem.W.nsIn K mainGlobals "TWO" = some (some (.ref p_TWO_1)))
    (t_TWO_1 : K.lookup p_TWO_1 = some ⟨.type "tuple", od_TWO_1, .seq #[.int (2) t_TWO_1_0, .int (1) t_TWO_1_1] n_TWO_1, sl_TWO_1⟩)
    (z_list : PySem.W.nsIn K mainGlobals "list" = some none)
    (z_len : PySem.W.nsIn K mainGlobals "len" = some none)
    (z_range : PySem.W.nsIn K mainGlobals "range" = some none)
    (z_enumerate : PySem.W.nsIn K mainGlobals "enumerate" = some none)
    (z_int : PySem.W.nsIn K mainGlobals "int" = some none)
    (z_isinstance : PySem.W.nsIn K mainGlobals "isinstance" = some none)
    (z_bool : PySem.W.nsIn K mainGlobals "bool" = some none)
    (z_str : PySem.W.nsIn K mainGlobals "str" = some none)
    (z_tuple : PySem.W.nsIn K mainGlobals "tuple" = some none)
    (z_all : PySem.W.nsIn K mainGlobals "all" = some none)
    (z_dict : PySem.W.nsIn K mainGlobals "dict" = some none)
    (z_sorted : PySem.W.nsIn K mainGlobals "sorted" = some none)
    : ∃ fd : FuncData, (∀ (s : Shared) (v : Value), BindsTo s fd ⟨[v], []⟩ [("script", v)]) ∧ ∀ base : Heap, K.In base → base.Ns mainGlobals mg → FnOk l.prog w K mg base CX0 14 fa fd ["script"] (spP K 1 d_law false) := by
  have e := hfa.symm.trans (PySem.W.mg_of X G a30)
  cases e
  have F_frac := fun_mk (st := s_frac) l1 c1 k1
  have b_frac := F_frac.binds (ps := ["p", "q"]) fun _ _ _ _ _ _ us hl => match us, hl with | [_, _], _ => rfl
  have F_plus := fun_mk (st := s_plus) l2 c2 k2
  have b_plus := F_plus.binds (ps := ["a", "b"]) fun _ _ _ _ _ _ us hl => match us, hl with | [_, _], _ => rfl
  have F_minus := fun_mk (st := s_minus) l3 c3 k3
  have b_minus := F_minus.binds (ps := ["a", "b"]) fun _ _ _ _ _ _ us hl => match us, hl with | [_, _], _ => rfl
  have F_times := fun_mk (st := s_times) l4 c4 k4
  have b_times := F_times.binds (ps := ["a", "b"]) fun _ _ _ _ _ _ us hl => match us, hl with | [_, _], _ => rfl
  have F_over := fun_mk (st := s_over) l5 c5 k5
  have b_over := F_over.binds (ps := ["a", "b"]) fun _ _ _ _ _ _ us hl => match us, hl with | [_, _], _ => rfl
  have F_less := fun_mk (st := s_less) l6 c6 k6
  have b_less := F_less.binds (ps := ["a", "b"]) fun _ _ _ _ _ _ us hl => match us, hl with | [_, _], _ => rfl
  have F_crease_of := fun_mk (st := s_crease_of) l7 c7 k7
  have b_crease_of := F_crease_of.binds (ps := ["one", "other"]) fun _ _ _ _ _ _ us hl => match us, hl with | [_, _], _ => rfl
  have F_mirrored := fun_mk (st := s_mirrored) l8 c8 k8
  have b_mirrored := F_mirrored.binds (ps := ["crease", "mark"]) fun _ _ _ _ _ _ us hl => match us, hl with | [_, _], _ => rfl
  have F_put_in := fun_mk (st := s_put_in) l9 c9 k9
  have b_put_in := F_put_in.binds (ps := ["marks", "mark"]) fun _ _ _ _ _ _ us hl => match us, hl with | [_, _], _ => rfl
  have F_folded_marks := fun_mk (st := s_folded_marks) l10 c10 k10
  have b_folded_marks := F_folded_marks.binds (ps := ["marks", "one", "other"]) fun _ _ _ _ _ _ us hl => match us, hl with | [_, _, _], _ => rfl
  have F_after := fun_mk (st := s_after) l11 c11 k11
  have b_after := F_after.binds (ps := ["folds"]) fun _ _ _ _ _ _ us hl => match us, hl with | [_], _ => rfl
  have F_levels := fun_mk (st := s_levels) l12 c12 k12
  have b_levels := F_levels.binds (ps := ["most"]) fun _ _ _ _ _ _ us hl => match us, hl with | [_], _ => rfl
  have F_fewest_folds := fun_mk (st := s_fewest_folds) l13 c13 k13
  have b_fewest_folds := F_fewest_folds.binds (ps := ["mark", "most"]) fun _ _ _ _ _ _ us hl => match us, hl with | [_, _], _ => rfl
  have F__law_mixed := fun_mk (st := s__law_mixed) l14 c14 k14
  have b__law_mixed := F__law_mixed.binds (ps := ["number", "place"]) fun _ _ _ _ _ _ us hl => match us, hl with | [_, _], _ => rfl
  have F__law_rest := fun_mk (st := s__law_rest) l15 c15 k15
  have b__law_rest := F__law_rest.binds (ps := ["script", "place", "again"]) fun _ _ _ _ _ _ us hl => match us, hl with | [_, _, _], _ => rfl
  have F__law_pool := fun_mk (st := s__law_pool) l16 c16 k16
  have b__law_pool := F__law_pool.binds (ps := ["script"]) fun _ _ _ _ _ _ us hl => match us, hl with | [_], _ => rfl
  have F__law_next := fun_mk (st := s__law_next) l17 c17 k17
  have b__law_next := F__law_next.binds (ps := ["pool"]) fun _ _ _ _ _ _ us hl => match us, hl with | [_], _ => rfl
  have F__law_draw := fun_mk (st := s__law_draw) l18 c18 k18
  have b__law_draw := F__law_draw.binds (ps := ["pool", "limit"]) fun _ _ _ _ _ _ us hl => match us, hl with | [_, _], _ => rfl
  have F__law_pick := fun_mk (st := s__law_pick) l19 c19 k19
  have b__law_pick := F__law_pick.binds (ps := ["pool", "options"]) fun _ _ _ _ _ _ us hl => match us, hl with | [_, _], _ => rfl
  have F__law_same := fun_mk (st := s__law_same) l20 c20 k20
  have b__law_same := F__law_same.binds (ps := ["answer", "due"]) fun _ _ _ _ _ _ us hl => match us, hl with | [_, _], _ => rfl
  have F__law_gcd := fun_mk (st := s__law_gcd) l21 c21 k21
  have b__law_gcd := F__law_gcd.binds (ps := ["a", "b"]) fun _ _ _ _ _ _ us hl => match us, hl with | [_, _], _ => rfl
  have F__law_frac := fun_mk (st := s__law_frac) l22 c22 k22
  have b__law_frac := F__law_frac.binds (ps := ["p", "q"]) fun _ _ _ _ _ _ us hl => match us, hl with | [_, _], _ => rfl
  have F__law_add := fun_mk (st := s__law_add) l23 c23 k23
  have b__law_add := F__law_add.binds (ps := ["one", "other"]) fun _ _ _ _ _ _ us hl => match us, hl with | [_, _], _ => rfl
  have F__law_sub := fun_mk (st := s__law_sub) l24 c24 k24
  have b__law_sub := F__law_sub.binds (ps := ["one", "other"]) fun _ _ _ _ _ _ us hl => match us, hl with | [_, _], _ => rfl
  have F__law_mul := fun_mk (st := s__law_mul) l25 c25 k25
  have b__law_mul := F__law_mul.binds (ps := ["one", "other"]) fun _ _ _ _ _ _ us hl => match us, hl with | [_, _], _ => rfl
  have F__law_power := fun_mk (st := s__law_power) l26 c26 k26
  have b__law_power := F__law_power.binds (ps := ["base", "many"]) fun _ _ _ _ _ _ us hl => match us, hl with | [_, _], _ => rfl
  have F__law_whole := fun_mk (st := s__law_whole) l27 c27 k27
  have b__law_whole := F__law_whole.binds (ps := ["mark"]) fun _ _ _ _ _ _ us hl => match us, hl with | [_], _ => rfl
  have F__law_put := fun_mk (st := s__law_put) l28 c28 k28
  have b__law_put := F__law_put.binds (ps := ["marks", "more"]) fun _ _ _ _ _ _ us hl => match us, hl with | [_, _], _ => rfl
  have F__law_folded := fun_mk (st := s__law_folded) l29 c29 k29
  have b__law_folded := F__law_folded.binds (ps := ["marks", "one", "other"]) fun _ _ _ _ _ _ us hl => match us, hl with | [_, _, _], _ => rfl
  have F_law := fun_mk (st := s_law) l30 c30 k30
  have b_law := F_law.binds (ps := ["script"]) fun _ _ _ _ _ _ us hl => match us, hl with | [_], _ => rfl
  have i_gcd := PySem.W.mg_of X G i_gcd
  have q_TWO_1 : ∀ F : Hp, SqT K F p_TWO_1 [.int (2), .int (1)] ∧ RepAll K F [.int (2), .int (1)] [.int 2, .int 1] := fun F => ⟨.inr ⟨_, _, _, t_TWO_1, rfl, rfl, by show 2 ≤ sizeLine; decide, .cons (⟨_, rfl⟩) (.cons (⟨_, rfl⟩) (.nil))⟩, .cons (.int _) (.cons (.int _) (.nil))⟩
  have k_TWO : GC K mg "TWO" [.int 2, .int 1] := ⟨_, _, PySem.W.mg_of X G k_TWO, fun F => (q_TWO_1 F).1, fun F => (q_TWO_1 F).2⟩
  have m_list := PySem.W.mg_none_of X G z_list
  have m_len := PySem.W.mg_none_of X G z_len
  have m_range := PySem.W.mg_none_of X G z_range
  have m_enumerate := PySem.W.mg_none_of X G z_enumerate
  have m_int := PySem.W.mg_none_of X G z_int
  have m_isinstance := PySem.W.mg_none_of X G z_isinstance
  have m_bool := PySem.W.mg_none_of X G z_bool
  have m_str := PySem.W.mg_none_of X G z_str
  have m_tuple := PySem.W.mg_none_of X G z_tuple
  have m_all := PySem.W.mg_none_of X G z_all
  have m_dict := PySem.W.mg_none_of X G z_dict
  have m_sorted := PySem.W.mg_none_of X G z_sorted
  refine ⟨PySem.W.fnOf "law" "law" (defArgs s_law) (defBody s_law) (defScope s_law) .none kV30 dc30 pm30 an30 cd30 ct30, fun s v => .of_eq rfl, fun base _ _ => ?_⟩
  have K_frac : Kn l.prog w K mg base 1 "frac" ["p", "q"] (spP K 2 d_frac false) := ⟨f1, _, ok_frac F_frac i_gcd, b_frac, k1, PySem.W.mg_of X G a1⟩
  have K_plus : Kn l.prog w K mg base 2 "plus" ["a", "b"] (spP K 2 d_plus false) := ⟨f2, _, ok_plus F_plus K_frac, b_plus, k2, PySem.W.mg_of X G a2⟩
  have K_minus : Kn l.prog w K mg base 2 "minus" ["a", "b"] (spP K 2 d_minus false) := ⟨f3, _, ok_minus F_minus K_frac, b_minus, k3, PySem.W.mg_of X G a3⟩
  have K_times : Kn l.prog w K mg base 2 "times" ["a", "b"] (spP K 2 d_times false) := ⟨f4, _, ok_times F_times K_frac, b_times, k4, PySem.W.mg_of X G a4⟩
  have K_over : Kn l.prog w K mg base 2 "over" ["a", "b"] (spP K 2 d_over false) := ⟨f5, _, ok_over F_over K_frac, b_over, k5, PySem.W.mg_of X G a5⟩
  have K_less : Kn l.prog w K mg base 1 "less" ["a", "b"] (spP K 2 d_less false) := ⟨f6, _, ok_less F_less , b_less, k6, PySem.W.mg_of X G a6⟩
  have K_crease_of : Kn l.prog w K mg base 3 "crease_of" ["one", "other"] (spP K 2 d_crease_of false) := ⟨f7, _, ok_crease_of F_crease_of k_TWO K_plus K_over, b_crease_of, k7, PySem.W.mg_of X G a7⟩
  have K_mirrored : Kn l.prog w K mg base 3 "mirrored" ["crease", "mark"] (spP K 2 d_mirrored false) := ⟨f8, _, ok_mirrored F_mirrored k_TWO K_times K_minus, b_mirrored, k8, PySem.W.mg_of X G a8⟩
  have K_put_in : Kn l.prog w K mg base 2 "put_in" ["marks", "mark"] (spP K 2 d_put_in false) := ⟨f9, _, ok_put_in F_put_in m_list m_len K_less, b_put_in, k9, PySem.W.mg_of X G a9⟩
  have K_folded_marks : Kn l.prog w K mg base 4 "folded_marks" ["marks", "one", "other"] (spP K 3 d_folded_marks false) := ⟨f10, _, ok_folded_marks F_folded_marks K_mirrored K_put_in K_crease_of, b_folded_marks, k10, PySem.W.mg_of X G a10⟩
  have K_after : Kn l.prog w K mg base 5 "after" ["folds"] (spP K 1 d_after false) := ⟨f11, _, ok_after F_after K_folded_marks, b_after, k11, PySem.W.mg_of X G a11⟩
  have K_levels : Kn l.prog w K mg base 5 "levels" ["most"] (spP K 1 d_levels false) := ⟨f12, _, ok_levels F_levels m_range m_list m_enumerate K_put_in K_folded_marks, b_levels, k12, PySem.W.mg_of X G a12⟩
  have K_fewest_folds : Kn l.prog w K mg base 6 "fewest_folds" ["mark", "most"] (spP K 2 d_fewest_folds false) := ⟨f13, _, ok_fewest_folds F_fewest_folds m_enumerate K_levels, b_fewest_folds, k13, PySem.W.mg_of X G a13⟩
  have K__law_mixed : Kn l.prog w K mg base 1 "_law_mixed" ["number", "place"] (spP K 2 d__law_mixed false) := ⟨f14, _, ok__law_mixed F__law_mixed m_int, b__law_mixed, k14, PySem.W.mg_of X G a14⟩
  have K__law_rest : Kn l.prog w K mg base 2 "_law_rest" ["script", "place", "again"] (spP K 3 d__law_rest false) := ⟨f15, _, ok__law_rest F__law_rest m_len m_int K__law_mixed, b__law_rest, k15, PySem.W.mg_of X G a15⟩
  have K__law_pool : Kn l.prog w K mg base 3 "_law_pool" ["script"] (spP K 1 d__law_pool true) := ⟨f16, _, ok__law_pool F__law_pool K__law_rest, b__law_pool, k16, PySem.W.mg_of X G a16⟩
  have K__law_next : Kn l.prog w K mg base 3 "_law_next" ["pool"] (spI K 0 d__law_next) := ⟨f17, _, ok__law_next F__law_next K__law_rest, b__law_next, k17, PySem.W.mg_of X G a17⟩
  have K__law_draw : Kn l.prog w K mg base 3 "_law_draw" ["pool", "limit"] (spI K 1 d__law_draw) := ⟨f18, _, ok__law_draw F__law_draw m_int K__law_rest, b__law_draw, k18, PySem.W.mg_of X G a18⟩
  have K__law_pick : Kn l.prog w K mg base 4 "_law_pick" ["pool", "options"] (spI K 1 d__law_pick) := ⟨f19, _, ok__law_pick F__law_pick m_len K__law_draw, b__law_pick, k19, PySem.W.mg_of X G a19⟩
  have K__law_same : Kn l.prog w K mg base 13 "_law_same" ["answer", "due"] (spP K 2 (d__law_same 12) false) := ⟨f20, _, ok__law_same F__law_same b__law_same k20 (PySem.W.mg_of X G a20) m_isinstance m_bool m_int m_str m_tuple m_list m_len m_range m_all m_dict 12, b__law_same, k20, PySem.W.mg_of X G a20⟩
  have K__law_gcd : Kn l.prog w K mg base 1 "_law_gcd" ["a", "b"] (spP K 2 d__law_gcd false) := ⟨f21, _, ok__law_gcd F__law_gcd m_range m_int, b__law_gcd, k21, PySem.W.mg_of X G a21⟩
  have K__law_frac : Kn l.prog w K mg base 2 "_law_frac" ["p", "q"] (spP K 2 d__law_frac false) := ⟨f22, _, ok__law_frac F__law_frac K__law_gcd, b__law_frac, k22, PySem.W.mg_of X G a22⟩
  have K__law_add : Kn l.prog w K mg base 3 "_law_add" ["one", "other"] (spP K 2 d__law_add false) := ⟨f23, _, ok__law_add F__law_add K__law_frac, b__law_add, k23, PySem.W.mg_of X G a23⟩
  have K__law_sub : Kn l.prog w K mg base 3 "_law_sub" ["one", "other"] (spP K 2 d__law_sub false) := ⟨f24, _, ok__law_sub F__law_sub K__law_frac, b__law_sub, k24, PySem.W.mg_of X G a24⟩
  have K__law_mul : Kn l.prog w K mg base 3 "_law_mul" ["one", "other"] (spP K 2 d__law_mul false) := ⟨f25, _, ok__law_mul F__law_mul K__law_frac, b__law_mul, k25, PySem.W.mg_of X G a25⟩
  have K__law_power : Kn l.prog w K mg base 1 "_law_power" ["base", "many"] (spP K 2 d__law_power false) := ⟨f26, _, ok__law_power F__law_power m_range, b__law_power, k26, PySem.W.mg_of X G a26⟩
  have K__law_whole : Kn l.prog w K mg base 1 "_law_whole" ["mark"] (spP K 1 d__law_whole false) := ⟨f27, _, ok__law_whole F__law_whole , b__law_whole, k27, PySem.W.mg_of X G a27⟩
  have K__law_put : Kn l.prog w K mg base 2 "_law_put" ["marks", "more"] (spP K 2 d__law_put false) := ⟨f28, _, ok__law_put F__law_put m_sorted m_list K__law_whole, b__law_put, k28, PySem.W.mg_of X G a28⟩
  have K__law_folded : Kn l.prog w K mg base 4 "_law_folded" ["marks", "one", "other"] (spP K 3 d__law_folded false) := ⟨f29, _, ok__law_folded F__law_folded K__law_put K__law_add K__law_sub K__law_mul, b__law_folded, k29, PySem.W.mg_of X G a29⟩
  exact ok_law F_law m_range m_len m_list m_int K__law_same K_fewest_folds K__law_draw K__law_frac K_levels K__law_put K__law_folded K_put_in K__law_add K__law_sub K_mirrored K__law_pick K__law_power K_after K__law_next K__law_mul K_crease_of K_folded_marks K__law_pool
theorem walk {l : PySem.W.OpenLaw} {q : Program} {loose : List Str} {XP : (Str → Option Value) → Heap → Prop} {YP : World → Heap → Prop} {d : DefRec} {K : Params → PySem.W.Frag} (hn : l.most = some 63) (hdf : d.params.defaults = [])
    (hY : ∀ (w : World) (h : Heap), YP w h → (K w.params).In h)
    (F : ∀ (w : World) (mg : Str → Option Value) (fa : Addr) (h : Heap), (K w.params).In h → h.Ns mainGlobals mg → mg d.name = some (.ref fa) →
      ∃ fd : FuncData, (∀ (s : Shared) (u : Value), BindsTo s fd ⟨[u], []⟩ [("script", u)]) ∧ ∀ base : Heap, (K w.params).In base → base.Ns mainGlobals mg → FnOk l.prog w (K w.params) mg base CX0 14 fa fd ["script"] (spP (K w.params) 1 d_law false)) :
    PySem.W.WalkO q loose XP YP l.row.toRowW d [] (fun f vs => PySem.call f vs) :=
  L2.walk_ofB (n := 63) (k := 14) (x := "script") (CX := fun _ => CX0) (sp := fun w => spP (K w.params) 1 d_law false) hn (by decide) hdf ⟨rfl, by decide, by decide⟩ hY F (fun _ _ a ns hl hb _ hS => sp_end hS (law_true ns hl hb)) fun _ _ _ _ _ z => z
end Py.k13
open PySem PySem.W PyProof.Rows
set_option maxRecDepth 100000 in
set_option maxHeartbeats 0 in
theorem PySem.Challenge.cw_creasewise_k13_whole_marks_laid_on_marks_holds : PySem.Challenge.rw_creasewise_k13_whole_marks_laid_on_marks.Holds := by
  w_on; o_law; k_head; (case hw => w_witness2)
  k_fill
  refine Py.k13.walk (l := PySem.Challenge.rw_creasewise_k13_whole_marks_laid_on_marks) rfl rfl (fun w h Y => PySem.W.kIn_of Y) ?F
  case F =>
    intro w mg fa h KX G hmg
    refine' Py.k13.all_mk KX G hmg ?a1 ?l1 ?c1 ?k1 ?a2 ?l2 ?c2 ?k2 ?a3 ?l3 ?c3 ?k3 ?a4 ?l4 ?c4 ?k4 ?a5 ?l5 ?c5 ?k5 ?a6 ?l6 ?c6 ?k6 ?a7 ?l7 ?c7 ?k7 ?a8 ?l8 ?c8 ?k8 ?a9 ?l9 ?c9 ?k9 ?a10 ?l10 ?c10 ?k10 ?a11 ?l11 ?c11 ?k11 ?a12 ?l12 ?c12 ?k12 ?a13 ?l13 ?c13 ?k13 ?a14 ?l14 ?c14 ?k14 ?a15 ?l15 ?c15 ?k15 ?a16 ?l16 ?c16 ?k16 ?a17 ?l17 ?c17 ?k17 ?a18 ?l18 ?c18 ?k18 ?a19 ?l19 ?c19 ?k19 ?a20 ?l20 ?c20 ?k20 ?a21 ?l21 ?c21 ?k21 ?a22 ?l22 ?c22 ?k22 ?a23 ?l23 ?c23 ?k23 ?a24 ?l24 ?c24 ?k24 ?a25 ?l25 ?c25 ?k25 ?a26 ?l26 ?c26 ?k26 ?a27 ?l27 ?c27 ?k27 ?a28 ?l28 ?c28 ?k28 ?a29 ?l29 ?c29 ?k29 ?a30 ?l30 ?c30 ?k30 ?i_gcd ?k_TWO ?t_TWO_1 ?z_list ?z_len ?z_range ?z_enumerate ?z_int ?z_isinstance ?z_bool ?z_str ?z_tuple ?z_all ?z_dict ?z_sorted
    (case a1 => k_is)
    (case l1 => k_is)
    (case c1 => k_is)
    (case k1 => k_is)
    (case a2 => k_is)
    (case l2 => k_is)
    (case c2 => k_is)
    (case k2 => k_is)
    (case a3 => k_is)
    (case l3 => k_is)
    (case c3 => k_is)
    (case k3 => k_is)
    (case a4 => k_is)
    (case l4 => k_is)
    (case c4 => k_is)
    (case k4 => k_is)
    (case a5 => k_is)
    (case l5 => k_is)
    (case c5 => k_is)
    (case k5 => k_is)
    (case a6 => k_is)
    (case l6 => k_is)
    (case c6 => k_is)
    (case k6 => k_is)
    (case a7 => k_is)
    (case l7 => k_is)
    (case c7 => k_is)
    (case k7 => k_is)
    (case a8 => k_is)
    (case l8 => k_is)
    (case c8 => k_is)
    (case k8 => k_is)
    (case a9 => k_is)
    (case l9 => k_is)
    (case c9 => k_is)
    (case k9 => k_is)
    (case a10 => k_is)
    (case l10 => k_is)
    (case c10 => k_is)
    (case k10 => k_is)
    (case a11 => k_is)
    (case l11 => k_is)
    (case c11 => k_is)
    (case k11 => k_is)
    (case a12 => k_is)
    (case l12 => k_is)
    (case c12 => k_is)
    (case k12 => k_is)
    (case a13 => k_is)
    (case l13 => k_is)
    (case c13 => k_is)
    (case k13 => k_is)
    (case a14 => k_is)
    (case l14 => k_is)
    (case c14 => k_is)
    (case k14 => k_is)
    (case a15 => k_is)
    (case l15 => k_is)
    (case c15 => k_is)
    (case k15 => k_is)
    (case a16 => k_is)
    (case l16 => k_is)
    (case c16 => k_is)
    (case k16 => k_is)
    (case a17 => k_is)
    (case l17 => k_is)
    (case c17 => k_is)
    (case k17 => k_is)
    (case a18 => k_is)
    (case l18 => k_is)
    (case c18 => k_is)
    (case k18 => k_is)
    (case a19 => k_is)
    (case l19 => k_is)
    (case c19 => k_is)
    (case k19 => k_is)
    (case a20 => k_is)
    (case l20 => k_is)
    (case c20 => k_is)
    (case k20 => k_is)
    (case a21 => k_is)
    (case l21 => k_is)
    (case c21 => k_is)
    (case k21 => k_is)
    (case a22 => k_is)
    (case l22 => k_is)
    (case c22 => k_is)
    (case k22 => k_is)
    (case a23 => k_is)
    (case l23 => k_is)
    (case c23 => k_is)
    (case k23 => k_is)
    (case a24 => k_is)
    (case l24 => k_is)
    (case c24 => k_is)
    (case k24 => k_is)
    (case a25 => k_is)
    (case l25 => k_is)
    (case c25 => k_is)
    (case k25 => k_is)
    (case a26 => k_is)
    (case l26 => k_is)
    (case c26 => k_is)
    (case k26 => k_is)
    (case a27 => k_is)
    (case l27 => k_is)
    (case c27 => k_is)
    (case k27 => k_is)
    (case a28 => k_is)
    (case l28 => k_is)
    (case c28 => k_is)
    (case k28 => k_is)
    (case a29 => k_is)
    (case l29 => k_is)
    (case c29 => k_is)
    (case k29 => k_is)
    (case a30 => k_is)
    (case l30 => k_is)
    (case c30 => k_is)
    (case k30 => k_is)
    (case i_gcd => k_is)
    (case k_TWO => k_is)
    (case t_TWO_1 => k_is)
    (case z_list => k_is)
    (case z_len => k_is)
    (case z_range => k_is)
    (case z_enumerate => k_is)
    (case z_int => k_is)
    (case z_isinstance => k_is)
    (case z_bool => k_is)
    (case z_str => k_is)
    (case z_tuple => k_is)
    (case z_all => k_is)
    (case z_dict => k_is)
    (case z_sorted => k_is)
