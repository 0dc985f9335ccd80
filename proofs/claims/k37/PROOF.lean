import PyProof.Rows.All
import HandS.ForMost
import HandS.Wide
import HandS.Style
import HandS.TupAny
import HandS.TupMul
import HandS.Zip
import HandS.Deep
import HandS.Flt
import KE.SortData
import KE.SortLaws
import KE.DataEq
import KE.DataCmp
import KE.DataMinMax
import KE.DataAny
import KE.DataFind
import KE.DataIsa
import PySem.Challenge.RW_onecharge_k37_whole_known_ways_up_and_do
set_option Elab.async false
set_option linter.all false
set_option maxRecDepth 100000
set_option autoImplicit false

section
/-! EvA: a small language of our own (E, S), its evaluator over PyData, and the look that a piece of the program's text is that piece (mt..). -/
namespace EV
open PySem PySem.Spec PyProof.Rows L2
open PySem.W (dataLt alike)
open PySem.W (minD maxD)

abbrev D := PyData
inductive Bop where | add | sub | mul | fdiv | mod | pow | shl | shr | band
  deriving DecidableEq
inductive Cop where | eq | ne | lt | le | gt | ge | inn | nin | is | isn
  deriving DecidableEq
inductive Bi where | len | sum | max | min | sorted | tuple | list | abs | int | all | any | dict | range | zip | isint | isbool | istup | isstr | sortset | lenset | tuprange | listrange
  deriving DecidableEq
inductive Mt where | index | count | get
  deriving DecidableEq
inductive Tg where | nm (i : Nat) | tp (ts : List Tg)
inductive E where
  | var (i : Nat) | int (i : Int) | str (s : Str) | bl (b : Bool) | non
  | op (o : Bop) (a b : E) | neg (a : E) | not (a : E) | and (a b : E) | or (a b : E)
  | cmp (o : Cop) (a b : E) | chn (o o' : Cop) (a b c : E) | ifx (t a b : E)
  | tup (es : List E) | lst (es : List E) | call (f : Nat) (es : List E) | bi (f : Bi) (es : List E)
  | idx (a i : E) | slc (a : E) (lo hi : Option E) | rev (a : E) | mth (m : Mt) (o : E) (es : List E)
  | comp (own : List Nat) (tg : Tg) (it : E) (ifs : List E) (elt : E)
  | comp2 (own : List Nat) (tg : Tg) (it : E) (tg2 : Tg) (it2 : E) (ifs : List E) (elt : E)
  | dic (t : Bool) (ks vs : List E)
inductive Sm where | append | extend | remove | sort | update
  deriving DecidableEq
inductive S where
  | asg (t : Tg) (e : E) | par (ts : List Nat) (es : List E) | set (x : Nat) (i e : E)
  | aug (x : Nat) (o : Bop) (e : E) | augs (x : Nat) (i : E) (o : Bop) (e : E)
  | sm (m : Sm) (x : Nat) (es : List E) | pop (t : Tg) (x : Nat) (e : E)
  | ret (e : E) | retN | ite (t : E) (a b : List S) | whl (t : E) (b : List S) | for (t : Tg) (it : E) (b : List S)
  | brk | cont | pass | frz (x : Nat)

/-! ### values -/
def WLD : D := .dict [(.none, .none)]
/-- a slot: nothing known; a value; a list or dict that this frame alone holds -/
inductive Sl where | u | v (d : D) | o (d : D)
abbrev Env := List Sl
def getV (ρ : Env) (i : Nat) : Option D := match ρ[i]? with | some (.v d) => some d | _ => none
def getB (ρ : Env) (i : Nat) : Option D := match ρ[i]? with | some (.v d) => some d | some (.o d) => some d | _ => none
def getO (ρ : Env) (i : Nat) : Option D := match ρ[i]? with | some (.o d) => some d | _ => none
def frzE (ρ : Env) (i : Nat) : Env := match ρ[i]? with | some (.o d) => ρ.set i (.v d) | _ => ρ
def wipeE (ρ : Env) : List Nat → Env
  | [] => ρ
  | v :: vs => (wipeE ρ vs).set v .u
def bnd {α β : Type} (m : Option (α × Nat)) (f : α → Nat → Option β) : Option β := match m with | some (a, n) => f a n | none => none
theorem bnd_some {α β : Type} (a : α) (n : Nat) (f : α → Nat → Option β) : bnd (some (a, n)) f = f a n := rfl
theorem bnd_none {α β : Type} (f : α → Nat → Option β) : bnd none f = none := rfl

/-- so small that Python's product is easy -/
def small (i : Int) : Bool := decide (-18446744073709551616 < i) && decide (i < 18446744073709551616)
def opV : Bop → D → D → Option D
  | .add, .int a, .int b => some (.int (a + b))
  | .add, .str a, .str b => if a.length + b.length ≤ 1000000 then some (.str (a ++ b)) else none
  | .add, .tuple a, .tuple b => if a.length + b.length ≤ 1000000 then some (.tuple (a ++ b)) else none
  | .add, .list a, .list b => if a.length + b.length ≤ 1000000 then some (.list (a ++ b)) else none
  | .sub, .int a, .int b => some (.int (a - b))
  | .mul, .int a, .int b => if small a && small b then some (.int (a * b)) else none
  | .mul, .tuple a, .int k => if decide (-1000 ≤ k) && decide (k ≤ 1000) && decide (a.length ≤ 1000) then some (.tuple (List.replicate k.toNat a).flatten) else none
  | .mul, .list a, .int k => if decide (-1000 ≤ k) && decide (k ≤ 1000) && decide (a.length ≤ 1000) then some (.list (List.replicate k.toNat a).flatten) else none
  | .fdiv, .int a, .int b => if 0 < b ∧ b < 1000000000 then some (.int (a / b)) else if b < 0 ∧ -1000000000 < b then some (.int (a.fdiv b)) else none
  | .mod, .int a, .int b => if 0 < b then some (.int (a % b)) else if b < 0 then some (.int (a.fmod b)) else none
  | .pow, .int a, .int b => if 0 ≤ b ∧ b ≤ 1000 ∧ small a then some (.int (a ^ b.toNat)) else none
  | .shl, .int a, .int b => if 0 ≤ b ∧ b ≤ 1000 ∧ small a then some (.int (a * 2 ^ b.toNat)) else none
  | .shr, .int a, .int b => if 0 ≤ b then some (.int (a / 2 ^ b.toNat)) else none
  | .band, .int a, .int b => some (.int (Builtin.bitAnd a b))
  | _, _, _ => none
/-- data without dicts, not deeper than k -/
def okB : Nat → D → Bool
  | 0, _ => false
  | _ + 1, .none => true
  | _ + 1, .bool _ => true
  | _ + 1, .int _ => true
  | _ + 1, .str _ => true
  | k + 1, .list xs => xs.all (okB k)
  | k + 1, .tuple xs => xs.all (okB k)
  | _ + 1, .dict _ => false
def isNon : D → Bool
  | .none => true
  | _ => false
def ordOk (a b : D) : Bool := alike a b && !isNon a && okB 8 a && okB 8 b
def memV (x : D) (ys : List D) : Bool := ys.any fun y => PyData.eqv y x
def keyOk : D → Bool
  | .int _ => true
  | .str _ => true
  | _ => false
def tkeyOk : D → Bool
  | .tuple ds => ds.all keyOk
  | _ => false
def dlook : List (D × D) → D → Option D
  | [], _ => none
  | (k, v) :: r, x => if PyData.eqv k x then some v else dlook r x
def dput : List (D × D) → D → D → List (D × D)
  | [], x, y => [(x, y)]
  | (k, v) :: r, x, y => if PyData.eqv k x then (k, y) :: r else (k, v) :: dput r x y
def isOf : D → D → Option Bool
  | .none, .none => some true
  | .dict _, .none => none
  | _, .none => some false
  | .bool a, .bool b => some (decide (a = b))
  | _, _ => none
def cmpV : Cop → D → D → Option D
  | .eq, .int a, .int b => some (.bool (decide (a = b)))
  | .ne, .int a, .int b => some (.bool (!decide (a = b)))
  | .lt, .int a, .int b => some (.bool (decide (a < b)))
  | .le, .int a, .int b => some (.bool (decide (a ≤ b)))
  | .gt, .int a, .int b => some (.bool (decide (b < a)))
  | .ge, .int a, .int b => some (.bool (decide (b ≤ a)))
  | .eq, a, b => if okB 8 a && okB 8 b then some (.bool (PyData.eqv a b)) else none
  | .ne, a, b => if okB 8 a && okB 8 b then some (.bool (!PyData.eqv a b)) else none
  | .lt, a, b => if ordOk a b then some (.bool (dataLt a b)) else none
  | .gt, a, b => if ordOk a b then some (.bool (dataLt b a)) else none
  | .le, a, b => if ordOk a b then some (.bool (!dataLt b a)) else none
  | .ge, a, b => if ordOk a b then some (.bool (!dataLt a b)) else none
  | .inn, x, .list ys => if okB 8 x && ys.all (okB 8) then some (.bool (memV x ys)) else none
  | .inn, x, .tuple ys => if okB 8 x && ys.all (okB 8) then some (.bool (memV x ys)) else none
  | .nin, x, .list ys => if okB 8 x && ys.all (okB 8) then some (.bool (!memV x ys)) else none
  | .nin, x, .tuple ys => if okB 8 x && ys.all (okB 8) then some (.bool (!memV x ys)) else none
  | .is, a, b => (isOf a b).map .bool
  | .isn, a, b => (isOf a b).map fun k => .bool !k
  | _, _, _ => none
def idxV : D → D → Option D
  | .tuple xs, .int i => atI xs i
  | .list xs, .int i => atI xs i
  | .str z, .int i => if z.length ≤ 1000000 then (atI z.cps.toList i).map fun c => .str ⟨#[c]⟩ else none
  | _, _ => none
def cutL (xs : List D) (lo hi : Option Int) : List D := (xs.drop (HT.sIx xs.length 0 lo)).take (HT.sIx xs.length xs.length hi - HT.sIx xs.length 0 lo)
def slcV : D → Option Int → Option Int → Option D
  | .tuple xs, lo, hi => some (.tuple (cutL xs lo hi))
  | .list xs, lo, hi => some (.list (cutL xs lo hi))
  | _, _, _ => none
def revV : D → Option D
  | .list xs => some (.list xs.reverse)
  | .tuple xs => some (.tuple xs.reverse)
  | _ => none
def intsOf : List D → Option (List Int)
  | [] => some []
  | .int i :: r => (intsOf r).map (i :: ·)
  | _ => none
def boolsOf : List D → Option (List Bool)
  | [] => some []
  | .bool b :: r => (boolsOf r).map (b :: ·)
  | _ => none
def max2 (m n : Int) : Int := if n > m then n else m
def min2 (m n : Int) : Int := if n < m then n else m
def isI : D → Bool
  | .int _ => true
  | _ => false
def isMut : D → Bool
  | .list _ => true
  | .dict _ => true
  | _ => false
/-- all can be compared with all -/
def cmpAll (xs : List D) : Bool := xs.all isI || (xs.all fun a => okB 8 a && !isNon a && !isMut a && xs.all fun b => alike a b)
def minL : List D → Option D
  | [] => none
  | x :: xs => if cmpAll (x :: xs) then some (minD x xs) else none
def maxL : List D → Option D
  | [] => none
  | x :: xs => if cmpAll (x :: xs) then some (maxD x xs) else none
def insD (x : D) : List D → List D
  | [] => [x]
  | y :: ys => if dataLt y x then y :: insD x ys else x :: y :: ys
def sortD (xs : List D) : List D := xs.foldr insD []
def isTupC : D → Bool
  | .tuple (_ :: _) => true
  | _ => false
def isAtm : D → Bool
  | .bool _ => true
  | .int _ => true
  | .str _ => true
  | _ => false
def sortOk (xs : List D) : Bool := xs.all (okB 8) && (xs.all isI || xs.all fun a => xs.all fun b => alike a b) && (xs.all isTupC || xs.all isAtm) && decide (xs.length ≤ 1000000)
def rangeL (lo hi : Int) : List D := (List.range (hi - lo).toNat).map fun (k : Nat) => .int (lo + k)
def lim62 (i : Int) : Bool := decide (-4611686018427387904 ≤ i) && decide (i < 4611686018427387904)
def biV : Bi → List D → Option D
  | .len, [.list xs] => some (.int xs.length)
  | .len, [.tuple xs] => some (.int xs.length)
  | .len, [.str z] => if z.length ≤ 1000000 then some (.int z.length) else none
  | .sum, [.list xs] => (intsOf xs).map fun ns => .int ns.sum
  | .abs, [.int i] => some (.int (if i < 0 then -i else i))
  | .int, [.int i] => some (.int i)
  | .int, [.bool b] => some (.int (if b then 1 else 0))
  | .max, [.int m, .int n] => some (.int (max2 m n))
  | .min, [.int m, .int n] => some (.int (min2 m n))
  | .sum, [.tuple xs] => (intsOf xs).map fun ns => .int ns.sum
  | .max, [.list xs] => maxL xs
  | .max, [.tuple xs] => maxL xs
  | .min, [.list xs] => minL xs
  | .min, [.tuple xs] => minL xs
  | .max, [.int a, .int b, .int c] => some (.int (max2 (max2 a b) c))
  | .min, [.int a, .int b, .int c] => some (.int (min2 (min2 a b) c))
  | .sorted, [.list xs] => if sortOk xs then some (.list (sortD xs)) else none
  | .all, [.list xs] => (boolsOf xs).map fun bs => .bool (bs.all id)
  | .any, [.list xs] => (boolsOf xs).map fun bs => .bool (bs.any id)
  | .tuple, [.list xs] => some (.tuple xs)
  | .tuple, [.tuple xs] => some (.tuple xs)
  | .list, [.list xs] => some (.list xs)
  | .list, [.tuple xs] => some (.list xs)
  | .range, [.int n] => if lim62 n then some (.list (rangeL 0 n)) else none
  | .range, [.int a, .int b] => if lim62 a && lim62 b then some (.list (rangeL a b)) else none
  | _, _ => none
def mtV : Mt → D → List D → Option D
  | _, _, _ => none
def iterV : D → Option (List D)
  | .list xs => some xs
  | .tuple xs => some xs
  | _ => none
/-- an expression whose list or dict is new -/
structure Fns where
  ev : Nat → List D → Nat → Option (D × Nat)
  fr : Nat → Bool
  wb : Nat
def frsh (Φ : Fns) : E → Bool
  | .lst _ => true
  | .op .. => true
  | .slc .. => true
  | .rev _ => true
  | .comp .. => true
  | .comp2 .. => true
  | .dic .. => true
  | .bi .. => true
  | .call f _ => Φ.fr f
  | _ => false
/-- what a name comes to hold -/
def hold (fr : Bool) (d : D) : Sl := if fr && isMut d then .o d else .v d
mutual
def bindT : Tg → Bool → D → Env → Option Env
  | .nm i, fr, d, ρ => some (ρ.set i (hold fr d))
  | .tp ts, _, .tuple ds, ρ => bindTs ts ds ρ
  | .tp _, _, _, _ => none
def bindTs : List Tg → List D → Env → Option Env
  | [], [], ρ => some ρ
  | t :: ts, d :: ds, ρ => (bindT t false d ρ).bind fun ρ' => bindTs ts ds ρ'
  | _, _, _ => none
end
def asB : D → Option Bool
  | .bool b => some b
  | _ => none
/-- a walk with a step that may leave an item out -/
def walkL (step : D → Nat → Option (List D × Nat)) : List D → Nat → Option (List D × Nat)
  | [], n => some ([], n)
  | x :: xs, n => bnd (step x n) fun o n => bnd (walkL step xs n) fun r n => some (o ++ r, n)
def isVar : E → Option Nat
  | .var i => some i
  | _ => none
/-- an operand: a list of one's own may be read -/
def evB (f : Env → Nat → Option (D × Nat)) (e : E) (ρ : Env) (n : Nat) : Option (D × Nat) := match isVar e with
  | some i => (getB ρ i).map fun d => (d, n)
  | none => f ρ n
mutual
def evE (Φ : Fns) : E → Env → Nat → Option (D × Nat)
  | .var i, ρ, n => (getV ρ i).map fun d => (d, n)
  | .int i, _, n => some (.int i, n)
  | .str s, _, n => some (.str s, n)
  | .bl b, _, n => some (.bool b, n)
  | .non, _, n => some (.none, n)
  | .op o a b, ρ, n => bnd (evB (evE Φ a) a ρ n) fun x n => bnd (evB (evE Φ b) b ρ n) fun y n => (opV o x y).map fun z => (z, n)
  | .neg a, ρ, n => bnd (evE Φ a ρ n) fun x n => match x with | .int i => some (.int (-i), n) | _ => none
  | .not a, ρ, n => bnd (evE Φ a ρ n) fun x n => (asB x).map fun k => (.bool !k, n)
  | .and a b, ρ, n => bnd (evE Φ a ρ n) fun x n => (asB x).bind fun k => bif k then evE Φ b ρ n else some (.bool false, n)
  | .or a b, ρ, n => bnd (evE Φ a ρ n) fun x n => (asB x).bind fun k => bif k then some (.bool true, n) else evE Φ b ρ n
  | .cmp o a b, ρ, n => bnd (evB (evE Φ a) a ρ n) fun x n => bnd (evB (evE Φ b) b ρ n) fun y n => (cmpV o x y).map fun z => (z, n)
  | .chn o o' a b c, ρ, n => bnd (evB (evE Φ a) a ρ n) fun x n => bnd (evB (evE Φ b) b ρ n) fun y n => (cmpV o x y).bind fun z => (asB z).bind fun k =>
      bif k then bnd (evB (evE Φ c) c ρ n) fun w n => (cmpV o' y w).map fun z => (z, n) else some (.bool false, n)
  | .ifx t a b, ρ, n => bnd (evE Φ t ρ n) fun x n => (asB x).bind fun k => bif k then evE Φ a ρ n else evE Φ b ρ n
  | .tup es, ρ, n => bnd (evEs Φ es ρ n) fun xs n => some (.tuple xs, n)
  | .lst es, ρ, n => bnd (evEs Φ es ρ n) fun xs n => some (.list xs, n)
  | .call f es, ρ, n => bnd (evEs Φ es ρ n) fun xs n => Φ.ev f xs n
  | .bi f es, ρ, n => bnd (evBs Φ es ρ n) fun xs n => (biV f xs).map fun z => (z, n)
  | .idx a i, ρ, n => bnd (evB (evE Φ a) a ρ n) fun x n => bnd (evE Φ i ρ n) fun y n => (idxV x y).map fun z => (z, n)
  | .slc a lo hi, ρ, n => bnd (evB (evE Φ a) a ρ n) fun x n => bnd (evO Φ lo ρ n) fun l n => bnd (evO Φ hi ρ n) fun h n => (slcV x l h).map fun z => (z, n)
  | .rev a, ρ, n => bnd (evB (evE Φ a) a ρ n) fun x n => (revV x).map fun z => (z, n)
  | .mth m o es, ρ, n => bnd (evB (evE Φ o) o ρ n) fun x n => bnd (evEs Φ es ρ n) fun ys n => (mtV m x ys).map fun z => (z, n)
  | .comp own tg it ifs elt, ρ, n => bnd (evB (evE Φ it) it ρ n) fun x n => (iterV x).bind fun xs =>
      bnd (walkL (fun x n => (bindT tg false x (wipeE ρ own)).bind fun ρ' => bnd (evT Φ ifs ρ' n) fun k n => bif k then bnd (evE Φ elt ρ' n) fun y n => some ([y], n) else some ([], n)) xs n) fun ys n => if ys.length ≤ 1000000 then some (.list ys, n) else none
  | .comp2 own tg it tg2 it2 ifs elt, ρ, n => bnd (evB (evE Φ it) it ρ n) fun x n => (iterV x).bind fun xs =>
      bnd (walkL (fun x n => (bindT tg false x (wipeE ρ own)).bind fun ρ1 => bnd (evB (evE Φ it2) it2 ρ1 n) fun z n => (iterV z).bind fun zs =>
        walkL (fun z n => (bindT tg2 false z ρ1).bind fun ρ' => bnd (evT Φ ifs ρ' n) fun k n => bif k then bnd (evE Φ elt ρ' n) fun y n => some ([y], n) else some ([], n)) zs n) xs n) fun ys n => if ys.length ≤ 1000000 then some (.list ys, n) else none
  | .dic _ _ _, _, _ => none
def evO (Φ : Fns) : Option E → Env → Nat → Option (Option Int × Nat)
  | none, _, n => some (none, n)
  | some e, ρ, n => bnd (evE Φ e ρ n) fun x n => match x with | .int i => some (some i, n) | _ => none
def evEs (Φ : Fns) : List E → Env → Nat → Option (List D × Nat)
  | [], _, n => some ([], n)
  | e :: es, ρ, n => bnd (evE Φ e ρ n) fun x n => bnd (evEs Φ es ρ n) fun xs n => some (x :: xs, n)
def evBs (Φ : Fns) : List E → Env → Nat → Option (List D × Nat)
  | [], _, n => some ([], n)
  | e :: es, ρ, n => bnd (evB (evE Φ e) e ρ n) fun x n => bnd (evBs Φ es ρ n) fun xs n => some (x :: xs, n)
/-- a clause's tests, at most one -/
def evT (Φ : Fns) : List E → Env → Nat → Option (Bool × Nat)
  | [], _, n => some (true, n)
  | e :: es, ρ, n => bnd (evE Φ e ρ n) fun x n => (asB x).bind fun k => if es.isEmpty then some (k, n) else none
end
end EV

/-! EvB: statements, and the look that a piece of the text is a piece of ours. -/
namespace EV
open PySem PySem.Spec PyProof.Rows L2

/-! ### statements -/
inductive Fl where | nx | brk | ct | ret (d : D) (f : Bool)
abbrev Out := Option (Fl × Env × Nat)
def bns (m : Out) (k : Env → Nat → Out) : Out := match m with
  | some (.nx, ρ, n) => k ρ n
  | r => r
def forL (step : D → Env → Nat → Out) : List D → Env → Nat → Out
  | [], ρ, n => some (.nx, ρ, n)
  | x :: xs, ρ, n => match step x ρ n with
    | some (.nx, ρ, n) => forL step xs ρ n
    | some (.ct, ρ, n) => forL step xs ρ n
    | some (.brk, ρ, n) => some (.nx, ρ, n)
    | r => r
def whlL (test : Env → Nat → Option (D × Nat)) (step : Env → Nat → Out) : Nat → Env → Nat → Out
  | 0, _, _ => none
  | f + 1, ρ, n => bnd (test ρ n) fun x n => (asB x).bind fun b => bif b then
      (match step ρ n with
      | some (.nx, ρ, n) => whlL test step f ρ n
      | some (.ct, ρ, n) => whlL test step f ρ n
      | some (.brk, ρ, n) => some (.nx, ρ, n)
      | r => r)
    else some (.nx, ρ, n)
def setV : D → D → D → Option D
  | .list xs, .int i, y => (ixN xs.length i).map fun j => .list (xs.set j y)
  | _, _, _ => none
/-- what a method makes of the object itself -/
def smV : Sm → D → List D → Option D
  | .append, .list xs, [y] => if xs.length < 1000000 then some (.list (xs ++ [y])) else none
  | .extend, .list xs, [.list ys] => if xs.length + ys.length < 1000000 then some (.list (xs ++ ys)) else none
  | _, _, _ => none
def popV : D → D → Option (D × D)
  | _, _ => none
def parB (Φ : Fns) : List Nat → List E → List D → Env → Option Env
  | [], [], [], ρ => some ρ
  | i :: is, e :: es, d :: ds, ρ => parB Φ is es ds (ρ.set i (hold (frsh Φ e) d))
  | _, _, _, _ => none
def isInt : D → Bool
  | .int _ => true
  | _ => false
mutual
def evS (Φ : Fns) : S → Env → Nat → Out
  | .asg t e, ρ, n => match isVar e with
    | some j => (getB ρ j).bind fun d => (bindT t false d (frzE ρ j)).map fun ρ' => (.nx, ρ', n)
    | none => bnd (evE Φ e ρ n) fun d n => (bindT t (frsh Φ e) d ρ).map fun ρ' => (.nx, ρ', n)
  | .par ts es, ρ, n => bnd (evEs Φ es ρ n) fun ds n => (parB Φ ts es ds ρ).map fun ρ' => (.nx, ρ', n)
  | .set x i e, ρ, n => bnd (evE Φ e ρ n) fun y n => bnd (evE Φ i ρ n) fun k n => (getO ρ x).bind fun d => (setV d k y).map fun d' => (.nx, ρ.set x (.o d'), n)
  | .aug x o e, ρ, n => (getV ρ x).bind fun d => bnd (evE Φ e ρ n) fun y n => if isInt d && isInt y then (opV o d y).map fun z => (.nx, ρ.set x (.v z), n) else none
  | .augs x i o e, ρ, n => (getO ρ x).bind fun d => bnd (evE Φ i ρ n) fun k n => (idxV d k).bind fun a => bnd (evE Φ e ρ n) fun y n =>
      if isInt a && isInt y then (opV o a y).bind fun z => (setV d k z).map fun d' => (.nx, ρ.set x (.o d'), n) else none
  | .sm m x es, ρ, n => (getO ρ x).bind fun d => bnd (evEs Φ es ρ n) fun ys n => (smV m d ys).map fun d' => (.nx, ρ.set x (.o d'), n)
  | .pop t x e, ρ, n => none
  | .ret e, ρ, n => bnd (evB (evE Φ e) e ρ n) fun d n => some (.ret d (frsh Φ e || (isVar e).any fun i => (getO ρ i).isSome), ρ, n)
  | .retN, ρ, n => some (.ret .none false, ρ, n)
  | .ite t a b, ρ, n => bnd (evE Φ t ρ n) fun x n => (asB x).bind fun k => bif k then evSs Φ a ρ n else evSs Φ b ρ n
  | .whl t b, ρ, n => whlL (evE Φ t) (evSs Φ b) Φ.wb ρ n
  | .for t it b, ρ, n => bnd (evE Φ it ρ n) fun x n => (iterV x).bind fun xs => forL (fun x ρ n => (bindT t false x ρ).bind fun ρ' => evSs Φ b ρ' n) xs ρ n
  | .brk, ρ, n => some (.brk, ρ, n)
  | .cont, ρ, n => some (.ct, ρ, n)
  | .pass, ρ, n => some (.nx, ρ, n)
  | .frz x, ρ, n => some (.nx, frzE ρ x, n)
def evSs (Φ : Fns) : List S → Env → Nat → Out
  | [], ρ, n => some (.nx, ρ, n)
  | s :: ss, ρ, n => bns (evS Φ s ρ n) fun ρ n => evSs Φ ss ρ n
end
/-- a def: m names in all -/
def evF (Φ : Fns) (fr : Bool) (np m : Nat) (body : List S) (args : List D) (n : Nat) : Option (D × Nat) :=
  if args.length ≠ np then none else match evSs Φ body (args.map Sl.v ++ List.replicate (m - np) Sl.u) n with
  | some (.ret d f, _, n') => if fr && !f then none else some (d, n')
  | some (.nx, _, n') => if fr then none else some (.none, n')
  | _ => none

/-! ### the look -/
def all2 {α β : Type} (f : α → β → Bool) : List α → List β → Bool
  | [], [] => true
  | a :: as, b :: bs => f a b && all2 f as bs
  | _, _ => false
def opIs : Operator → Bop → Bool
  | .Add, .add => true | .Sub, .sub => true | .Mult, .mul => true | .FloorDiv, .fdiv => true | .Mod, .mod => true
  | .Pow, .pow => true | .LShift, .shl => true | .RShift, .shr => true | .BitAnd, .band => true | _, _ => false
def cmpIs : CmpOp → Cop → Bool
  | .Eq, .eq => true | .NotEq, .ne => true | .Lt, .lt => true | .LtE, .le => true | .Gt, .gt => true | .GtE, .ge => true
  | .In, .inn => true | .NotIn, .nin => true | .Is, .is => true | .IsNot, .isn => true | _, _ => false
def visB (sc : Scope) (x : Str) : Bool := match sc.names.lookup x with
  | some .local => true | some .cell => true | some .free => true | _ => false
def glB (sc : Scope) (x : Str) : Bool := sc.names.lookup x == some .globalImplicit
/-- a name that may be stored: a local; in the def itself a cell too; in a block its own cell -/
def locB (sc : Scope) (x : Str) : Bool := match sc.names.lookup x with
  | some .local => true | some .cell => true | _ => false
def biName : Bi → Str
  | .len => "len" | .sum => "sum" | .max => "max" | .min => "min" | .sorted => "sorted" | .tuple => "tuple" | .list => "list" | .abs => "abs" | .int => "int"
  | .all => "all" | .any => "any" | .dict => "dict" | .range => "range" | .zip => "zip" | _ => "?"
/-- built-ins whose value is data -/
def biVal : Bi → Bool
  | .len => true | .sum => true | .max => true | .min => true | .sorted => true | .tuple => true | .list => true | .abs => true | .int => true
  | .all => true | .any => true | .dict => true | _ => false
def noSet : Expr → Bool
  | .Set .. => false
  | _ => true
/-- targets; cells: whether a cell may be stored -/
def mtT (N : List Str) (sc : Scope) : Nat → Expr → Tg → Bool
  | 0, _, _ => false
  | k + 1, .Name x _, .nm i => decide (N[i]? = some x) && locB sc x
  | k + 1, .Tuple es _ _, .tp ts => all2 (mtT N sc k) es ts
  | _, _, _ => false
mutual
def tgSlots : Tg → List Nat
  | .nm i => [i]
  | .tp ts => tgsSlots ts
def tgsSlots : List Tg → List Nat
  | [] => []
  | t :: ts => tgSlots t ++ tgsSlots ts
end
mutual
def mtE (Γ N : List Str) : Nat → Scope → Expr → E → Bool
  | 0, _, _, _ => false
  | k + 1, sc, e, c => match e, c with
    | .Name x _, .var i => decide (N[i]? = some x) && visB sc x && !(x == ("__debug__" : Str)) && !(x == ("__classdict__" : Str))
    | .Constant (.int i) _ _, .int j => i == j
    | .Constant (.bool a) _ _, .bl b => a == b
    | .Constant (.str a) _ _, .str b => decide (a = b)
    | .Constant .none _ _, .non => true
    | .BoolOp _ [a] _, c => mtE Γ N k sc a c
    | .BoolOp .And (a :: b :: r) p, .and a' c' => mtE Γ N k sc a a' && mtE Γ N k sc (.BoolOp .And (b :: r) p) c'
    | .BoolOp .Or (a :: b :: r) p, .or a' c' => mtE Γ N k sc a a' && mtE Γ N k sc (.BoolOp .Or (b :: r) p) c'
    | .BinOp a o b _, .op o' a' b' => opIs o o' && mtE Γ N k sc a a' && mtE Γ N k sc b b'
    | .UnaryOp .USub a _, .neg a' => mtE Γ N k sc a a'
    | .UnaryOp .Not a _, .not a' => mtE Γ N k sc a a'
    | .Compare a [o] [b] _, .cmp o' a' b' => cmpIs o o' && mtE Γ N k sc a a' && mtE Γ N k sc b b'
    | .Compare a [o, o2] [b, d] _, .chn o' o2' a' b' d' => cmpIs o o' && cmpIs o2 o2' && mtE Γ N k sc a a' && mtE Γ N k sc b b' && mtE Γ N k sc d d'
    | .IfExp t a b _, .ifx t' a' b' => mtE Γ N k sc t t' && mtE Γ N k sc a a' && mtE Γ N k sc b b'
    | .Tuple es _ _, .tup es' => decide (es.length ≤ 1000) && all2 (mtE Γ N k sc) es es'
    | .List es _, .lst es' => decide (es.length ≤ 1000) && all2 (mtE Γ N k sc) es es'
    | .Call (.Name x _) (e :: es) [] _, .call f es' => decide (Γ[f]? = some x) && glB sc x && !(x == ("__debug__" : Str)) && all2 (mtE Γ N k sc) (e :: es) es'
    | .Call (.Name x _) (e :: es) [] _, .bi f es' => decide (biName f = x) && biVal f && glB sc x && all2 (mtE Γ N k sc) (e :: es) es'
    | .Subscript a (.Slice lo hi none _) _, .slc a' lo' hi' => mtE Γ N k sc a a' && mtO Γ N k sc lo lo' && mtO Γ N k sc hi hi'
    | .Subscript a (.Slice none none (some (.UnaryOp .USub (.Constant (.int 1) _ _) _)) _) _, .rev a' => mtE Γ N k sc a a'
    | .Subscript a i _, .idx a' i' => mtE Γ N k sc a a' && mtE Γ N k sc i i'
    | .ListComp elt [⟨tg, it, ifs, 0⟩] scope _, .comp own tg' it' ifs' elt' =>
      blkC N sc scope (own.map fun i => (N.getD i "", i)) && noSet it && mtI Γ N k sc it it' && mtT N scope k tg tg' && (tgSlots tg').all (own.contains ·) && decide (ifs.length ≤ 1) && all2 (mtE Γ N k (relS scope sc)) ifs ifs' && mtE Γ N k (relS scope sc) elt elt'
    | _, _ => false
/-- what is walked -/
def mtI (Γ N : List Str) : Nat → Scope → Expr → E → Bool
  | 0, _, _, _ => false
  | k + 1, sc, e, c => match e, c with
    | .Call (.Name x _) [a] [] _, .bi .range [a'] => decide (x = "range") && glB sc x && mtE Γ N k sc a a'
    | .Call (.Name x _) [a, b] [] _, .bi .range [a', b'] => decide (x = "range") && glB sc x && mtE Γ N k sc a a' && mtE Γ N k sc b b'
    | e, c => mtE Γ N k sc e c
def mtO (Γ N : List Str) : Nat → Scope → Option Expr → Option E → Bool
  | 0, _, _, _ => false
  | k + 1, sc, none, none => true
  | k + 1, sc, some e, some c => mtE Γ N k sc e c
  | _, _, _, _ => false
end
/-! ### statements -/
def noTup : Expr → Bool
  | .Tuple .. => false
  | _ => true
def isStar : Expr → Bool
  | .Starred .. => true
  | _ => false
def swF (sc : Scope) (l : Nat) : Expr → Option Str
  | .Name id pos => if sc.names.lookup id == some .local && pos.line == l then some id else none
  | _ => none
def swNames (sc : Scope) (ts : List Expr) : List Str := ts.filterMap (swF sc ((ts.head?.map (·.pos.line)).getD 0))
/-- the names of a, b = x, y that are stored without a tuple -/
def swN (sc : Scope) (ts vs : List Expr) : Option (List Str) :=
  if !(ts.length == 2 || ts.length == 3) || vs.length != ts.length then none else
  if vs.any isStar then none else
  if (swNames sc ts).length != ts.length || (swNames sc ts).eraseDups.length != (swNames sc ts).length then none else
  if vs.all (foldedForSure 8) then none else some (swNames sc ts)
def swOk (vs : List Expr) : Bool := !vs.all (constantsAlone 8)
/-- y = [..] stored within the comprehension -/
def swC (sc : Scope) (y : Str) (p : Pos) : Expr → Bool
  | .ListComp _ _ scope pos => sc.names.lookup y == some .local && p.line == pos.line && !(scope.names.any fun (n, k) => n == y && (k == .local || k == .cell))
  | _ => false
def augOp : Bop → Bool
  | .add => true | .sub => true | _ => false
def smName : Sm → Str
  | .append => "append" | .extend => "extend" | .remove => "remove" | .sort => "sort" | .update => "update"
def nameIs (N : List Str) (sc : Scope) (t : Expr) (i : Nat) : Bool := match t with
  | .Name x _ => decide (N[i]? = some x) && locB sc x
  | _ => false
mutual
def mtS (Γ N : List Str) : Nat → Scope → Stmt → S → Bool
  | 0, _, _, _ => false
  | k + 1, sc, s, c => match s, c with
    | .Assign [.Name x p] e _, .asg (.nm i) c => decide (N[i]? = some x) && locB sc x && mtE Γ N k sc e c
    | .Assign [.Tuple ts _ _] e _, .asg (.tp is) c => all2 (mtT N sc k) ts is && mtE Γ N k sc e c && noTup e
    | .Assign [.Tuple ts _ _] (.Tuple es _ _) _, .par is cs => all2 (nameIs N sc) ts is && all2 (mtE Γ N k sc) es cs && decide (es.length ≤ 1000) && decide (is.length = cs.length) && decide (is.Nodup) && swOk es
    | .Assign [.Subscript (.Name x _) i _] e _, .set y i' c => decide (N[y]? = some x) && visB sc x && !(x == ("__debug__" : Str)) && !(x == ("__classdict__" : Str)) && mtE Γ N k sc i i' && mtE Γ N k sc e c
    | .AugAssign (.Name x _) o e _, .aug i o' c => augOp o' && decide (N[i]? = some x) && locB sc x && opIs o o' && mtE Γ N k sc e c
    | .AugAssign (.Subscript (.Name x _) i _) o e _, .augs y i' o' c => augOp o' && decide (N[y]? = some x) && visB sc x && !(x == ("__debug__" : Str)) && !(x == ("__classdict__" : Str)) && opIs o o' && mtE Γ N k sc i i' && mtE Γ N k sc e c
    | .Expr (.Call (.Attribute (.Name x _) m ap) (e :: es) [] cp) _, .sm m' y cs => decide (N[y]? = some x) && visB sc x && !(x == ("__debug__" : Str)) && !(x == ("__classdict__" : Str)) && decide (smName m' = m) && (ap.endLine == cp.line) && all2 (mtE Γ N k sc) (e :: es) cs
    | .Return (some e) _, .ret c => mtE Γ N k sc e c
    | .Return none _, .retN => true
    | .If t a b _, .ite t' a' b' => mtE Γ N k sc t t' && mtSs Γ N k sc a a' && mtSs Γ N k sc b b'
    | .While t b [] _, .whl t' b' => mtE Γ N k sc t t' && mtSs Γ N k sc b b'
    | .For t it b [] _, .for t' it' b' => noSet it && mtI Γ N k sc it it' && mtT N sc k t t' && mtSs Γ N k sc b b'
    | .Break _, .brk => true
    | .Continue _, .cont => true
    | .Pass _, .pass => true
    | _, _ => false
def mtSs (Γ N : List Str) : Nat → Scope → List Stmt → List S → Bool
  | 0, _, _, _ => false
  | k + 1, sc, ss, .frz _ :: cs => mtSs Γ N k sc ss cs
  | k + 1, sc, [], [] => true
  | k + 1, sc, s :: ss, c :: cs => mtS Γ N k sc s c && mtSs Γ N k sc ss cs
  | _, _, _, _ => false
end
end EV

/-! EvC: data in the heap (Rep), what a frame knows (Rel), readings. -/
namespace EV
open PySem PySem.Spec PyProof.Rows L2

def kD : Key → D
  | .inl i => .int i
  | .inr s => .str s
/-- what is drawn from: the objects that a draw may change (tok), all that it leans on (wa), the state -/
structure Wld where
  tok : Addr → Prop
  wa : Addr → Prop
  wp : Nat → Hp → Prop
  sub : ∀ a, tok a → wa a
  trk : ∀ n H a, wp n H → wa a → H a ≠ none
  stab : ∀ n H H', wp n H → (∀ a, wa a → H' a = H a) → wp n H'
mutual
inductive Rep (W : Wld) (F : Addr → Prop) (H : Hp) : V → D → Prop
  | non : Rep W F H .non .none
  | bl (b : Bool) : Rep W F H (.bl b) (.bool b)
  | int (i : Int) : Rep W F H (.int i) (.int i)
  | str (x : Str) : Rep W F H (.str x) (.str x)
  | tup {a : Addr} {xs : List V} {ds : List D} : H a = some (.tup xs) → ¬ F a → RepL W F H xs ds → Rep W F H (.ref a) (.tuple ds)
  | lst {a : Addr} {xs : List V} {ds : List D} : H a = some (.lst xs) → ¬ F a → RepL W F H xs ds → Rep W F H (.ref a) (.list ds)
  | dK {a : Addr} {kvs : List (Key × V)} {ds : List (D × D)} : Rd H a (.dK kvs) → ¬ F a → RepK W F H kvs ds → Rep W F H (.ref a) (.dict ds)
  | dT {a : Addr} {kvs : List (List Key × V)} {ds : List (D × D)} : Rd H a (.dT kvs) → ¬ F a → RepT W F H kvs ds → Rep W F H (.ref a) (.dict ds)
  | wld {a : Addr} : W.tok a → Rep W F H (.ref a) WLD
inductive RepL (W : Wld) (F : Addr → Prop) (H : Hp) : List V → List D → Prop
  | nil : RepL W F H [] []
  | cons {v : V} {d : D} {vs : List V} {ds : List D} : Rep W F H v d → RepL W F H vs ds → RepL W F H (v :: vs) (d :: ds)
inductive RepK (W : Wld) (F : Addr → Prop) (H : Hp) : List (Key × V) → List (D × D) → Prop
  | nil : RepK W F H [] []
  | cons {k : Key} {v : V} {d : D} {vs : List (Key × V)} {ds : List (D × D)} : Rep W F H v d → RepK W F H vs ds → RepK W F H ((k, v) :: vs) ((kD k, d) :: ds)
inductive RepT (W : Wld) (F : Addr → Prop) (H : Hp) : List (List Key × V) → List (D × D) → Prop
  | nil : RepT W F H [] []
  | cons {k : List Key} {v : V} {d : D} {vs : List (List Key × V)} {ds : List (D × D)} : Rep W F H v d → RepT W F H vs ds → RepT W F H ((k, v) :: vs) ((.tuple (k.map kD), d) :: ds)
end

/-- all that is tracked is kept, but for Z -/
def Keep (Z : Addr → Prop) (H H' : Hp) : Prop := ∀ a o, ¬ Z a → H a = some o → H' a = some o
theorem Keep.refl {Z : Addr → Prop} {H : Hp} : Keep Z H H := fun _ _ _ e => e
theorem Keep.trans {Z : Addr → Prop} {H H1 H2 : Hp} (a : Keep Z H H1) (b : Keep Z H1 H2) : Keep Z H H2 := fun c o h e => b c o h (a c o h e)
theorem Keep.weak {Z Y : Addr → Prop} {H H' : Hp} (a : Keep Z H H') (h : ∀ x, Z x → Y x) : Keep Y H H' := fun c o n e => a c o (fun z => n (h c z)) e
theorem Keep.new {Z : Addr → Prop} {H : Hp} {p : Addr} {o : HO} (h : H p = none) : Keep Z H (upd H p o) := fun b x _ e => by
  rw [upd_ne (ne_of_none e h)]
  exact e
theorem Keep.same {Z : Addr → Prop} {H H' : Hp} (h : ∀ a o, H a = some o → H' a = some o) : Keep Z H H' := fun a o _ e => h a o e
theorem Rd.keep {H H' : Hp} {a : Addr} {u : HO} (r : Rd H a u) (h : ∀ o, H a = some o → H' a = some o) : Rd H' a u := by
  rcases r with r | ⟨o, r⟩
  · exact .inl (h _ r)
  · exact .inr ⟨o, h _ r⟩

section
variable {W : Wld} {F G : Addr → Prop} {H H' : Hp}
mutual
theorem Rep.keep (k : Keep F H H') (g : ∀ a, H a ≠ none → G a → F a) : ∀ {v : V} {d : D}, Rep W F H v d → Rep W G H' v d
  | _, _, .non => .non
  | _, _, .bl b => .bl b
  | _, _, .int i => .int i
  | _, _, .str x => .str x
  | _, _, .tup e n r => .tup (k _ _ n e) (fun z => n (g _ (by rw [e]; simp) z)) (RepL.keep k g r)
  | _, _, .lst e n r => .lst (k _ _ n e) (fun z => n (g _ (by rw [e]; simp) z)) (RepL.keep k g r)
  | _, _, .dK e n r => .dK (Rd.keep e fun o q => k _ _ n q) (fun z => n (g _ (by rcases e with e | ⟨o, e⟩ <;> (rw [e]; simp)) z)) (RepK.keep k g r)
  | _, _, .dT e n r => .dT (Rd.keep e fun o q => k _ _ n q) (fun z => n (g _ (by rcases e with e | ⟨o, e⟩ <;> (rw [e]; simp)) z)) (RepT.keep k g r)
  | _, _, .wld t => .wld t
theorem RepL.keep (k : Keep F H H') (g : ∀ a, H a ≠ none → G a → F a) : ∀ {v : List V} {d : List D}, RepL W F H v d → RepL W G H' v d
  | _, _, .nil => .nil
  | _, _, .cons a r => .cons (Rep.keep k g a) (RepL.keep k g r)
theorem RepK.keep (k : Keep F H H') (g : ∀ a, H a ≠ none → G a → F a) : ∀ {v : List (Key × V)} {d : List (D × D)}, RepK W F H v d → RepK W G H' v d
  | _, _, .nil => .nil
  | _, _, .cons a r => .cons (Rep.keep k g a) (RepK.keep k g r)
theorem RepT.keep (k : Keep F H H') (g : ∀ a, H a ≠ none → G a → F a) : ∀ {v : List (List Key × V)} {d : List (D × D)}, RepT W F H v d → RepT W G H' v d
  | _, _, .nil => .nil
  | _, _, .cons a r => .cons (Rep.keep k g a) (RepT.keep k g r)
end
theorem RepL.length : ∀ {v : List V} {d : List D}, RepL W F H v d → v.length = d.length
  | _, _, .nil => rfl
  | _, _, .cons _ r => congrArg (· + 1) (RepL.length r)
theorem RepL.get : ∀ {v : List V} {d : List D} {i : Nat} {x : D}, RepL W F H v d → d[i]? = some x → ∃ y, v[i]? = some y ∧ Rep W F H y x
  | _, _, _, _, .nil, e => by simp at e
  | _, _, 0, _, .cons r _, e => by simp at e; subst e; exact ⟨_, rfl, r⟩
  | _, _, i + 1, x, .cons _ t, e => by
    obtain ⟨y, h1, h2⟩ := RepL.get (i := i) (x := x) t (by simpa using e)
    exact ⟨y, by simpa using h1, h2⟩
theorem RepL.append : ∀ {v w : List V} {d e : List D}, RepL W F H v d → RepL W F H w e → RepL W F H (v ++ w) (d ++ e)
  | _, _, _, _, .nil, s => s
  | _, _, _, _, .cons r t, s => .cons r (RepL.append t s)
theorem RepL.drop : ∀ {v : List V} {d : List D} (k : Nat), RepL W F H v d → RepL W F H (v.drop k) (d.drop k)
  | _, _, 0, r => r
  | _, _, _ + 1, .nil => .nil
  | _, _, k + 1, .cons _ t => RepL.drop k t
theorem RepL.take : ∀ {v : List V} {d : List D} (k : Nat), RepL W F H v d → RepL W F H (v.take k) (d.take k)
  | _, _, 0, _ => .nil
  | _, _, _ + 1, .nil => .nil
  | _, _, k + 1, .cons r t => .cons r (RepL.take k t)
theorem RepL.reverse : ∀ {v : List V} {d : List D}, RepL W F H v d → RepL W F H v.reverse d.reverse
  | _, _, .nil => .nil
  | _, _, .cons r t => by
    rw [List.reverse_cons, List.reverse_cons]
    exact (RepL.reverse t).append (.cons r .nil)
theorem RepL.set {x : V} {y : D} (r : Rep W F H x y) : ∀ {v : List V} {d : List D} (i : Nat), RepL W F H v d → RepL W F H (v.set i x) (d.set i y)
  | _, _, _, .nil => .nil
  | _, _, 0, .cons _ t => .cons r t
  | _, _, i + 1, .cons q t => .cons q (RepL.set r i t)
theorem RepL.flat : ∀ {v : List V} {d : List D} (k : Nat), RepL W F H v d → RepL W F H (List.replicate k v).flatten (List.replicate k d).flatten
  | _, _, 0, _ => .nil
  | _, _, k + 1, r => by
    rw [List.replicate_succ, List.flatten_cons, List.replicate_succ, List.flatten_cons]
    exact r.append (RepL.flat k r)
end

/-- what a slot holds -/
def SlR (W : Wld) (F : Addr → Prop) (H : Hp) : Sl → Option V → Prop
  | .u, _ => True
  | .v d, some v => Rep W F H v d
  | .o (.list ds), some (.ref a) => (F a ∧ ¬ W.wa a) ∧ ∃ xs, H a = some (.lst xs) ∧ RepL W F H xs ds
  | .o (.dict ds), some (.ref a) => (F a ∧ ¬ W.wa a) ∧ ((∃ kvs, H a = some (.dK kvs) ∧ RepK W F H kvs ds) ∨ ∃ kvs, H a = some (.dT kvs) ∧ RepT W F H kvs ds)
  | _, _ => False
/-- a value that may be one's own list or dict -/
def RepB (W : Wld) (F : Addr → Prop) (H : Hp) (v : V) (d : D) : Prop := SlR W F H (.v d) (some v) ∨ SlR W F H (.o d) (some v)
structure Rel (W : Wld) (F : Addr → Prop) (ρ : Env) (n : Nat) (σ : L2.St) (H : Hp) : Prop where
  len : σ.length = ρ.length
  sl : ∀ (i : Nat) (s : Sl), ρ[i]? = some s → ∃ ov, σ[i]? = some ov ∧ SlR W F H s ov
  tr : ∀ a, F a → H a ≠ none
  wa : ∀ a, W.wa a → F a
  wp : W.wp n H
def isFresh (H : Hp) (v : V) : Prop := ∀ a, v = .ref a → H a = none

section
variable {W : Wld} {F G : Addr → Prop} {H H' : Hp} {ρ : Env} {n n' : Nat} {σ : L2.St}
theorem SlR.keep {s : Sl} {ov : Option V} (k : Keep W.tok H H') (t : ∀ a, W.tok a → F a) (g : ∀ a, H a ≠ none → G a → F a) (fg : ∀ a, F a → G a) (h : SlR W F H s ov) : SlR W G H' s ov := by
  have kF : Keep F H H' := k.weak t
  cases s with
  | u => exact trivial
  | v d =>
    cases ov with
    | none => exact h
    | some v => exact Rep.keep kF g h
  | o d =>
    cases d with
    | list ds =>
      cases ov with
      | none => exact h
      | some v =>
        cases v with
        | ref a =>
          obtain ⟨⟨fa, na⟩, xs, e, r⟩ := h
          exact ⟨⟨fg _ fa, na⟩, xs, k _ _ (fun z => na (W.sub _ z)) e, r.keep kF g⟩
        | _ => exact h
    | dict ds =>
      cases ov with
      | none => exact h
      | some v =>
        cases v with
        | ref a =>
          obtain ⟨⟨fa, na⟩, h⟩ := h
          refine ⟨⟨fg _ fa, na⟩, ?_⟩
          rcases h with ⟨xs, e, r⟩ | ⟨xs, e, r⟩
          · exact .inl ⟨xs, k _ _ (fun z => na (W.sub _ z)) e, r.keep kF g⟩
          · exact .inr ⟨xs, k _ _ (fun z => na (W.sub _ z)) e, r.keep kF g⟩
        | _ => exact h
    | _ => cases ov <;> exact h
theorem Rel.keep (R : Rel W F ρ n σ H) (k : Keep W.tok H H') (w : W.wp n' H') : Rel W F ρ n' σ H' where
  len := R.len
  sl := fun i s e => by
    obtain ⟨ov, e1, e2⟩ := R.sl i s e
    exact ⟨ov, e1, SlR.keep k (fun a z => R.wa a (W.sub a z)) (fun _ _ z => z) (fun _ z => z) e2⟩
  tr := fun a fa => by
    by_cases h : W.tok a
    · exact W.trk _ _ _ w (W.sub _ h)
    · cases e : H a with
      | none => exact absurd e (R.tr a fa)
      | some o => rw [k a o h e]; simp
  wa := R.wa
  wp := w
/-- one more address that nothing known lies at -/
theorem Rel.more (R : Rel W F ρ n σ H) {p : Addr} {o : HO} (hp : H p = none) (w : W.wp n (upd H p o)) : Rel W (fun a => F a ∨ a = p) ρ n σ (upd H p o) where
  len := R.len
  sl := fun i s e => by
    obtain ⟨ov, e1, e2⟩ := R.sl i s e
    exact ⟨ov, e1, SlR.keep (Keep.new hp) (fun a z => R.wa a (W.sub a z)) (fun a h z => z.elim id fun z => by subst z; exact absurd hp h) (fun _ z => .inl z) e2⟩
  tr := fun a fa => by
    rcases fa with fa | rfl
    · rw [upd_ne (by rintro rfl; exact R.tr _ fa hp)]
      exact R.tr _ fa
    · rw [upd_same]; simp
  wa := fun a z => .inl (R.wa a z)
  wp := w
theorem Wld.new (W : Wld) {p : Addr} {o : HO} (w : W.wp n H) (hp : H p = none) : W.wp n (upd H p o) :=
  W.stab _ _ _ w fun a z => upd_ne (by rintro rfl; exact W.trk _ _ _ w z hp)
theorem Rel.getV (R : Rel W F ρ n σ H) {i : Nat} {d : D} (h : getV ρ i = some d) : ∃ v, σ[i]? = some (some v) ∧ Rep W F H v d := by
  unfold EV.getV at h
  split at h
  · cases h
    rename_i e
    obtain ⟨ov, e1, e2⟩ := R.sl i _ e
    cases ov with
    | none => exact e2.elim
    | some v => exact ⟨v, e1, e2⟩
  · cases h
theorem SlR.oSome {d : D} {ov : Option V} (h : SlR W F H (.o d) ov) : ∃ a, ov = some (.ref a) ∧ F a ∧ ¬ W.wa a := by
  cases d with
  | list ds =>
    cases ov with
    | none => exact h.elim
    | some v =>
      cases v with
      | ref a => exact ⟨a, rfl, h.1⟩
      | _ => exact h.elim
  | dict ds =>
    cases ov with
    | none => exact h.elim
    | some v =>
      cases v with
      | ref a => exact ⟨a, rfl, h.1⟩
      | _ => exact h.elim
  | _ => cases ov <;> exact h.elim
theorem Rel.getB (R : Rel W F ρ n σ H) {i : Nat} {d : D} (h : getB ρ i = some d) : ∃ v, σ[i]? = some (some v) ∧ RepB W F H v d := by
  unfold EV.getB at h
  split at h
  · cases h
    rename_i e
    obtain ⟨ov, e1, e2⟩ := R.sl i _ e
    cases ov with
    | none => exact e2.elim
    | some v => exact ⟨v, e1, .inl e2⟩
  · cases h
    rename_i e
    obtain ⟨ov, e1, e2⟩ := R.sl i _ e
    obtain ⟨a, rfl, _⟩ := e2.oSome
    exact ⟨_, e1, .inr e2⟩
  · cases h
/-- a list, one's own or not -/
theorem RepB.list {v : V} {ds : List D} (h : RepB W F H v (.list ds)) : ∃ a xs, v = .ref a ∧ H a = some (.lst xs) ∧ RepL W F H xs ds := by
  rcases h with h | h
  · cases (show Rep W F H v (.list ds) from h) with
    | lst e n r => exact ⟨_, _, rfl, e, r⟩
  · cases v with
    | ref a => obtain ⟨_, xs, e, r⟩ := h; exact ⟨a, xs, rfl, e, r⟩
    | _ => exact h.elim
theorem RepB.flat {v : V} {d : D} (h : RepB W F H v d) (hd : isMut d = false) : Rep W F H v d := by
  rcases h with h | h
  · exact h
  · cases d with
    | list _ => cases hd
    | dict _ => cases hd
    | _ => exact h.elim
theorem RepB.keep {v : V} {d : D} (k : Keep W.tok H H') (t : ∀ a, W.tok a → F a) (g : ∀ a, H a ≠ none → G a → F a) (fg : ∀ a, F a → G a) (h : RepB W F H v d) : RepB W G H' v d :=
  h.imp (SlR.keep k t g fg) (SlR.keep k t g fg)
end
end EV

/-! EvX: further rules over the library: t * k for every k, a < b of alike data. -/
namespace EV
open PySem PySem.Spec PyProof.Rows L2 HT
open PySem.W (dataLt alike minD maxD dataLe TotalLe sameRank sortLe_total sort_unique EachIs)
open AutoSeq1 (wpAny_loadPart')
open MeetsSeq MeetsSeq2 MeetsSeq3 SeqRoads2

theorem tuple_mul_same (l : Addr) (items : Array Value) (n : Nat) (dd : Option Addr) (sl : Array (Option Value)) (x : Int) (u : Tok) (c0 : (decide (x < -(2 ^ 63)) || decide (x ≥ 2 ^ 63)) = false) (c1 : (items.isEmpty || x == 1) = true) :
    Meets (Builtin.«tuple.__mul__» ⟨[.ref l, .int x u], []⟩) (fun _ R s => s.heap.get? l = some { cls := .type "tuple", dict := dd, data := .seq items n, slots := sl } ∧ R (.ok (.ret (Value.ref l))) s) :=
  .of_wp fun prog w A R s h => by
    obtain ⟨hp, g, d, tk, os⟩ := s
    obtain ⟨hl, h⟩ := h
    have f1 := AutoSeq1.idx_int
    wp_walk using wpAny_loadPart' hl
    repeat (first
      | (refine wpAny_ite_false (decide_eq_false (by rw [c0]; exact Bool.false_ne_true)) ?_; wp_walk using wpAny_loadPart' hl)
      | (refine wpAny_ite_true (decide_eq_true (by rw [c1])) ?_; wp_walk using wpAny_loadPart' hl))
    exact ⟨_, rfl, h⟩
theorem tuple_mul_none (l : Addr) (items : Array Value) (n : Nat) (dd : Option Addr) (sl : Array (Option Value)) (x : Int) (u : Tok) (c0 : (decide (x < -(2 ^ 63)) || decide (x ≥ 2 ^ 63)) = false) (c1 : (items.isEmpty || x == 1) = false) (c2 : (decide (x ≤ 0) || items.isEmpty) = true) :
    Meets (Builtin.«tuple.__mul__» ⟨[.ref l, .int x u], []⟩) (fun _ R s => s.heap.get? l = some { cls := .type "tuple", dict := dd, data := .seq items n, slots := sl } ∧
      R (.ok (.ret (Value.ref s.heap.objs.size))) { s with heap := s.heap.push { cls := Value.type "tuple", data := Data.seq #[] }, toks := s.toks }) :=
  .of_wp fun prog w A R s h => by
    obtain ⟨hp, g, d, tk, os⟩ := s
    obtain ⟨hl, h⟩ := h
    have f1 := AutoSeq1.idx_int
    wp_walk using wpAny_loadPart' hl
    repeat (first
      | (refine wpAny_ite_false (decide_eq_false (by rw [c0]; exact Bool.false_ne_true)) ?_; wp_walk using wpAny_loadPart' hl)
      | (refine wpAny_ite_false (decide_eq_false (by rw [c1]; exact Bool.false_ne_true)) ?_; wp_walk using wpAny_loadPart' hl)
      | (refine wpAny_ite_true (decide_eq_true (by rw [c2])) ?_; wp_walk using wpAny_loadPart' hl))
    exact ⟨_, rfl, h⟩
section
variable {X : Cx}
theorem OpR.or {f : Value → Value → Sem Value} {r t : R2} (h1 : OpR X f r) (h2 : OpR X f t) : OpR X f (fun x y H Q => r x y H Q ∨ t x y H Q) := fun pins s σ H x y v u Q I rx ry h =>
  h.elim (h1 pins s σ H x y v u Q I rx ry) (h2 pins s σ H x y v u Q I rx ry)
def rRepS (K : PySem.W.Frag) : R2 := fun x y H Q => ∃ l k xs, x = .ref l ∧ y = .int k ∧ SqT K H l xs ∧ (xs = [] ∨ k = 1) ∧ -1000 ≤ k ∧ k ≤ 1000 ∧ Q (.ref l) H
def rRepN (K : PySem.W.Frag) : R2 := fun x y H Q => ∃ l k xs, x = .ref l ∧ y = .int k ∧ SqT K H l xs ∧ xs ≠ [] ∧ -1000 ≤ k ∧ k ≤ 0 ∧ ∀ p, H p = none → Q (.ref p) (upd H p (.tup []))
theorem op_repS : OpR X (binaryOp .Mult) (rRepS X.K) := by
  intro pins s σ H x y v u Q I rx ry h
  obtain ⟨l, k, xs, rfl, rfl, hT, hne, h1, h2, q⟩ := h
  cases rx
  obtain ⟨t, rfl⟩ := ry
  obtain ⟨its, r, ⟨⟨cls, dd, data, sl⟩, ho, hc, n, hd⟩, hs⟩ := I.tuple hT
  simp only at hc hd
  subst hc hd
  have c0 : (decide (k < -(2 ^ 63)) || decide (k ≥ 2 ^ 63)) = false := by
    rw [decide_eq_false (by omega), decide_eq_false (by omega)] <;> rfl
  have c1 : (its.toArray.isEmpty || k == 1) = true := by
    rcases hne with e | e
    · subst e
      cases r
      rfl
    · subst e
      simp
  exact wpAny_binaryOp_repeat_ref (T := "tuple") (U := "int") (by decide) ⟨_, ho, rfl⟩ (fun s' => typeIs_int s' k t) noFill_tuple_mul F.fills_int_mul F.slot_int_rmul repeat_tuple F.slot_int_index.lookup
    (call_meets F.slot_int_rmul (typeIs_int s k t) F.entry_int_rmul (F.args_int_rmul_2 _ _) (int_rmul_tuple k t l its.toArray n dd sl)
      ⟨ho, rfl, ⟨_, ho, rfl⟩, call_meets F.slot_tuple_mul ⟨_, ho, rfl⟩ F.entry_tuple_mul (F.args_tuple_mul_2 _ _) (tuple_mul_same l its.toArray n dd sl k t c0 c1) ⟨ho, ⟨.ref l, H, I, rfl, q⟩⟩⟩)
theorem op_repN : OpR X (binaryOp .Mult) (rRepN X.K) := by
  intro pins s σ H x y v u Q I rx ry h
  obtain ⟨l, k, xs, rfl, rfl, hT, hne, h1, h2, q⟩ := h
  cases rx
  obtain ⟨t, rfl⟩ := ry
  obtain ⟨its, r, ⟨⟨cls, dd, data, sl⟩, ho, hc, n, hd⟩, hs⟩ := I.tuple hT
  simp only at hc hd
  subst hc hd
  have hle : its.length = xs.length := r.length.symm
  have hi : its.toArray.isEmpty = false := by
    cases its with
    | nil => exact absurd (List.eq_nil_of_length_eq_zero hle.symm) hne
    | cons a b => rfl
  have c0 : (decide (k < -(2 ^ 63)) || decide (k ≥ 2 ^ 63)) = false := by
    rw [decide_eq_false (by omega), decide_eq_false (by omega)] <;> rfl
  have c1 : (its.toArray.isEmpty || k == 1) = false := by
    rw [hi, Bool.false_or]
    exact beq_eq_false_iff_ne.mpr (by omega)
  have c2 : (decide (k ≤ 0) || its.toArray.isEmpty) = true := by
    rw [decide_eq_true (by omega)]
    rfl
  refine wpAny_binaryOp_repeat_ref (T := "tuple") (U := "int") (by decide) ⟨_, ho, rfl⟩ (fun s' => typeIs_int s' k t) noFill_tuple_mul F.fills_int_mul F.slot_int_rmul repeat_tuple F.slot_int_index.lookup
    (call_meets F.slot_int_rmul (typeIs_int s k t) F.entry_int_rmul (F.args_int_rmul_2 _ _) (int_rmul_tuple k t l its.toArray n dd sl)
      ⟨ho, rfl, ⟨_, ho, rfl⟩, call_meets F.slot_tuple_mul ⟨_, ho, rfl⟩ F.entry_tuple_mul (F.args_tuple_mul_2 _ _) (tuple_mul_none l its.toArray n dd sl k t c0 c1 c2) ⟨ho, ?_⟩⟩)
  refine ⟨.ref s.heap.objs.size, _, I.laid (t' := s.toks) (o := .tup []) (fun b ob q => Heap.get?_push_of_some _ q) (Nat.le_refl _) ?_, rfl, q _ (I.hok.fresh (Nat.le_refl _))⟩
  exact ⟨Nat.zero_le _, [], .nil, IsTup.new _ _⟩

/-! ### data -/
theorem okB_spec : ∀ (k : Nat) (d : D), okB k d = true → d.plain = true ∧ d.depth ≤ k
  | 0, _, h => by cases h
  | k + 1, .none, _ => ⟨rfl, Nat.zero_le _⟩
  | k + 1, .bool _, _ => ⟨rfl, Nat.zero_le _⟩
  | k + 1, .int _, _ => ⟨rfl, Nat.zero_le _⟩
  | k + 1, .str _, _ => ⟨rfl, Nat.zero_le _⟩
  | k + 1, .dict _, h => by cases h
  | k + 1, .list xs, h => by
    have q := okB_all k xs (show xs.all (okB k) = true from h)
    exact ⟨by simpa [PyData.plain] using q.1, by simpa [PyData.depth] using q.2⟩
  | k + 1, .tuple xs, h => by
    have q := okB_all k xs (show xs.all (okB k) = true from h)
    exact ⟨by simpa [PyData.plain] using q.1, by simpa [PyData.depth] using q.2⟩
where okB_all (k : Nat) : ∀ xs : List D, xs.all (okB k) = true → PyData.plainAll xs = true ∧ PyData.depthAll xs ≤ k
  | [], _ => ⟨rfl, Nat.zero_le _⟩
  | x :: xs, h => by
    rw [List.all_cons, Bool.and_eq_true] at h
    have q1 := okB_spec k x h.1
    have q2 := okB_all k xs h.2
    exact ⟨by simp [PyData.plainAll, q1.1, q2.1], by simp [PyData.depthAll]; omega⟩
def rCmpP (K : PySem.W.Frag) (C : D → D → Prop) (f : D → D → Bool) : R2 := fun x y H Q => ∃ d e, Dp K H x d ∧ Dp K H y e ∧ okB 8 d = true ∧ okB 8 e = true ∧ C d e ∧ Q (.bl (f d e)) H
def Ordd (d e : D) : Prop := alike d e = true ∧ d ≠ .none
theorem room8 {A : Around} {d e : D} (hu : A.units + 64 < cLine) (h : okB 8 d = true) : A.units + min d.depth e.depth < cLine := by
  have := (okB_spec _ _ h).2
  omega
theorem op_eqP (hu : X.A.units + 64 < cLine) : OpR X (compareOp .Eq) (rCmpP X.K (fun _ _ => True) PyData.eqv) := by
  intro pins s σ H x y v u Q I rx ry h
  obtain ⟨d, e, hd, he, sd, se, _, q⟩ := h
  obtain ⟨as, r1⟩ := Dp.reads I d x v hd rx
  obtain ⟨bs, r2⟩ := Dp.reads I e y u he ry
  exact SeqAt.eq_plain r1 r2 (okB_spec _ _ sd).1 (okB_spec _ _ se).1 (room8 hu sd) ⟨.bl _, H, I, rfl, q⟩
theorem op_neP (hu : X.A.units + 64 < cLine) : OpR X (compareOp .NotEq) (rCmpP X.K (fun _ _ => True) fun d e => !PyData.eqv d e) := by
  intro pins s σ H x y v u Q I rx ry h
  obtain ⟨d, e, hd, he, sd, se, _, q⟩ := h
  obtain ⟨as, r1⟩ := Dp.reads I d x v hd rx
  obtain ⟨bs, r2⟩ := Dp.reads I e y u he ry
  exact SeqAt.ne_plain r1 r2 (okB_spec _ _ sd).1 (okB_spec _ _ se).1 (room8 hu sd) ⟨.bl _, H, I, rfl, q⟩
theorem op_ltP (hu : X.A.units + 64 < cLine) : OpR X (compareOp .Lt) (rCmpP X.K Ordd dataLt) := by
  intro pins s σ H x y v u Q I rx ry h
  obtain ⟨d, e, hd, he, sd, se, o, q⟩ := h
  obtain ⟨as, r1⟩ := Dp.reads I d x v hd rx
  obtain ⟨bs, r2⟩ := Dp.reads I e y u he ry
  exact PySem.W.lt_data r1 r2 o.1 o.2 (room8 hu sd) ⟨.bl _, H, I, rfl, q⟩
theorem op_gtP (hu : X.A.units + 64 < cLine) : OpR X (compareOp .Gt) (rCmpP X.K Ordd fun d e => dataLt e d) := by
  intro pins s σ H x y v u Q I rx ry h
  obtain ⟨d, e, hd, he, sd, se, o, q⟩ := h
  obtain ⟨as, r1⟩ := Dp.reads I d x v hd rx
  obtain ⟨bs, r2⟩ := Dp.reads I e y u he ry
  exact PySem.W.gt_data r1 r2 o.1 o.2 (room8 hu sd) ⟨.bl _, H, I, rfl, q⟩
theorem op_leP (hu : X.A.units + 64 < cLine) : OpR X (compareOp .LtE) (rCmpP X.K Ordd fun d e => !dataLt e d) := by
  intro pins s σ H x y v u Q I rx ry h
  obtain ⟨d, e, hd, he, sd, se, o, q⟩ := h
  obtain ⟨as, r1⟩ := Dp.reads I d x v hd rx
  obtain ⟨bs, r2⟩ := Dp.reads I e y u he ry
  exact PySem.W.le_data r1 r2 o.1 o.2 (room8 hu sd) ⟨.bl _, H, I, rfl, q⟩
theorem op_geP (hu : X.A.units + 64 < cLine) : OpR X (compareOp .GtE) (rCmpP X.K Ordd fun d e => !dataLt d e) := by
  intro pins s σ H x y v u Q I rx ry h
  obtain ⟨d, e, hd, he, sd, se, o, q⟩ := h
  obtain ⟨as, r1⟩ := Dp.reads I d x v hd rx
  obtain ⟨bs, r2⟩ := Dp.reads I e y u he ry
  exact PySem.W.ge_data r1 r2 o.1 o.2 (room8 hu sd) ⟨.bl _, H, I, rfl, q⟩
def rInP (K : PySem.W.Frag) (f : D → List D → Bool) : R2 := fun x y H Q => ∃ d es, Dp K H x d ∧ (Dp K H y (.list es) ∨ Dp K H y (.tuple es)) ∧ okB 8 d = true ∧ es.all (okB 8) = true ∧ Q (.bl (f d es)) H
theorem op_inP (hu : X.A.units + 64 < cLine) : OpR X (compareOp .In) (rInP X.K memV) := by
  intro pins s σ H x y v u Q I rx ry h
  obtain ⟨d, es, hd, he, sd, se, q⟩ := h
  obtain ⟨as, r1⟩ := Dp.reads I d x v hd rx
  have q1 := okB_spec.okB_all 8 es se
  have q2 := okB_spec _ _ sd
  rcases he with he | he
  · obtain ⟨bs, r2⟩ := Dp.reads I _ y u he ry
    exact SeqAt.in_list_data r2 r1 q1.1 q2.1 (by omega) ⟨.bl _, H, I, rfl, q⟩
  · obtain ⟨bs, r2⟩ := Dp.reads I _ y u he ry
    exact SeqAt.in_tuple_data r2 r1 q1.1 q2.1 (by omega) ⟨.bl _, H, I, rfl, q⟩
theorem op_ninP (hu : X.A.units + 64 < cLine) : OpR X (compareOp .NotIn) (rInP X.K fun d es => !memV d es) := by
  intro pins s σ H x y v u Q I rx ry h
  obtain ⟨d, es, hd, he, sd, se, q⟩ := h
  obtain ⟨as, r1⟩ := Dp.reads I d x v hd rx
  have q1 := okB_spec.okB_all 8 es se
  have q2 := okB_spec _ _ sd
  rcases he with he | he
  · obtain ⟨bs, r2⟩ := Dp.reads I _ y u he ry
    exact SeqAt.notIn_list_data r2 r1 q1.1 q2.1 (by omega) ⟨.bl _, H, I, rfl, q⟩
  · obtain ⟨bs, r2⟩ := Dp.reads I _ y u he ry
    exact SeqAt.notIn_tuple_data r2 r1 q1.1 q2.1 (by omega) ⟨.bl _, H, I, rfl, q⟩
/-! ### built-ins over data -/
theorem all_isI {xs : List D} (h : xs.all isI = true) : ∀ x ∈ xs, ∃ i, x = .int i := fun x hx => by
  have := List.all_eq_true.mp h x hx
  cases x with
  | int i => exact ⟨i, rfl⟩
  | _ => cases this
theorem cmpAll_spec {xs : List D} (h : cmpAll xs = true) : PySem.W.AlikeAll xs ∧ xs.all (okB 8) = true := by
  unfold cmpAll at h
  rw [Bool.or_eq_true] at h
  rcases h with h | h
  · have q := all_isI h
    refine ⟨⟨fun x hx y hy => ?_, fun x hx e => ?_⟩, List.all_eq_true.mpr fun x hx => ?_⟩
    · obtain ⟨i, rfl⟩ := q x hx
      obtain ⟨j, rfl⟩ := q y hy
      rfl
    · obtain ⟨i, rfl⟩ := q x hx
      cases e
    · obtain ⟨i, rfl⟩ := q x hx
      rfl
  · have q := List.all_eq_true.mp h
    simp only [Bool.and_eq_true] at q
    refine ⟨⟨fun x hx y hy => List.all_eq_true.mp (q x hx).2 y hy, fun x hx e => ?_⟩, List.all_eq_true.mpr fun x hx => (q x hx).1.1.1⟩
    have := (q x hx).1.1.2
    subst e
    cases this
theorem cmpAll_flat {xs : List D} (h : cmpAll xs = true) : ∀ x ∈ xs, isMut x = false := by
  unfold cmpAll at h
  rw [Bool.or_eq_true] at h
  rcases h with h | h
  · intro x hx
    obtain ⟨i, rfl⟩ := all_isI h x hx
    rfl
  · intro x hx
    have q := List.all_eq_true.mp h x hx
    simp only [Bool.and_eq_true, Bool.not_eq_true'] at q
    exact q.1.2
def rBest (K : PySem.W.Frag) (f : D → List D → D) : List V → Hp → VK → Prop := fun vs H Q => ∃ a xs d ds, vs = [.ref a] ∧ (SqL K H a xs ∨ SqT K H a xs) ∧ DpAll K H xs (d :: ds) ∧ cmpAll (d :: ds) = true ∧
  ∀ (i : Nat) v, xs[i]? = some v → (d :: ds)[i]? = some (f d ds) → Q v H
theorem reads_at {h : Heap} : ∀ {us : List Value} {ds : List D} {as : List Addr} {i : Nat} {u : Value}, ReadsAll h us ds as → us[i]? = some u → ∃ d bs, ds[i]? = some d ∧ Reads h u d bs
  | _, _, _, _, _, .nil, e => by simp at e
  | _, _, _, 0, _, .cons r _, e => by
    simp at e
    subst e
    exact ⟨_, _, rfl, r⟩
  | _, _, _, i + 1, u, .cons _ rs, e => by
    obtain ⟨d, bs, h1, h2⟩ := reads_at (i := i) (u := u) rs (by simpa using e)
    exact ⟨d, bs, by simpa using h1, h2⟩
theorem vals_at {xs : List V} {us : List Value} (r : Vals xs us) {i : Nat} {u : Value} (h : us[i]? = some u) : ∃ x, xs[i]? = some x ∧ RelV x u := by
  cases e : xs[i]? with
  | none => rw [r.none_of e] at h; cases h
  | some x =>
    obtain ⟨u', h1, h2⟩ := r.get e
    rw [h] at h1
    cases h1
    exact ⟨x, rfl, h2⟩
theorem best_end {pins : List (Addr × Obj)} {s : Shared} {σ : L2.St} {H : Hp} {Q : VK} {xs : List V} {its : List Value} {d : D} {ds : List D} {as : List Addr} {f : D → List D → D} (I : Inv X pins σ H s) (rv : Vals xs its) (ra : ReadsAll s.heap its (d :: ds) as)
    (q : ∀ (i : Nat) v, xs[i]? = some v → (d :: ds)[i]? = some (f d ds) → Q v H) (i : Nat) (v : Value) (h' : Heap) (tk : Nat) (bs : List Addr) (hv : its.toArray[i]? = some v) (hr : Reads h' v (f d ds) bs) (hk : ∀ b o, s.heap.get? b = some o → h'.get? b = some o) :
    EP X pins σ Q v { s with heap := h', toks := tk } := by
  have hv' : its[i]? = some v := by simpa using hv
  obtain ⟨x, hx, rx⟩ := vals_at rv hv'
  obtain ⟨e, cs, he, re⟩ := reads_at ra hv'
  have := (Reads.unique hr _ _ (PyProof.Rows.Reads.keeps hk re)).1
  subst this
  exact ⟨x, H, I.kept hk, rx, q i x hx he⟩
theorem cr_minP (hc : X.calm = true) (hu : X.A.units + 64 < cLine) : CallR X (.builtin "min") (rBest X.K minD) := by
  intro pins s σ H vs us Q I r h
  obtain ⟨a, xs, d, ds, rfl, hs, hd, hcm, q⟩ := h
  rw [Vals.ref1 r]
  obtain ⟨h1, h2⟩ := cmpAll_spec hcm
  have h3 := (okB_spec.okB_all 8 _ h2).2
  rcases hs with hs | hs
  · obtain ⟨its, rv, hl, _⟩ := I.list hs
    obtain ⟨as, ra⟩ := Dp.readsAll I _ _ _ hd rv
    exact PySem.W.min_list_data (I.ok.hd hc) hl.isList ra h1 (by omega) (best_end (f := minD) I rv ra q)
  · obtain ⟨its, rv, hl, _⟩ := I.tuple hs
    obtain ⟨as, ra⟩ := Dp.readsAll I _ _ _ hd rv
    exact PySem.W.min_tuple_data (I.ok.hd hc) hl ra h1 (by omega) (best_end (f := minD) I rv ra q)
theorem cr_maxP (hc : X.calm = true) (hu : X.A.units + 64 < cLine) : CallR X (.builtin "max") (rBest X.K maxD) := by
  intro pins s σ H vs us Q I r h
  obtain ⟨a, xs, d, ds, rfl, hs, hd, hcm, q⟩ := h
  rw [Vals.ref1 r]
  obtain ⟨h1, h2⟩ := cmpAll_spec hcm
  have h3 := (okB_spec.okB_all 8 _ h2).2
  rcases hs with hs | hs
  · obtain ⟨its, rv, hl, _⟩ := I.list hs
    obtain ⟨as, ra⟩ := Dp.readsAll I _ _ _ hd rv
    exact PySem.W.max_list_data (I.ok.hd hc) hl.isList ra h1 (by omega) (best_end (f := maxD) I rv ra q)
  · obtain ⟨its, rv, hl, _⟩ := I.tuple hs
    obtain ⟨as, ra⟩ := Dp.readsAll I _ _ _ hd rv
    exact PySem.W.max_tuple_data (I.ok.hd hc) hl ra h1 (by omega) (best_end (f := maxD) I rv ra q)
/-- sum(t) of a tuple of ints -/
def rSumT (K : PySem.W.Frag) : List V → Hp → VK → Prop := fun vs H Q => ∃ (a : Addr) (ns : List Int), vs = [V.ref a] ∧ SqT K H a (ns.map V.int) ∧ Q (.int ns.sum) H
theorem cr_sumT (hc : X.calm = true) : CallR X (.builtin "sum") (rSumT X.K) := by
  intro pins s σ H vs us Q I r h
  obtain ⟨a, ns, rfl, hs, q⟩ := h
  obtain ⟨its, rv, hl, _⟩ := I.tuple hs
  rw [Vals.ref1 r]
  have hi := rv.ints
  obtain ⟨xs, e⟩ := hi.allInts.items
  have hn : numsOf (intItems xs).toList = ns := by rw [← e]; exact hi.numsOf
  rw [nums_intItems] at hn
  rw [e] at hl
  refine PySem.call_sum_walkAnyS (PySem.W.iter_tupleW (A := X.A.in1) (I.ok.hd hc) hl fun s₂ e W st hfp hw hk => ?_)
  refine ⟨_, _, _, _, _, _, _, numAt xs, rfl, W, st, hfp, (fun _ _ => intItems_at), fun s' t' m => ?_⟩
  obtain ⟨h', tk, rfl, hk'⟩ := PySem.W.moved_old e rfl m
  have e2 : preSum (numAt xs) (intItems xs).size = ns.sum := by
    rw [show (intItems xs).size = xs.size by simp [intItems], preSum_eq, List.take_of_length_le (by simp), hn]
  rw [e2]
  exact ⟨.int _, H, I.kept hk', ⟨_, rfl⟩, q⟩
end
/-! ### sorting -/
def leD (a b : D) : Bool := !dataLt b a
theorem leD_eq : (dataLe false fun d : D => d) = leD := rfl
theorem leD_total : TotalLe leD := by
  rw [← leD_eq]
  exact sortLe_total _ _ _
theorem insD_mem {x y : D} : ∀ {ys : List D}, y ∈ insD x ys → y = x ∨ y ∈ ys
  | [], h => .inl (by simpa [insD] using h)
  | z :: ys, h => by
    unfold insD at h
    split at h
    · rcases List.mem_cons.1 h with e | e
      · exact .inr (e ▸ List.mem_cons_self)
      · exact (insD_mem e).imp id (List.mem_cons_of_mem _)
    · rcases List.mem_cons.1 h with e | e
      · exact .inl e
      · exact .inr e
theorem insD_pw {x : D} : ∀ {ys : List D}, ys.Pairwise (fun a b => leD a b = true) → (insD x ys).Pairwise (fun a b => leD a b = true)
  | [], _ => by simp [insD]
  | y :: ys, h => by
    obtain ⟨h1, h2⟩ := List.pairwise_cons.1 h
    unfold insD
    split
    · rename_i c
      refine List.pairwise_cons.2 ⟨fun z hz => ?_, insD_pw h2⟩
      rcases insD_mem hz with e | e
      · subst e
        rcases leD_total.total y z with t | t
        · exact t
        · unfold leD at t
          rw [c] at t
          cases t
      · exact h1 z e
    · rename_i c
      have c' : leD x y = true := by unfold leD; simp [c]
      refine List.pairwise_cons.2 ⟨fun z hz => ?_, h⟩
      rcases List.mem_cons.1 hz with e | e
      · rw [e]; exact c'
      · exact leD_total.trans _ _ _ c' (h1 z e)
theorem insD_filter {x c : D} : ∀ {ys : List D}, (insD x ys).filter (sameRank leD c) = (x :: ys).filter (sameRank leD c)
  | [] => rfl
  | y :: ys => by
    unfold insD
    split
    · rename_i h
      rw [List.filter_cons, insD_filter (ys := ys), List.filter_cons, List.filter_cons, List.filter_cons]
      by_cases hx : sameRank leD c x = true <;> by_cases hy : sameRank leD c y = true
      · exfalso
        unfold sameRank at hx hy
        rw [Bool.and_eq_true] at hx hy
        have := leD_total.trans _ _ _ hx.2 hy.1
        unfold leD at this
        rw [h] at this
        cases this
      all_goals simp [hx, hy]
    · rfl
theorem sortD_merge (xs : List D) : sortD xs = xs.mergeSort leD := by
  refine sort_unique leD_total ?_ ?_
  · induction xs with
    | nil => exact .nil
    | cons x xs ih => exact insD_pw ih
  · intro c
    induction xs with
    | nil => rfl
    | cons x xs ih =>
      show (insD x (sortD xs)).filter _ = _
      rw [insD_filter, List.filter_cons, ih, ← List.filter_cons]
def rSortD (K : PySem.W.Frag) : List V → Hp → VK → Prop := fun vs H Q => ∃ a xs ds, vs = [.ref a] ∧ SqL K H a xs ∧ DpAll K H xs ds ∧ sortOk ds = true ∧
  ∀ (zs : List (V × D)) (p : Addr), zs.map Prod.fst = xs → zs.map Prod.snd = ds → H p = none → Q (.ref p) (upd H p (.lst ((zs.mergeSort (dataLe false Prod.snd)).map Prod.fst)))
section
variable {X : Cx}
theorem sortOk_spec {ds : List D} (h : sortOk ds = true) : PySem.W.AllAlike ds ∧ PySem.W.Sortable ds ∧ (∀ d ∈ ds, okB 8 d = true) := by
  unfold sortOk at h
  simp only [Bool.and_eq_true, Bool.or_eq_true, List.all_eq_true] at h
  obtain ⟨⟨⟨h1, h2⟩, h3⟩, h4⟩ := h
  refine ⟨fun d hd d' hd' => ?_, ?_, h1⟩
  · rcases h2 with h2 | h2
    · have a := h2 d hd
      have b := h2 d' hd'
      cases d <;> cases d' <;> first | (simp [isI] at a b; done) | rfl
    · exact h2 d hd d' hd'
  · rcases h3 with h3 | h3
    · refine .inl fun d hd => ?_
      have a := h3 d hd
      cases d with
      | tuple xs => cases xs with
        | nil => cases a
        | cons x xs => exact ⟨_, _, rfl⟩
      | _ => cases a
    · refine .inr fun d hd => ?_
      have a := h3 d hd
      cases d <;> first | (cases a; done) | exact ⟨fun e => (by cases e), fun xs e => (by cases e)⟩
theorem each_rel {R : Value → V × D → Prop} : ∀ {us : List Value} {zs : List (V × D)}, Vals (zs.map Prod.fst) us → (∀ u z, z ∈ zs → RelV z.1 u → R u z) → EachIs R us zs
  | us, [], h, _ => by
    cases h
    exact .nil
  | us, z :: zs, h, k => by
    cases h with
    | cons a b => exact .cons (k _ z List.mem_cons_self a) (each_rel b fun u z hz => k u z (List.mem_cons_of_mem _ hz))
theorem each_vals : ∀ {us : List Value} {zs : List (V × D)}, EachIs (fun u z => RelV z.1 u) us zs → Vals (zs.map Prod.fst) us
  | _, _, .nil => .nil
  | _, _, .cons h k => .cons h (each_vals k)
theorem each_reads {h : Heap} : ∀ {us : List Value} {zs : List (V × D)} {as : List Addr}, ReadsAll h us (zs.map Prod.snd) as → EachIs (fun u z => ∃ as, Reads h u z.2 as) us zs
  | us, [], _, h => by
    cases h
    exact .nil
  | us, z :: zs, _, h => by
    cases h with
    | cons a b => exact .cons ⟨_, a⟩ (each_reads b)
theorem zip_two {α β : Type} : ∀ {xs : List α} {ds : List β}, xs.length = ds.length → (xs.zip ds).map Prod.fst = xs ∧ (xs.zip ds).map Prod.snd = ds
  | [], [], _ => ⟨rfl, rfl⟩
  | x :: xs, d :: ds, h => by
    obtain ⟨h1, h2⟩ := zip_two (xs := xs) (ds := ds) (by simpa using h)
    exact ⟨by rw [List.zip_cons_cons, List.map_cons, h1], by rw [List.zip_cons_cons, List.map_cons, h2]⟩
  | [], _ :: _, h => by simp at h
  | _ :: _, [], h => by simp at h
theorem reads_len {h : Heap} : ∀ {us : List Value} {ds : List D} {as : List Addr}, ReadsAll h us ds as → us.length = ds.length
  | _, _, _, .nil => rfl
  | _, _, _, .cons _ r => by rw [List.length_cons, List.length_cons, reads_len r]
theorem cr_sortD (hu : X.A.units + 64 < cLine) : CallR X (.builtin "sorted") (rSortD X.K) := by
  intro pins s σ H vs us Q I r h
  obtain ⟨a, xs, ds, rfl, hs, hd, hok, q⟩ := h
  obtain ⟨its, rv, hl, hz⟩ := I.list hs
  rw [Vals.ref1 r]
  obtain ⟨as, ra⟩ := Dp.readsAll I _ _ _ hd rv
  obtain ⟨h1, h2, h3⟩ := sortOk_spec hok
  have hl2 : xs.length = ds.length := by rw [rv.length, reads_len ra]
  obtain ⟨z1, z2⟩ := zip_two hl2
  generalize hzs : xs.zip ds = zs at z1 z2
  subst z1 z2
  have hlz : zs.length = its.length := by rw [← rv.length, List.length_map]
  rw [List.length_map] at hz
  refine PySem.W.sorted_data (β := V × D) (bs := zs) (enc := Prod.snd) (R := fun u z => RelV z.1 u) hl.isList (each_rel rv fun _ _ _ z => z) (each_reads ra) h1 h2 hz (fun b hb => ?_) fun out ho he => ?_
  · have := (okB_spec 8 _ (h3 b.2 (List.mem_map.2 ⟨b, hb, rfl⟩))).2
    omega
  · have hp : (zs.mergeSort (dataLe false Prod.snd)).length = zs.length := by rw [List.length_mergeSort]
    obtain ⟨ep, he'⟩ := PyProof.Rows.sortedAll_at s.heap its (List.toArray out)
    have hlen : ((zs.mergeSort (dataLe false Prod.snd)).map Prod.fst).length ≤ sizeLine := by rw [List.length_map, hp]; exact hz
    exact ⟨.ref _, upd H (s.heap.objs.size + 1) (.lst ((zs.mergeSort (dataLe false Prod.snd)).map Prod.fst)), I.laid (t' := s.toks) (fun _ _ => PyProof.Rows.sortedAll_old) (Nat.le_succ _) ⟨hlen, out, ep, each_vals he, he'⟩, rfl, q zs _ rfl rfl (I.hok.fresh (Nat.le_succ _))⟩
end
/-! ### t[::-1] of a tuple -/
theorem rev_pick (xs : Array Value) : ((List.range xs.size).filterMap fun (m : Nat) => xs[(((xs.size : Int) - 1) + (m : Int) * (-1)).toNat]?).toArray = xs.toList.reverse.toArray := by
  congr 1
  apply List.ext_getElem?
  intro i
  have e : ((List.range xs.size).filterMap fun (m : Nat) => xs[(((xs.size : Int) - 1) + (m : Int) * (-1)).toNat]?) = (List.range xs.size).map fun m => xs.getD (xs.size - 1 - m) default := by
    have : ∀ l : List Nat, (∀ m ∈ l, m < xs.size) → (l.filterMap fun (m : Nat) => xs[(((xs.size : Int) - 1) + (m : Int) * (-1)).toNat]?) = l.map fun m => xs.getD (xs.size - 1 - m) default := by
      intro l
      induction l with
      | nil => intro _; rfl
      | cons m l ih =>
        intro h
        have hm := h m List.mem_cons_self
        have e2 : (((xs.size : Int) - 1) + (m : Int) * (-1)).toNat = xs.size - 1 - m := by omega
        rw [List.filterMap_cons, e2, Array.getElem?_eq_getElem (by omega)]
        simp only
        rw [ih fun k hk => h k (List.mem_cons_of_mem _ hk), List.map_cons]
        congr 1
        rw [Array.getD_eq_getD_getElem?, Array.getElem?_eq_getElem (by omega)]
        rfl
    exact this _ fun m hm => List.mem_range.1 hm
  rw [e]
  by_cases h : i < xs.size
  · rw [List.getElem?_map, List.getElem?_range h, List.getElem?_reverse (by simpa using h)]
    simp only [Option.map_some, Array.length_toList, Array.getElem?_toList]
    rw [Array.getD_eq_getD_getElem?, Array.getElem?_eq_getElem (by omega)]
    rfl
  · rw [List.getElem?_eq_none (by simp; omega), List.getElem?_eq_none (by simp; omega)]
section
variable {prog : Program} {w : World} {A : Around} {E : Value → Shared → Prop} {s : Shared}
theorem sliceApplied_rev {sl : Addr} {vl vu vs : Value} {n : Nat} {Q : Int × Int × Nat → Shared → Prop} (hs : s.heap.IsSliceOf sl vl vu vs) (pl : IsPart vl none) (pu : IsPart vu none) (ps : IsPart vs (some (-1)))
    (h : Q ((n : Int) - 1, -1, n) s) : wpAny (model prog w) A (Builtin.Slice.sliceApplied (.ref sl) (pure (n : Int))) Q E s := by
  obtain ⟨os, hos, hcs, hds⟩ := id hs
  unfold Builtin.Slice.sliceApplied Builtin.Slice.sliceFields
  refine wpAny_bind (wpAny_bind (wpAny_field hos hds (x := vl) rfl (wpAny_bind (wpAny_field hos hds (x := vu) rfl (wpAny_bind (wpAny_field hos hds (x := vs) rfl (wpAny_pure ?_)))))))
  refine wpAny_bind (slicePart_ ps ?_)
  show wpAny _ _ (if ((-1 : Int) == 0) = true then _ else _) _ _ s
  rw [if_neg (by decide)]
  refine wpAny_bind (slicePart_ pl (wpAny_bind (slicePart_ pu (wpAny_bind (wpAny_pure ?_)))))
  have e1 : Builtin.Slice.sliceAdjust none none (-1) (n : Int) = ((n : Int) - 1, -1) := rfl
  show wpAny _ _ (match Builtin.Slice.sliceAdjust none none (-1) (n : Int) with | (lo, hi) => pure (lo, (-1 : Int), Builtin.Slice.slicePlaces lo hi (-1))) _ _ s
  rw [e1]
  have e2 : Builtin.Slice.slicePlaces ((n : Int) - 1) (-1) (-1) = n := by
    unfold Builtin.Slice.slicePlaces
    rw [if_neg (by decide)]
    by_cases c : (n : Int) - 1 > -1
    · rw [if_pos c]
      have : (n : Int) - 1 - -1 - 1 = n - 1 := by omega
      rw [this]
      simp
    · rw [if_neg c]
      omega
  show wpAny _ _ (pure ((n : Int) - 1, (-1 : Int), Builtin.Slice.slicePlaces ((n : Int) - 1) (-1) (-1))) _ _ s
  rw [e2]
  exact wpAny_pure h
theorem getItem_tuple_rev {t sl : Addr} {items : Array Value} {vl vu vs : Value} {Q : Value → Shared → Prop} (ht : IsTup s.heap t items) (hs : s.heap.IsSliceOf sl vl vu vs) (pl : IsPart vl none) (pu : IsPart vu none) (ps : IsPart vs (some (-1)))
    (h : Q (.ref s.heap.objs.size) { s with heap := s.heap.push { cls := .type "tuple", data := .seq items.toList.reverse.toArray } })
    (hsz : items.size ≤ sizeLine) : wpAny (model prog w) A (getItem (.ref t) (.ref sl)) Q E s := by
  have htake : sizeOk (.seq items.toList.reverse.toArray) := by
    show items.toList.reverse.toArray.size ≤ sizeLine
    rw [List.size_toArray, List.length_reverse, Array.length_toList]
    exact hsz
  obtain ⟨os, hos, hcs, hds⟩ := id hs
  have hTs : s.TypeIs (.ref sl) "slice" := ⟨os, hos, hcs⟩
  unfold getItem
  try with_reducible refine wpAny_holding ?_
  first | refine wpAny_bind (wpAny_pure ?_) | skip
  refine wpAny_bind (wpAny_sequenceKey ht.typeIs (by decide) ?_)
  refine wpAny_bind (wpAny_callSpecial?_slot (name := Str.ofString "__getitem__") ht.typeIs PyProof.Rows.slot_tuple_getitem
    (wpAny_call_entry PyProof.Rows.slot_tuple_getitem ht.typeIs entry_tuple_getitem ?_ (args_tuple_getitem _ _)))
  show wpAny _ _ (Builtin.Tuple.tupleItemsOf (.ref t) >>= _) _ _ s
  refine wpAny_bind (tupleItemsOf_ ht ?_)
  refine wpAny_bind (wpAny_typeOf hTs ?_)
  rw [if_pos (by decide)]
  refine wpAny_bind (sliceApplied_rev hs pl pu ps ?_)
  have hno : ¬ ((((items.size : Int) - 1) == 0 && (-1 : Int) == 1 && items.size == items.size) = true) := by simp
  show wpAny _ _ (if ((((items.size : Int) - 1) == 0 && (-1 : Int) == 1 && items.size == items.size) = true) then _ else _) _ _ s
  rw [if_neg hno, rev_pick]
  first
    | exact wpAny_bind (m := Builtin.Tuple.tupleExact _) (wpAny_newObj_type (wpAny_pure ⟨_, rfl, wpAny_pure h⟩) htake)
    | exact wpAny_bind (m := Builtin.Tuple.tupleExact _) (wpAny_newObj_type (wpAny_bind (wpAny_pure (wpAny_pure ⟨_, rfl, wpAny_pure h⟩))) htake)
    | exact wpAny_bind (wpAny_bind (m := Builtin.Tuple.tupleExact _) (wpAny_newObj_type (wpAny_pure (wpAny_pure ⟨_, rfl, wpAny_pure h⟩)) htake))
    | exact wpAny_bind (wpAny_bind (m := Builtin.Tuple.tupleExact _) (wpAny_newObj_type (wpAny_pure ⟨_, rfl, wpAny_pure h⟩) htake))
end
section
variable {X : Cx}
def tRevA (K : PySem.W.Frag) (te : TE) : TE := fun σ H Q => te σ H fun x H1 => ∃ a xs, x = .ref a ∧ ((SqL K H1 a xs ∧ ∀ p, H1 p = none → Q (.ref p) (upd H1 p (.lst xs.reverse))) ∨ (SqT K H1 a xs ∧ ∀ p, H1 p = none → Q (.ref p) (upd H1 p (.tup xs.reverse))))
theorem pe_revA {e : Expr} {te : TE} {k : Nat} {p1 p2 p3 pos : Pos} (he : PE X e te) : PE X (.Subscript e (.Slice none none (some (.UnaryOp .USub (.Constant (.int 1) k p1) p2)) p3) pos) (tRevA X.K te) := by
  refine ⟨fun pins s σ H Q I h => ?_⟩
  refine Subscript_ (thn (he.run pins s σ H _ I h) fun v s1 ⟨x, H1, I1, r1, q1⟩ => ?_)
  obtain ⟨a, xs, ex, q⟩ := q1
  subst ex
  cases r1
  have hst : PO X (some (.UnaryOp .USub (.Constant (.int 1) k p1) p2)) (tPart (tUn (rU fun i => .int (-i)) (tC (.int 1)))) := po_some (pe_un un_neg pe_int)
  refine wpAny_Slice (thn (po_none.run pins s1 σ H1 (fun o H2 => o = none ∧ H2 = H1) I1 ⟨rfl, rfl⟩) fun vl s2 ⟨l, H2, I2, pl, el, e2⟩ => ?_)
  subst el e2
  refine thn (po_none.run pins s2 σ H2 (fun o H3 => o = none ∧ H3 = H2) I2 ⟨rfl, rfl⟩) fun vu s3 ⟨u, H3, I3, pu, eu, e3⟩ => ?_
  subst eu e3
  refine thn (hst.run pins s3 σ H3 (fun o H4 => o = some (-1) ∧ H4 = H3) I3 ⟨1, rfl, -1, rfl, rfl, rfl⟩) fun vs s4 ⟨o, H4, I4, ps, eo, e4⟩ => ?_
  subst eo e4
  have I5 : Inv X pins σ H4 { s4 with heap := s4.heap.push { cls := .type "slice", data := .fields #[vl, vu, vs] } } := I4.kept (t' := s4.toks) fun b ob q => Heap.get?_push_of_some _ q
  rcases q with ⟨hx, q⟩ | ⟨hx, q⟩
  · obtain ⟨its, r, ht, hz⟩ := I5.list hx
    have hlen := r.length
    show wpAny (model X.prog X.w) X.A (subscriptTail e (.Slice none none (some (.UnaryOp .USub (.Constant (.int 1) k p1) p2)) p3) (.ref a) (.ref s4.heap.objs.size)) (EP X pins σ Q) X.xe { s4 with heap := s4.heap.push { cls := .type "slice", data := .fields #[vl, vu, vs] } }
    refine tail_any (ops := [.ref a, .ref s4.heap.objs.size]) ht.isList.typeIs (PySem.slot_list_getitem.lookup) ?_ (by with_unfolding_all rfl)
    refine wpAny_getItem_list_slice ht.isList (Heap.IsSliceOf.new _ vl vu vs) pl pu ps (by decide) ?_ (by rw [List.size_toArray]; omega)
    rw [PySem.W.krv_pick]
    refine ⟨.ref _, _, I5.laid (t' := s4.toks) (o := .lst xs.reverse) (fun b ob q => Heap.get?_push_of_some _ q) (Nat.le_refl _) ?_, rfl, q _ (I5.hok.fresh (Nat.le_refl _))⟩
    exact ⟨by rw [List.length_reverse]; exact hz, _, 0, r.reverse, Heap.get?_push_size _ rfl⟩
  · obtain ⟨its, r, ht, hz⟩ := I5.tuple hx
    have hlen := r.length
    show wpAny (model X.prog X.w) X.A (subscriptTail e (.Slice none none (some (.UnaryOp .USub (.Constant (.int 1) k p1) p2)) p3) (.ref a) (.ref s4.heap.objs.size)) (EP X pins σ Q) X.xe { s4 with heap := s4.heap.push { cls := .type "slice", data := .fields #[vl, vu, vs] } }
    refine tail_any (ops := [.ref a, .ref s4.heap.objs.size]) ht.typeIs (PyProof.Rows.slot_tuple_getitem.lookup) ?_ (by with_unfolding_all rfl)
    refine getItem_tuple_rev ht (Heap.IsSliceOf.new _ vl vu vs) pl pu ps ?_ (by rw [List.size_toArray]; omega)
    refine ⟨.ref _, _, I5.laid (t' := s4.toks) (o := .tup xs.reverse) (fun b ob q => Heap.get?_push_of_some _ q) (Nat.le_refl _) ?_, rfl, q _ (I5.hok.fresh (Nat.le_refl _))⟩
    exact ⟨by rw [List.length_reverse]; exact hz, _, r.reverse, IsTup.new _ _⟩
end
end EV

/-! EvD: what each operator, comparison, subscript, built-in of ours says is what Python's does. -/
namespace EV
open PySem PySem.Spec PyProof.Rows L2
open PySem.W (dataLt alike minD maxD)

theorem bnd_inv {α β : Type} {m : Option (α × Nat)} {f : α → Nat → Option β} {r : β} (h : bnd m f = some r) : ∃ a n, m = some (a, n) ∧ f a n = some r := by
  cases m with
  | none => cases h
  | some p => exact ⟨p.1, p.2, rfl, h⟩
theorem map_inv {α β : Type} {m : Option α} {f : α → β} {r : β} (h : m.map f = some r) : ∃ a, m = some a ∧ f a = r := by
  cases m with
  | none => cases h
  | some p => exact ⟨p, rfl, Option.some.inj h⟩
theorem obind_inv {α β : Type} {m : Option α} {f : α → Option β} {r : β} (h : m.bind f = some r) : ∃ a, m = some a ∧ f a = some r := by
  cases m with
  | none => cases h
  | some p => exact ⟨p, rfl, h⟩
theorem asB_inv {d : D} {b : Bool} (h : asB d = some b) : d = .bool b := by
  cases d with
  | bool c => cases h; rfl
  | _ => cases h

/-- a new list or dict: nothing known leans on it, not even what lies in it -/
def FreshR (W : Wld) (F : Addr → Prop) (H H' : Hp) (v : V) (d : D) : Prop := ∀ a, v = .ref a → H a = none ∧ EV.SlR W (fun b => F b ∨ b = a) H' (.o d) (some v)
/-- what is wanted of a value d, behind the heap H -/
def Want (W : Wld) (F : Addr → Prop) (H : Hp) (n : Nat) (d : D) (Q : VK) : Prop := ∀ v H', Keep W.tok H H' → W.wp n H' → Rep W F H' v d → (isMut d = true → FreshR W F H H' v d) → Q v H'
section
variable {W : Wld} {F : Addr → Prop} {H H' : Hp} {n : Nat} {Q : VK}
theorem Want.atom {v : V} {d : D} (q : Want W F H n d Q) (w : W.wp n H) (r : Rep W F H v d) (hd : isMut d = false) : Q v H := q v H Keep.refl w r fun e => by rw [hd] at e; cases e
theorem Want.int {i : Int} (q : Want W F H n (.int i) Q) (w : W.wp n H) : Q (.int i) H := q.atom w (.int i) rfl
theorem Want.bl {i : Bool} (q : Want W F H n (.bool i) Q) (w : W.wp n H) : Q (.bl i) H := q.atom w (.bl i) rfl
theorem Want.str {i : Str} (q : Want W F H n (.str i) Q) (w : W.wp n H) : Q (.str i) H := q.atom w (.str i) rfl
theorem Want.lst {xs : List V} {ds : List D} (q : Want W F H n (.list ds) Q) (tr : ∀ a, F a → H a ≠ none) (tk : ∀ a, W.tok a → F a) (w : W.wp n H) (r : RepL W F H xs ds) : ∀ p, H p = none → Q (.ref p) (upd H p (.lst xs)) := fun p hp =>
  q _ _ (Keep.new hp) (W.new w hp) (.lst upd_same (fun z => tr p z hp) (r.keep (Keep.new hp) fun _ _ z => z)) fun _ a e => by
    cases e
    exact ⟨hp, ⟨.inr rfl, fun z => W.trk _ _ _ w z hp⟩, _, upd_same, r.keep (Keep.new hp) fun b hb z => z.elim id fun z => by subst z; exact absurd hp hb⟩
theorem Want.tup {xs : List V} {ds : List D} (q : Want W F H n (.tuple ds) Q) (tr : ∀ a, F a → H a ≠ none) (w : W.wp n H) (r : RepL W F H xs ds) : ∀ p, H p = none → Q (.ref p) (upd H p (.tup xs)) := fun p hp =>
  q _ _ (Keep.new hp) (W.new w hp) (.tup upd_same (fun z => tr p z hp) (r.keep (Keep.new hp) fun _ _ z => z)) fun e => by cases e
/-- an item of what stands -/
theorem Want.item {v : V} {d : D} (q : ∀ v H', Keep W.tok H H' → W.wp n H' → Rep W F H' v d → Q v H') (w : W.wp n H) (r : Rep W F H v d) : Q v H := q v H Keep.refl w r
end

/-! ### what reads as data -/
mutual
def noDict : D → Bool
  | .list ds => noDictL ds
  | .tuple ds => noDictL ds
  | .dict _ => false
  | _ => true
def noDictL : List D → Bool
  | [] => true
  | d :: ds => noDict d && noDictL ds
end
mutual
theorem noDict_plain : ∀ {d : D}, d.plain = true → noDict d = true
  | .none, _ => rfl
  | .bool _, _ => rfl
  | .int _, _ => rfl
  | .str _, _ => rfl
  | .list ds, h => noDictL_plain (ds := ds) (by simpa [PyData.plain] using h)
  | .tuple ds, h => noDictL_plain (ds := ds) (by simpa [PyData.plain] using h)
  | .dict _, h => by simp [PyData.plain] at h
theorem noDictL_plain : ∀ {ds : List D}, PyData.plainAll ds = true → noDictL ds = true
  | [], _ => rfl
  | d :: ds, h => by
    simp only [PyData.plainAll, Bool.and_eq_true] at h
    simp only [noDictL, Bool.and_eq_true]
    exact ⟨noDict_plain h.1, noDictL_plain h.2⟩
end
section
variable {W : Wld} {F : Addr → Prop} {H : Hp} {K : PySem.W.Frag}
mutual
theorem Rep.dp : ∀ {v : V} {d : D}, Rep W F H v d → noDict d = true → Dp K H v d
  | _, _, .non, _ => .non
  | _, _, .bl b, _ => .bl b
  | _, _, .int i, _ => .int i
  | _, _, .str x, _ => .str x
  | _, _, .tup e _ r, h => .tup (SqT.of e) (RepL.dp r h)
  | _, _, .lst e _ r, h => .lst (SqL.of e) (RepL.dp r h)
  | _, _, .dK _ _ _, h => by cases h
  | _, _, .dT _ _ _, h => by cases h
  | _, _, .wld _, h => by cases h
theorem RepL.dp : ∀ {v : List V} {d : List D}, RepL W F H v d → noDictL d = true → DpAll K H v d
  | _, _, .nil, _ => .nil
  | _, _, .cons a r, h => by
    simp only [noDictL, Bool.and_eq_true] at h
    exact .cons (Rep.dp a h.1) (RepL.dp r h.2)
end
theorem RepB.dp {v : V} {d : D} (r : RepB W F H v d) (h : okB 8 d = true) : Dp K H v d := by
  have nd : noDict d = true := noDict_plain (okB_spec _ _ h).1
  cases d with
  | list ds =>
    obtain ⟨a, xs, rfl, e, r⟩ := r.list
    exact .lst (SqL.of e) (r.dp nd)
  | dict _ => cases nd
  | _ => exact Rep.dp (r.flat rfl) nd
theorem RepB.tup {v : V} {ds : List D} (h : RepB W F H v (.tuple ds)) : ∃ a xs, v = .ref a ∧ H a = some (.tup xs) ∧ ¬ F a ∧ RepL W F H xs ds := by
  cases h.flat rfl with
  | tup e n r => exact ⟨_, _, rfl, e, n, r⟩
theorem RepB.int {v : V} {i : Int} (h : RepB W F H v (.int i)) : v = .int i := by cases h.flat rfl; rfl
theorem RepB.bl {v : V} {i : Bool} (h : RepB W F H v (.bool i)) : v = .bl i := by cases h.flat rfl; rfl
theorem RepB.str {v : V} {i : Str} (h : RepB W F H v (.str i)) : v = .str i := by cases h.flat rfl; rfl
theorem RepB.non {v : V} (h : RepB W F H v .none) : v = .non := by cases h.flat rfl; rfl
end

theorem small_b {i : Int} (h : small i = true) : i.natAbs < 2 ^ 64 := by
  simp only [small, Bool.and_eq_true, decide_eq_true_eq] at h
  omega
theorem log_small {n k : Nat} (h : n < 2 ^ k) : n.log2 < k ∨ n = 0 := by
  by_cases e : n = 0
  · exact .inr e
  · exact .inl ((Nat.log2_lt e).mpr h)
theorem log_le {n k : Nat} (h : n < 2 ^ (k + 1)) : n.log2 ≤ k := by
  rcases log_small h with h | h
  · omega
  · subst h; simp
theorem mulW_ok {i j : Int} (hi : small i = true) (hj : small j = true) : CMulW i j := by
  have h1 := log_le (k := 63) (small_b hi)
  have h2 := log_le (k := 63) (small_b hj)
  show _ + _ < _
  omega

/-- an operator's rule for two data -/
def OpS (W : Wld) (X : Cx) (f : Value → Value → Sem Value) (x y z : D) : Prop :=
  ∃ r, OpR X f r ∧ ∀ (F : Addr → Prop) (H : Hp) (n : Nat) (v u : V) (Q : VK), (∀ a, F a → H a ≠ none) → (∀ a, W.tok a → F a) → W.wp n H → RepB W F H v x → RepB W F H u y → Want W F H n z Q → r v u H Q

section
variable {W : Wld} {X : Cx}
theorem ordOk_spec {a b : D} (h : ordOk a b = true) : Ordd a b ∧ okB 8 a = true ∧ okB 8 b = true := by
  unfold ordOk at h
  simp only [Bool.and_eq_true, Bool.not_eq_true'] at h
  refine ⟨⟨h.1.1.1, fun e => ?_⟩, h.1.2, h.2⟩
  have := h.1.1.2
  subst e
  cases this
theorem RepB.dpL {F : Addr → Prop} {H : Hp} {K : PySem.W.Frag} {v : V} {ds : List D} (r : RepB W F H v (.list ds)) (h : ds.all (okB 8) = true) : Dp K H v (.list ds) := by
  obtain ⟨a, xs, rfl, e, r⟩ := r.list
  exact .lst (SqL.of e) (r.dp (noDictL_plain (okB_spec.okB_all 8 ds h).1))
theorem RepB.dpT {F : Addr → Prop} {H : Hp} {K : PySem.W.Frag} {v : V} {ds : List D} (r : RepB W F H v (.tuple ds)) (h : ds.all (okB 8) = true) : Dp K H v (.tuple ds) := by
  obtain ⟨a, xs, rfl, e, _, r⟩ := r.tup
  exact .tup (SqT.of e) (r.dp (noDictL_plain (okB_spec.okB_all 8 ds h).1))
theorem RepB.isNon {F : Addr → Prop} {H : Hp} {v : V} {d : D} (r : RepB W F H v d) (hd : ∀ kvs, d ≠ .dict kvs) : decide (v = .non) = isNon d := by
  cases d with
  | none => rw [r.non]; rfl
  | bool b => rw [r.bl]; rfl
  | int b => rw [r.int]; rfl
  | str b => rw [r.str]; rfl
  | list ds => obtain ⟨a, xs, rfl, _⟩ := r.list; rfl
  | tuple ds => obtain ⟨a, xs, rfl, _⟩ := r.tup; rfl
  | dict kvs => exact absurd rfl (hd kvs)
theorem is_sound {x y : D} {k : Bool} (h : isOf x y = some k) : OpS W X (compareOp .Is) x y (.bool k) := by
  unfold isOf at h
  split at h <;> cases h
  · exact ⟨_, op_isN, fun F H n v u Q tr tk w rv ru q => ⟨ru.non, by rw [rv.isNon (by intro _ e; cases e)]; exact q.bl w⟩⟩
  · rename_i h1 h2
    refine ⟨_, op_isN, fun F H n v u Q tr tk w rv ru q => ⟨ru.non, ?_⟩⟩
    rw [rv.isNon (fun kvs e => h2 kvs e)]
    cases x with
    | none => exact absurd rfl h1
    | _ => exact q.bl w
  · exact ⟨_, op_isBl, fun F H n v u Q tr tk w rv ru q => ⟨_, _, rv.bl, ru.bl, by simpa using q.bl w⟩⟩
theorem isn_sound {x y : D} {k : Bool} (h : isOf x y = some k) : OpS W X (compareOp .IsNot) x y (.bool !k) := by
  unfold isOf at h
  split at h <;> cases h
  · exact ⟨_, op_notN, fun F H n v u Q tr tk w rv ru q => ⟨ru.non, by rw [rv.isNon (by intro _ e; cases e)]; exact q.bl w⟩⟩
  · rename_i h1 h2
    refine ⟨_, op_notN, fun F H n v u Q tr tk w rv ru q => ⟨ru.non, ?_⟩⟩
    rw [rv.isNon (fun kvs e => h2 kvs e)]
    cases x with
    | none => exact absurd rfl h1
    | _ => exact q.bl w
  · exact ⟨_, op_notBl, fun F H n v u Q tr tk w rv ru q => ⟨_, _, rv.bl, ru.bl, by simpa using q.bl w⟩⟩
theorem op_sound {o : Operator} {o' : Bop} {x y z : D} (h : opIs o o' = true) (hv : opV o' x y = some z) : OpS W X (binaryOp o) x y z := by
  unfold opV at hv
  split at hv
  · cases o <;> cases h; cases hv
    exact ⟨_, op_add, fun F H n v u Q tr tk w rv ru q => ⟨_, _, rv.int, ru.int, q.int w⟩⟩
  · cases o <;> cases h
    split at hv <;> cases hv
    rename_i hl
    exact ⟨_, op_add_str, fun F H n v u Q tr tk w rv ru q => ⟨_, _, rv.str, ru.str, Nat.le_trans hl (by decide), q.str w⟩⟩
  · cases o <;> cases h
    split at hv <;> cases hv
    rename_i a b hl
    refine ⟨_, op_catA, fun F H n v u Q tr tk w rv ru q => ?_⟩
    obtain ⟨p1, xs, rfl, e1, n1, r1⟩ := rv.tup
    obtain ⟨p2, ys, rfl, e2, n2, r2⟩ := ru.tup
    refine ⟨p1, p2, xs, ys, rfl, rfl, SqT.of e1, SqT.of e2, by rw [r1.length, r2.length]; exact Nat.le_trans hl (by decide), fun e => ?_, fun _ e => ?_, fun _ _ => q.tup tr w (r1.append r2)⟩
    · subst e
      cases r1
      exact q.atom w (.tup e2 n2 r2) rfl
    · subst e
      cases r2
      exact q.atom w (.tup e1 n1 (by rw [List.append_nil]; exact r1)) rfl
  · cases o <;> cases h
    split at hv <;> cases hv
    rename_i a b hl
    refine ⟨_, op_cat, fun F H n v u Q tr tk w rv ru q => ?_⟩
    obtain ⟨p1, xs, rfl, e1, r1⟩ := rv.list
    obtain ⟨p2, ys, rfl, e2, r2⟩ := ru.list
    exact ⟨p1, p2, xs, ys, rfl, rfl, e1, e2, by rw [r1.length, r2.length]; exact Nat.le_trans hl (by decide), q.lst tr tk w (r1.append r2)⟩
  · cases o <;> cases h; cases hv
    exact ⟨_, op_sub, fun F H n v u Q tr tk w rv ru q => ⟨_, _, rv.int, ru.int, q.int w⟩⟩
  · cases o <;> cases h
    split at hv <;> cases hv
    rename_i hl
    rw [Bool.and_eq_true] at hl
    exact ⟨_, op_mulW, fun F H n v u Q tr tk w rv ru q => ⟨_, _, rv.int, ru.int, mulW_ok hl.1 hl.2, q.int w⟩⟩
  · cases o <;> cases h
    split at hv <;> cases hv
    rename_i a k hl
    simp only [Bool.and_eq_true, decide_eq_true_eq] at hl
    refine ⟨_, OpR.or op_repT (OpR.or op_repS op_repN), fun F H n v u Q tr tk w rv ru q => ?_⟩
    obtain ⟨p1, xs, rfl, e1, n1, r1⟩ := rv.tup
    have hx : xs.length ≤ 1000 := by rw [r1.length]; exact hl.2
    by_cases hs : xs = [] ∨ k = 1
    · refine .inr (.inl ⟨p1, k, xs, rfl, ru.int, SqT.of e1, hs, hl.1.1, hl.1.2, q.atom w (.tup e1 n1 ?_) rfl⟩)
      rcases hs with e | e
      · subst e
        cases r1
        rw [show (List.replicate k.toNat ([] : List D)).flatten = [] by simp]
        exact .nil
      · subst e
        rw [show (List.replicate (1 : Int).toNat a).flatten = a by simp]
        exact r1
    · have hne : xs ≠ [] := fun e => hs (.inl e)
      have hk : k ≠ 1 := fun e => hs (.inr e)
      by_cases h0 : k ≤ 0
      · refine .inr (.inr ⟨p1, k, xs, rfl, ru.int, SqT.of e1, hne, hl.1.1, h0, ?_⟩)
        rw [show (List.replicate k.toNat a).flatten = [] by rw [show k.toNat = 0 by omega]; rfl] at q
        exact q.tup tr w .nil
      · exact .inl ⟨p1, k, xs, rfl, ru.int, SqT.of e1, hne, by omega, hl.1.2, hx, q.tup tr w (r1.flat _)⟩
  · cases o <;> cases h
    split at hv <;> cases hv
    rename_i a k hl
    simp only [Bool.and_eq_true, decide_eq_true_eq] at hl
    refine ⟨_, op_rep, fun F H n v u Q tr tk w rv ru q => ?_⟩
    obtain ⟨p1, xs, rfl, e1, r1⟩ := rv.list
    refine ⟨p1, k, xs, rfl, ru.int, e1, by omega, by omega, ?_, q.lst tr tk w (r1.flat _)⟩
    rw [r1.length]
    exact Nat.le_trans (Nat.mul_le_mul hl.2 (show k.toNat ≤ 1000 by omega)) (by decide)
  · cases o <;> cases h
    split at hv
    · cases hv
      rename_i a b hl
      exact ⟨_, op_fdivW, fun F H n v u Q tr tk w rv ru q => ⟨_, _, rv.int, ru.int, ⟨hl.1, Nat.lt_of_le_of_lt (log_le (k := 29) (by omega)) (by decide)⟩, q.int w⟩⟩
    · split at hv <;> cases hv
      rename_i a b _ hl
      exact ⟨_, op_fdivN, fun F H n v u Q tr tk w rv ru q => ⟨_, _, rv.int, ru.int, ⟨by omega, by omega⟩, q.int w⟩⟩
  · cases o <;> cases h
    split at hv
    · cases hv
      rename_i a b hl
      exact ⟨_, op_mod, fun F H n v u Q tr tk w rv ru q => ⟨_, _, rv.int, ru.int, hl, q.int w⟩⟩
    · split at hv <;> cases hv
      rename_i a b _ hl
      exact ⟨_, op_modN, fun F H n v u Q tr tk w rv ru q => ⟨_, _, rv.int, ru.int, by omega, q.int w⟩⟩
  · cases o <;> cases h
    split at hv <;> cases hv
    rename_i hl
    exact ⟨_, op_pow, fun F H n v u Q tr tk w rv ru q => ⟨_, _, rv.int, ru.int, ⟨hl.1, by omega, small_b hl.2.2⟩, q.int w⟩⟩
  · cases o <;> cases h
    split at hv <;> cases hv
    rename_i hl
    exact ⟨_, op_shl, fun F H n v u Q tr tk w rv ru q => ⟨_, _, rv.int, ru.int, ⟨hl.1, by omega, small_b hl.2.2⟩, q.int w⟩⟩
  · cases o <;> cases h
    split at hv <;> cases hv
    rename_i hl
    exact ⟨_, op_shr, fun F H n v u Q tr tk w rv ru q => ⟨_, _, rv.int, ru.int, hl, q.int w⟩⟩
  · cases o <;> cases h; cases hv
    exact ⟨_, op_and, fun F H n v u Q tr tk w rv ru q => ⟨_, _, rv.int, ru.int, q.int w⟩⟩
  · cases hv
theorem cmp_sound (hu : X.A.units + 64 < cLine) {o : CmpOp} {o' : Cop} {x y z : D} (h : cmpIs o o' = true) (hv : cmpV o' x y = some z) : OpS W X (compareOp o) x y z := by
  unfold cmpV at hv
  split at hv
  · cases o <;> cases h; cases hv
    exact ⟨_, op_eq, fun F H n v u Q tr tk w rv ru q => by rw [rv.int, ru.int]; exact ⟨rfl, by simpa using q.bl w⟩⟩
  · cases o <;> cases h; cases hv
    exact ⟨_, op_ne, fun F H n v u Q tr tk w rv ru q => by rw [rv.int, ru.int]; exact ⟨rfl, by simpa using q.bl w⟩⟩
  · cases o <;> cases h; cases hv
    exact ⟨_, op_lt, fun F H n v u Q tr tk w rv ru q => ⟨_, _, rv.int, ru.int, q.bl w⟩⟩
  · cases o <;> cases h; cases hv
    exact ⟨_, op_le, fun F H n v u Q tr tk w rv ru q => ⟨_, _, rv.int, ru.int, q.bl w⟩⟩
  · cases o <;> cases h; cases hv
    exact ⟨_, op_gt, fun F H n v u Q tr tk w rv ru q => ⟨_, _, rv.int, ru.int, q.bl w⟩⟩
  · cases o <;> cases h; cases hv
    exact ⟨_, op_ge, fun F H n v u Q tr tk w rv ru q => ⟨_, _, rv.int, ru.int, q.bl w⟩⟩
  · cases o <;> cases h
    split at hv <;> cases hv
    rename_i hg
    rw [Bool.and_eq_true] at hg
    exact ⟨_, op_eqP hu, fun F H n v u Q tr tk w rv ru q => ⟨_, _, rv.dp hg.1, ru.dp hg.2, hg.1, hg.2, trivial, q.bl w⟩⟩
  · cases o <;> cases h
    split at hv <;> cases hv
    rename_i hg
    rw [Bool.and_eq_true] at hg
    exact ⟨_, op_neP hu, fun F H n v u Q tr tk w rv ru q => ⟨_, _, rv.dp hg.1, ru.dp hg.2, hg.1, hg.2, trivial, q.bl w⟩⟩
  · cases o <;> cases h
    split at hv <;> cases hv
    rename_i hg
    obtain ⟨g1, g2, g3⟩ := ordOk_spec hg
    exact ⟨_, op_ltP hu, fun F H n v u Q tr tk w rv ru q => ⟨_, _, rv.dp g2, ru.dp g3, g2, g3, g1, q.bl w⟩⟩
  · cases o <;> cases h
    split at hv <;> cases hv
    rename_i hg
    obtain ⟨g1, g2, g3⟩ := ordOk_spec hg
    exact ⟨_, op_gtP hu, fun F H n v u Q tr tk w rv ru q => ⟨_, _, rv.dp g2, ru.dp g3, g2, g3, g1, q.bl w⟩⟩
  · cases o <;> cases h
    split at hv <;> cases hv
    rename_i hg
    obtain ⟨g1, g2, g3⟩ := ordOk_spec hg
    exact ⟨_, op_leP hu, fun F H n v u Q tr tk w rv ru q => ⟨_, _, rv.dp g2, ru.dp g3, g2, g3, g1, q.bl w⟩⟩
  · cases o <;> cases h
    split at hv <;> cases hv
    rename_i hg
    obtain ⟨g1, g2, g3⟩ := ordOk_spec hg
    exact ⟨_, op_geP hu, fun F H n v u Q tr tk w rv ru q => ⟨_, _, rv.dp g2, ru.dp g3, g2, g3, g1, q.bl w⟩⟩
  · cases o <;> cases h
    split at hv <;> cases hv
    rename_i hg
    rw [Bool.and_eq_true] at hg
    exact ⟨_, op_inP hu, fun F H n v u Q tr tk w rv ru q => ⟨_, _, rv.dp hg.1, .inl (ru.dpL hg.2), hg.1, hg.2, q.bl w⟩⟩
  · cases o <;> cases h
    split at hv <;> cases hv
    rename_i hg
    rw [Bool.and_eq_true] at hg
    exact ⟨_, op_inP hu, fun F H n v u Q tr tk w rv ru q => ⟨_, _, rv.dp hg.1, .inr (ru.dpT hg.2), hg.1, hg.2, q.bl w⟩⟩
  · cases o <;> cases h
    split at hv <;> cases hv
    rename_i hg
    rw [Bool.and_eq_true] at hg
    exact ⟨_, op_ninP hu, fun F H n v u Q tr tk w rv ru q => ⟨_, _, rv.dp hg.1, .inl (ru.dpL hg.2), hg.1, hg.2, q.bl w⟩⟩
  · cases o <;> cases h
    split at hv <;> cases hv
    rename_i hg
    rw [Bool.and_eq_true] at hg
    exact ⟨_, op_ninP hu, fun F H n v u Q tr tk w rv ru q => ⟨_, _, rv.dp hg.1, .inr (ru.dpT hg.2), hg.1, hg.2, q.bl w⟩⟩
  · cases o <;> cases h
    obtain ⟨k, hk, rfl⟩ := map_inv hv
    exact is_sound hk
  · cases o <;> cases h
    obtain ⟨k, hk, rfl⟩ := map_inv hv
    exact isn_sound hk
  · cases hv

/-! ### subscripts, slices -/
theorem IxR.or {r t : R2} (h1 : IxR X r) (h2 : IxR X t) : IxR X (fun x y H Q => r x y H Q ∨ t x y H Q) := fun value slice pins s σ H x y v u Q I rx ry h e =>
  h.elim (fun h => h1 value slice pins s σ H x y v u Q I rx ry h e) (fun h => h2 value slice pins s σ H x y v u Q I rx ry h e)
theorem atI_rep {F : Addr → Prop} {H : Hp} {xs : List V} {ds : List D} {i : Int} {d : D} (r : RepL W F H xs ds) (h : atI ds i = some d) : ∃ v, atI xs i = some v ∧ Rep W F H v d := by
  unfold atI at h ⊢
  rw [r.length]
  obtain ⟨j, h1, h2⟩ := obind_inv h
  rw [h1]
  exact r.get h2
/-- a subscript's rule -/
theorem idx_sound {x y z : D} (hv : idxV x y = some z) :
    ∃ r, IxR X r ∧ ∀ (F : Addr → Prop) (H : Hp) (n : Nat) (v u : V) (Q : VK), W.wp n H → RepB W F H v x → RepB W F H u y → (∀ v H', Keep W.tok H H' → W.wp n H' → Rep W F H' v z → Q v H') → r v u H Q := by
  unfold idxV at hv
  split at hv
  · refine ⟨_, ix_tup, fun F H n v u Q w rv ru q => ?_⟩
    obtain ⟨a, xs, rfl, e, _, r⟩ := rv.tup
    obtain ⟨v, h1, h2⟩ := atI_rep r hv
    exact ⟨a, xs, _, v, rfl, ru.int, SqT.of e, h1, Want.item q w h2⟩
  · refine ⟨_, ix_list, fun F H n v u Q w rv ru q => ?_⟩
    obtain ⟨a, xs, rfl, e, r⟩ := rv.list
    obtain ⟨v, h1, h2⟩ := atI_rep r hv
    exact ⟨a, xs, _, v, rfl, ru.int, SqL.of e, h1, Want.item q w h2⟩
  · split at hv
    · rename_i hl
      obtain ⟨c, h1, rfl⟩ := map_inv hv
      exact ⟨_, ix_str, fun F H n v u Q w rv ru q => ⟨_, _, c, rv.str, ru.int, Nat.le_trans hl (by decide), h1, Want.item q w (.str _)⟩⟩
    · cases hv
  · cases hv
theorem SlR.or {r t : V → Option Int → Option Int → Hp → VK → Prop} (h1 : L2.SlR X r) (h2 : L2.SlR X t) : L2.SlR X (fun x l h H Q => r x l h H Q ∨ t x l h H Q) := fun pins s σ H x v vl vu lo hi sl Q I rx a b c h =>
  h.elim (h1 pins s σ H x v vl vu lo hi sl Q I rx a b c) (h2 pins s σ H x v vl vu lo hi sl Q I rx a b c)
theorem cut_rep {F : Addr → Prop} {H : Hp} {xs : List V} {ds : List D} {lo hi : Option Int} (r : RepL W F H xs ds) : RepL W F H (cutV xs lo hi) (cutL ds lo hi) := by
  unfold cutV cutL
  rw [r.length]
  exact (r.drop _).take _
theorem slc_sound {x z : D} {lo hi : Option Int} (hv : slcV x lo hi = some z) :
    ∃ r, L2.SlR X r ∧ ∀ (F : Addr → Prop) (H : Hp) (n : Nat) (v : V) (Q : VK), (∀ a, F a → H a ≠ none) → (∀ a, W.tok a → F a) → W.wp n H → RepB W F H v x → Want W F H n z Q → r v lo hi H Q := by
  unfold slcV at hv
  split at hv
  · cases hv
    rename_i ds
    refine ⟨_, sl_tupA, fun F H n v Q tr tk w rv q => ?_⟩
    obtain ⟨a, xs, rfl, e, na, r⟩ := rv.tup
    refine ⟨a, xs, rfl, SqT.of e, fun h => ?_, fun _ => q.tup tr w (cut_rep r)⟩
    refine q.atom w (.tup e na ?_) rfl
    have : cutL ds lo hi = ds := by
      unfold cutL
      rw [← r.length, h.1, h.2, List.drop_zero, Nat.sub_zero, r.length, List.take_length]
    rw [this]
    exact r
  · cases hv
    refine ⟨_, sl_list, fun F H n v Q tr tk w rv q => ?_⟩
    obtain ⟨a, xs, rfl, e, r⟩ := rv.list
    exact ⟨a, xs, rfl, SqL.of e, q.lst tr tk w (cut_rep r)⟩
  · cases hv

/-! ### built-ins -/
def RepBL (W : Wld) (F : Addr → Prop) (H : Hp) : List V → List D → Prop
  | [], [] => True
  | v :: vs, d :: ds => RepB W F H v d ∧ RepBL W F H vs ds
  | _, _ => False
theorem ints_rep {F : Addr → Prop} {H : Hp} : ∀ {xs : List V} {ds : List D} {ns : List Int}, RepL W F H xs ds → intsOf ds = some ns → xs = ns.map V.int
  | _, _, _, .nil, h => by cases h; rfl
  | _, _, ns, .cons (d := d) r rs, h => by
    cases d with
    | int i =>
      obtain ⟨ms, h1, h2⟩ := map_inv (show (intsOf _).map (i :: ·) = some ns from h)
      subst h2
      cases r
      rw [ints_rep rs h1]
      rfl
    | _ => cases h
theorem bools_rep {F : Addr → Prop} {H : Hp} : ∀ {xs : List V} {ds : List D} {ns : List Bool}, RepL W F H xs ds → boolsOf ds = some ns → xs = ns.map V.bl
  | _, _, _, .nil, h => by cases h; rfl
  | _, _, ns, .cons (d := d) r rs, h => by
    cases d with
    | bool i =>
      obtain ⟨ms, h1, h2⟩ := map_inv (show (boolsOf _).map (i :: ·) = some ns from h)
      subst h2
      cases r
      rw [bools_rep rs h1]
      rfl
    | _ => cases h
theorem CallR.or {f : Value} {r t : List V → Hp → VK → Prop} (h1 : CallR X f r) (h2 : CallR X f t) : CallR X f (fun x H Q => r x H Q ∨ t x H Q) := fun pins s σ H x v Q I rx h =>
  h.elim (h1 pins s σ H x v Q I rx) (h2 pins s σ H x v Q I rx)
theorem nu_max3 (a b c : Int) : nuMax3 (.int a) (.int b) (.int c) = some (.int (max2 (max2 a b) c)) := by
  show ((some (decide (a < b))).map fun k => if k = true then V.int b else V.int a).bind (fun m => nuMax2 m (.int c)) = _
  unfold max2
  by_cases h : a < b
  · rw [if_pos h]
    by_cases h2 : b < c <;> simp [h, h2, nuMax2, nuLt, nuCB]
  · rw [if_neg h]
    by_cases h2 : a < c <;> simp [h, h2, nuMax2, nuLt, nuCB]
theorem nu_min3 (a b c : Int) : nuMin3 (.int a) (.int b) (.int c) = some (.int (min2 (min2 a b) c)) := by
  show ((some (decide (b < a))).map fun k => if k = true then V.int b else V.int a).bind (fun m => nuMin2 m (.int c)) = _
  unfold min2
  by_cases h : b < a
  · rw [if_pos h]
    by_cases h2 : c < b <;> simp [h, h2, nuMin2, nuLt, nuCB]
  · rw [if_neg h]
    by_cases h2 : c < a <;> simp [h, h2, nuMin2, nuLt, nuCB]
def biFn : Bi → Value
  | .len => .builtin "len" | .sum => .builtin "sum" | .max => .builtin "max" | .min => .builtin "min" | .sorted => .builtin "sorted" | .tuple => .type "tuple" | .list => .type "list"
  | .abs => .builtin "abs" | .int => .type "int" | .all => .builtin "all" | .any => .builtin "any" | .dict => .type "dict" | _ => .none
/-- a built-in's rule for the data -/
def BiS (W : Wld) (X : Cx) (f : Value) (xs : List D) (z : D) : Prop :=
  ∃ r, CallR X f r ∧ ∀ (F : Addr → Prop) (H : Hp) (n : Nat) (vs : List V) (Q : VK), (∀ a, F a → H a ≠ none) → (∀ a, W.tok a → F a) → W.wp n H → RepBL W F H vs xs → Want W F H n z Q → r vs H Q
theorem RepBL.one {F : Addr → Prop} {H : Hp} {vs : List V} {d : D} (h : RepBL W F H vs [d]) : ∃ v, vs = [v] ∧ RepB W F H v d := by
  match vs, h with
  | [v], h => exact ⟨v, rfl, h.1⟩
theorem RepBL.two {F : Addr → Prop} {H : Hp} {vs : List V} {d e : D} (h : RepBL W F H vs [d, e]) : ∃ v u, vs = [v, u] ∧ RepB W F H v d ∧ RepB W F H u e := by
  match vs, h with
  | [v, u], h => exact ⟨v, u, rfl, h.1, h.2.1⟩
theorem RepBL.three {F : Addr → Prop} {H : Hp} {vs : List V} {d e f : D} (h : RepBL W F H vs [d, e, f]) : ∃ v u t, vs = [v, u, t] ∧ RepB W F H v d ∧ RepB W F H u e ∧ RepB W F H t f := by
  match vs, h with
  | [v, u, t], h => exact ⟨v, u, t, rfl, h.1, h.2.1, h.2.2.1⟩
theorem RepL.pairs {F : Addr → Prop} {H : Hp} : ∀ {zs : List (V × D)}, RepL W F H (zs.map Prod.fst) (zs.map Prod.snd) → ∀ z ∈ zs, Rep W F H z.1 z.2
  | z :: zs, .cons r t, y, hy => by
    rcases List.mem_cons.1 hy with e | e
    · rw [e]; exact r
    · exact RepL.pairs t y e
theorem RepL.ofPairs {F : Addr → Prop} {H : Hp} : ∀ {zs : List (V × D)}, (∀ z ∈ zs, Rep W F H z.1 z.2) → RepL W F H (zs.map Prod.fst) (zs.map Prod.snd)
  | [], _ => .nil
  | z :: zs, h => .cons (h z List.mem_cons_self) (RepL.ofPairs fun y hy => h y (List.mem_cons_of_mem _ hy))
theorem RepL.sorted {F : Addr → Prop} {H : Hp} {zs : List (V × D)} (r : RepL W F H (zs.map Prod.fst) (zs.map Prod.snd)) : RepL W F H ((zs.mergeSort (PySem.W.dataLe false Prod.snd)).map Prod.fst) (sortD (zs.map Prod.snd)) := by
  rw [sortD_merge, ← PySem.W.sort_maps (r := PySem.W.dataLe false Prod.snd) Prod.snd (fun a _ b _ => rfl)]
  exact RepL.ofPairs fun z hz => r.pairs z (List.mem_mergeSort.1 hz)
theorem fold_in (p : D → D → Bool) (ds : List D) : ∀ (d : D), ds.foldl (fun a y => if p a y then y else a) d ∈ d :: ds := by
  induction ds with
  | nil => intro d; simp
  | cons x xs ih =>
    intro d
    rw [List.foldl_cons]
    have := ih (if p d x = true then x else d)
    rcases List.mem_cons.mp this with h | h
    · rw [h]
      split <;> simp
    · exact List.mem_cons_of_mem _ (List.mem_cons_of_mem _ h)
theorem minD_in (d : D) (ds : List D) : minD d ds ∈ d :: ds := fold_in (fun a y => dataLt y a) ds d
theorem maxD_in (d : D) (ds : List D) : maxD d ds ∈ d :: ds := fold_in (fun a y => dataLt a y) ds d
theorem best_sound {F : Addr → Prop} {H : Hp} {n : Nat} {f : D → List D → D} {d : D} {ds : List D} {a : Addr} {xs : List V} {Q : VK} (w : W.wp n H) (hs : SqL X.K H a xs ∨ SqT X.K H a xs) (r : RepL W F H xs (d :: ds)) (hc : cmpAll (d :: ds) = true) (q : Want W F H n (f d ds) Q)
    (hm : f d ds ∈ d :: ds) : rBest X.K f [.ref a] H Q := by
  have hp := (okB_spec.okB_all 8 _ (cmpAll_spec hc).2).1
  refine ⟨a, xs, d, ds, rfl, hs, r.dp (noDictL_plain hp), hc, fun i v h1 h2 => ?_⟩
  obtain ⟨y, h3, h4⟩ := r.get h2
  rw [h1] at h3
  cases h3
  exact q.atom w h4 (cmpAll_flat hc _ hm)
theorem best1 {f : D → List D → D} {fn : String} {L : List D → Option D} (hL : ∀ ds, L ds = match ds with | [] => none | x :: xs => if cmpAll (x :: xs) = true then some (f x xs) else none) (hf : ∀ d ds, f d ds ∈ d :: ds) (hr : CallR X (.builtin fn) (rBest X.K f))
    {x z : D} {ds : List D} (hx : x = .list ds ∨ x = .tuple ds) (hv : L ds = some z) : BiS W X (.builtin fn) [x] z := by
  rw [hL] at hv
  cases ds with
  | nil => cases hv
  | cons d ds =>
    simp only at hv
    split at hv
    · cases hv
      rename_i hc
      refine ⟨_, hr, fun F H n vs Q tr tk w rv q => ?_⟩
      obtain ⟨v, rfl, r⟩ := rv.one
      rcases hx with rfl | rfl
      · obtain ⟨a, xs, rfl, e, r⟩ := r.list
        exact best_sound w (.inl (SqL.of e)) r hc q (hf d ds)
      · obtain ⟨a, xs, rfl, e, _, r⟩ := r.tup
        exact best_sound w (.inr (SqT.of e)) r hc q (hf d ds)
    · cases hv
theorem bi_sound (hc : X.calm = true) (hu : X.A.units + 64 < cLine) {f : Bi} {xs : List D} {z : D} (hb : biVal f = true) (hv : biV f xs = some z) : BiS W X (biFn f) xs z := by
  unfold biV at hv
  split at hv
  · cases hv
    refine ⟨_, call_len_seq, fun F H n vs Q tr tk w rv q => ?_⟩
    obtain ⟨v, rfl, r⟩ := rv.one
    obtain ⟨a, xs, rfl, e, r⟩ := r.list
    exact ⟨a, xs, rfl, .inl (SqL.of e), by rw [r.length]; exact q.int w⟩
  · cases hv
    refine ⟨_, call_len_seq, fun F H n vs Q tr tk w rv q => ?_⟩
    obtain ⟨v, rfl, r⟩ := rv.one
    obtain ⟨a, xs, rfl, e, _, r⟩ := r.tup
    exact ⟨a, xs, rfl, .inr (SqT.of e), by rw [r.length]; exact q.int w⟩
  · split at hv <;> cases hv
    rename_i hl
    refine ⟨_, call_len_str, fun F H n vs Q tr tk w rv q => ?_⟩
    obtain ⟨v, rfl, r⟩ := rv.one
    exact ⟨_, by rw [r.str], Nat.le_trans hl (by decide), q.int w⟩
  · obtain ⟨ns, h1, rfl⟩ := map_inv hv
    refine ⟨_, cr_sum hc, fun F H n vs Q tr tk w rv q => ?_⟩
    obtain ⟨v, rfl, r⟩ := rv.one
    obtain ⟨a, xs, rfl, e, r⟩ := r.list
    exact ⟨a, ns, rfl, SqL.of (by rw [← ints_rep r h1]; exact e), q.int w⟩
  · cases hv
    refine ⟨_, call_abs, fun F H n vs Q tr tk w rv q => ?_⟩
    obtain ⟨v, rfl, r⟩ := rv.one
    exact ⟨_, by rw [r.int], q.int w⟩
  · cases hv
    refine ⟨_, call_int1, fun F H n vs Q tr tk w rv q => ?_⟩
    obtain ⟨v, rfl, r⟩ := rv.one
    exact .inl ⟨_, by rw [r.int], q.int w⟩
  · cases hv
    refine ⟨_, call_int1, fun F H n vs Q tr tk w rv q => ?_⟩
    obtain ⟨v, rfl, r⟩ := rv.one
    exact .inr ⟨_, by rw [r.bl], q.int w⟩
  · cases hv
    refine ⟨_, call_max2 hc, fun F H n vs Q tr tk w rv q => ?_⟩
    obtain ⟨v, u, rfl, r, r2⟩ := rv.two
    exact ⟨_, _, by rw [r.int, r2.int], q.int w⟩
  · cases hv
    refine ⟨_, call_min2 hc, fun F H n vs Q tr tk w rv q => ?_⟩
    obtain ⟨v, u, rfl, r, r2⟩ := rv.two
    exact ⟨_, _, by rw [r.int, r2.int], q.int w⟩
  · obtain ⟨ns, h1, rfl⟩ := map_inv hv
    refine ⟨_, cr_sumT hc, fun F H n vs Q tr tk w rv q => ?_⟩
    obtain ⟨v, rfl, r⟩ := rv.one
    obtain ⟨a, xs, rfl, e, _, r⟩ := r.tup
    exact ⟨a, ns, rfl, SqT.of (by rw [← ints_rep r h1]; exact e), q.int w⟩
  · exact best1 (L := maxL) (fun ds => by cases ds <;> rfl) maxD_in (cr_maxP hc hu) (.inl rfl) hv
  · exact best1 (L := maxL) (fun ds => by cases ds <;> rfl) maxD_in (cr_maxP hc hu) (.inr rfl) hv
  · exact best1 (L := minL) (fun ds => by cases ds <;> rfl) minD_in (cr_minP hc hu) (.inl rfl) hv
  · exact best1 (L := minL) (fun ds => by cases ds <;> rfl) minD_in (cr_minP hc hu) (.inr rfl) hv
  · cases hv
    refine ⟨_, call_max3Nu hc, fun F H n vs Q tr tk w rv q => ?_⟩
    obtain ⟨v, u, t, rfl, r, r2, r3⟩ := rv.three
    rw [r.int, r2.int, r3.int]
    refine ⟨_, _, _, _, rfl, nu_max3 _ _ _, q.int w⟩
  · cases hv
    refine ⟨_, call_min3Nu hc, fun F H n vs Q tr tk w rv q => ?_⟩
    obtain ⟨v, u, t, rfl, r, r2, r3⟩ := rv.three
    rw [r.int, r2.int, r3.int]
    refine ⟨_, _, _, _, rfl, nu_min3 _ _ _, q.int w⟩
  · split at hv <;> cases hv
    rename_i hok
    refine ⟨_, cr_sortD hu, fun F H n vs Q tr tk w rv q => ?_⟩
    obtain ⟨v, rfl, r⟩ := rv.one
    obtain ⟨a, xs, rfl, e, r⟩ := r.list
    have hp := (okB_spec.okB_all 8 _ (List.all_eq_true.2 (sortOk_spec hok).2.2)).1
    refine ⟨a, xs, _, rfl, SqL.of e, r.dp (noDictL_plain hp), hok, fun zs p e1 e2 => ?_⟩
    subst e1 e2
    exact q.lst tr tk w r.sorted p
  · obtain ⟨ns, h1, rfl⟩ := map_inv hv
    refine ⟨_, cr_all hc, fun F H n vs Q tr tk w rv q => ?_⟩
    obtain ⟨v, rfl, r⟩ := rv.one
    obtain ⟨a, xs, rfl, e, r⟩ := r.list
    exact ⟨a, ns, rfl, SqL.of (by rw [← bools_rep r h1]; exact e), q.bl w⟩
  · obtain ⟨ns, h1, rfl⟩ := map_inv hv
    refine ⟨_, cr_any hc, fun F H n vs Q tr tk w rv q => ?_⟩
    obtain ⟨v, rfl, r⟩ := rv.one
    obtain ⟨a, xs, rfl, e, r⟩ := r.list
    exact ⟨a, ns, rfl, SqL.of (by rw [← bools_rep r h1]; exact e), q.bl w⟩
  · cases hv
    refine ⟨_, call_tuple_of, fun F H n vs Q tr tk w rv q => ?_⟩
    obtain ⟨v, rfl, r⟩ := rv.one
    obtain ⟨a, xs, rfl, e, r⟩ := r.list
    exact ⟨a, xs, rfl, .inl ⟨SqL.of e, q.tup tr w r⟩⟩
  · cases hv
    refine ⟨_, call_tuple_of, fun F H n vs Q tr tk w rv q => ?_⟩
    obtain ⟨v, rfl, r⟩ := rv.one
    obtain ⟨a, xs, rfl, e, na, r⟩ := r.tup
    exact ⟨a, xs, rfl, .inr ⟨SqT.of e, q.atom w (.tup e na r) rfl⟩⟩
  · cases hv
    refine ⟨_, call_list_of, fun F H n vs Q tr tk w rv q => ?_⟩
    obtain ⟨v, rfl, r⟩ := rv.one
    obtain ⟨a, xs, rfl, e, r⟩ := r.list
    exact ⟨a, xs, rfl, .inl (SqL.of e), q.lst tr tk w r⟩
  · cases hv
    refine ⟨_, call_list_of, fun F H n vs Q tr tk w rv q => ?_⟩
    obtain ⟨v, rfl, r⟩ := rv.one
    obtain ⟨a, xs, rfl, e, na, r⟩ := r.tup
    exact ⟨a, xs, rfl, .inr (SqT.of e), q.lst tr tk w r⟩
  · cases hb
  · cases hb
  · cases hv
end
end EV

/-! EvE: expressions. -/
namespace EV
open PySem PySem.Spec PyProof.Rows L2

/-! ### readings -/
def WantF (fr : Bool) (W : Wld) (F : Addr → Prop) (H : Hp) (n : Nat) (d : D) (Q : VK) : Prop := ∀ v H', Keep W.tok H H' → W.wp n H' → Rep W F H' v d → (fr = true → isMut d = true → FreshR W F H H' v d) → Q v H'
theorem isFresh.back {W : Wld} {H H2 : Hp} {n : Nat} {v : V} (h : isFresh H2 v) (k : Keep W.tok H H2) (w : W.wp n H2) : isFresh H v := fun a e => by
  have h2 := h a e
  cases q : H a with
  | none => rfl
  | some o =>
    by_cases t : W.tok a
    · exact absurd h2 (W.trk _ _ _ w (W.sub _ t))
    · rw [k a o t q] at h2; cases h2
theorem none_back {W : Wld} {H H2 : Hp} {n : Nat} {a : Addr} (h : H2 a = none) (k : Keep W.tok H H2) (w : W.wp n H2) : H a = none := isFresh.back (v := .ref a) (fun b e => by cases e; exact h) k w a rfl
section
variable {W : Wld} {F G : Addr → Prop} {H H2 H' : Hp} {n m : Nat} {d : D} {Q : VK} {fr : Bool} {ρ : Env} {σ : L2.St}
theorem WantF.on (q : WantF fr W F H m d Q) (k : Keep W.tok H H2) (w : W.wp n H2) : WantF fr W F H2 m d Q := fun v H' k' w' r f => q v H' (k.trans k') w' r fun e1 e2 a e => ⟨none_back (f e1 e2 a e).1 k w, (f e1 e2 a e).2⟩
theorem WantF.want (q : WantF fr W F H m d Q) : Want W F H m d Q := fun v H' k w r f => q v H' k w r fun _ e => f e
theorem WantF.atom (q : WantF fr W F H n d Q) (w : W.wp n H) {v : V} (r : Rep W F H v d) (hd : isMut d = false) : Q v H := q v H Keep.refl w r fun _ e => by rw [hd] at e; cases e
theorem WantF.plain (q : WantF false W F H m d Q) : ∀ v H', Keep W.tok H H' → W.wp m H' → Rep W F H' v d → Q v H' := fun v H' k w r => q v H' k w r fun e => by cases e
theorem Wld.same (W : Wld) (w : W.wp n H) (s : ∀ a o, H a = some o → H' a = some o) : W.wp n H' := W.stab _ _ _ w fun a z => by
  cases e : H a with
  | none => exact absurd e (W.trk _ _ _ w z)
  | some o => exact s a o e
theorem Rel.to (R : Rel W F ρ n σ H) (k : Keep W.tok H H') (w : W.wp m H') (fg : ∀ a, F a → G a) (gf : ∀ a, H a ≠ none → G a → F a) (tr : ∀ a, G a → H' a ≠ none) : Rel W G ρ m σ H' where
  len := R.len
  sl := fun i s e => by
    obtain ⟨ov, e1, e2⟩ := R.sl i s e
    exact ⟨ov, e1, SlR.keep k (fun a z => R.wa a (W.sub a z)) gf fg e2⟩
  tr := tr
  wa := fun a z => fg a (R.wa a z)
  wp := w
theorem Rel.tk (R : Rel W F ρ n σ H) : ∀ a, W.tok a → F a := fun a z => R.wa a (W.sub a z)
theorem Rel.set (R : Rel W F ρ n σ H) {i : Nat} {v : V} {d : D} (r : Rep W F H v d) : Rel W F (ρ.set i (.v d)) n (σ.set i (some v)) H where
  len := by rw [List.length_set, List.length_set]; exact R.len
  sl := fun j s e => by
    by_cases h : i = j
    · subst h
      have hl : i < ρ.length := by
        have := (List.getElem?_eq_some_iff.mp e).1
        rwa [List.length_set] at this
      rw [List.getElem?_set_self hl] at e
      cases e
      exact ⟨some v, by rw [List.getElem?_set_self (by rw [R.len]; exact hl)], r⟩
    · rw [List.getElem?_set_ne h] at e
      rw [List.getElem?_set_ne h]
      exact R.sl j s e
  tr := R.tr
  wa := R.wa
  wp := R.wp
theorem Rel.clr (R : Rel W F ρ n σ H) {i : Nat} {ov : Option V} : Rel W F (ρ.set i .u) n (σ.set i ov) H where
  len := by rw [List.length_set, List.length_set]; exact R.len
  sl := fun j s e => by
    by_cases h : i = j
    · subst h
      have hl : i < ρ.length := by
        have := (List.getElem?_eq_some_iff.mp e).1
        rwa [List.length_set] at this
      rw [List.getElem?_set_self hl] at e
      cases e
      exact ⟨ov, by rw [List.getElem?_set_self (by rw [R.len]; exact hl)], trivial⟩
    · rw [List.getElem?_set_ne h] at e
      rw [List.getElem?_set_ne h]
      exact R.sl j s e
  tr := R.tr
  wa := R.wa
  wp := R.wp
theorem Rel.wipe (R : Rel W F ρ n σ H) : ∀ vs : List Nat, Rel W F (wipeE ρ vs) n (L2.wipe σ vs) H
  | [] => R
  | _ :: vs => (Rel.wipe R vs).clr
end

def RdE (Φ : Fns) (W : Wld) (c : E) : TE := fun σ H Q => ∃ F ρ n d n', Rel W F ρ n σ H ∧ evE Φ c ρ n = some (d, n') ∧ WantF (frsh Φ c) W F H n' d Q
def RdB (Φ : Fns) (W : Wld) (c : E) : TE := fun σ H Q => ∃ F ρ n d n', Rel W F ρ n σ H ∧ evB (evE Φ c) c ρ n = some (d, n') ∧ ∀ v H', Keep W.tok H H' → W.wp n' H' → RepB W F H' v d → Q v H'
def RdT (Φ : Fns) (W : Wld) (c : E) : TT := fun σ H Q => ∃ F ρ n b n', Rel W F ρ n σ H ∧ evE Φ c ρ n = some (.bool b, n') ∧ ∀ H', Keep W.tok H H' → W.wp n' H' → Q b H'
def RdEs (Φ : Fns) (W : Wld) (cs : List E) : TA := fun σ H Q => ∃ F ρ n ds n', Rel W F ρ n σ H ∧ evEs Φ cs ρ n = some (ds, n') ∧ ∀ vs H', Keep W.tok H H' → W.wp n' H' → RepL W F H' vs ds → Q vs H'
def RdBs (Φ : Fns) (W : Wld) (cs : List E) : TA := fun σ H Q => ∃ F ρ n ds n', Rel W F ρ n σ H ∧ evBs Φ cs ρ n = some (ds, n') ∧ ∀ vs H', Keep W.tok H H' → W.wp n' H' → RepBL W F H' vs ds → Q vs H'
def RdO (Φ : Fns) (W : Wld) (c : Option E) : TO := fun σ H Q => ∃ F ρ n o n', Rel W F ρ n σ H ∧ evO Φ c ρ n = some (o, n') ∧ ∀ H', Keep W.tok H H' → W.wp n' H' → Q o H'
def RdTs (Φ : Fns) (W : Wld) (cs : List E) : TT := fun σ H Q => ∃ F ρ n b n', Rel W F ρ n σ H ∧ evT Φ cs ρ n = some (b, n') ∧ ∀ H', Keep W.tok H H' → W.wp n' H' → Q b H'
/-- J walks the data xs, as long as Z stands -/
def ItOk (W : Wld) (Z F : Addr → Prop) (J : It) (xs : List D) (H : Hp) : Prop := ∀ (i : Nat) (H2 : Hp), Keep Z H H2 →
  (∀ x, xs[i]? = some x → J.go i H2 ∧ ∀ v H3, J.yld i H2 v H3 → (∀ a o, H2 a = some o → H3 a = some o) ∧ ∀ G : Addr → Prop, (∀ a, H a ≠ none → G a → F a) → (∀ a, G a → H2 a ≠ none) → Rep W G H3 v x) ∧ (xs.length ≤ i → J.stop i H2)
def RdI (Φ : Fns) (W : Wld) (c : E) : TI := fun σ H R => ∃ F ρ n d xs n', Rel W F ρ n σ H ∧ evB (evE Φ c) c ρ n = some (d, n') ∧ iterV d = some xs ∧ ∀ J H', Keep W.tok H H' → W.wp n' H' → ItOk W W.tok F J xs H' → R J H'
def RdIV (Φ : Fns) (W : Wld) (c : E) : TI := fun σ H R => ∃ F ρ n d xs n', Rel W F ρ n σ H ∧ evE Φ c ρ n = some (d, n') ∧ iterV d = some xs ∧ ∀ J H', Keep W.tok H H' → W.wp n' H' → ItOk W F F J xs H' → R J H'
def RdG (W : Wld) (t : Tg) : TG := fun v σ H Q => ∃ F ρ ρ' d n, Rel W F ρ n σ H ∧ Rep W F H v d ∧ bindT t false d ρ = some ρ' ∧ ∀ σ', Rel W F ρ' n σ' H → (∀ vs, (∀ i ∈ tgSlots t, i ∈ vs) → L2.wipe σ' vs = L2.wipe σ vs) → Q σ' H
def RdGs (W : Wld) (ts : List Tg) : TGs := fun vs σ H Q => ∃ F ρ ρ' ds n, Rel W F ρ n σ H ∧ RepL W F H vs ds ∧ bindTs ts ds ρ = some ρ' ∧ ∀ σ', Rel W F ρ' n σ' H → (∀ vs, (∀ i ∈ tgsSlots ts, i ∈ vs) → L2.wipe σ' vs = L2.wipe σ vs) → Q σ' H

/-! ### what a def promises -/
def spOf (W : Wld) (Φ : Fns) (f np : Nat) : Sp := fun vs H Q _ => vs.length = np ∧ ∃ F ds n d n', RepL W F H vs ds ∧ (∀ a, F a → H a ≠ none) ∧ (∀ a, W.wa a → F a) ∧ W.wp n H ∧ Φ.ev f ds n = some (d, n') ∧ WantF (Φ.fr f) W F H n' d Q
def CalOk (W : Wld) (Φ : Fns) (X : Cx) (f : Nat) (x : Str) : Prop := ∃ fa fd ps k, FnOk X.prog X.w X.K X.mg X.base CX0 k fa fd ps (spOf W Φ f ps.length) ∧ Room k X.A ∧ X.mg x = some (.ref fa) ∧ PySem.W.keepIn X.K (.ref fa) = true ∧ Binds X.K fd ps [] ∧ ∀ ds n r, Φ.ev f ds n = some r → ds.length = ps.length
def bNames : List Str := ["len", "sum", "max", "min", "sorted", "tuple", "list", "abs", "int", "all", "any", "dict", "range", "zip", "set", "isinstance"]
structure XOk (Γ N : List Str) (Φ : Fns) (W : Wld) (X : Cx) (sc : Scope) : Prop where
  hN : X.N = N
  hsc : X.env.scope = sc
  nd : X.N.Nodup
  calm : X.calm = true
  xe : X.xe = fun _ _ => False
  un : X.A.units + 64 < cLine
  blt : ∀ x ∈ bNames, X.mg x = none
  fn : ∀ (f : Nat) x, Γ[f]? = some x → CalOk W Φ X f x
section
variable {Γ N : List Str} {Φ : Fns} {W : Wld} {X : Cx} {sc : Scope}
theorem XOk.blk (h : XOk Γ N Φ W X sc) (s : Shared) (H : Hp) (scope : Scope) (C : Addr) (cl : List (Str × Addr)) (fp : List Addr) : XOk Γ N Φ W (X.blk s H scope (compEnvC scope cl C X.env) fp) (relS scope sc) where
  hN := h.hN
  hsc := by rw [← h.hsc]; rfl
  nd := h.nd
  calm := h.calm
  xe := rfl
  un := h.un
  blt := h.blt
  fn := fun f x e => h.fn f x e

theorem mt_nostar {k : Nat} {e : Expr} {c : E} (h : mtE Γ N k sc e c = true) : ∀ es env, starEach (e :: es) env = (false, eval e env) :: starEach es env := by
  intro es env
  cases e with
  | Starred v p =>
    exfalso
    cases k <;> simp [mtE] at h
  | _ => rfl
theorem all2_cons {α β : Type} {f : α → β → Bool} {a : α} {as : List α} {bs : List β} (h : all2 f (a :: as) bs = true) : ∃ b r, bs = b :: r ∧ f a b = true ∧ all2 f as r = true := by
  cases bs with
  | nil => cases h
  | cons b r =>
    rw [all2, Bool.and_eq_true] at h
    exact ⟨b, r, rfl, h.1, h.2⟩
theorem all2_nil {α β : Type} {f : α → β → Bool} {bs : List β} (h : all2 f [] bs = true) : bs = [] := by
  cases bs with
  | nil => rfl
  | cons b r => cases h
theorem nostars {k : Nat} {pos : Pos} {env : PySem.Env} : ∀ {es : List Expr} {cs : List E}, all2 (mtE Γ N k sc) es cs = true → (backTo pos (starEach es env)).any (·.1) = false
  | [], _, _ => rfl
  | e :: es, cs, h => by
    obtain ⟨c, r, rfl, h1, h2⟩ := all2_cons h
    rw [mt_nostar h1]
    have := nostars (pos := pos) (env := env) h2
    simpa [backTo] using this
theorem isVar_some {c : E} {i : Nat} (h : isVar c = some i) : c = .var i := by
  cases c <;> cases h
  rfl
theorem evB_other {f : EV.Env → Nat → Option (D × Nat)} {c : E} {ρ : EV.Env} {n : Nat} (h : isVar c = none) : evB f c ρ n = f ρ n := by
  unfold evB
  rw [h]
theorem vis_of {x : Str} (ok : X.env.scope = sc) (h : visB sc x = true) : Vis X.env.scope x := by
  rw [ok]
  unfold visB at h
  unfold Vis
  split at h <;> simp_all
theorem peVarB (ok : XOk Γ N Φ W X sc) {i : Nat} : ∀ {k : Nat} {e : Expr}, mtE Γ N k sc e (.var i) = true → PE X e (RdB Φ W (.var i))
  | 0, _, h => by simp [mtE] at h
  | k + 1, e, h => by
    cases e <;> try (simp [mtE] at h; done)
    case BoolOp o vs p =>
      match vs, h with
      | [a], h => exact ⟨(pe_one (peVarB ok (e := a) (by simpa [mtE] using h))).run⟩
      | [], h => simp [mtE] at h
      | a :: b :: r, h => cases o <;> simp [mtE] at h
    case Name x p =>
      simp only [mtE, Bool.and_eq_true, decide_eq_true_eq, Bool.not_eq_true'] at h
      refine ⟨fun pins s σ H Q I ⟨F, ρ, n, d, n', R, ev, q⟩ => ?_⟩
      unfold evB at ev
      rw [show isVar (.var i) = some i from rfl] at ev
      obtain ⟨d', h1, h2⟩ := map_inv ev
      cases h2
      obtain ⟨v, e1, r1⟩ := R.getB h1
      exact (pe_var (by rw [ok.hN]; exact h.1.1.1) (vis_of ok.hsc h.1.1.2) h.1.2 h.2).run pins s σ H Q I ⟨v, e1, q v H Keep.refl R.wp r1⟩
/-- an operand, from a value -/
theorem peB (ok : XOk Γ N Φ W X sc) {k : Nat} {e : Expr} {c : E} (h : mtE Γ N k sc e c = true) (he : PE X e (RdE Φ W c)) : PE X e (RdB Φ W c) := by
  cases hv : isVar c with
  | none =>
    refine ⟨fun pins s σ H Q I ⟨F, ρ, n, d, n', R, ev, q⟩ => he.run pins s σ H Q I ⟨F, ρ, n, d, n', R, ?_, fun v H' k1 w1 r1 _ => q v H' k1 w1 (.inl r1)⟩⟩
    rw [evB_other hv] at ev
    exact ev
  | some i =>
    have := isVar_some hv
    subst this
    exact peVarB ok h
theorem paEs {k : Nat} {sc' : Scope} (ih : ∀ {e : Expr} {c : E}, mtE Γ N k sc e c = true → PE X e (RdE Φ W c)) : ∀ {es : List Expr} {cs : List E}, all2 (mtE Γ N k sc) es cs = true → PA X es (RdEs Φ W cs)
  | [], cs, h => by
    have := all2_nil h
    subst this
    refine ⟨fun pos pins s σ H Q I ⟨F, ρ, n, ds, n', R, ev, q⟩ => pa_nil.run pos pins s σ H Q I ?_⟩
    cases ev
    exact q [] H Keep.refl R.wp .nil
  | e :: es, cs, h => by
    obtain ⟨c, r, rfl, h1, h2⟩ := all2_cons h
    refine ⟨fun pos pins s σ H Q I ⟨F, ρ, n, ds, n', R, ev, q⟩ => (pa_cons (ih h1) (paEs (sc' := sc') ih h2) (mt_nostar h1 _ _)).run pos pins s σ H Q I ?_⟩
    obtain ⟨d, n1, e1, ev⟩ := bnd_inv ev
    obtain ⟨ds', n2, e2, ev⟩ := bnd_inv ev
    cases ev
    exact ⟨F, ρ, n, d, n1, R, e1, fun v H1 k1 w1 r1 _ => ⟨F, ρ, n1, ds', n', R.keep k1 w1, e2, fun vs H2 k2 w2 r2 => q (v :: vs) H2 (k1.trans k2) w2 (.cons (r1.keep (k2.weak R.tk) fun _ _ z => z) r2)⟩⟩
theorem paBs (ok : XOk Γ N Φ W X sc) {k : Nat} (ih : ∀ {e : Expr} {c : E}, mtE Γ N k sc e c = true → PE X e (RdE Φ W c)) : ∀ {es : List Expr} {cs : List E}, all2 (mtE Γ N k sc) es cs = true → PA X es (RdBs Φ W cs)
  | [], cs, h => by
    have := all2_nil h
    subst this
    refine ⟨fun pos pins s σ H Q I ⟨F, ρ, n, ds, n', R, ev, q⟩ => pa_nil.run pos pins s σ H Q I ?_⟩
    cases ev
    exact q [] H Keep.refl R.wp trivial
  | e :: es, cs, h => by
    obtain ⟨c, r, rfl, h1, h2⟩ := all2_cons h
    refine ⟨fun pos pins s σ H Q I ⟨F, ρ, n, ds, n', R, ev, q⟩ => (pa_cons (peB ok h1 (ih h1)) (paBs ok ih h2) (mt_nostar h1 _ _)).run pos pins s σ H Q I ?_⟩
    obtain ⟨d, n1, e1, ev⟩ := bnd_inv ev
    obtain ⟨ds', n2, e2, ev⟩ := bnd_inv ev
    cases ev
    exact ⟨F, ρ, n, d, n1, R, e1, fun v H1 k1 w1 r1 => ⟨F, ρ, n1, ds', n', R.keep k1 w1, e2, fun vs H2 k2 w2 r2 => q (v :: vs) H2 (k1.trans k2) w2 ⟨r1.keep k2 R.tk (fun _ _ z => z) (fun _ z => z), r2⟩⟩⟩
theorem gl_of (ok : XOk Γ N Φ W X sc) {x : Str} (h : glB sc x = true) : Gl X x := by
  unfold Gl PySem.Env.kindOf
  rw [ok.hsc]
  exact eq_of_beq h

/-! ### targets -/
theorem wipe_set {σ : L2.St} {i : Nat} {x : Option V} : ∀ {vs : List Nat}, i ∈ vs → L2.wipe (σ.set i x) vs = L2.wipe σ vs
  | [], h => by cases h
  | v :: vs, h => by
    show (L2.wipe (σ.set i x) vs).set v none = (L2.wipe σ vs).set v none
    by_cases hv : i ∈ vs
    · rw [wipe_set hv]
    · have : i = v := by
        rcases List.mem_cons.mp h with h | h
        · exact h
        · exact absurd h hv
      subst this
      have g : ∀ (ws : List Nat) (σ : L2.St), i ∉ ws → L2.wipe (σ.set i x) ws = (L2.wipe σ ws).set i x := by
        intro ws
        induction ws with
        | nil => intro σ _; rfl
        | cons w ws ih =>
          intro σ hw
          show (L2.wipe (σ.set i x) ws).set w none = ((L2.wipe σ ws).set w none).set i x
          rw [ih σ (fun z => hw (List.mem_cons_of_mem _ z)), List.set_comm]
          intro e
          subst e
          exact hw List.mem_cons_self
      rw [g vs σ hv, List.set_set]
theorem wipe_none {σ : L2.St} {v : Nat} : ∀ {vs : List Nat}, v ∈ vs → (L2.wipe σ vs)[v]? = some none ∨ (L2.wipe σ vs)[v]? = none
  | [], h => by cases h
  | w :: vs, h => by
    rw [show L2.wipe σ (w :: vs) = (L2.wipe σ vs).set w none from rfl]
    by_cases e : w = v
    · subst e
      rw [List.getElem?_set]
      by_cases hl : w < (L2.wipe σ vs).length
      · exact .inl (by rw [if_pos rfl, if_pos hl])
      · exact .inr (by rw [if_pos rfl, if_neg hl])
    · rw [List.getElem?_set_ne e]
      exact wipe_none ((List.mem_cons.mp h).resolve_left fun z => e z.symm)
theorem wipe_idem {σ : L2.St} : ∀ {vs ws : List Nat}, (∀ v ∈ ws, v ∈ vs) → L2.wipe (L2.wipe σ vs) ws = L2.wipe σ vs
  | _, [], _ => rfl
  | vs, w :: ws, h => by
    show (L2.wipe (L2.wipe σ vs) ws).set w none = L2.wipe σ vs
    rw [wipe_idem fun v hv => h v (List.mem_cons_of_mem _ hv)]
    apply List.ext_getElem?
    intro i
    by_cases e : w = i
    · subst e
      rcases wipe_none (σ := σ) (h w List.mem_cons_self) with z | z
      · rw [List.getElem?_set]
        have hl := (List.getElem?_eq_some_iff.mp z).1
        rw [if_pos rfl, if_pos hl, z]
      · rw [List.getElem?_set]
        have hl := List.getElem?_eq_none_iff.mp z
        rw [if_pos rfl, if_neg (by omega), z]
    · rw [List.getElem?_set_ne e]
theorem asg_nostar {sc0 : Scope} {k : Nat} {e : Expr} {t : Tg} (h : mtT N sc0 k e t = true) : ∀ es env, assignEach (e :: es) env = (false, assign e env) :: assignEach es env := by
  intro es env
  cases e with
  | Starred v p =>
    exfalso
    cases k <;> simp [mtT] at h
  | _ => rfl
theorem asg_facts {sc0 : Scope} {k : Nat} {env : PySem.Env} : ∀ {es : List Expr} {ts : List Tg}, all2 (mtT N sc0 k) es ts = true → (assignEach es env).length = ts.length ∧ (assignEach es env).findIdx? (·.1) = none
  | [], ts, h => by
    have := all2_nil h
    subst this
    exact ⟨rfl, rfl⟩
  | e :: es, ts, h => by
    obtain ⟨c, r, rfl, h1, h2⟩ := all2_cons h
    have q := asg_facts (env := env) h2
    rw [asg_nostar h1]
    exact ⟨by simp [q.1], by simp [List.findIdx?_cons, q.2]⟩
/-- a name may be stored -/
def StoreOk (X : Cx) (sc0 : Scope) : Prop := ∀ x, locB sc0 x = true → Loc X.env.scope x ∧ (X.fn x = true ∨ X.env.scope.names.lookup x = some .local)
theorem pgT (nd : X.N.Nodup) (hN : X.N = N) (calm : X.calm = true) {sc0 : Scope} (st : StoreOk X sc0) : ∀ {k : Nat} {e : Expr} {t : Tg}, mtT N sc0 k e t = true → PG X e (RdG W t)
  | 0, _, _, h => by simp [mtT] at h
  | k + 1, e, .nm i, h => by
    cases e <;> try (simp [mtT] at h; done)
    rename_i x p
    simp only [mtT, Bool.and_eq_true, decide_eq_true_eq] at h
    obtain ⟨l1, l2⟩ := st x h.2
    refine ⟨fun pins s σ H v u Q I rv ⟨F, ρ, ρ', d, n, R, r, hb, q⟩ => (pg_name nd (by rw [hN]; exact h.1) l1 l2).run pins s σ H v u Q I rv ?_⟩
    cases hb
    exact q _ (R.set r) fun vs hv => wipe_set (hv i (by simp [tgSlots]))
  | k + 1, e, .tp ts, h => by
    cases e <;> try (simp [mtT] at h; done)
    rename_i es x p
    have h : all2 (mtT N sc0 k) es ts = true := by simpa [mtT] using h
    have fs := asg_facts (env := X.env) h
    refine ⟨fun pins s σ H v u Q I rv ⟨F, ρ, ρ', d, n, R, r, hb, q⟩ => (pg_tup calm (pgTs k h) fs.1 fs.2).run pins s σ H v u Q I rv ?_⟩
    cases d with
    | tuple ds =>
      cases r with
      | tup e1 n1 r1 =>
        refine ⟨_, _, rfl, SqT.of e1, ?_, ⟨F, ρ, ρ', ds, n, R, r1, by simpa [bindT] using hb, fun σ' R' hw => q σ' R' fun vs hv => hw vs (by simpa [tgSlots] using hv)⟩⟩
        rw [r1.length]
        have hb : bindTs ts ds ρ = some ρ' := by simpa [bindT] using hb
        have g : ∀ (ts : List Tg) (ds : List D) (ρ ρ' : EV.Env), bindTs ts ds ρ = some ρ' → ds.length = ts.length := by
          intro ts
          induction ts with
          | nil => intro ds ρ ρ' h; cases ds with
            | nil => rfl
            | cons d ds => simp [bindTs] at h
          | cons t ts ih => intro ds ρ ρ' h; cases ds with
            | nil => simp [bindTs] at h
            | cons d ds =>
              obtain ⟨ρ1, _, h2⟩ := obind_inv (show (bindT t false d ρ).bind _ = _ by simpa [bindTs] using h)
              simp [ih _ _ _ h2]
        exact g _ _ _ _ hb
    | _ => simp [bindT] at hb
where
  pgTs : ∀ (k : Nat) {es : List Expr} {ts : List Tg}, all2 (mtT N sc0 k) es ts = true → PGs X es (RdGs W ts)
  | k, [], ts, h => by
    have := all2_nil h
    subst this
    refine ⟨fun pins s σ H vs us Q I rv ⟨F, ρ, ρ', ds, n, R, r, hb, q⟩ => pgs_nil.run pins s σ H vs us Q I rv ?_⟩
    cases r with
    | nil =>
      cases hb
      exact ⟨rfl, q σ R fun _ _ => rfl⟩
    | cons _ _ => simp [bindTs] at hb
  | k, e :: es, ts, h => by
    obtain ⟨t, r, rfl, h1, h2⟩ := all2_cons h
    refine ⟨fun pins s σ H vs us Q I rv ⟨F, ρ, ρ', ds, n, R, r, hb, q⟩ => (pgs_cons (pgT nd hN calm st h1) (pgTs k h2) (by rw [asg_nostar h1]; rfl)).run pins s σ H vs us Q I rv ?_⟩
    cases r with
    | nil => simp [bindTs] at hb
    | cons r1 rs =>
      obtain ⟨ρ1, b1, b2⟩ := obind_inv (show (bindT t false _ ρ).bind _ = _ by simpa [bindTs] using hb)
      refine ⟨_, _, rfl, F, ρ, ρ1, _, n, R, r1, b1, fun σ1 R1 w1 => ⟨F, ρ1, ρ', _, n, R1, rs, b2, fun σ2 R2 w2 => q σ2 R2 fun vs hv => ?_⟩⟩
      rw [w2 vs fun i hi => hv i (by simp [tgsSlots, hi]), w1 vs fun i hi => hv i (by simp [tgsSlots, hi])]
end
end EV

/-! EvF: comprehensions, walks, the theorem of expressions. -/
namespace EV
open PySem PySem.Spec PyProof.Rows L2

section
variable {Γ N : List Str} {Φ : Fns} {W : Wld} {X : Cx} {sc : Scope}

/-! ### tests -/
theorem pt_ifExp {t a b : Expr} {p : Pos} {tt ta tb : TT} (ht : PT X t tt) (ha : PT X a ta) (hb : PT X b tb) : PT X (.IfExp t a b p) (fun σ H Q => tt σ H fun c H1 => if c = true then ta σ H1 Q else tb σ H1 Q) := by
  refine ⟨fun pins s σ H Q I h => ?_⟩
  unfold PySem.isTrue
  refine wpAny_bind (thn (ht.run pins s σ H _ I h) fun c s1 ⟨H1, I1, q1⟩ => ?_)
  cases c with
  | true => exact ha.run pins s1 σ H1 Q I1 q1
  | false => exact hb.run pins s1 σ H1 Q I1 q1
theorem ptVal {e : Expr} {c : E} (he : PE X e (RdE Φ W c)) (hv : ∀ whole, PySem.isTrue e X.env whole = (do let v ← whole; standAt e.pos; holding [v] (truthy v))) : PT X e (RdT Φ W c) :=
  ⟨fun pins s σ H Q I ⟨F, ρ, n, b, n', R, ev, q⟩ => (pt_val he hv).run pins s σ H Q I ⟨F, ρ, n, _, n', R, ev, fun v H' k w r _ => by
    cases r
    exact ⟨_, rfl, q H' k w⟩⟩⟩
theorem mt_nomark {k : Nat} {e : Expr} {c : E} {op : CmpOp} (h : mtE Γ N k sc e c = true) : behindInMarks op e = false := by
  cases e with
  | Set es n p =>
    exfalso
    cases k <;> simp [mtE] at h
  | _ => rfl

/-! ### walks -/
theorem itOk_list {K : PySem.W.Frag} {Z F : Addr → Prop} {a : Addr} {xs : List V} {ds : List D} {H : Hp} (e : H a = some (.lst xs)) (na : ¬ Z a) (tk : ∀ a, Z a → F a) (r : RepL W F H xs ds) : ItOk W Z F (Itl K a) ds H := fun i H2 k => by
  have e2 := k _ _ na e
  refine ⟨fun x hx => ?_, fun hi => ⟨xs, SqL.of e2, by rw [r.length]; exact hi⟩⟩
  obtain ⟨v, h1, h2⟩ := r.get hx
  refine ⟨⟨xs, v, SqL.of e2, h1⟩, fun u H3 hy => ?_⟩
  obtain ⟨rfl, hy⟩ := hy
  have := hy xs (SqL.of e2)
  rw [h1] at this
  cases this
  exact ⟨fun _ _ z => z, fun G gf tr => h2.keep (k.weak tk) gf⟩
theorem itOk_tup {K : PySem.W.Frag} {Z F : Addr → Prop} {a : Addr} {xs : List V} {ds : List D} {H : Hp} (e : H a = some (.tup xs)) (na : ¬ Z a) (tk : ∀ a, Z a → F a) (r : RepL W F H xs ds) : ItOk W Z F (Itt K a) ds H := fun i H2 k => by
  have e2 := k _ _ na e
  refine ⟨fun x hx => ?_, fun hi => ⟨xs, SqT.of e2, by rw [r.length]; exact hi⟩⟩
  obtain ⟨v, h1, h2⟩ := r.get hx
  refine ⟨⟨xs, v, SqT.of e2, h1⟩, fun u H3 hy => ?_⟩
  obtain ⟨rfl, hy⟩ := hy
  have := hy xs (SqT.of e2)
  rw [h1] at this
  cases this
  exact ⟨fun _ _ z => z, fun G gf tr => h2.keep (k.weak tk) gf⟩
theorem itOk_rng {Z F : Addr → Prop} {lo hi : Int} {H : Hp} : ItOk W Z F (Itr lo (hi - lo).toNat) (rangeL lo hi) H := fun i H2 k => by
  have hl : (rangeL lo hi).length = (hi - lo).toNat := by simp [rangeL]
  refine ⟨fun x hx => ?_, fun h => by rw [hl] at h; exact h⟩
  have hi2 : i < (hi - lo).toNat := by
    have := (List.getElem?_eq_some_iff.mp hx).1
    rwa [hl] at this
  have ex : x = .int (lo + i) := by
    unfold rangeL at hx
    rw [List.getElem?_map, List.getElem?_range hi2] at hx
    exact (Option.some.inj hx).symm
  subst ex
  refine ⟨hi2, fun v H3 hy => ?_⟩
  obtain ⟨rfl, rfl⟩ := hy
  exact ⟨fun _ _ z => z, fun G _ _ => .int _⟩
/-- a list or a tuple, one's own list too -/
theorem piVal {tg e : Expr} {c : E} (he : PE X e (RdB Φ W c)) : PI X tg e (RdI Φ W c) := by
  refine ⟨fun pins s σ H Rr I ⟨F, ρ, n, d, xs, n', R, ev, hi, q⟩ => ?_⟩
  cases d with
  | list ds =>
    cases hi
    refine (pi_list he).run pins s σ H Rr I ⟨F, ρ, n, _, n', R, ev, fun v H' k w r => ?_⟩
    obtain ⟨a, vs, rfl, e1, r1⟩ := r.list
    have na : ¬ W.tok a := fun t => by
      rcases r with r | r
      · cases (show Rep W F H' (.ref a) (.list _) from r) with
        | lst _ nf _ => exact nf (R.tk a t)
      · exact r.1.2 (W.sub a t)
    exact ⟨a, rfl, ⟨vs, SqL.of e1⟩, q _ H' k w (itOk_list (K := X.K) e1 na R.tk r1)⟩
  | tuple ds =>
    cases hi
    refine (pi_tup he).run pins s σ H Rr I ⟨F, ρ, n, _, n', R, ev, fun v H' k w r => ?_⟩
    obtain ⟨a, vs, rfl, e1, na, r1⟩ := r.tup
    exact ⟨a, rfl, ⟨vs, SqT.of e1⟩, q _ H' k w (itOk_tup (K := X.K) e1 (fun t => na (R.tk a t)) R.tk r1)⟩
  | _ => cases hi
theorem piValV {tg e : Expr} {c : E} (he : PE X e (RdE Φ W c)) : PI X tg e (RdIV Φ W c) := by
  refine ⟨fun pins s σ H Rr I ⟨F, ρ, n, d, xs, n', R, ev, hi, q⟩ => ?_⟩
  cases d with
  | list ds =>
    cases hi
    refine (pi_list he).run pins s σ H Rr I ⟨F, ρ, n, _, n', R, ev, fun v H' k w r _ => ?_⟩
    cases r with
    | lst e1 na r1 => exact ⟨_, rfl, ⟨_, SqL.of e1⟩, q _ H' k w (itOk_list (K := X.K) e1 na (fun _ z => z) r1)⟩
  | tuple ds =>
    cases hi
    refine (pi_tup he).run pins s σ H Rr I ⟨F, ρ, n, _, n', R, ev, fun v H' k w r _ => ?_⟩
    cases r with
    | tup e1 na r1 => exact ⟨_, rfl, ⟨_, SqT.of e1⟩, q _ H' k w (itOk_tup (K := X.K) e1 na (fun _ z => z) r1)⟩
  | _ => cases hi
/-- a walk that leans on nothing serves both -/
theorem piAny {tg e : Expr} {c : E} (hv : isVar c = none) (h : ∀ (Z F : Addr → Prop), PI X tg e (fun σ H R => ∃ ρ n d xs n', Rel W F ρ n σ H ∧ evE Φ c ρ n = some (d, n') ∧ iterV d = some xs ∧ ∀ J H', Keep W.tok H H' → W.wp n' H' → ItOk W Z F J xs H' → R J H')) : PI X tg e (RdI Φ W c) ∧ PI X tg e (RdIV Φ W c) := by
  refine ⟨⟨fun pins s σ H Rr I ⟨F, ρ, n, d, xs, n', R, ev, hi, q⟩ => ?_⟩, ⟨fun pins s σ H Rr I ⟨F, ρ, n, d, xs, n', R, ev, hi, q⟩ => ?_⟩⟩
  · rw [evB_other hv] at ev
    exact (h W.tok F).run pins s σ H Rr I ⟨ρ, n, d, xs, n', R, ev, hi, q⟩
  · exact (h F F).run pins s σ H Rr I ⟨ρ, n, d, xs, n', R, ev, hi, q⟩
theorem lim62_spec {i : Int} (h : lim62 i = true) : -(2 ^ 62) ≤ i ∧ i < 2 ^ 62 := by
  simp only [lim62, Bool.and_eq_true, decide_eq_true_eq] at h
  omega
theorem piR1 (ok : XOk Γ N Φ W X sc) {tg a : Expr} {p pos : Pos} {a' : E} {k : Nat} (hg : glB sc "range" = true) (hm : mtE Γ N k sc a a' = true) (ha : PE X a (RdE Φ W a')) : PI X tg (.Call (.Name "range" p) [a] [] pos) (RdI Φ W (.bi .range [a'])) ∧ PI X tg (.Call (.Name "range" p) [a] [] pos) (RdIV Φ W (.bi .range [a'])) := by
  refine piAny rfl fun Z F => ⟨fun pins s σ H Rr I ⟨ρ, n, d, xs, n', R, ev, hi, q⟩ => ?_⟩
  have hs : starEach [a] X.env = [(false, eval a X.env)] := by rw [mt_nostar hm]; rfl
  refine (pi_range1 (gl_of ok hg) (ok.blt _ (by simp [bNames])) (pa_cons (peB ok hm ha) pa_nil (mt_nostar hm _ _)) hs).run pins s σ H Rr I ?_
  obtain ⟨ds, n1, e1, ev⟩ := bnd_inv (show bnd (evBs Φ [a'] ρ n) _ = _ from ev)
  obtain ⟨z, e2, ev⟩ := map_inv ev
  cases ev
  obtain ⟨d1, n2, e3, e1⟩ := bnd_inv (show bnd (evB (evE Φ a') a' ρ n) _ = _ from e1)
  cases e1
  refine ⟨F, ρ, n, d1, n', R, e3, fun v H' k w r => ?_⟩
  cases d1 with
  | int j =>
    have e2 : (if lim62 j then some (PyData.list (rangeL 0 j)) else none) = some d := e2
    by_cases hl : lim62 j = true
    · rw [if_pos hl] at e2
      cases e2
      cases hi
      obtain ⟨l1, l2⟩ := lim62_spec hl
      refine ⟨j, by rw [r.int], l1, l2, q _ H' k w ?_⟩
      have := itOk_rng (W := W) (Z := Z) (F := F) (lo := 0) (hi := j) (H := H')
      rwa [Int.sub_zero] at this
    · rw [if_neg hl] at e2; cases e2
  | _ => cases e2
theorem piR2 (ok : XOk Γ N Φ W X sc) {tg a b : Expr} {p pos : Pos} {a' b' : E} {k : Nat} (hg : glB sc "range" = true) (hm : mtE Γ N k sc a a' = true) (ha : PE X a (RdE Φ W a')) (hm2 : mtE Γ N k sc b b' = true) (hb : PE X b (RdE Φ W b')) :
    PI X tg (.Call (.Name "range" p) [a, b] [] pos) (RdI Φ W (.bi .range [a', b'])) ∧ PI X tg (.Call (.Name "range" p) [a, b] [] pos) (RdIV Φ W (.bi .range [a', b'])) := by
  refine piAny rfl fun Z F => ⟨fun pins s σ H Rr I ⟨ρ, n, d, xs, n', R, ev, hi, q⟩ => ?_⟩
  have hs2 : starEach [b] X.env = [(false, eval b X.env)] := by rw [mt_nostar hm2]; rfl
  have hs : starEach [a, b] X.env = [(false, eval a X.env), (false, eval b X.env)] := by rw [mt_nostar hm, hs2]
  refine (pi_range2 (gl_of ok hg) (ok.blt _ (by simp [bNames])) (pa_cons (peB ok hm ha) (pa_cons (peB ok hm2 hb) pa_nil (mt_nostar hm2 _ _)) (mt_nostar hm _ _)) hs hs2).run pins s σ H Rr I ?_
  obtain ⟨ds, n1, e1, ev⟩ := bnd_inv (show bnd (evBs Φ [a', b'] ρ n) _ = _ from ev)
  obtain ⟨z, e2, ev⟩ := map_inv ev
  cases ev
  obtain ⟨d1, n2, e3, e1⟩ := bnd_inv (show bnd (evB (evE Φ a') a' ρ n) _ = _ from e1)
  obtain ⟨ds2, n3, e4, e1⟩ := bnd_inv (show bnd (evBs Φ [b'] ρ n2) _ = _ from e1)
  cases e1
  obtain ⟨d2, n4, e5, e4⟩ := bnd_inv (show bnd (evB (evE Φ b') b' ρ n2) _ = _ from e4)
  cases e4
  refine ⟨F, ρ, n, d1, n2, R, e3, fun v H' k w r => ⟨F, ρ, n2, d2, n', R.keep k w, e5, fun u H2 k2 w2 r2 => ?_⟩⟩
  cases d1 with
  | int i =>
    cases d2 with
    | int j =>
      have e2 : (if lim62 i && lim62 j then some (PyData.list (rangeL i j)) else none) = some d := e2
      by_cases hl : (lim62 i && lim62 j) = true
      · rw [if_pos hl] at e2
        cases e2
        cases hi
        rw [Bool.and_eq_true] at hl
        obtain ⟨l1, l2⟩ := lim62_spec hl.1
        obtain ⟨l3, l4⟩ := lim62_spec hl.2
        exact ⟨i, j, by rw [r.int, r2.int], ⟨l1, l2, l3, l4⟩, q _ H2 (k.trans k2) w2 itOk_rng⟩
      · rw [if_neg hl] at e2; cases e2
    | _ => cases e2
  | _ => cases e2

/-! ### comprehensions -/
theorem ptsE {X : Cx} {k : Nat} {sc : Scope} (ih : ∀ {e : Expr} {c : E}, mtE Γ N k sc e c = true → PT X e (RdT Φ W c)) {ifs : List Expr} {cs : List E} (hl : ifs.length ≤ 1) (h : all2 (mtE Γ N k sc) ifs cs = true) : PTs X ifs (RdTs Φ W cs) := by
  match ifs, hl, h with
  | [], _, h =>
    have := all2_nil h
    subst this
    refine ⟨fun pins s σ H Q I ⟨F, ρ, n, b, n', R, ev, q⟩ => pts_nil.run pins s σ H Q I ?_⟩
    cases ev
    exact q H Keep.refl R.wp
  | [e], _, h =>
    obtain ⟨c, r, rfl, h1, h2⟩ := all2_cons h
    have := all2_nil h2
    subst this
    refine ⟨fun pins s σ H Q I ⟨F, ρ, n, b, n', R, ev, q⟩ => (pts_one (ih h1)).run pins s σ H Q I ?_⟩
    obtain ⟨d, n1, e1, ev⟩ := bnd_inv (show bnd (evE Φ c ρ n) _ = _ from ev)
    obtain ⟨k, e2, ev⟩ := obind_inv ev
    have := asB_inv e2
    subst this
    cases ev
    exact ⟨F, ρ, n, _, _, R, e1, q⟩
/-- one turn of a comprehension, as the evaluator does it -/
def stepC (Φ : Fns) (own : List Nat) (tg : Tg) (ifs : List E) (elt : E) (ρ : EV.Env) (x : D) (n : Nat) : Option (List D × Nat) :=
  (bindT tg false x (wipeE ρ own)).bind fun ρ' => bnd (evT Φ ifs ρ' n) fun k n => bif k then bnd (evE Φ elt ρ' n) fun y n => some ([y], n) else some ([], n)
theorem compS {tg it elt : Expr} {ifs : List Expr} {scope : Scope} {own : List (Str × Nat)} {pos : Pos} {tg' : Tg} {it' elt' : E} {ifs' : List E} (hc : X.calm = true) (hN : X.N.Nodup) (hi : PI X tg it (RdI Φ W it')) (ok : BlkOk X.N X.env.scope scope own)
    (hg : ∀ (s : Shared) (H : Hp) (C : Addr) (cl : List (Str × Addr)) (fp : List Addr), PG (X.blk s H scope (compEnvC scope cl C X.env) fp) tg (RdG W tg')) (ht : ∀ (s : Shared) (H : Hp) (C : Addr) (cl : List (Str × Addr)) (fp : List Addr), PTs (X.blk s H scope (compEnvC scope cl C X.env) fp) ifs (RdTs Φ W ifs'))
    (he : ∀ (s : Shared) (H : Hp) (C : Addr) (cl : List (Str × Addr)) (fp : List Addr), PE (X.blk s H scope (compEnvC scope cl C X.env) fp) elt (RdE Φ W elt')) (hs : ∀ x, foldedSetIterable it X.env x = pure x) (hw : ∀ i ∈ tgSlots tg', i ∈ own.map (·.2))
    {σ : L2.St} {H : Hp} {Q : VK} {F : Addr → Prop} {ρ : EV.Env} {n n' : Nat} {d : D} {fr : Bool} (R : Rel W F ρ n σ H) (ev : evE Φ (.comp (own.map (·.2)) tg' it' ifs' elt') ρ n = some (d, n')) (q : WantF fr W F H n' d Q) :
    tLc (RdI Φ W it') (RdG W tg') (RdTs Φ W ifs') (RdE Φ W elt') (own.map (·.2)) σ H Q := by
  obtain ⟨z, n1, e1, ev⟩ := bnd_inv (show bnd (evB (evE Φ it') it' ρ n) _ = _ from ev)
  obtain ⟨xs, e2, ev⟩ := obind_inv ev
  obtain ⟨ys, n2, e3, ev⟩ := bnd_inv ev
  have e3 : walkL (stepC Φ (own.map (·.2)) tg' ifs' elt' ρ) xs n1 = some (ys, n2) := e3
  split at ev
  case isFalse => cases ev
  rename_i hlen
  cases ev
  refine ⟨F, ρ, n, z, xs, n1, R, e1, e2, fun J H1 k1 w1 hJ D0 hD => ?_⟩
  have hD0 : H D0 = none := none_back hD k1 w1
  have nF : ¬ F D0 := fun z => R.tr _ z hD0
  have nW : ¬ W.wa D0 := fun z => W.trk _ _ _ w1 z hD
  have nT : ¬ W.tok D0 := fun z => nW (W.sub _ z)
  refine ⟨fun i m H2 => i + m = xs.length ∧ ∃ ni acc done rest, walkL (stepC Φ (own.map (·.2)) tg' ifs' elt' ρ) (xs.drop i) ni = some (rest, n') ∧ ys = done ++ rest ∧ Keep W.tok H1 H2 ∧ H2 D0 = some (.lst acc) ∧ RepL W (fun a => F a ∨ a = D0) H2 acc done ∧ W.wp ni H2,
    ⟨xs.length, by omega, n1, [], [], ys, e3, rfl, Keep.new hD, upd_same, .nil, W.new w1 hD⟩, ?_⟩
  rintro i m H2 ⟨him, ni, acc, done, rest, ew, ey, k2, hacc, racc, w2⟩
  have trF : ∀ a, F a ∨ a = D0 → H2 a ≠ none := fun a fa => by
    rcases fa with fa | rfl
    · exact (R.keep (k1.trans k2) w2).tr a fa
    · rw [hacc]; simp
  by_cases hlt : i < xs.length
  · refine .inr ?_
    have hx : xs[i]? = some xs[i] := List.getElem?_eq_getElem hlt
    obtain ⟨hgo, hyl⟩ := (hJ i H2 k2).1 _ hx
    rw [List.drop_eq_getElem_cons hlt] at ew
    obtain ⟨o, nj, es, ew⟩ := bnd_inv (show bnd (stepC Φ _ tg' ifs' elt' ρ xs[i] ni) _ = _ from ew)
    obtain ⟨r, nk, er, ew⟩ := bnd_inv ew
    cases ew
    refine ⟨hgo, fun H' => ∃ acc' done', Keep W.tok H1 H' ∧ H' D0 = some (.lst acc') ∧ RepL W (fun a => F a ∨ a = D0) H' acc' done' ∧ W.wp nj H' ∧ done' = done ++ o, fun H' hN => ?_, fun v H3 hy => ?_⟩
    · obtain ⟨acc', done', a1, a2, a3, a4, a5⟩ := hN
      exact ⟨m - 1, by omega, by omega, nj, acc', done', r, er, by rw [a5, ey, List.append_assoc], a1, a2, a3, a4⟩
    · obtain ⟨sm, rp⟩ := hyl v H3 hy
      have k3 : Keep W.tok H2 H3 := Keep.same sm
      have w3 : W.wp ni H3 := W.same w2 sm
      have k03 : Keep W.tok H H3 := (k1.trans k2).trans k3
      have R3 : Rel W (fun a => F a ∨ a = D0) ρ ni σ H3 := R.to k03 w3 (fun _ z => .inl z) (fun a ha z => z.resolve_right fun e => by subst e; exact ha hD0) fun a fa => by
        cases q : H2 a with
        | none => exact absurd q (trF a fa)
        | some o => rw [sm a o q]; simp
      have rx : Rep W (fun a => F a ∨ a = D0) H3 v xs[i] := rp _ (fun a ha z => z.resolve_right fun e => by subst e; exact ha hD) trF
      obtain ⟨ρ', hb, es⟩ := obind_inv (show (bindT tg' false xs[i] (wipeE ρ _)).bind _ = _ from es)
      refine ⟨_, _, ρ', _, ni, R3.wipe _, rx, hb, fun σ2 R2 hw2 => ⟨?_, ?_⟩⟩
      · rw [hw2 _ hw, wipe_idem fun _ z => z]
      · obtain ⟨b, n5, et, es⟩ := bnd_inv es
        refine ⟨_, ρ', ni, b, n5, R2, et, fun H5 k5 w5 => ?_⟩
        have acc5 : H5 D0 = some (.lst acc) := k5 _ _ nT (sm _ _ hacc)
        have rac5 : RepL W (fun a => F a ∨ a = D0) H5 acc done := racc.keep ((k3.trans k5).weak R3.tk) fun _ _ z => z
        cases b with
        | false =>
          cases es
          show ∃ acc' done', _
          exact ⟨acc, done, (k2.trans k3).trans k5, acc5, rac5, w5, by simp⟩
        | true =>
          show RdE Φ W elt' σ2 H5 _
          obtain ⟨y, n6, ee, es⟩ := bnd_inv (show bnd (evE Φ elt' ρ' n5) _ = _ from es)
          cases es
          refine ⟨_, ρ', n5, y, nj, R2.keep k5 w5, ee, fun u H6 k6 w6 r6 _ => ⟨acc, k6 _ _ nT acc5, ?_, ?_⟩⟩
          · have h1 := rac5.length
            have h2 : ys.length = done.length + (([y] : List D) ++ r).length := by rw [ey, List.length_append]
            simp only [List.length_append, List.length_cons, List.length_nil] at h2
            have : (1000000 : Nat) < sizeLine := by decide
            omega
          · have kk : Keep W.tok H1 H6 := ((k2.trans k3).trans k5).trans k6
            have kD : Keep (fun a => F a ∨ a = D0) H6 (upd H6 D0 (.lst (acc ++ [u]))) := fun a o na e => by
              rw [upd_ne fun z => na (.inr z)]
              exact e
            refine ⟨acc ++ [u], done ++ [y], fun a o na e => ?_, upd_same, ((rac5.keep (k6.weak R3.tk) fun _ _ z => z).append (.cons r6 .nil)).keep kD fun _ _ z => z, W.stab _ _ _ w6 fun a wa => upd_ne fun z => nW (z ▸ wa), rfl⟩
            rw [upd_ne (by rintro rfl; rw [hD] at e; cases e)]
            exact kk a o na e
  · refine .inl ⟨(hJ i H2 k2).2 (by omega), ?_⟩
    rw [List.drop_eq_nil_of_le (by omega)] at ew
    cases ew
    rw [List.append_nil] at ey
    subst ey
    refine q _ H2 (k1.trans k2) w2 (.lst hacc nF (racc.keep (F := fun a => F a ∨ a = D0) Keep.refl fun _ _ z => .inl z)) fun _ _ a e => ?_
    cases e
    exact ⟨hD0, ⟨.inr rfl, nW⟩, acc, hacc, racc⟩
end
end EV

/-! EvG: the theorem of expressions. -/
namespace EV
open PySem PySem.Spec PyProof.Rows L2

section
variable {Γ N : List Str} {Φ : Fns} {W : Wld}
theorem boot_len' : bootBuiltins "len" = some (.builtin "len") := by decide +kernel
theorem boot_sum' : bootBuiltins "sum" = some (.builtin "sum") := by decide +kernel
theorem boot_max' : bootBuiltins "max" = some (.builtin "max") := by decide +kernel
theorem boot_min' : bootBuiltins "min" = some (.builtin "min") := by decide +kernel
theorem boot_sorted' : bootBuiltins "sorted" = some (.builtin "sorted") := by decide +kernel
theorem boot_abs' : bootBuiltins "abs" = some (.builtin "abs") := by decide +kernel
theorem boot_all' : bootBuiltins "all" = some (.builtin "all") := by decide +kernel
theorem boot_any' : bootBuiltins "any" = some (.builtin "any") := by decide +kernel
theorem boot_tuple' : bootBuiltins "tuple" = some (.type "tuple") := by decide +kernel
theorem boot_list' : bootBuiltins "list" = some (.type "list") := by decide +kernel
theorem boot_int' : bootBuiltins "int" = some (.type "int") := by decide +kernel
theorem boot_dict' : bootBuiltins "dict" = some (.type "dict") := by decide +kernel
theorem biName_in {f : Bi} (h : biVal f = true) : biName f ∈ bNames := by cases f <;> first | exact absurd h (by decide) | decide +kernel
theorem pe_bi {X : Cx} {f : Bi} {r : List V → Hp → VK → Prop} {e : Expr} {es : List Expr} {t : TA} {p pos : Pos} (hb : biVal f = true) (hr : CallR X (biFn f) r) (hg : Gl X (biName f)) (hm : X.mg (biName f) = none) (ha : PA X (e :: es) t)
    (he : starEach (e :: es) X.env = (false, eval e X.env) :: starEach es X.env) (hpl : (backTo pos (starEach es X.env)).any (·.1) = false) : PE X (.Call (.Name (biName f) p) (e :: es) [] pos) (tCB r t) := by
  cases f <;> first
    | exact absurd hb (by decide)
    | exact pe_callB hr hg hm (by first | exact boot_len' | exact boot_sum' | exact boot_max' | exact boot_min' | exact boot_sorted' | exact boot_abs' | exact boot_all' | exact boot_any') ha (by decide) (by decide) he hpl
    | exact pe_callTy hr hg hm (by first | exact boot_tuple' | exact boot_list' | exact boot_int' | exact boot_dict') ha (by decide) (by decide) he hpl
/-- what is shown of each piece, up to the depth k -/
def Pk (Γ N : List Str) (Φ : Fns) (W : Wld) (k : Nat) : Prop := ∀ (j : Nat), j ≤ k → ∀ (X : Cx) (sc : Scope), XOk Γ N Φ W X sc → ∀ (e : Expr) (c : E), mtE Γ N j sc e c = true → PE X e (RdE Φ W c) ∧ PT X e (RdT Φ W c)
theorem poO {k j : Nat} (ih : Pk Γ N Φ W k) (hj : j ≤ k + 1) {X : Cx} {sc : Scope} (ok : XOk Γ N Φ W X sc) {o : Option Expr} {c : Option E} (h : mtO Γ N j sc o c = true) : PO X o (RdO Φ W c) := by
  cases j with
  | zero => simp [mtO] at h
  | succ j =>
    cases o with
    | none =>
      cases c with
      | none =>
        refine ⟨fun pins s σ H Q I ⟨F, ρ, n, o, n', R, ev, q⟩ => po_none.run pins s σ H Q I ?_⟩
        cases ev
        exact q H Keep.refl R.wp
      | some c => simp [mtO] at h
    | some e =>
      cases c with
      | none => simp [mtO] at h
      | some c =>
        have h : mtE Γ N j sc e c = true := by simpa [mtO] using h
        refine ⟨fun pins s σ H Q I ⟨F, ρ, n, o, n', R, ev, q⟩ => (po_some (ih j (by omega) X sc ok e c h).1).run pins s σ H Q I ?_⟩
        obtain ⟨d, n1, e1, ev⟩ := bnd_inv (show bnd (evE Φ c ρ n) _ = _ from ev)
        cases d with
        | int i =>
          cases ev
          exact ⟨F, ρ, n, _, _, R, e1, fun v H' k w r _ => by cases r; exact ⟨_, rfl, q H' k w⟩⟩
        | _ => cases ev
theorem piI {k j : Nat} (ih : Pk Γ N Φ W k) (hj : j ≤ k + 1) {X : Cx} {sc : Scope} (ok : XOk Γ N Φ W X sc) {tg e : Expr} {c : E} (h : mtI Γ N j sc e c = true) : PI X tg e (RdI Φ W c) ∧ PI X tg e (RdIV Φ W c) := by
  cases j with
  | zero => simp [mtI] at h
  | succ j =>
    unfold mtI at h
    split at h
    · simp only [Bool.and_eq_true, decide_eq_true_eq] at h
      obtain ⟨⟨h1, h2⟩, h3⟩ := h
      subst h1
      exact piR1 ok h2 h3 (ih j (by omega) X sc ok _ _ h3).1
    · simp only [Bool.and_eq_true, decide_eq_true_eq] at h
      obtain ⟨⟨⟨h1, h2⟩, h3⟩, h4⟩ := h
      subst h1
      exact piR2 ok h2 h3 (ih j (by omega) X sc ok _ _ h3).1 h4 (ih j (by omega) X sc ok _ _ h4).1
    · exact ⟨piVal (peB ok h (ih j (by omega) X sc ok _ _ h).1), piValV (ih j (by omega) X sc ok _ _ h).1⟩
theorem len_evEs {cs : List E} : ∀ {ρ : EV.Env} {n n' : Nat} {ds : List D}, evEs Φ cs ρ n = some (ds, n') → ds.length = cs.length := by
  induction cs with
  | nil => intro ρ n n' ds h; cases h; rfl
  | cons c cs ih =>
    intro ρ n n' ds h
    obtain ⟨d, n1, e1, h⟩ := bnd_inv h
    obtain ⟨ds', n2, e2, h⟩ := bnd_inv h
    cases h
    simp [ih e2]
theorem all2_len {α β : Type} {f : α → β → Bool} : ∀ {as : List α} {bs : List β}, all2 f as bs = true → as.length = bs.length
  | [], bs, h => by rw [all2_nil h]; rfl
  | a :: as, bs, h => by
    obtain ⟨b, r, rfl, _, h2⟩ := all2_cons h
    simp [all2_len h2]
theorem noSet_fold {it : Expr} {env : PySem.Env} (h : noSet it = true) : ∀ x, foldedSetIterable it env x = pure x := by
  intro x
  cases it <;> first | rfl | (simp [noSet] at h)
theorem storeBlk {X : Cx} {sc scope : Scope} (hsc : X.env.scope = sc) (s : Shared) (H : Hp) (C : Addr) (cl : List (Str × Addr)) (fp : List Addr) : StoreOk (X.blk s H scope (compEnvC scope cl C X.env) fp) scope := by
  intro x h
  have e : (X.blk s H scope (compEnvC scope cl C X.env) fp).env.scope = relS scope sc := by rw [← hsc]; rfl
  unfold locB at h
  unfold L2.Loc
  rw [e]
  cases q : scope.names.lookup x with
  | none => rw [q] at h; cases h
  | some k =>
    rw [q] at h
    cases k <;> first
      | (cases h; done)
      | exact ⟨.inl (lookup_relS_keep (by decide) q), .inr (lookup_relS_keep (by decide) q)⟩
      | exact ⟨.inr (lookup_relS_keep (by decide) q), .inl (by show (scope.names.lookup x == some .cell) = true; rw [q]; rfl)⟩
theorem plainIx_of {k : Nat} {sc : Scope} {i : Expr} {c : E} (h : mtE Γ N k sc i c = true) : PlainIx i := by
  intro o j
  cases i with
  | Slice a b c p =>
    exfalso
    cases k <;> simp [mtE] at h
  | _ => rfl
theorem peMain {k : Nat} (ih : Pk Γ N Φ W k) {X : Cx} {sc : Scope} (ok : XOk Γ N Φ W X sc) {e : Expr} {c : E} (h : mtE Γ N (k + 1) sc e c = true) : PE X e (RdE Φ W c) := by
  have ihE : ∀ {e : Expr} {c : E}, mtE Γ N k sc e c = true → PE X e (RdE Φ W c) := fun h => (ih k (Nat.le_refl _) X sc ok _ _ h).1
  have ihT : ∀ {e : Expr} {c : E}, mtE Γ N k sc e c = true → PT X e (RdT Φ W c) := fun h => (ih k (Nat.le_refl _) X sc ok _ _ h).2
  have ihB : ∀ {e : Expr} {c : E}, mtE Γ N k sc e c = true → PE X e (RdB Φ W c) := fun h => peB ok h (ihE h)
  unfold mtE at h
  split at h
  · -- a name
    simp only [Bool.and_eq_true, decide_eq_true_eq, Bool.not_eq_true'] at h
    refine ⟨fun pins s σ H Q I ⟨F, ρ, n, d, n', R, ev, q⟩ => ?_⟩
    obtain ⟨d', h1, h2⟩ := map_inv ev
    cases h2
    obtain ⟨v, e1, r1⟩ := R.getV h1
    exact (pe_var (by rw [ok.hN]; exact h.1.1.1) (vis_of ok.hsc h.1.1.2) h.1.2 h.2).run pins s σ H Q I ⟨v, e1, q.plain v H Keep.refl R.wp r1⟩
  · have := eq_of_beq h
    subst this
    refine ⟨fun pins s σ H Q I ⟨F, ρ, n, d, n', R, ev, q⟩ => pe_int.run pins s σ H Q I ?_⟩
    cases ev
    exact q.atom R.wp (.int _) rfl
  · have := eq_of_beq h
    subst this
    refine ⟨fun pins s σ H Q I ⟨F, ρ, n, d, n', R, ev, q⟩ => pe_bl.run pins s σ H Q I ?_⟩
    cases ev
    exact q.atom R.wp (.bl _) rfl
  · have := of_decide_eq_true h
    subst this
    refine ⟨fun pins s σ H Q I ⟨F, ρ, n, d, n', R, ev, q⟩ => pe_str.run pins s σ H Q I ?_⟩
    cases ev
    exact q.atom R.wp (.str _) rfl
  · refine ⟨fun pins s σ H Q I ⟨F, ρ, n, d, n', R, ev, q⟩ => pe_non.run pins s σ H Q I ?_⟩
    cases ev
    exact q.atom R.wp .non rfl
  · exact ⟨(pe_one (ihE h)).run⟩
  · -- and
    rw [Bool.and_eq_true] at h
    refine ⟨fun pins s σ H Q I ⟨F, ρ, n, d, n', R, ev, q⟩ => (pe_and (ihE h.1) (ihE h.2)).run pins s σ H Q I ?_⟩
    obtain ⟨x, n1, e1, ev⟩ := bnd_inv ev
    obtain ⟨b, e2, ev⟩ := obind_inv ev
    have := asB_inv e2
    subst this
    refine ⟨F, ρ, n, _, n1, R, e1, fun v H1 k1 w1 r1 _ => ?_⟩
    cases r1
    refine ⟨b, rfl, ?_⟩
    cases b with
    | true => exact ⟨F, ρ, n1, d, n', R.keep k1 w1, ev, fun v H' k2 w2 r2 f => q v H' (k1.trans k2) w2 r2 fun e => by cases e⟩
    | false => cases ev; exact (q.on k1 w1).atom w1 (.bl _) rfl
  · -- or
    rw [Bool.and_eq_true] at h
    refine ⟨fun pins s σ H Q I ⟨F, ρ, n, d, n', R, ev, q⟩ => (pe_or (ihE h.1) (ihE h.2)).run pins s σ H Q I ?_⟩
    obtain ⟨x, n1, e1, ev⟩ := bnd_inv ev
    obtain ⟨b, e2, ev⟩ := obind_inv ev
    have := asB_inv e2
    subst this
    refine ⟨F, ρ, n, _, n1, R, e1, fun v H1 k1 w1 r1 _ => ?_⟩
    cases r1
    refine ⟨b, rfl, ?_⟩
    cases b with
    | false => exact ⟨F, ρ, n1, d, n', R.keep k1 w1, ev, fun v H' k2 w2 r2 f => q v H' (k1.trans k2) w2 r2 fun e => by cases e⟩
    | true => cases ev; exact (q.on k1 w1).atom w1 (.bl _) rfl
  · -- an operator
    simp only [Bool.and_eq_true] at h
    refine ⟨fun pins s σ H Q I ⟨F, ρ, n, d, n', R, ev, q⟩ => ?_⟩
    obtain ⟨x, n1, e1, ev⟩ := bnd_inv ev
    obtain ⟨y, n2, e2, ev⟩ := bnd_inv ev
    obtain ⟨z, e3, ev⟩ := map_inv ev
    cases ev
    obtain ⟨r, hr, hq⟩ := op_sound (W := W) (X := X) h.1.1 e3
    exact (pe_op hr (ihB h.1.2) (ihB h.2)).run pins s σ H Q I ⟨F, ρ, n, x, n1, R, e1, fun v H1 k1 w1 r1 => ⟨F, ρ, n1, y, n', R.keep k1 w1, e2, fun u H2 k2 w2 r2 =>
      hq F H2 n' v u Q ((R.keep k1 w1).keep k2 w2).tr R.tk w2 (r1.keep k2 R.tk (fun _ _ z => z) fun _ z => z) r2 (q.on (k1.trans k2) w2).want⟩⟩
  · -- minus
    refine ⟨fun pins s σ H Q I ⟨F, ρ, n, d, n', R, ev, q⟩ => (pe_un un_neg (ihE h)).run pins s σ H Q I ?_⟩
    obtain ⟨x, n1, e1, ev⟩ := bnd_inv ev
    cases x with
    | int i =>
      cases ev
      exact ⟨F, ρ, n, _, _, R, e1, fun v H1 k1 w1 r1 _ => by cases r1; exact ⟨i, rfl, (q.on k1 w1).atom w1 (.int _) rfl⟩⟩
    | _ => cases ev
  · -- not
    refine ⟨fun pins s σ H Q I ⟨F, ρ, n, d, n', R, ev, q⟩ => (pe_not (ihE h)).run pins s σ H Q I ?_⟩
    obtain ⟨x, n1, e1, ev⟩ := bnd_inv ev
    obtain ⟨b, e2, ev⟩ := map_inv ev
    have := asB_inv e2
    subst this
    cases ev
    exact ⟨F, ρ, n, _, _, R, e1, fun v H1 k1 w1 r1 _ => by cases r1; exact ⟨b, rfl, (q.on k1 w1).atom w1 (.bl _) rfl⟩⟩
  · -- a comparison
    simp only [Bool.and_eq_true] at h
    refine ⟨fun pins s σ H Q I ⟨F, ρ, n, d, n', R, ev, q⟩ => ?_⟩
    obtain ⟨x, n1, e1, ev⟩ := bnd_inv ev
    obtain ⟨y, n2, e2, ev⟩ := bnd_inv ev
    obtain ⟨z, e3, ev⟩ := map_inv ev
    cases ev
    obtain ⟨r, hr, hq⟩ := cmp_sound (W := W) (X := X) ok.un h.1.1 e3
    exact (pe_cmpR hr (ihB h.1.2) (ihB h.2) (mt_nomark h.2)).run pins s σ H Q I ⟨F, ρ, n, x, n1, R, e1, fun v H1 k1 w1 r1 => ⟨F, ρ, n1, y, n', R.keep k1 w1, e2, fun u H2 k2 w2 r2 =>
      hq F H2 n' v u Q ((R.keep k1 w1).keep k2 w2).tr R.tk w2 (r1.keep k2 R.tk (fun _ _ z => z) fun _ z => z) r2 (q.on (k1.trans k2) w2).want⟩⟩
  · -- a chain
    simp only [Bool.and_eq_true] at h
    obtain ⟨⟨⟨⟨h1, h2⟩, h3⟩, h4⟩, h5⟩ := h
    refine ⟨fun pins s σ H Q I ⟨F, ρ, n, d, n', R, ev, q⟩ => ?_⟩
    obtain ⟨x, n1, e1, ev⟩ := bnd_inv ev
    obtain ⟨y, n2, e2, ev⟩ := bnd_inv ev
    obtain ⟨z, e3, ev⟩ := obind_inv ev
    obtain ⟨b, e4, ev⟩ := obind_inv ev
    have := asB_inv e4
    subst this
    obtain ⟨r, hr, hq⟩ := cmp_sound (W := W) (X := X) ok.un h1 e3
    cases b with
    | false =>
      cases ev
      refine (pe_chain hr (r' := fun _ _ _ _ => False) (fun _ _ _ _ _ _ _ _ _ _ _ _ z => z.elim) (ihB h3) (ihB h4) (ihB h5) (mt_nomark (op := _) h5)).run pins s σ H Q I ⟨F, ρ, n, x, n1, R, e1, fun v H1 k1 w1 r1 => ⟨F, ρ, n1, y, n', R.keep k1 w1, e2, fun u H2 k2 w2 r2 =>
        hq F H2 n' v u _ ((R.keep k1 w1).keep k2 w2).tr R.tk w2 (r1.keep k2 R.tk (fun _ _ z => z) fun _ z => z) r2 fun v3 H3 k3 w3 r3 _ => ?_⟩⟩
      cases r3
      exact ⟨false, rfl, (q.on ((k1.trans k2).trans k3) w3).atom w3 (.bl _) rfl⟩
    | true =>
      obtain ⟨t, n3, e5, ev⟩ := bnd_inv (show bnd (evB (evE Φ _) _ ρ n2) _ = _ from ev)
      obtain ⟨z', e6, ev⟩ := map_inv ev
      cases ev
      obtain ⟨r', hr', hq'⟩ := cmp_sound (W := W) (X := X) ok.un h2 e6
      refine (pe_chain hr hr' (ihB h3) (ihB h4) (ihB h5) (mt_nomark (op := _) h5)).run pins s σ H Q I ⟨F, ρ, n, x, n1, R, e1, fun v H1 k1 w1 r1 => ⟨F, ρ, n1, y, n2, R.keep k1 w1, e2, fun u H2 k2 w2 r2 =>
        hq F H2 n2 v u _ ((R.keep k1 w1).keep k2 w2).tr R.tk w2 (r1.keep k2 R.tk (fun _ _ z => z) fun _ z => z) r2 fun v3 H3 k3 w3 r3 _ => ?_⟩⟩
      cases r3
      have R3 := ((R.keep k1 w1).keep k2 w2).keep k3 w3
      refine ⟨true, rfl, ?_⟩
      rw [if_pos rfl]
      exact ⟨F, ρ, n2, t, n', R3, e5, fun w' H4 k4 w4 r4 => hq' F H4 n' u w' Q (R3.keep k4 w4).tr R.tk w4 (r2.keep (k3.trans k4) R.tk (fun _ _ z => z) fun _ z => z) r4 (q.on (((k1.trans k2).trans k3).trans k4) w4).want⟩
  · -- if
    simp only [Bool.and_eq_true] at h
    refine ⟨fun pins s σ H Q I ⟨F, ρ, n, d, n', R, ev, q⟩ => (pe_ifExp (ihT h.1.1) (ihE h.1.2) (ihE h.2)).run pins s σ H Q I ?_⟩
    obtain ⟨x, n1, e1, ev⟩ := bnd_inv ev
    obtain ⟨b, e2, ev⟩ := obind_inv ev
    have := asB_inv e2
    subst this
    refine ⟨F, ρ, n, b, n1, R, e1, fun H1 k1 w1 => ?_⟩
    cases b with
    | true => exact ⟨F, ρ, n1, d, n', R.keep k1 w1, ev, fun v H' k2 w2 r2 f => q v H' (k1.trans k2) w2 r2 fun e => by cases e⟩
    | false => exact ⟨F, ρ, n1, d, n', R.keep k1 w1, ev, fun v H' k2 w2 r2 f => q v H' (k1.trans k2) w2 r2 fun e => by cases e⟩
  · -- a tuple
    simp only [Bool.and_eq_true, decide_eq_true_eq] at h
    refine ⟨fun pins s σ H Q I ⟨F, ρ, n, d, n', R, ev, q⟩ => (pe_tup (paEs (sc' := sc) ihE h.2)).run pins s σ H Q I ?_⟩
    obtain ⟨ds, n1, e1, ev⟩ := bnd_inv ev
    cases ev
    exact ⟨F, ρ, n, ds, _, R, e1, fun vs H1 k1 w1 r1 => ⟨by rw [r1.length, len_evEs e1, ← all2_len h.2]; exact Nat.le_trans h.1 (by decide), (q.on k1 w1).want.tup (R.keep k1 w1).tr w1 r1⟩⟩
  · -- a list
    simp only [Bool.and_eq_true, decide_eq_true_eq] at h
    refine ⟨fun pins s σ H Q I ⟨F, ρ, n, d, n', R, ev, q⟩ => (pe_lst (paEs (sc' := sc) ihE h.2)).run pins s σ H Q I ?_⟩
    obtain ⟨ds, n1, e1, ev⟩ := bnd_inv ev
    cases ev
    exact ⟨F, ρ, n, ds, _, R, e1, fun vs H1 k1 w1 r1 => ⟨by rw [r1.length, len_evEs e1, ← all2_len h.2]; exact Nat.le_trans h.1 (by decide), (q.on k1 w1).want.lst (R.keep k1 w1).tr R.tk w1 r1⟩⟩
  · -- a call of a def
    simp only [Bool.and_eq_true, decide_eq_true_eq, Bool.not_eq_true'] at h
    obtain ⟨⟨⟨h1, h2⟩, h3⟩, h4⟩ := h
    obtain ⟨fa, fd, ps, lv, G, hr, hm, hk, hb, har⟩ := ok.fn _ _ h1
    obtain ⟨c1, r, rfl, h5, h6⟩ := all2_cons h4
    refine ⟨fun pins s σ H Q I ⟨F, ρ, n, d, n', R, ev, q⟩ => (pe_call G hr (gl_of ok h2) hm hk hb .nil pass0 (paEs (sc' := sc) ihE h4) h3 (mt_nostar h5 _ _) (nostars h6)).run pins s σ H Q I ?_⟩
    obtain ⟨ds, n1, e1, ev⟩ := bnd_inv ev
    exact ⟨F, ρ, n, ds, n1, R, e1, fun vs H1 k1 w1 r1 => ⟨by rw [List.append_nil, r1.length]; exact har _ _ _ ev, F, ds, n1, d, n', by rw [List.append_nil]; exact r1, (R.keep k1 w1).tr, R.wa, w1, ev, q.on k1 w1⟩⟩
  · -- a built-in
    simp only [Bool.and_eq_true, decide_eq_true_eq] at h
    obtain ⟨⟨⟨h1, h2⟩, h3⟩, h4⟩ := h
    subst h1
    obtain ⟨c1, r, rfl, h5, h6⟩ := all2_cons h4
    refine ⟨fun pins s σ H Q I ⟨F, ρ, n, d, n', R, ev, q⟩ => ?_⟩
    obtain ⟨ds, n1, e1, ev⟩ := bnd_inv ev
    obtain ⟨z, e2, ev⟩ := map_inv ev
    cases ev
    obtain ⟨rr, hr, hq⟩ := bi_sound (W := W) (X := X) ok.calm ok.un h2 e2
    exact (pe_bi h2 hr (gl_of ok h3) (ok.blt _ (biName_in h2)) (paBs ok ihE h4) (mt_nostar h5 _ _) (nostars h6)).run pins s σ H Q I ⟨F, ρ, n, ds, n', R, e1, fun vs H1 k1 w1 r1 =>
      hq F H1 n' vs Q (R.keep k1 w1).tr R.tk w1 r1 (q.on k1 w1).want⟩
  · -- a slice
    simp only [Bool.and_eq_true] at h
    obtain ⟨⟨h1, h2⟩, h3⟩ := h
    refine ⟨fun pins s σ H Q I ⟨F, ρ, n, d, n', R, ev, q⟩ => ?_⟩
    obtain ⟨x, n1, e1, ev⟩ := bnd_inv ev
    obtain ⟨lo, n2, e2, ev⟩ := bnd_inv ev
    obtain ⟨hi, n3, e3, ev⟩ := bnd_inv ev
    obtain ⟨z, e4, ev⟩ := map_inv ev
    cases ev
    obtain ⟨rr, hr, hq⟩ := slc_sound (W := W) (X := X) e4
    exact (pe_slice hr (ihB h1) (poO ih (by omega) ok h2) (poO ih (by omega) ok h3)).run pins s σ H Q I ⟨F, ρ, n, x, n1, R, e1, fun v H1 k1 w1 r1 => ⟨F, ρ, n1, lo, n2, R.keep k1 w1, e2, fun H2 k2 w2 =>
      ⟨F, ρ, n2, hi, n', (R.keep k1 w1).keep k2 w2, e3, fun H3 k3 w3 => hq F H3 n' v Q (((R.keep k1 w1).keep k2 w2).keep k3 w3).tr R.tk w3 (r1.keep (k2.trans k3) R.tk (fun _ _ z => z) fun _ z => z) (q.on ((k1.trans k2).trans k3) w3).want⟩⟩⟩
  · -- a reverse
    refine ⟨fun pins s σ H Q I ⟨F, ρ, n, d, n', R, ev, q⟩ => (pe_revA (ihB h)).run pins s σ H Q I ?_⟩
    obtain ⟨x, n1, e1, ev⟩ := bnd_inv ev
    obtain ⟨z, e2, ev⟩ := map_inv ev
    cases ev
    refine ⟨F, ρ, n, x, _, R, e1, fun v H1 k1 w1 r1 => ?_⟩
    cases x with
    | list ds =>
      cases e2
      obtain ⟨a, xs, rfl, e, r⟩ := r1.list
      exact ⟨a, xs, rfl, .inl ⟨SqL.of e, (q.on k1 w1).want.lst (R.keep k1 w1).tr R.tk w1 r.reverse⟩⟩
    | tuple ds =>
      cases e2
      obtain ⟨a, xs, rfl, e, na, r⟩ := r1.tup
      exact ⟨a, xs, rfl, .inr ⟨SqT.of e, (q.on k1 w1).want.tup (R.keep k1 w1).tr w1 r.reverse⟩⟩
    | _ => cases e2
  · -- a subscript
    simp only [Bool.and_eq_true] at h
    refine ⟨fun pins s σ H Q I ⟨F, ρ, n, d, n', R, ev, q⟩ => ?_⟩
    obtain ⟨x, n1, e1, ev⟩ := bnd_inv ev
    obtain ⟨y, n2, e2, ev⟩ := bnd_inv ev
    obtain ⟨z, e3, ev⟩ := map_inv ev
    cases ev
    obtain ⟨rr, hr, hq⟩ := idx_sound (W := W) (X := X) e3
    exact (pe_ix hr (ihB h.1) (ihE h.2) (plainIx_of h.2)).run pins s σ H Q I ⟨F, ρ, n, x, n1, R, e1, fun v H1 k1 w1 r1 => ⟨F, ρ, n1, y, n', R.keep k1 w1, e2, fun u H2 k2 w2 r2 _ =>
      hq F H2 n' v u Q w2 (r1.keep k2 R.tk (fun _ _ z => z) fun _ z => z) (.inl r2) (q.on (k1.trans k2) w2).plain⟩⟩
  · -- a comprehension
    simp only [Bool.and_eq_true, decide_eq_true_eq] at h
    obtain ⟨⟨⟨⟨⟨⟨⟨h1, h2⟩, h3⟩, h4⟩, h5⟩, h6⟩, h7⟩, h8⟩ := h
    rename_i elt tg it ifs scope pos own tg' it' ifs' elt'
    have ow : (own.map fun i => (N.getD i ("" : Str), i)).map (·.2) = own := by
      rw [List.map_map]
      exact List.map_id _
    have hw : ∀ i ∈ tgSlots tg', i ∈ (own.map fun i => (N.getD i ("" : Str), i)).map (·.2) := by
      rw [ow]
      intro i hi
      have := List.all_eq_true.mp h5 i hi
      simpa using this
    have bk : BlkOk X.N X.env.scope scope (own.map fun i => (N.getD i ("" : Str), i)) := by
      rw [ok.hN, ok.hsc]
      exact blkOk_by h1
    have hI : PI X tg it (RdI Φ W it') := (piI ih (by omega) ok h3).1
    have hg : ∀ (s : Shared) (H : Hp) (C : Addr) (cl : List (Str × Addr)) (fp : List Addr), PG (X.blk s H scope (compEnvC scope cl C X.env) fp) tg (RdG W tg') := fun s H C cl fp =>
      pgT (N := N) (X := X.blk s H scope (compEnvC scope cl C X.env) fp) ok.nd ok.hN ok.calm (storeBlk ok.hsc s H C cl fp) h4
    have ht : ∀ (s : Shared) (H : Hp) (C : Addr) (cl : List (Str × Addr)) (fp : List Addr), PTs (X.blk s H scope (compEnvC scope cl C X.env) fp) ifs (RdTs Φ W ifs') := fun s H C cl fp =>
      ptsE (fun h => (ih k (Nat.le_refl _) _ _ (ok.blk s H scope C cl fp) _ _ h).2) h6 h7
    have he : ∀ (s : Shared) (H : Hp) (C : Addr) (cl : List (Str × Addr)) (fp : List Addr), PE (X.blk s H scope (compEnvC scope cl C X.env) fp) elt (RdE Φ W elt') := fun s H C cl fp =>
      (ih k (Nat.le_refl _) _ _ (ok.blk s H scope C cl fp) _ _ h8).1
    refine ⟨fun pins s σ H Q I ⟨F, ρ, n, d, n', R, ev, q⟩ => (pe_lc ok.calm ok.nd hI bk hg ht he (noSet_fold h2)).run pins s σ H Q I ?_⟩
    rw [← ow] at ev
    exact compS (pos := pos) ok.calm ok.nd hI bk hg ht he (noSet_fold h2) hw R ev q
  · cases h
end
end EV

/-! EvH: tests; statements. -/
namespace EV
open PySem PySem.Spec PyProof.Rows L2

section
variable {Γ N : List Str} {Φ : Fns} {W : Wld}
theorem pwB {k : Nat} (ih : Pk Γ N Φ W k) {X : Cx} {sc : Scope} (ok : XOk Γ N Φ W X sc) {o : BoolOp} {p : Pos} : ∀ {j : Nat}, j ≤ k + 1 → ∀ {vs : List Expr} {c : E}, mtE Γ N j sc (.BoolOp o vs p) c = true → PW X (.BoolOp o vs p) (RdT Φ W c)
  | 0, _, _, _, h => by simp [mtE] at h
  | j + 1, hj, vs, c, h => by
    match vs, h with
    | [], h => cases o <;> simp [mtE] at h
    | [a], h =>
      have h : mtE Γ N j sc a c = true := by simpa [mtE] using h
      have := (ih j (by omega) X sc ok _ _ h).2
      cases o with
      | And => exact pw_and1 this
      | Or => exact pw_or1 this
    | a :: b :: r, h =>
      cases o with
      | And =>
        cases c with
        | and a' c' =>
          have h : (mtE Γ N j sc a a' && mtE Γ N j sc (.BoolOp .And (b :: r) p) c') = true := by simpa [mtE] using h
          rw [Bool.and_eq_true] at h
          refine ⟨fun whole pins s σ H Q I ⟨F, ρ, n, d, n', R, ev, q⟩ => (pw_and (ih j (by omega) X sc ok _ _ h.1).2 (pwB ih ok (by omega) h.2)).run whole pins s σ H Q I ?_⟩
          obtain ⟨x, n1, e1, ev⟩ := bnd_inv ev
          obtain ⟨b, e2, ev⟩ := obind_inv ev
          have := asB_inv e2
          subst this
          refine ⟨F, ρ, n, b, n1, R, e1, fun H1 k1 w1 => ?_⟩
          cases b with
          | true => exact ⟨F, ρ, n1, d, n', R.keep k1 w1, ev, fun H' k2 w2 => q H' (k1.trans k2) w2⟩
          | false => cases ev; exact q H1 k1 w1
        | _ => simp [mtE] at h
      | Or =>
        cases c with
        | or a' c' =>
          have h : (mtE Γ N j sc a a' && mtE Γ N j sc (.BoolOp .Or (b :: r) p) c') = true := by simpa [mtE] using h
          rw [Bool.and_eq_true] at h
          refine ⟨fun whole pins s σ H Q I ⟨F, ρ, n, d, n', R, ev, q⟩ => (pw_or (ih j (by omega) X sc ok _ _ h.1).2 (pwB ih ok (by omega) h.2)).run whole pins s σ H Q I ?_⟩
          obtain ⟨x, n1, e1, ev⟩ := bnd_inv ev
          obtain ⟨b, e2, ev⟩ := obind_inv ev
          have := asB_inv e2
          subst this
          refine ⟨F, ρ, n, b, n1, R, e1, fun H1 k1 w1 => ?_⟩
          cases b with
          | false => exact ⟨F, ρ, n1, d, n', R.keep k1 w1, ev, fun H' k2 w2 => q H' (k1.trans k2) w2⟩
          | true => cases ev; exact q H1 k1 w1
        | _ => simp [mtE] at h
theorem ptMain {k : Nat} (ih : Pk Γ N Φ W k) {X : Cx} {sc : Scope} (ok : XOk Γ N Φ W X sc) {e : Expr} {c : E} (h : mtE Γ N (k + 1) sc e c = true) : PT X e (RdT Φ W c) := by
  have ihT : ∀ {e : Expr} {c : E}, mtE Γ N k sc e c = true → PT X e (RdT Φ W c) := fun h => (ih k (Nat.le_refl _) X sc ok _ _ h).2
  have ihB : ∀ {e : Expr} {c : E}, mtE Γ N k sc e c = true → PE X e (RdB Φ W c) := fun h => peB ok h (ih k (Nat.le_refl _) X sc ok _ _ h).1
  have hE := peMain ih ok h
  cases e
  case BoolOp o vs p => exact (pwB ih ok (Nat.le_refl _) h).pt
  case UnaryOp o a p =>
    cases o
    case Not =>
      cases c
      case not a' =>
        have h : mtE Γ N k sc a a' = true := by simpa [mtE] using h
        refine ⟨fun pins s σ H Q I ⟨F, ρ, n, d, n', R, ev, q⟩ => (pt_not (ihT h)).run pins s σ H Q I ?_⟩
        obtain ⟨x, n1, e1, ev⟩ := bnd_inv ev
        obtain ⟨b, e2, ev⟩ := map_inv ev
        have := asB_inv e2
        subst this
        cases ev
        exact ⟨F, ρ, n, b, _, R, e1, q⟩
      all_goals simp [mtE] at h
    all_goals exact ptVal hE fun _ => rfl
  case IfExp t a b p =>
    cases c
    case ifx t' a' b' =>
      have h : (mtE Γ N k sc t t' && mtE Γ N k sc a a' && mtE Γ N k sc b b') = true := by simpa [mtE] using h
      simp only [Bool.and_eq_true] at h
      refine ⟨fun pins s σ H Q I ⟨F, ρ, n, d, n', R, ev, q⟩ => (pt_ifExp (ihT h.1.1) (ihT h.1.2) (ihT h.2)).run pins s σ H Q I ?_⟩
      obtain ⟨x, n1, e1, ev⟩ := bnd_inv ev
      obtain ⟨b, e2, ev⟩ := obind_inv ev
      have := asB_inv e2
      subst this
      refine ⟨F, ρ, n, b, n1, R, e1, fun H1 k1 w1 => ?_⟩
      cases b with
      | true => exact ⟨F, ρ, n1, d, n', R.keep k1 w1, ev, fun H' k2 w2 => q H' (k1.trans k2) w2⟩
      | false => exact ⟨F, ρ, n1, d, n', R.keep k1 w1, ev, fun H' k2 w2 => q H' (k1.trans k2) w2⟩
    all_goals simp [mtE] at h
  case Compare a os bs p =>
    match os, bs, h with
    | [o], [b], h =>
      cases c with
      | cmp o' a' b' =>
        have h : (cmpIs o o' && mtE Γ N k sc a a' && mtE Γ N k sc b b') = true := by simpa [mtE] using h
        simp only [Bool.and_eq_true] at h
        refine ⟨fun pins s σ H Q I ⟨F, ρ, n, d, n', R, ev, q⟩ => ?_⟩
        obtain ⟨x, n1, e1, ev⟩ := bnd_inv ev
        obtain ⟨y, n2, e2, ev⟩ := bnd_inv ev
        obtain ⟨z, e3, ev⟩ := map_inv ev
        cases ev
        obtain ⟨r, hr, hq⟩ := cmp_sound (W := W) (X := X) ok.un h.1.1 e3
        refine (pt_cmpR hr (ihB h.1.2) (ihB h.2) (mt_nomark h.2)).run pins s σ H Q I ⟨F, ρ, n, x, n1, R, e1, fun v H1 k1 w1 r1 => ⟨F, ρ, n1, y, n', R.keep k1 w1, e2, fun u H2 k2 w2 r2 =>
          hq F H2 n' v u _ ((R.keep k1 w1).keep k2 w2).tr R.tk w2 (r1.keep k2 R.tk (fun _ _ z => z) fun _ z => z) r2 fun v3 H3 k3 w3 r3 _ => ?_⟩⟩
        cases r3
        exact ⟨_, rfl, q H3 ((k1.trans k2).trans k3) w3⟩
      | _ => simp [mtE] at h
    | [o, o2], [b, b2], h =>
      cases c with
      | chn o' o2' a' b' d' =>
        have h : (cmpIs o o' && cmpIs o2 o2' && mtE Γ N k sc a a' && mtE Γ N k sc b b' && mtE Γ N k sc b2 d') = true := by simpa [mtE] using h
        simp only [Bool.and_eq_true] at h
        obtain ⟨⟨⟨⟨h1, h2⟩, h3⟩, h4⟩, h5⟩ := h
        refine ⟨fun pins s σ H Q I ⟨F, ρ, n, d, n', R, ev, q⟩ => ?_⟩
        obtain ⟨x, n1, e1, ev⟩ := bnd_inv ev
        obtain ⟨y, n2, e2, ev⟩ := bnd_inv ev
        obtain ⟨z, e3, ev⟩ := obind_inv ev
        obtain ⟨b, e4, ev⟩ := obind_inv ev
        have := asB_inv e4
        subst this
        obtain ⟨r, hr, hq⟩ := cmp_sound (W := W) (X := X) ok.un h1 e3
        cases b with
        | false =>
          cases ev
          refine (pt_chain hr (r' := fun _ _ _ _ => False) (fun _ _ _ _ _ _ _ _ _ _ _ _ z => z.elim) (ihB h3) (ihB h4) (ihB h5) (mt_nomark (op := _) h5)).run pins s σ H Q I ⟨F, ρ, n, x, n1, R, e1, fun v H1 k1 w1 r1 => ⟨F, ρ, n1, y, n', R.keep k1 w1, e2, fun u H2 k2 w2 r2 =>
            hq F H2 n' v u _ ((R.keep k1 w1).keep k2 w2).tr R.tk w2 (r1.keep k2 R.tk (fun _ _ z => z) fun _ z => z) r2 fun v3 H3 k3 w3 r3 _ => ?_⟩⟩
          cases r3
          exact ⟨false, rfl, _, rfl, q H3 ((k1.trans k2).trans k3) w3⟩
        | true =>
          obtain ⟨t, n3, e5, ev⟩ := bnd_inv (show bnd (evB (evE Φ _) _ ρ n2) _ = _ from ev)
          obtain ⟨z', e6, ev⟩ := map_inv ev
          cases ev
          obtain ⟨r', hr', hq'⟩ := cmp_sound (W := W) (X := X) ok.un h2 e6
          refine (pt_chain hr hr' (ihB h3) (ihB h4) (ihB h5) (mt_nomark (op := _) h5)).run pins s σ H Q I ⟨F, ρ, n, x, n1, R, e1, fun v H1 k1 w1 r1 => ⟨F, ρ, n1, y, n2, R.keep k1 w1, e2, fun u H2 k2 w2 r2 =>
            hq F H2 n2 v u _ ((R.keep k1 w1).keep k2 w2).tr R.tk w2 (r1.keep k2 R.tk (fun _ _ z => z) fun _ z => z) r2 fun v3 H3 k3 w3 r3 _ => ?_⟩⟩
          cases r3
          have R3 := ((R.keep k1 w1).keep k2 w2).keep k3 w3
          refine ⟨true, rfl, ?_⟩
          rw [if_pos rfl]
          refine ⟨F, ρ, n2, t, n', R3, e5, fun w' H4 k4 w4 r4 => hq' F H4 n' u w' _ (R3.keep k4 w4).tr R.tk w4 (r2.keep (k3.trans k4) R.tk (fun _ _ z => z) fun _ z => z) r4 fun v5 H5 k5 w5 r5 _ => ?_⟩
          cases r5
          exact ⟨_, rfl, q H5 ((((k1.trans k2).trans k3).trans k4).trans k5) w5⟩
      | _ => simp [mtE] at h
    | [], bs, h => simp [mtE] at h
    | [o], [], h => simp [mtE] at h
    | [o], b :: b2 :: bs, h => simp [mtE] at h
    | o :: o2 :: os, [], h => simp [mtE] at h
    | o :: o2 :: os, [b], h => simp [mtE] at h
    | [o, o2], b :: b2 :: b3 :: bs, h => simp [mtE] at h
    | o :: o2 :: o3 :: os, bs, h => simp [mtE] at h
  all_goals exact ptVal hE fun _ => rfl
theorem pk_all : ∀ k, Pk Γ N Φ W k
  | 0 => fun j hj X sc ok e c h => by
    have : j = 0 := by omega
    subst this
    simp [mtE] at h
  | k + 1 => fun j hj X sc ok e c h => by
    rcases Nat.lt_or_ge k j with h1 | h1
    · have : j = k + 1 := by omega
      subst this
      exact ⟨peMain (pk_all k) ok h, ptMain (pk_all k) ok h⟩
    · exact pk_all k j h1 X sc ok e c h
end
end EV

/-! EvI: a frame between two statements. -/
namespace EV
open PySem PySem.Spec PyProof.Rows L2

/-- a list or dict that the frame alone holds -/
def OwnA (ρ : Env) (σ : L2.St) (a : Addr) : Prop := ∃ (i : Nat) (d : D), ρ[i]? = some (.o d) ∧ σ[i]? = some (some (.ref a))
def FO (B : Addr → Prop) (ρ : Env) (σ : L2.St) (a : Addr) : Prop := B a ∨ OwnA ρ σ a
structure RelS (W : Wld) (B : Addr → Prop) (H0 : Hp) (ρ : Env) (n : Nat) (σ : L2.St) (H : Hp) : Prop where
  rel : Rel W (FO B ρ σ) ρ n σ H
  keep : Keep W.tok H0 H
  own0 : ∀ a, OwnA ρ σ a → H0 a = none
  bdom : ∀ a, B a → H0 a ≠ none
  wab : ∀ a, W.wa a → B a
  dist : ∀ (i j : Nat) (di dj : D) (a : Addr), ρ[i]? = some (.o di) → ρ[j]? = some (.o dj) → σ[i]? = some (some (.ref a)) → σ[j]? = some (some (.ref a)) → i = j

section
variable {W : Wld} {B F G : Addr → Prop} {H0 H H' : Hp} {ρ ρ' : Env} {n n' : Nat} {σ σ' : L2.St}
theorem SlR.shrink {s : Sl} {ov : Option V} (g : ∀ a, G a → F a) (o : ∀ d a, s = .o d → ov = some (.ref a) → G a) (h : SlR W F H s ov) : SlR W G H s ov := by
  cases s with
  | u => exact trivial
  | v d =>
    cases ov with
    | none => exact h
    | some v => exact Rep.keep (F := F) Keep.refl (fun a _ z => g a z) h
  | o d =>
    cases d with
    | list ds =>
      cases ov with
      | none => exact h
      | some v =>
        cases v with
        | ref a =>
          obtain ⟨⟨fa, na⟩, xs, e, r⟩ := h
          exact ⟨⟨o _ a rfl rfl, na⟩, xs, e, r.keep (F := F) Keep.refl fun a _ z => g a z⟩
        | _ => exact h
    | dict ds =>
      cases ov with
      | none => exact h
      | some v =>
        cases v with
        | ref a =>
          obtain ⟨⟨fa, na⟩, h⟩ := h
          refine ⟨⟨o _ a rfl rfl, na⟩, ?_⟩
          rcases h with ⟨xs, e, r⟩ | ⟨xs, e, r⟩
          · exact .inl ⟨xs, e, r.keep (F := F) Keep.refl fun a _ z => g a z⟩
          · exact .inr ⟨xs, e, r.keep (F := F) Keep.refl fun a _ z => g a z⟩
        | _ => exact h
    | _ => cases ov <;> exact h
/-- the same slots at other places -/
theorem RelS.map (R : RelS W B H0 ρ n σ H) (f : Nat → Nat) (hl : σ'.length = ρ'.length) (hf : ∀ (i : Nat) s, ρ'[i]? = some s → s = .u ∨ (ρ[f i]? = some s ∧ σ'[i]? = σ[f i]?))
    (inj : ∀ (i j : Nat) (di dj : D), ρ'[i]? = some (.o di) → ρ'[j]? = some (.o dj) → f i = f j → i = j) : RelS W B H0 ρ' n σ' H := by
  have own : ∀ a, OwnA ρ' σ' a → OwnA ρ σ a := fun a ⟨i, d, e1, e2⟩ => by
    rcases hf i _ e1 with z | ⟨z1, z2⟩
    · cases z
    · exact ⟨f i, d, z1, by rw [← z2]; exact e2⟩
  have fo : ∀ a, FO B ρ' σ' a → FO B ρ σ a := fun a z => z.imp id (own a)
  refine ⟨⟨hl, fun i s e => ?_, fun a z => R.rel.tr a (fo a z), fun a z => .inl (R.wab a z), R.rel.wp⟩, R.keep, fun a z => R.own0 a (own a z), R.bdom, R.wab, fun i j di dj a e1 e2 e3 e4 => ?_⟩
  · have hi : i < σ'.length := by rw [hl]; exact (List.getElem?_eq_some_iff.mp e).1
    refine ⟨σ'[i], List.getElem?_eq_getElem hi, ?_⟩
    rcases hf i s e with z | ⟨z1, z2⟩
    · subst z; exact trivial
    · obtain ⟨ov, h1, h2⟩ := R.rel.sl _ _ z1
      rw [← z2, List.getElem?_eq_getElem hi] at h1
      cases h1
      refine h2.shrink fo fun d a es eo => .inr ⟨i, d, by rw [e, es], by rw [List.getElem?_eq_getElem hi, eo]⟩
  · rcases hf i _ e1 with z | ⟨z1, z2⟩
    · cases z
    · rcases hf j _ e2 with z | ⟨y1, y2⟩
      · cases z
      · exact inj i j di dj e1 e2 (R.dist _ _ di dj a z1 y1 (by rw [← z2]; exact e3) (by rw [← y2]; exact e4))
theorem RelS.after (R : RelS W B H0 ρ n σ H) (k : Keep W.tok H H') (w : W.wp n' H') : RelS W B H0 ρ n' σ H' :=
  ⟨R.rel.keep k w, R.keep.trans k, R.own0, R.bdom, R.wab, R.dist⟩
theorem getElem_app {α : Type} {xs : List α} {x : α} {i : Nat} {y : α} (h : (xs ++ [x])[i]? = some y) : (i < xs.length ∧ xs[i]? = some y) ∨ (i = xs.length ∧ y = x) := by
  rw [List.getElem?_append] at h
  split at h
  · exact .inl ⟨by assumption, h⟩
  · refine .inr ?_
    have : i - xs.length = 0 := by
      have := (List.getElem?_eq_some_iff.mp h).1
      simp at this
      omega
    rw [this] at h
    simp at h
    exact ⟨by omega, h.symm⟩
/-- a value is come to: it stands in one more slot -/
theorem RelS.push (R : RelS W B H0 ρ n σ H) {v : V} {d : D} {fr : Bool} (k : Keep W.tok H H') (w : W.wp n' H') (r : Rep W (FO B ρ σ) H' v d) (f : fr = true → isMut d = true → FreshR W (FO B ρ σ) H H' v d) :
    RelS W B H0 (ρ ++ [hold fr d]) n' (σ ++ [some v]) H' := by
  have hlen := R.rel.len
  by_cases hm : (fr && isMut d) = true
  · -- one's own
    rw [Bool.and_eq_true] at hm
    have hs : hold fr d = .o d := by unfold hold; rw [hm.1, hm.2]; rfl
    rw [hs]
    obtain ⟨a, ea⟩ : ∃ a, v = .ref a := by
      cases r with
      | lst _ _ _ => exact ⟨_, rfl⟩
      | dK _ _ _ => exact ⟨_, rfl⟩
      | dT _ _ _ => exact ⟨_, rfl⟩
      | wld _ => exact ⟨_, rfl⟩
      | tup _ _ _ => cases hm.2
      | _ => cases hm.2
    subst ea
    obtain ⟨ha, hsl⟩ := f hm.1 hm.2 a rfl
    have na : ¬ FO B ρ σ a := fun z => R.rel.tr a z ha
    have fo1 : ∀ b, FO B (ρ ++ [.o d]) (σ ++ [some (.ref a)]) b → FO B ρ σ b ∨ b = a := fun b z => by
      rcases z with z | ⟨i, di, e1, e2⟩
      · exact .inl (.inl z)
      · rcases getElem_app e1 with ⟨h1, h2⟩ | ⟨h1, h2⟩
        · rcases getElem_app e2 with ⟨h3, h4⟩ | ⟨h3, h4⟩
          · exact .inl (.inr ⟨i, di, h2, h4⟩)
          · omega
        · rcases getElem_app e2 with ⟨h3, h4⟩ | ⟨h3, h4⟩
          · omega
          · cases h4; exact .inr rfl
    have fo2 : ∀ b, FO B ρ σ b → FO B (ρ ++ [.o d]) (σ ++ [some (.ref a)]) b := fun b z => by
      rcases z with z | ⟨i, di, e1, e2⟩
      · exact .inl z
      · exact .inr ⟨i, di, by rw [List.getElem?_append_left (List.getElem?_eq_some_iff.mp e1).1]; exact e1, by rw [List.getElem?_append_left (List.getElem?_eq_some_iff.mp e2).1]; exact e2⟩
    have hn : a ∉ ([] : List Addr) := by simp
    have ownA : OwnA (ρ ++ [.o d]) (σ ++ [some (.ref a)]) a := ⟨ρ.length, d, by simp, by rw [← hlen]; simp⟩
    have h0a : H0 a = none := none_back (none_back (H := H) ha Keep.refl R.rel.wp) R.keep R.rel.wp
    have ha' : H' a ≠ none := by
      cases d with
      | list ds => obtain ⟨_, xs, e, _⟩ := hsl; rw [e]; simp
      | dict ds => obtain ⟨_, h | h⟩ := hsl <;> (obtain ⟨xs, e, _⟩ := h; rw [e]; simp)
      | _ => exact hsl.elim
    have R1 : Rel W (FO B (ρ ++ [.o d]) (σ ++ [some (.ref a)])) ρ n' σ H' := R.rel.to k w fo2 (fun b hb z => (fo1 b z).resolve_right fun e => by subst e; exact hb ha) fun b z => by
      rcases fo1 b z with z | rfl
      · exact (R.rel.keep k w).tr b z
      · exact ha'
    refine ⟨⟨by simp [hlen], fun i s e => ?_, R1.tr, R1.wa, w⟩, R.keep.trans k, fun b ⟨i, di, e1, e2⟩ => ?_, R.bdom, R.wab, fun i j di dj b e1 e2 e3 e4 => ?_⟩
    · rcases getElem_app e with ⟨h1, h2⟩ | ⟨h1, h2⟩
      · obtain ⟨ov, z1, z2⟩ := R1.sl i s h2
        exact ⟨ov, by rw [List.getElem?_append_left (by omega)]; exact z1, z2⟩
      · subst h2
        refine ⟨some (.ref a), by rw [h1, ← hlen]; simp, hsl.shrink fo1 fun d' a' _ e' => by cases e'; exact .inr ownA⟩
    · rcases getElem_app e1 with ⟨h1, h2⟩ | ⟨h1, h2⟩
      · rcases getElem_app e2 with ⟨h3, h4⟩ | ⟨h3, h4⟩
        · exact R.own0 b ⟨i, di, h2, h4⟩
        · omega
      · rcases getElem_app e2 with ⟨h3, h4⟩ | ⟨h3, h4⟩
        · omega
        · cases h4; exact h0a
    · rcases getElem_app e1 with ⟨h1, h2⟩ | ⟨h1, h2⟩ <;> rcases getElem_app e2 with ⟨g1, g2⟩ | ⟨g1, g2⟩ <;> rcases getElem_app e3 with ⟨h3, h4⟩ | ⟨h3, h4⟩ <;> rcases getElem_app e4 with ⟨g3, g4⟩ | ⟨g3, g4⟩ <;> first
        | omega
        | exact R.dist i j di dj b h2 g2 h4 g4
        | (cases g4; exact absurd (.inr ⟨i, di, h2, h4⟩) na)
        | (cases h4; exact absurd (.inr ⟨j, dj, g2, g4⟩) na)
  · -- a value
    have hs : hold fr d = .v d := by unfold hold; rw [if_neg hm]
    rw [hs]
    have fo1 : ∀ b, FO B (ρ ++ [.v d]) (σ ++ [some v]) b → FO B ρ σ b := fun b z => by
      rcases z with z | ⟨i, di, e1, e2⟩
      · exact .inl z
      · rcases getElem_app e1 with ⟨h1, h2⟩ | ⟨h1, h2⟩
        · rcases getElem_app e2 with ⟨h3, h4⟩ | ⟨h3, h4⟩
          · exact .inr ⟨i, di, h2, h4⟩
          · omega
        · cases h2
    have fo2 : ∀ b, FO B ρ σ b → FO B (ρ ++ [.v d]) (σ ++ [some v]) b := fun b z => by
      rcases z with z | ⟨i, di, e1, e2⟩
      · exact .inl z
      · exact .inr ⟨i, di, by rw [List.getElem?_append_left (List.getElem?_eq_some_iff.mp e1).1]; exact e1, by rw [List.getElem?_append_left (List.getElem?_eq_some_iff.mp e2).1]; exact e2⟩
    have R1 : Rel W (FO B (ρ ++ [.v d]) (σ ++ [some v])) ρ n' σ H' := R.rel.to k w fo2 (fun b _ z => fo1 b z) fun b z => (R.rel.keep k w).tr b (fo1 b z)
    refine ⟨⟨by simp [hlen], fun i s e => ?_, R1.tr, R1.wa, w⟩, R.keep.trans k, fun b ⟨i, di, e1, e2⟩ => ?_, R.bdom, R.wab, fun i j di dj b e1 e2 e3 e4 => ?_⟩
    · rcases getElem_app e with ⟨h1, h2⟩ | ⟨h1, h2⟩
      · obtain ⟨ov, z1, z2⟩ := R1.sl i s h2
        exact ⟨ov, by rw [List.getElem?_append_left (by omega)]; exact z1, z2⟩
      · subst h2
        exact ⟨some v, by rw [h1, ← hlen]; simp, r.keep (F := FO B ρ σ) Keep.refl fun b _ z => fo1 b z⟩
    · rcases getElem_app e1 with ⟨h1, h2⟩ | ⟨h1, h2⟩
      · rcases getElem_app e2 with ⟨h3, h4⟩ | ⟨h3, h4⟩
        · exact R.own0 b ⟨i, di, h2, h4⟩
        · omega
      · cases h2
    · rcases getElem_app e1 with ⟨h1, h2⟩ | ⟨h1, h2⟩
      · rcases getElem_app e2 with ⟨g1, g2⟩ | ⟨g1, g2⟩
        · rcases getElem_app e3 with ⟨h3, h4⟩ | ⟨h3, h4⟩ <;> rcases getElem_app e4 with ⟨g3, g4⟩ | ⟨g3, g4⟩ <;> first
            | omega
            | exact R.dist i j di dj b h2 g2 h4 g4
        · cases g2
      · cases h2
/-- it is stored at a name -/
theorem RelS.store {s : Sl} {v : V} {ss : Env} {vs : List (Option V)} (hρ : σ.length = ρ.length) (R : RelS W B H0 (ρ ++ s :: ss) n (σ ++ some v :: vs) H) (i : Nat) : RelS W B H0 (ρ.set i s ++ ss) n (σ.set i (some v) ++ vs) H := by
  have hl := R.rel.len
  simp only [List.length_append, List.length_cons] at hl
  refine R.map (fun j => if j = i ∧ i < ρ.length then ρ.length else if j < ρ.length then j else j + 1) (by simp; omega) (fun j t e => .inr ?_) (fun j k dj dk e1 e2 h => ?_)
  · by_cases hj : j < ρ.length
    · rw [List.getElem?_append_left (by simpa using hj)] at e
      by_cases hi : j = i
      · subst hi
        rw [List.getElem?_set_self hj] at e
        cases e
        simp only [hj, and_self, if_true]
        exact ⟨by simp, by rw [List.getElem?_append_left (by simp; omega), List.getElem?_set_self (by omega), ← hρ]; simp⟩
      · rw [List.getElem?_set_ne (Ne.symm hi)] at e
        simp only [hi, false_and, if_false, hj, if_true]
        exact ⟨by rw [List.getElem?_append_left hj]; exact e, by rw [List.getElem?_append_left (by simp; omega), List.getElem?_set_ne (Ne.symm hi), List.getElem?_append_left (by omega)]⟩
    · rw [List.getElem?_append_right (by simpa using hj)] at e
      have hji : ¬ (j = i ∧ i < ρ.length) := fun z => hj (z.1 ▸ z.2)
      simp only [hji, if_false, hj]
      rw [List.length_set] at e
      constructor
      · rw [List.getElem?_append_right (by omega), show j + 1 - ρ.length = (j - ρ.length) + 1 by omega, List.getElem?_cons_succ]
        exact e
      · rw [List.getElem?_append_right (by simp; omega), List.length_set, List.getElem?_append_right (by omega), show j + 1 - σ.length = (j - σ.length) + 1 by omega, List.getElem?_cons_succ]
  · split at h <;> split at h <;> (try split at h) <;> (try split at h) <;> omega
theorem RelS.set (R : RelS W B H0 ρ n σ H) (k : Keep W.tok H H') (w : W.wp n' H') {v : V} {d : D} {fr : Bool} (r : Rep W (FO B ρ σ) H' v d) (f : fr = true → isMut d = true → FreshR W (FO B ρ σ) H H' v d) (i : Nat) :
    RelS W B H0 (ρ.set i (hold fr d)) n' (σ.set i (some v)) H' := by
  have := (R.push k w r f).store (ss := []) (vs := []) R.rel.len i
  simpa using this
end
end EV

/-! EvJ: statements. -/
namespace EV
open PySem PySem.Spec PyProof.Rows L2

section
variable {W : Wld} {B F G : Addr → Prop} {H0 H H' : Hp} {ρ ρ' : Env} {n n' : Nat} {σ σ' : L2.St}
theorem getO_some {i : Nat} {d : D} (h : getO ρ i = some d) : ρ[i]? = some (.o d) := by
  unfold getO at h
  split at h
  · cases h; assumption
  · cases h
theorem RelS.frz (R : RelS W B H0 ρ n σ H) (j : Nat) : RelS W B H0 (frzE ρ j) n σ H := by
  unfold frzE
  split
  case h_2 => exact R
  rename_i d e
  have hj := (List.getElem?_eq_some_iff.mp e).1
  obtain ⟨ov, s1, s2⟩ := R.rel.sl _ _ e
  obtain ⟨a, rfl, fa, nwa⟩ := s2.oSome
  have keepO : ∀ (i : Nat) di, (ρ.set j (.v d))[i]? = some (.o di) → ρ[i]? = some (.o di) ∧ i ≠ j := fun i di q => by
    by_cases h : j = i
    · subst h
      rw [List.getElem?_set_self hj] at q
      cases q
    · rw [List.getElem?_set_ne h] at q
      exact ⟨q, Ne.symm h⟩
  have own : ∀ b, OwnA (ρ.set j (.v d)) σ b → OwnA ρ σ b ∧ b ≠ a := fun b ⟨i, di, e1, e2⟩ => by
    obtain ⟨q1, q2⟩ := keepO i di e1
    refine ⟨⟨i, di, q1, e2⟩, ?_⟩
    rintro rfl
    exact q2 (R.dist i j di d b q1 e e2 s1)
  have fo : ∀ b, FO B (ρ.set j (.v d)) σ b → FO B ρ σ b := fun b z => z.imp id fun z => (own b z).1
  have na : ¬ FO B (ρ.set j (.v d)) σ a := fun z => by
    rcases z with z | z
    · exact R.bdom _ z (R.own0 a ⟨j, d, e, s1⟩)
    · exact (own a z).2 rfl
  refine ⟨⟨by rw [List.length_set]; exact R.rel.len, fun i s q => ?_, fun b z => R.rel.tr b (fo b z), fun b z => .inl (R.wab b z), R.rel.wp⟩, R.keep, fun b z => R.own0 b (own b z).1, R.bdom, R.wab, fun i k di dk b e1 e2 e3 e4 => R.dist i k di dk b (keepO _ _ e1).1 (keepO _ _ e2).1 e3 e4⟩
  by_cases h : j = i
  · subst h
    rw [List.getElem?_set_self hj] at q
    cases q
    refine ⟨_, s1, ?_⟩
    show Rep W _ H (.ref a) d
    cases d with
    | list ds =>
      obtain ⟨_, xs, h1, h2⟩ := s2
      exact .lst h1 na (h2.keep (F := FO B ρ σ) Keep.refl fun b _ z => fo b z)
    | dict ds =>
      obtain ⟨_, h | h⟩ := s2
      · obtain ⟨xs, h1, h2⟩ := h
        exact .dK (.inl h1) na (h2.keep (F := FO B ρ σ) Keep.refl fun b _ z => fo b z)
      · obtain ⟨xs, h1, h2⟩ := h
        exact .dT (.inl h1) na (h2.keep (F := FO B ρ σ) Keep.refl fun b _ z => fo b z)
    | _ => exact s2.elim
  · rw [List.getElem?_set_ne h] at q
    obtain ⟨ov, q1, q2⟩ := R.rel.sl _ _ q
    refine ⟨ov, q1, q2.shrink fo fun di b es eo => .inr ⟨i, di, by rw [List.getElem?_set_ne h, q, es], by rw [q1, eo]⟩⟩
/-- one's own list or dict is changed -/
theorem RelS.mut (R : RelS W B H0 ρ n σ H) {x : Nat} {d d' : D} {a : Addr} {o : HO} (e : ρ[x]? = some (.o d)) (s1 : σ[x]? = some (some (.ref a))) (hs : SlR W (FO B ρ σ) (upd H a o) (.o d') (some (.ref a))) :
    RelS W B H0 (ρ.set x (.o d')) n σ (upd H a o) := by
  have hj := (List.getElem?_eq_some_iff.mp e).1
  obtain ⟨ov, s1', s2⟩ := R.rel.sl _ _ e
  rw [s1] at s1'
  cases s1'
  obtain ⟨a', ea, fa, nwa⟩ := s2.oSome
  cases ea
  have keepO : ∀ (i : Nat) di, (ρ.set x (.o d'))[i]? = some (.o di) → ∃ dj, ρ[i]? = some (.o dj) := fun i di q => by
    by_cases h : x = i
    · subst h
      exact ⟨d, e⟩
    · rw [List.getElem?_set_ne h] at q
      exact ⟨di, q⟩
  have own : ∀ b, OwnA (ρ.set x (.o d')) σ b → OwnA ρ σ b := fun b ⟨i, di, e1, e2⟩ => by
    obtain ⟨dj, q1⟩ := keepO i di e1
    exact ⟨i, dj, q1, e2⟩
  have own2 : ∀ b, OwnA ρ σ b → OwnA (ρ.set x (.o d')) σ b := fun b ⟨i, di, e1, e2⟩ => by
    by_cases h : x = i
    · subst h
      exact ⟨x, d', List.getElem?_set_self hj, e2⟩
    · exact ⟨i, di, by rw [List.getElem?_set_ne h]; exact e1, e2⟩
  have fo : ∀ b, FO B (ρ.set x (.o d')) σ b → FO B ρ σ b := fun b z => z.imp id (own b)
  have fo2 : ∀ b, FO B ρ σ b → FO B (ρ.set x (.o d')) σ b := fun b z => z.imp id (own2 b)
  have h0a : H0 a = none := R.own0 a ⟨x, d, e, s1⟩
  have kF : Keep (FO B ρ σ) H (upd H a o) := fun b u nb q => by
    rw [upd_ne (by rintro rfl; exact nb fa)]
    exact q
  have wp' : W.wp n (upd H a o) := W.stab _ _ _ R.rel.wp fun b z => upd_ne (by rintro rfl; exact nwa z)
  refine ⟨⟨by rw [List.length_set]; exact R.rel.len, fun i s q => ?_, fun b z => ?_, fun b z => .inl (R.wab b z), wp'⟩, fun b u nb q => ?_, fun b z => R.own0 b (own b z), R.bdom, R.wab, fun i k di dk b e1 e2 e3 e4 => ?_⟩
  · by_cases h : x = i
    · subst h
      rw [List.getElem?_set_self hj] at q
      cases q
      exact ⟨_, s1, hs.shrink fo fun di b _ eo => by cases eo; exact fo2 _ fa⟩
    · rw [List.getElem?_set_ne h] at q
      obtain ⟨ov, q1, q2⟩ := R.rel.sl _ _ q
      refine ⟨ov, q1, ?_⟩
      have q3 : SlR W (FO B ρ σ) (upd H a o) s ov := by
        cases s with
        | u => exact trivial
        | v dv =>
          cases ov with
          | none => exact q2
          | some v => exact Rep.keep kF (fun _ _ z => z) q2
        | o dv =>
          obtain ⟨b, rfl, fb, nb⟩ := q2.oSome
          have hba : b ≠ a := by
            rintro rfl
            exact h (R.dist x i d dv b e q s1 q1)
          cases dv with
          | list ds =>
            obtain ⟨h1, xs, h2, h3⟩ := q2
            exact ⟨h1, xs, by rw [upd_ne hba]; exact h2, h3.keep kF fun _ _ z => z⟩
          | dict ds =>
            obtain ⟨h1, h2⟩ := q2
            refine ⟨h1, ?_⟩
            rcases h2 with ⟨xs, h2, h3⟩ | ⟨xs, h2, h3⟩
            · exact .inl ⟨xs, by rw [upd_ne hba]; exact h2, h3.keep kF fun _ _ z => z⟩
            · exact .inr ⟨xs, by rw [upd_ne hba]; exact h2, h3.keep kF fun _ _ z => z⟩
          | _ => exact q2.elim
      exact q3.shrink fo fun di b es eo => .inr ⟨i, di, by rw [List.getElem?_set_ne h, q, es], by rw [q1, eo]⟩
  · by_cases hb : b = a
    · subst hb; rw [upd_same]; simp
    · rw [upd_ne hb]; exact R.rel.tr b (fo b z)
  · rw [upd_ne (by rintro rfl; rw [h0a] at q; cases q)]
    exact R.keep b u nb q
  · obtain ⟨di', e1'⟩ := keepO i di e1
    obtain ⟨dk', e2'⟩ := keepO k dk e2
    exact R.dist i k di' dk' b e1' e2' e3 e4
/-- another entry: all that stands now, but one's own -/
noncomputable def baseH (ρ : Env) (σ : L2.St) (H : Hp) : Hp := fun a => open Classical in if OwnA ρ σ a then none else H a
theorem baseH_own {a : Addr} (h : OwnA ρ σ a) : baseH ρ σ H a = none := by unfold baseH; rw [if_pos h]
theorem baseH_not {a : Addr} (h : ¬ OwnA ρ σ a) : baseH ρ σ H a = H a := by unfold baseH; rw [if_neg h]
theorem baseH_some {a : Addr} {o : HO} (h : baseH ρ σ H a = some o) : ¬ OwnA ρ σ a ∧ H a = some o := by
  by_cases z : OwnA ρ σ a
  · rw [baseH_own z] at h; cases h
  · rw [baseH_not z] at h; exact ⟨z, h⟩
theorem RelS.rebase (R : RelS W B H0 ρ n σ H) : RelS W B (baseH ρ σ H) ρ n σ H := by
  refine ⟨R.rel, fun a o _ e => (baseH_some e).2, fun a z => baseH_own z, fun a z => ?_, R.wab, R.dist⟩
  have : ¬ OwnA ρ σ a := fun q => R.bdom a z (R.own0 a q)
  rw [baseH_not this]
  exact R.rel.tr a (.inl z)
theorem base_none (R : RelS W B H0 ρ n σ H) {a : Addr} (h : baseH ρ σ H a = none) : H0 a = none := by
  by_cases z : OwnA ρ σ a
  · exact R.own0 a z
  · rw [baseH_not z] at h
    exact none_back h R.keep R.rel.wp
theorem base_keep (R : RelS W B H0 ρ n σ H) (k : Keep W.tok (baseH ρ σ H) H') : Keep W.tok H0 H' := fun a o na e => by
  refine k a o na ?_
  rw [baseH_not fun z => by rw [R.own0 a z] at e; cases e]
  exact R.keep a o na e
theorem RelS.back {ρ2 : Env} {σ2 : L2.St} {n2 : Nat} {H2 : Hp} (R : RelS W B H0 ρ n σ H) (R2 : RelS W B (baseH ρ σ H) ρ2 n2 σ2 H2) : RelS W B H0 ρ2 n2 σ2 H2 :=
  ⟨R2.rel, base_keep R R2.keep, fun a z => base_none R (R2.own0 a z), R.bdom, R.wab, R2.dist⟩
end

/-- what is wanted behind a statement -/
def EndOk (W : Wld) (B : Addr → Prop) (H0 : Hp) (Dd : Ends) : Fl → Env → Nat → Prop
  | .nx, ρ, n => ∀ σ H, RelS W B H0 ρ n σ H → Dd.nx σ H
  | .brk, ρ, n => ∀ σ H, RelS W B H0 ρ n σ H → Dd.bk σ H
  | .ct, ρ, n => ∀ σ H, RelS W B H0 ρ n σ H → Dd.ct σ H
  | .ret d f, _, n => ∀ v H, Keep W.tok H0 H → W.wp n H → Rep W B H v d → (f = true → isMut d = true → FreshR W B H0 H v d) → Dd.rt v H
def RdS (Φ : Fns) (W : Wld) (B : Addr → Prop) (H0 : Hp) (c : S) : TS := fun Dd σ H => ∃ ρ n f ρ' n', RelS W B H0 ρ n σ H ∧ evS Φ c ρ n = some (f, ρ', n') ∧ EndOk W B H0 Dd f ρ' n'
def RdSs (Φ : Fns) (W : Wld) (B : Addr → Prop) (H0 : Hp) (cs : List S) : TS := fun Dd σ H => ∃ ρ n f ρ' n', RelS W B H0 ρ n σ H ∧ evSs Φ cs ρ n = some (f, ρ', n') ∧ EndOk W B H0 Dd f ρ' n'
section
variable {Γ N : List Str} {Φ : Fns} {W : Wld} {X : Cx} {sc : Scope} {B : Addr → Prop}
/-- a block, from its statements -/
theorem pssNil {H0 : Hp} : PSs X [] (RdSs Φ W B H0 []) := by
  refine ⟨fun pins s σ H Dd I ⟨ρ, n, f, ρ', n', R, ev, q⟩ => pss_nil.run pins s σ H Dd I ?_⟩
  cases ev
  exact q σ H R
theorem pssCons {H0 : Hp} {st : Stmt} {ss : List Stmt} {c : S} {cs : List S} (h1 : PS X st (RdS Φ W B H0 c)) (h2 : PSs X ss (RdSs Φ W B H0 cs)) : PSs X (st :: ss) (RdSs Φ W B H0 (c :: cs)) := by
  refine ⟨fun pins s σ H Dd I ⟨ρ, n, f, ρ', n', R, ev, q⟩ => (pss_cons h1 h2).run pins s σ H Dd I ?_⟩
  have ev : bns (evS Φ c ρ n) (fun ρ n => evSs Φ cs ρ n) = some (f, ρ', n') := ev
  unfold bns at ev
  split at ev
  · rename_i ρ1 n1 e1
    exact ⟨ρ, n, .nx, ρ1, n1, R, e1, fun σ1 H1 R1 => ⟨ρ1, n1, f, ρ', n', R1, ev, q⟩⟩
  · rename_i h
    refine ⟨ρ, n, f, ρ', n', R, ev, ?_⟩
    cases f with
    | nx => exact absurd ev (h ρ' n')
    | brk => exact q
    | ct => exact q
    | ret d f => exact q
theorem pssFrz {H0 : Hp} {x : Nat} {ss : List Stmt} {cs : List S} (h2 : PSs X ss (RdSs Φ W B H0 cs)) : PSs X ss (RdSs Φ W B H0 (.frz x :: cs)) := by
  refine ⟨fun pins s σ H Dd I ⟨ρ, n, f, ρ', n', R, ev, q⟩ => h2.run pins s σ H Dd I ⟨frzE ρ x, n, f, ρ', n', R.frz x, ev, q⟩⟩
end
end EV

/-! EvK: each statement. -/
namespace EV
open PySem PySem.Spec PyProof.Rows L2

section
variable {Γ N : List Str} {Φ : Fns} {W : Wld} {X : Cx} {sc : Scope} {B : Addr → Prop} {H0 : Hp}
/-- a def's own context -/
structure DOk (Γ N : List Str) (Φ : Fns) (W : Wld) (X : Cx) (sc : Scope) : Prop where
  ok : XOk Γ N Φ W X sc
  fn : ∀ x, X.fn x = true
  kind : sc.kind = .function
theorem DOk.store (D : DOk Γ N Φ W X sc) : StoreOk X sc := fun x h => by
  refine ⟨?_, .inl (D.fn x)⟩
  unfold locB at h
  unfold L2.Loc
  rw [D.ok.hsc]
  split at h <;> simp_all
theorem DOk.blk (D : DOk Γ N Φ W X sc) : X.env.blockKind = .function := by
  unfold PySem.Env.blockKind
  rw [D.ok.hsc, D.kind]
  rfl

/-! ### what the model looks at ahead of a store -/
theorem sw_no {e : Expr} {t : Option Expr} {l : Nat} {env : PySem.Env} {k : Nat} {c : E} (h : mtE Γ N k sc e c = true) (hl : ∀ a b s p, e ≠ .ListComp a b s p) : swapsWith e t l env = pure false := by
  cases e with
  | ListComp a b s p => exact absurd rfl (hl a b s p)
  | SetComp a b s p =>
    exfalso
    cases k <;> simp [mtE] at h
  | DictComp a b s p q =>
    exfalso
    cases k <;> simp [mtE] at h
  | _ => rfl
theorem sw_lc (D : DOk Γ N Φ W X sc) {elt : Expr} {gs : List Comprehension} {scope : Scope} {pos py : Pos} {y : Str} {l : Nat} : swapsWith (.ListComp elt gs scope pos) (some (.Name y py)) l X.env = pure (swC sc y py (.ListComp elt gs scope pos)) := by
  have hb := D.blk
  unfold swapsWith swC
  simp only [hb, PySem.Env.kindOf, D.ok.hsc, Expr.pos]
  simp
theorem stores_none {tg e : Expr} {env : PySem.Env} (h : (match tg with | .Tuple .. => (match e with | .Tuple .. => false | _ => true) | .List .. => (match e with | .Tuple .. => false | _ => true) | _ => true) = true) : swappedStores [tg] e env = pure none := by
  cases tg <;> cases e <;> first | rfl | (simp at h)
theorem stores_eq (D : DOk Γ N Φ W X sc) {ts vs : List Expr} {kt k2 : Nat} {pt p2 : Pos} (h : swOk vs = true) : swappedStores [.Tuple ts kt pt] (.Tuple vs k2 p2) X.env = pure (swN sc ts vs) := by
  have hb := D.blk
  have hk : ∀ x, X.env.kindOf x = sc.names.lookup x := fun x => by unfold PySem.Env.kindOf; rw [D.ok.hsc]
  have h2 : vs.all (constantsAlone 8) = false := by simpa [swOk] using h
  unfold swappedStores swN
  simp only [hb, hk, h2]
  have e0 : (ScopeKind.function != ScopeKind.function) = false := by decide
  simp only [e0, Bool.or_false]
  by_cases c1 : (!(ts.length == 2 || ts.length == 3) || vs.length != ts.length) = true
  · rw [if_pos c1, if_pos c1]
  · rw [if_neg c1, if_neg c1]
    by_cases c2 : vs.any isStar = true
    · rw [if_pos c2]
      exact (if_pos c2).trans rfl
    · rw [if_neg c2]
      refine (if_neg c2).trans ?_
      by_cases c3 : ((swNames sc ts).length != ts.length || (swNames sc ts).eraseDups.length != (swNames sc ts).length) = true
      · rw [if_pos c3]
        exact (if_pos c3).trans rfl
      · rw [if_neg c3]
        refine (if_neg c3).trans ?_
        by_cases c4 : vs.all (foldedForSure 8) = true
        · rw [if_pos c4, if_pos c4]
        · rw [if_neg c4, if_neg c4]
          exact (if_neg Bool.false_ne_true).trans rfl

/-! ### x = e -/
theorem frz_get {ρ : Env} {j : Nat} {d : D} (h : getB ρ j = some d) : getV (frzE ρ j) j = some d := by
  unfold getB at h
  split at h
  · cases h
    rename_i e
    have : frzE ρ j = ρ := by unfold frzE; rw [e]
    rw [this]
    unfold getV
    rw [e]
  · cases h
    rename_i e
    have : frzE ρ j = ρ.set j (.v d) := by unfold frzE; rw [e]
    rw [this]
    unfold getV
    rw [List.getElem?_set_self (List.getElem?_eq_some_iff.mp e).1]
  · cases h
theorem d_e (D : DOk Γ N Φ W X sc) {k : Nat} {e : Expr} {c : E} (h : mtE Γ N k sc e c = true) : PE X e (RdE Φ W c) := (pk_all k k (Nat.le_refl _) X sc D.ok e c h).1
theorem d_t (D : DOk Γ N Φ W X sc) {k : Nat} {e : Expr} {c : E} (h : mtE Γ N k sc e c = true) : PT X e (RdT Φ W c) := (pk_all k k (Nat.le_refl _) X sc D.ok e c h).2
theorem d_b (D : DOk Γ N Φ W X sc) {k : Nat} {e : Expr} {c : E} (h : mtE Γ N k sc e c = true) : PE X e (RdB Φ W c) := peB D.ok h (d_e D h)
theorem lc_shape {k : Nat} {elt : Expr} {gs : List Comprehension} {scope : Scope} {pos : Pos} {c : E} (h : mtE Γ N (k + 1) sc (.ListComp elt gs scope pos) c = true) : ∃ tg it ifs own tg' it' ifs' elt', gs = [⟨tg, it, ifs, 0⟩] ∧ c = .comp own tg' it' ifs' elt' ∧
    (blkC N sc scope (own.map fun i => (N.getD i ("" : Str), i)) && noSet it && mtI Γ N k sc it it' && mtT N scope k tg tg' && (tgSlots tg').all (own.contains ·) && decide (ifs.length ≤ 1) && all2 (mtE Γ N k (relS scope sc)) ifs ifs' && mtE Γ N k (relS scope sc) elt elt') = true := by
  unfold mtE at h
  split at h <;> first
    | (rename_i e1 _; cases e1; done)
    | (rename_i e1; cases e1; done)
    | (cases h; done)
    | skip
  rename_i e1
  injection e1 with a b c d
  subst a b c d
  exact ⟨_, _, _, _, _, _, _, _, rfl, rfl, h⟩
theorem psName (D : DOk Γ N Φ W X sc) {k : Nat} {x : Str} {px pos : Pos} {e : Expr} {i : Nat} {c : E} (hi : N[i]? = some x) (hx : locB sc x = true) (h : mtE Γ N k sc e c = true) : PS X (.Assign [.Name x px] e pos) (RdS Φ W B H0 (.asg (.nm i) c)) := by
  have st := D.store x hx
  -- the reading
  have rd : ∀ (Dd : Ends) (σ : L2.St) (H : Hp), RdS Φ W B H0 (.asg (.nm i) c) Dd σ H → RdE Φ W c σ H (fun v H1 => Dd.nx (σ.set i (some v)) H1) := by
    intro Dd σ H ⟨ρ, n, f, ρ', n', R, ev, q⟩
    unfold evS at ev
    split at ev
    · rename_i j hj
      have := isVar_some hj
      subst this
      obtain ⟨d, h1, ev⟩ := obind_inv ev
      obtain ⟨ρ1, h2, ev⟩ := map_inv ev
      cases ev
      cases h2
      refine ⟨_, frzE ρ j, n, d, _, (R.frz j).rel, by unfold evE; rw [frz_get h1]; rfl, fun v H1 k1 w1 r1 _ => q _ H1 ((R.frz j).set k1 w1 r1 (fun e => by cases e) i)⟩
    · obtain ⟨d, n1, e1, ev⟩ := bnd_inv ev
      obtain ⟨ρ1, h2, ev⟩ := map_inv ev
      cases ev
      cases h2
      exact ⟨_, ρ, n, d, _, R.rel, e1, fun v H1 k1 w1 r1 fr => q _ H1 (R.set k1 w1 r1 fr i)⟩
  by_cases hlc : ∃ a b s p, e = .ListComp a b s p
  · obtain ⟨elt, gs, scope, lp, rfl⟩ := hlc
    cases hsw : swC sc x px (.ListComp elt gs scope lp) with
    | false =>
      exact ⟨fun pins s σ H Dd I hr => (ps_set (pos := pos) D.ok.nd (by rw [D.ok.hN]; exact hi) st.1 (d_e D h) (by rw [sw_lc D, hsw]) st.2).run pins s σ H Dd I (rd Dd σ H hr)⟩
    | true =>
      cases k with
      | zero => simp [mtE] at h
      | succ k =>
        obtain ⟨tg, it, ifs, own, tg', it', ifs', elt', rfl, rfl, hh⟩ := lc_shape h
        simp only [Bool.and_eq_true, decide_eq_true_eq] at hh
        obtain ⟨⟨⟨⟨⟨⟨⟨h1, h2⟩, h3⟩, h4⟩, h5⟩, h6⟩, h7⟩, h8⟩ := hh
        have ok := D.ok
        have ow : (own.map fun i => (N.getD i ("" : Str), i)).map (·.2) = own := by
          rw [List.map_map]
          exact List.map_id _
        have hw : ∀ i ∈ tgSlots tg', i ∈ (own.map fun i => (N.getD i ("" : Str), i)).map (·.2) := by
          rw [ow]
          intro i hi
          have := List.all_eq_true.mp h5 i hi
          simpa using this
        have bk : BlkOk X.N X.env.scope scope (own.map fun i => (N.getD i ("" : Str), i)) := by
          rw [ok.hN, ok.hsc]
          exact blkOk_by h1
        have hI : PI X tg it (RdI Φ W it') := (piI (pk_all k) (by omega) ok h3).1
        have hg : ∀ (s : Shared) (H : Hp) (C : Addr) (cl : List (Str × Addr)) (fp : List Addr), PG (X.blk s H scope (compEnvC scope cl C X.env) fp) tg (RdG W tg') := fun s H C cl fp =>
          pgT (N := N) (X := X.blk s H scope (compEnvC scope cl C X.env) fp) ok.nd ok.hN ok.calm (storeBlk ok.hsc s H C cl fp) h4
        have ht : ∀ (s : Shared) (H : Hp) (C : Addr) (cl : List (Str × Addr)) (fp : List Addr), PTs (X.blk s H scope (compEnvC scope cl C X.env) fp) ifs (RdTs Φ W ifs') := fun s H C cl fp =>
          ptsE (fun h => (pk_all k k (Nat.le_refl _) _ _ (ok.blk s H scope C cl fp) _ _ h).2) h6 h7
        have he : ∀ (s : Shared) (H : Hp) (C : Addr) (cl : List (Str × Addr)) (fp : List Addr), PE (X.blk s H scope (compEnvC scope cl C X.env) fp) elt (RdE Φ W elt') := fun s H C cl fp =>
          (pk_all k k (Nat.le_refl _) _ _ (ok.blk s H scope C cl fp) _ _ h8).1
        have hsw' := hsw
        simp only [swC, Bool.and_eq_true] at hsw'
        have hyl : X.env.scope.names.lookup x = some .local := by rw [ok.hsc]; exact eq_of_beq hsw'.1.1
        refine ⟨fun pins s σ H Dd I hr => (ps_setLc (spos := pos) ok.calm ok.nd (by rw [ok.hN]; exact hi) hyl (by rw [sw_lc D, hsw]) hI bk hg ht he (noSet_fold h2)).run pins s σ H Dd I ?_⟩
        obtain ⟨F, ρ, n, d, n', R, ev, q⟩ := rd Dd σ H hr
        rw [← ow] at ev
        exact compS (pos := lp) ok.calm ok.nd hI bk hg ht he (noSet_fold h2) hw R ev q
  · exact ⟨fun pins s σ H Dd I hr => (ps_set (pos := pos) D.ok.nd (by rw [D.ok.hN]; exact hi) st.1 (d_e D h) (sw_no h fun a b s p e => hlc ⟨a, b, s, p, e⟩) st.2).run pins s σ H Dd I (rd Dd σ H hr)⟩
end
end EV

/-! EvL: the other statements. -/
namespace EV
open PySem PySem.Spec PyProof.Rows L2

section
variable {Γ N : List Str} {Φ : Fns} {W : Wld} {X : Cx} {sc : Scope} {B : Addr → Prop} {H0 : Hp}

/-! ### targets of values -/
theorem RelS.setV {ρ : Env} {n : Nat} {σ : L2.St} {H : Hp} (R : RelS W B H0 ρ n σ H) {v : V} {d : D} (r : Rep W (FO B ρ σ) H v d) (i : Nat) : RelS W B H0 (ρ.set i (.v d)) n (σ.set i (some v)) H :=
  R.set (fr := false) Keep.refl R.rel.wp r (fun e => by cases e) i
theorem fo_setV {ρ : Env} {σ : L2.St} {v : V} {d : D} {i : Nat} (a : Addr) (hl : σ.length = ρ.length) (z : FO B (ρ.set i (.v d)) (σ.set i (some v)) a) : FO B ρ σ a := by
  rcases z with z | ⟨j, dj, e1, e2⟩
  · exact .inl z
  · by_cases h : i = j
    · subst h
      have := (List.getElem?_eq_some_iff.mp e1).1
      rw [List.length_set] at this
      rw [List.getElem?_set_self this] at e1
      cases e1
    · rw [List.getElem?_set_ne h] at e1 e2
      exact .inr ⟨j, dj, e1, e2⟩
def RdGS (W : Wld) (B : Addr → Prop) (H0 : Hp) (t : Tg) : TG := fun v σ H Q => ∃ ρ ρ' d n, RelS W B H0 ρ n σ H ∧ Rep W (FO B ρ σ) H v d ∧ bindT t false d ρ = some ρ' ∧ ∀ σ', RelS W B H0 ρ' n σ' H → (∀ a, FO B ρ' σ' a → FO B ρ σ a) → Q σ' H
def RdGsS (W : Wld) (B : Addr → Prop) (H0 : Hp) (ts : List Tg) : TGs := fun vs σ H Q => ∃ ρ ρ' ds n, RelS W B H0 ρ n σ H ∧ RepL W (FO B ρ σ) H vs ds ∧ bindTs ts ds ρ = some ρ' ∧ ∀ σ', RelS W B H0 ρ' n σ' H → (∀ a, FO B ρ' σ' a → FO B ρ σ a) → Q σ' H
theorem pgS (D : DOk Γ N Φ W X sc) : ∀ {k : Nat} {e : Expr} {t : Tg}, mtT N sc k e t = true → PG X e (RdGS W B H0 t)
  | 0, _, _, h => by simp [mtT] at h
  | k + 1, e, .nm i, h => by
    cases e <;> try (simp [mtT] at h; done)
    rename_i x p
    simp only [mtT, Bool.and_eq_true, decide_eq_true_eq] at h
    obtain ⟨l1, l2⟩ := D.store x h.2
    refine ⟨fun pins s σ H v u Q I rv ⟨ρ, ρ', d, n, R, r, hb, q⟩ => (pg_name D.ok.nd (by rw [D.ok.hN]; exact h.1) l1 l2).run pins s σ H v u Q I rv ?_⟩
    cases hb
    exact q _ (R.setV r i) fun a z => fo_setV a R.rel.len z
  | k + 1, e, .tp ts, h => by
    cases e <;> try (simp [mtT] at h; done)
    rename_i es x p
    have h : all2 (mtT N sc k) es ts = true := by simpa [mtT] using h
    have fs := asg_facts (env := X.env) h
    refine ⟨fun pins s σ H v u Q I rv ⟨ρ, ρ', d, n, R, r, hb, q⟩ => (pg_tup D.ok.calm (pgSs D k h) fs.1 fs.2).run pins s σ H v u Q I rv ?_⟩
    cases d with
    | tuple ds =>
      cases r with
      | tup e1 n1 r1 =>
        have hb : bindTs ts ds ρ = some ρ' := by simpa [bindT] using hb
        refine ⟨_, _, rfl, SqT.of e1, ?_, ⟨ρ, ρ', ds, n, R, r1, hb, q⟩⟩
        rw [r1.length]
        have g : ∀ (ts : List Tg) (ds : List EV.D) (ρ ρ' : EV.Env), bindTs ts ds ρ = some ρ' → ds.length = ts.length := by
          intro ts
          induction ts with
          | nil => intro ds ρ ρ' h; cases ds with
            | nil => rfl
            | cons d ds => simp [bindTs] at h
          | cons t ts ih => intro ds ρ ρ' h; cases ds with
            | nil => simp [bindTs] at h
            | cons d ds =>
              obtain ⟨ρ1, _, h2⟩ := obind_inv (show (bindT t false d ρ).bind _ = _ by simpa [bindTs] using h)
              simp [ih _ _ _ h2]
        exact g _ _ _ _ hb
    | _ => simp [bindT] at hb
where
  pgSs (D : DOk Γ N Φ W X sc) : ∀ (k : Nat) {es : List Expr} {ts : List Tg}, all2 (mtT N sc k) es ts = true → PGs X es (RdGsS W B H0 ts)
  | k, [], ts, h => by
    have := all2_nil h
    subst this
    refine ⟨fun pins s σ H vs us Q I rv ⟨ρ, ρ', ds, n, R, r, hb, q⟩ => pgs_nil.run pins s σ H vs us Q I rv ?_⟩
    cases r with
    | nil =>
      cases hb
      exact ⟨rfl, q σ R fun _ z => z⟩
    | cons _ _ => simp [bindTs] at hb
  | k, e :: es, ts, h => by
    obtain ⟨t, r, rfl, h1, h2⟩ := all2_cons h
    refine ⟨fun pins s σ H vs us Q I rv ⟨ρ, ρ', ds, n, R, r, hb, q⟩ => (pgs_cons (pgS D h1) (pgSs D k h2) (by rw [asg_nostar h1]; rfl)).run pins s σ H vs us Q I rv ?_⟩
    cases r with
    | nil => simp [bindTs] at hb
    | cons r1 rs =>
      obtain ⟨ρ1, b1, b2⟩ := obind_inv (show (bindT t false _ ρ).bind _ = _ by simpa [bindTs] using hb)
      exact ⟨_, _, rfl, ρ, ρ1, _, n, R, r1, b1, fun σ1 R1 w1 => ⟨ρ1, ρ', _, n, R1, rs.keep (F := FO B ρ σ) Keep.refl (fun a _ z => w1 a z), b2, fun σ2 R2 w2 => q σ2 R2 fun a z => w1 a (w2 a z)⟩⟩
theorem psTup (D : DOk Γ N Φ W X sc) {k : Nat} {ts : List Expr} {kt : Nat} {tp pos : Pos} {e : Expr} {is : List Tg} {c : E} (h1 : all2 (mtT N sc k) ts is = true) (h : mtE Γ N k sc e c = true) (hn : noTup e = true) :
    PS X (.Assign [.Tuple ts kt tp] e pos) (RdS Φ W B H0 (.asg (.tp is) c)) := by
  have hg : PG X (.Tuple ts kt tp) (RdGS W B H0 (.tp is)) := pgS D (k := k + 1) (by simpa [mtT] using h1)
  have hs : swapsWithSole [.Tuple ts kt tp] e pos.line X.env = pure false := by
    show swapsWith e (some (.Tuple ts kt tp)) pos.line X.env = pure false
    cases e <;> rfl
  have hw : swappedStores [.Tuple ts kt tp] e X.env = pure none := stores_none (by cases e <;> first | rfl | cases hn)
  refine ⟨fun pins s σ H Dd I ⟨ρ, n, f, ρ', n', R, ev, q⟩ => (ps_asg (d_e D h) hg hs hw).run pins s σ H Dd I ?_⟩
  unfold evS at ev
  split at ev
  · rename_i j hj
    have := isVar_some hj
    subst this
    obtain ⟨d, g1, ev⟩ := obind_inv ev
    obtain ⟨ρ1, g2, ev⟩ := map_inv ev
    cases ev
    exact ⟨_, frzE ρ j, n, d, _, (R.frz j).rel, by unfold evE; rw [frz_get g1]; rfl, fun v H1 k1 w1 r1 _ => ⟨frzE ρ j, ρ', d, _, (R.frz j).after k1 w1, r1, g2, fun σ' R' _ => q σ' H1 R'⟩⟩
  · obtain ⟨d, n1, e1, ev⟩ := bnd_inv ev
    obtain ⟨ρ1, h2, ev⟩ := map_inv ev
    cases ev
    have h2 : bindT (.tp is) false d ρ = some ρ' := by
      cases d <;> first | exact h2 | (simp [bindT] at h2)
    exact ⟨_, ρ, n, d, _, R.rel, e1, fun v H1 k1 w1 r1 _ => ⟨ρ, ρ', d, _, R.after k1 w1, r1, h2, fun σ' R' _ => q σ' H1 R'⟩⟩

/-! ### a, b = x, y -/
def zipH (Φ : Fns) : List E → List D → Env
  | e :: es, d :: ds => hold (frsh Φ e) d :: zipH Φ es ds
  | _, _ => []
def setAll : L2.St → List Nat → List V → L2.St
  | σ, i :: is, v :: vs => setAll (σ.set i (some v)) is vs
  | σ, _, _ => σ
theorem Rel.pre {F : Addr → Prop} {ρ ss : Env} {n : Nat} {σ vs : L2.St} {H : Hp} (R : Rel W F (ρ ++ ss) n (σ ++ vs) H) (hl : σ.length = ρ.length) : Rel W F ρ n σ H where
  len := hl
  sl := fun i s e => by
    have hi := (List.getElem?_eq_some_iff.mp e).1
    obtain ⟨ov, e1, e2⟩ := R.sl i s (by rw [List.getElem?_append_left hi]; exact e)
    rw [List.getElem?_append_left (by omega)] at e1
    exact ⟨ov, e1, e2⟩
  tr := R.tr
  wa := R.wa
  wp := R.wp
def RdPs (Φ : Fns) (W : Wld) (B : Addr → Prop) (H0 : Hp) (cs : List E) : TA := fun σ H Q => ∃ ρ ss vs0 n ds n', σ.length = ρ.length ∧ RelS W B H0 (ρ ++ ss) n (σ ++ vs0) H ∧ evEs Φ cs ρ n = some (ds, n') ∧
  ∀ vs H', RelS W B H0 (ρ ++ (ss ++ zipH Φ cs ds)) n' (σ ++ (vs0 ++ vs.map some)) H' → vs.length = ds.length → Q vs H'
theorem paPs (D : DOk Γ N Φ W X sc) {k : Nat} : ∀ {es : List Expr} {cs : List E}, all2 (mtE Γ N k sc) es cs = true → PA X es (RdPs Φ W B H0 cs)
  | [], cs, h => by
    have := all2_nil h
    subst this
    refine ⟨fun pos pins s σ H Q I ⟨ρ, ss, vs0, n, ds, n', hl, R, ev, q⟩ => pa_nil.run pos pins s σ H Q I ?_⟩
    cases ev
    exact q [] H (by simpa [zipH] using R) rfl
  | e :: es, cs, h => by
    obtain ⟨c, r, rfl, h1, h2⟩ := all2_cons h
    refine ⟨fun pos pins s σ H Q I ⟨ρ, ss, vs0, n, ds, n', hl, R, ev, q⟩ => (pa_cons (d_e D h1) (paPs D h2) (mt_nostar h1 _ _)).run pos pins s σ H Q I ?_⟩
    obtain ⟨d, n1, e1, ev⟩ := bnd_inv ev
    obtain ⟨ds', n2, e2, ev⟩ := bnd_inv ev
    cases ev
    refine ⟨_, ρ, n, d, n1, R.rel.pre hl, e1, fun v H1 k1 w1 r1 fr => ⟨ρ, ss ++ [hold (frsh Φ c) d], vs0 ++ [some v], n1, ds', n', hl, ?_, e2, fun vs H2 R2 hlen => ?_⟩⟩
    · have := R.push k1 w1 r1 fr
      simpa [List.append_assoc] using this
    · refine q (v :: vs) H2 ?_ (by simp [hlen])
      simpa [List.append_assoc, zipH] using R2
theorem storeAll {n : Nat} {H : Hp} : ∀ {is : List Nat} {cs : List E} {ds : List EV.D} {vs : List V} {ρ ρ' : Env} {σ : L2.St}, σ.length = ρ.length → RelS W B H0 (ρ ++ zipH Φ cs ds) n (σ ++ vs.map some) H → parB Φ is cs ds ρ = some ρ' → vs.length = ds.length → RelS W B H0 ρ' n (setAll σ is vs) H
  | [], [], [], vs, ρ, ρ', σ, hl, R, h, hlen => by
    cases h
    have : vs = [] := List.eq_nil_of_length_eq_zero hlen
    subst this
    simpa [zipH, setAll] using R
  | i :: is, c :: cs, d :: ds, v :: vs, ρ, ρ', σ, hl, R, h, hlen => by
    have R1 := RelS.store hl (by simpa [zipH] using R) i
    exact storeAll (is := is) (cs := cs) (ds := ds) (by simpa using hl) R1 h (by simpa using hlen)
  | i :: is, c :: cs, d :: ds, [], ρ, ρ', σ, hl, R, h, hlen => by simp at hlen
  | [], _ :: _, _, _, _, _, _, _, _, h, _ => by simp [parB] at h
  | [], [], _ :: _, _, _, _, _, _, _, h, _ => by simp [parB] at h
  | _ :: _, [], _, _, _, _, _, _, _, h, _ => by simp [parB] at h
  | _ :: _, _ :: _, [], _, _, _, _, _, _, h, _ => by simp [parB] at h
/-- names stored from a tuple -/
def gNames : List Nat → TGs
  | [] => gNil
  | i :: is => gCons (gName i) (gNames is)
theorem pgNames (D : DOk Γ N Φ W X sc) : ∀ {ts : List Expr} {is : List Nat}, all2 (nameIs N sc) ts is = true → PGs X ts (gNames is)
  | [], is, h => by
    have := all2_nil h
    subst this
    exact pgs_nil
  | e :: es, is, h => by
    obtain ⟨i, r, rfl, h1, h2⟩ := all2_cons h
    cases e <;> try (simp [nameIs] at h1; done)
    rename_i x p
    simp only [nameIs, Bool.and_eq_true, decide_eq_true_eq] at h1
    obtain ⟨l1, l2⟩ := D.store x h1.2
    exact pgs_cons (pg_name D.ok.nd (by rw [D.ok.hN]; exact h1.1) l1 l2) (pgNames D h2)
theorem gNames_ok {Q : L2.St → Hp → Prop} {H : Hp} : ∀ {is : List Nat} {vs : List V} {σ : L2.St}, vs.length = is.length → Q (setAll σ is vs) H → gNames is vs σ H Q
  | [], vs, σ, hl, q => by
    have : vs = [] := List.eq_nil_of_length_eq_zero hl
    subst this
    exact ⟨rfl, q⟩
  | i :: is, v :: vs, σ, hl, q => ⟨v, vs, rfl, gNames_ok (is := is) (by simpa using hl) q⟩
  | i :: is, [], σ, hl, q => by simp at hl
theorem names_facts {env : PySem.Env} : ∀ {ts : List Expr} {is : List Nat}, all2 (nameIs N sc) ts is = true → (assignEach ts env).length = is.length ∧ (assignEach ts env).findIdx? (·.1) = none
  | [], is, h => by
    have := all2_nil h
    subst this
    exact ⟨rfl, rfl⟩
  | e :: es, is, h => by
    obtain ⟨i, r, rfl, h1, h2⟩ := all2_cons h
    cases e <;> try (simp [nameIs] at h1; done)
    have q := names_facts (env := env) h2
    exact ⟨by simp [assignEach, q.1], by simp [assignEach, List.findIdx?_cons, q.2]⟩
theorem parB_len : ∀ {is : List Nat} {cs : List E} {ds : List EV.D} {ρ ρ' : Env}, parB Φ is cs ds ρ = some ρ' → ds.length = is.length
  | [], [], [], _, _, _ => rfl
  | i :: is, c :: cs, d :: ds, ρ, ρ', h => by simp [parB_len (is := is) (cs := cs) (ds := ds) h]
  | [], _ :: _, _, _, _, h => by simp [parB] at h
  | [], [], _ :: _, _, _, h => by simp [parB] at h
  | _ :: _, [], _, _, _, h => by simp [parB] at h
  | _ :: _, _ :: _, [], _, _, h => by simp [parB] at h
theorem swN_names {ts vs : List Expr} {ns : List Str} (h : swN sc ts vs = some ns) : ns = swNames sc ts ∧ ns.length = ts.length ∧ (ts.length = 2 ∨ ts.length = 3) ∧ ns.eraseDups.length = ns.length ∧ vs.length = ts.length := by
  unfold swN at h
  split at h
  · cases h
  · rename_i c1
    split at h
    · cases h
    · split at h
      · cases h
      · rename_i c3
        split at h
        · cases h
        · cases h
          simp only [Bool.or_eq_true, Bool.not_eq_true', bne_iff_ne, ne_eq, not_or, Bool.not_eq_false, Decidable.not_not, beq_iff_eq] at c1 c3
          refine ⟨rfl, c3.1, ?_, c3.2, c1.2⟩
          have := c1.1
          simpa using this
end
end EV

/-! EvM: parallel stores, changes, returns, loops; the theorem of statements. -/
namespace EV
open PySem PySem.Spec PyProof.Rows L2

section
variable {Γ N : List Str} {Φ : Fns} {W : Wld} {X : Cx} {sc : Scope} {B : Addr → Prop} {H0 : Hp}
theorem swNames_cons {x : Str} {p : Pos} {l : Nat} {r : List Expr} (h : ((Expr.Name x p :: r).filterMap (swF sc l)).length = r.length + 1) :
    sc.names.lookup x = some .local ∧ (Expr.Name x p :: r).filterMap (swF sc l) = x :: r.filterMap (swF sc l) ∧ (r.filterMap (swF sc l)).length = r.length := by
  have hf : swF sc l (.Name x p) = if (sc.names.lookup x == some .local && p.line == l) = true then some x else none := rfl
  rw [List.filterMap_cons, hf] at h ⊢
  by_cases c : (sc.names.lookup x == some .local && p.line == l) = true
  · rw [if_pos c] at h ⊢
    rw [Bool.and_eq_true] at c
    exact ⟨eq_of_beq c.1, rfl, by simpa using h⟩
  · rw [if_neg c] at h
    have := List.length_filterMap_le (swF sc l) r
    simp only at h
    omega
theorem nameIs_name {t : Expr} {i : Nat} (h : nameIs N sc t i = true) : ∃ x p, t = .Name x p ∧ N[i]? = some x ∧ locB sc x = true := by
  cases t with
  | Name x p =>
    simp only [nameIs, Bool.and_eq_true, decide_eq_true_eq] at h
    exact ⟨x, p, rfl, h.1, h.2⟩
  | _ => simp [nameIs] at h
theorem psPar (D : DOk Γ N Φ W X sc) {k : Nat} {ts es : List Expr} {kt k2 : Nat} {tp p2 pos : Pos} {is : List Nat} {cs : List E} (h1 : all2 (nameIs N sc) ts is = true) (h2 : all2 (mtE Γ N k sc) es cs = true) (h3 : es.length ≤ 1000) (h4 : is.length = cs.length) (h5 : is.Nodup) (h6 : swOk es = true) :
    PS X (.Assign [.Tuple ts kt tp] (.Tuple es k2 p2) pos) (RdS Φ W B H0 (.par is cs)) := by
  have rd : ∀ (Dd : Ends) (σ : L2.St) (H : Hp), RdS Φ W B H0 (.par is cs) Dd σ H → RdPs Φ W B H0 cs σ H (fun vs H1 => vs.length = is.length ∧ ∀ H2, (Keep W.tok H1 H2 ∧ (∀ a o, H1 a = some o → H2 a = some o)) → Dd.nx (setAll σ is vs) H2) := by
    intro Dd σ H ⟨ρ, n, f, ρ', n', R, ev, q⟩
    obtain ⟨ds, n1, e1, ev⟩ := bnd_inv (show bnd (evEs Φ cs ρ n) _ = _ by simpa [evS] using ev)
    obtain ⟨ρ1, e2, ev⟩ := map_inv ev
    cases ev
    refine ⟨ρ, [], [], n, ds, _, R.rel.len, by simpa using R, e1, fun vs H1 R1 hl => ⟨by rw [hl, parB_len e2], fun H2 k2 => ?_⟩⟩
    have := storeAll R.rel.len (by simpa using R1) e2 hl
    exact q _ H2 (this.after k2.1 (W.same this.rel.wp k2.2))
  cases hs : swN sc ts es with
  | none =>
    have fs := names_facts (env := X.env) h1
    refine ⟨fun pins s σ H Dd I hr => (ps_asg (pe_tup (paPs (B := B) (H0 := H0) D h2)) (pg_tup D.ok.calm (pgNames D h1) fs.1 fs.2) rfl (by rw [stores_eq D h6, hs])).run pins s σ H Dd I ?_⟩
    obtain ⟨ρ, ss, vs0, n, ds, n', a1, a2, a3, a4⟩ := rd Dd σ H hr
    refine ⟨ρ, ss, vs0, n, ds, n', a1, a2, a3, fun vs H1 R1 hl => ?_⟩
    obtain ⟨g1, g2⟩ := a4 vs H1 R1 hl
    refine ⟨?_, fun p hp => ⟨p, vs, rfl, SqT.of upd_same, g1, gNames_ok g1 (g2 _ ⟨Keep.new hp, fun a o e => by rw [upd_ne (ne_of_none e hp)]; exact e⟩)⟩⟩
    rw [g1, h4, ← all2_len h2]
    exact Nat.le_trans h3 (by decide)
  | some ns =>
    obtain ⟨g1, g2, g3, g4, g5⟩ := swN_names hs
    have hsw := stores_eq D (kt := kt) (k2 := k2) (pt := tp) (p2 := p2) (ts := ts) h6
    rw [hs] at hsw
    have hlc : ∀ x, sc.names.lookup x = some .local → X.env.scope.names.lookup x = some .local := fun x e => by rw [D.ok.hsc]; exact e
    rcases g3 with g3 | g3
    · obtain ⟨t1, t2, rfl⟩ : ∃ t1 t2, ts = [t1, t2] := by
        match ts, g3 with
        | [t1, t2], _ => exact ⟨_, _, rfl⟩
      obtain ⟨a, b, rfl⟩ : ∃ a b, es = [a, b] := by
        match es, g5 with
        | [t1, t2], _ => exact ⟨_, _, rfl⟩
      · obtain ⟨i, r, rfl, n1, h1⟩ := all2_cons h1
        obtain ⟨j, r, rfl, n2, h1⟩ := all2_cons h1
        have := all2_nil h1
        subst this
        obtain ⟨x, px, rfl, n1, _⟩ := nameIs_name n1
        obtain ⟨y, py, rfl, n2, _⟩ := nameIs_name n2
        rw [g1] at g2
        obtain ⟨l1, l2, l3⟩ := swNames_cons g2
        obtain ⟨l4, l5, l6⟩ := swNames_cons l3
        have en : ns = [x, y] := by
          rw [g1]
          unfold swNames
          rw [l2, l5]
          rfl
        rw [en] at hsw
        have hij : i ≠ j := by simpa using h5
        refine ⟨fun pins s σ H Dd I hr => (ps_par (pos := pos) D.ok.calm D.ok.nd (by rw [D.ok.hN]; exact n1) (by rw [D.ok.hN]; exact n2) hij (hlc x l1) (hlc y l4) (paPs (B := B) (H0 := H0) D h2) hsw).run pins s σ H Dd I ?_⟩
        obtain ⟨ρ, ss, vs0, n, ds, n', a1, a2, a3, a4⟩ := rd Dd σ H hr
        refine ⟨ρ, ss, vs0, n, ds, n', a1, a2, a3, fun vs H1 R1 hl => ?_⟩
        obtain ⟨g1, g2⟩ := a4 vs H1 R1 hl
        match vs, g1, g2 with
        | [v, w], _, g2 => exact ⟨v, w, rfl, g2 H1 ⟨Keep.refl, fun _ _ e => e⟩⟩
    · obtain ⟨t1, t2, t3, rfl⟩ : ∃ t1 t2 t3, ts = [t1, t2, t3] := by
        match ts, g3 with
        | [t1, t2, t3], _ => exact ⟨_, _, _, rfl⟩
      obtain ⟨a, b, c, rfl⟩ : ∃ a b c, es = [a, b, c] := by
        match es, g5 with
        | [t1, t2, t3], _ => exact ⟨_, _, _, rfl⟩
      · obtain ⟨i, r, rfl, n1, h1⟩ := all2_cons h1
        obtain ⟨j, r, rfl, n2, h1⟩ := all2_cons h1
        obtain ⟨l, r, rfl, n3, h1⟩ := all2_cons h1
        have := all2_nil h1
        subst this
        obtain ⟨x, px, rfl, n1, _⟩ := nameIs_name n1
        obtain ⟨y, py, rfl, n2, _⟩ := nameIs_name n2
        obtain ⟨z, pz, rfl, n3, _⟩ := nameIs_name n3
        rw [g1] at g2
        obtain ⟨l1, l2, l3⟩ := swNames_cons g2
        obtain ⟨l4, l5, l6⟩ := swNames_cons l3
        obtain ⟨l7, l8, l9⟩ := swNames_cons l6
        have en : ns = [x, y, z] := by
          rw [g1]
          unfold swNames
          rw [l2, l5, l8]
          rfl
        rw [en] at hsw
        simp only [List.nodup_cons, List.mem_cons, List.not_mem_nil, or_false, not_or] at h5
        refine ⟨fun pins s σ H Dd I hr => (ps_par3 (pos := pos) D.ok.calm D.ok.nd (by rw [D.ok.hN]; exact n1) (by rw [D.ok.hN]; exact n2) (by rw [D.ok.hN]; exact n3) h5.1.1 h5.1.2 h5.2.1 (hlc x l1) (hlc y l4) (hlc z l7) (paPs (B := B) (H0 := H0) D h2) hsw).run pins s σ H Dd I ?_⟩
        obtain ⟨ρ, ss, vs0, n, ds, n', a1, a2, a3, a4⟩ := rd Dd σ H hr
        refine ⟨ρ, ss, vs0, n, ds, n', a1, a2, a3, fun vs H1 R1 hl => ?_⟩
        obtain ⟨g1, g2⟩ := a4 vs H1 R1 hl
        match vs, g1, g2 with
        | [v, w, u], _, g2 => exact ⟨v, w, u, rfl, g2 H1 ⟨Keep.refl, fun _ _ e => e⟩⟩

/-! ### changes -/
theorem getL : PGet X (rIxL X.K) := by
  intro pins s σ H o i ov iv Q I ro ri h
  obtain ⟨p, xs, j, z, rfl, rfl, hq, he, q⟩ := h
  cases ro
  obtain ⟨t, rfl⟩ := ri
  obtain ⟨its, r, pl, hz⟩ := I.list hq
  obtain ⟨m, h1, h2, h3, h4, h5⟩ := atI_get he
  obtain ⟨w, ew, rw'⟩ := r.get h2
  have hl := r.length
  have hn := line63
  have fin : EP X pins σ Q w s := ⟨z, H, I, rw', q⟩
  by_cases h0 : 0 ≤ j
  · have hj : j.toNat = m := by
      rw [seqIndex_of h0 h5] at h1
      exact Option.some.inj h1
    exact wpAny_getItem_list pl.isList h0 (by omega) (by rw [hj]; simpa using ew) fin
  · have hj : (j + (its.toArray.size : Int)).toNat = m := by
      rw [seqIndex_neg (by omega) h4] at h1
      rw [List.size_toArray, ← hl]
      exact Option.some.inj h1
    exact wpAny_getItem_list_neg pl.isList (by omega) (by rw [List.size_toArray] <;> omega) (by omega) (by rw [hj]; simpa using ew) fin
theorem mt_noslice {k : Nat} {i : Expr} {c : E} (h : mtE Γ N k sc i c = true) : ∀ a b d p, i ≠ .Slice a b d p := by
  intro a b d p e
  subst e
  cases k <;> simp [mtE] at h
/-- one's own list, behind a value -/
theorem ownList {ρ : Env} {n : Nat} {σ : L2.St} {H : Hp} (R : RelS W B H0 ρ n σ H) {y : Nat} {d : EV.D} (h : getO ρ y = some d) : ∃ a, σ[y]? = some (some (.ref a)) ∧ SlR W (FO B ρ σ) H (.o d) (some (.ref a)) := by
  obtain ⟨ov, e1, e2⟩ := R.rel.sl _ _ (getO_some h)
  obtain ⟨a, rfl, _⟩ := e2.oSome
  exact ⟨a, e1, e2⟩
theorem newList_ok {ρ : Env} {n : Nat} {σ : L2.St} {H : Hp} (R : RelS W B H0 ρ n σ H) {y : Nat} {ds ds' : List EV.D} {a : Addr} {xs' : List V} (e : ρ[y]? = some (.o (.list ds))) (s1 : σ[y]? = some (some (.ref a))) (fa : FO B ρ σ a ∧ ¬ W.wa a) (r : RepL W (FO B ρ σ) H xs' ds') :
    RelS W B H0 (ρ.set y (.o (.list ds'))) n σ (upd H a (.lst xs')) :=
  R.mut e s1 ⟨fa, xs', upd_same, r.keep (fun b u nb q => by rw [upd_ne (by rintro rfl; exact nb fa.1)]; exact q) fun _ _ z => z⟩
theorem ixN_lt {n : Nat} {i : Int} {j : Nat} (h : ixN n i = some j) : j < n := by
  unfold ixN at h
  split at h
  · split at h
    · cases h; omega
    · cases h
  · split at h
    · cases h; omega
    · cases h
theorem psSet (D : DOk Γ N Φ W X sc) {k : Nat} {x : Str} {px sp pos : Pos} {i e : Expr} {y : Nat} {i' c : E} (hi : N[y]? = some x) (hx : visB sc x = true) (hd : (x == ("__debug__" : Str)) = false) (hcd : (x == ("__classdict__" : Str)) = false)
    (h1 : mtE Γ N k sc i i' = true) (h2 : mtE Γ N k sc e c = true) (hs : swapsWithSole [.Subscript (.Name x px) i sp] e pos.line X.env = pure false) : PS X (.Assign [.Subscript (.Name x px) i sp] e pos) (RdS Φ W B H0 (.set y i' c)) := by
  have ha : ∀ v, assign (.Subscript (.Name x px) i sp) X.env v = (do
      let ov ← holding [v] (eval (.Name x px) X.env)
      let iv ← holding [v, ov] (eval i X.env)
      standAt sp
      holding [v, ov, iv] (setItem ov iv v)
      release [v, ov, iv] []) := by
    intro v
    have := mt_noslice h1
    cases i <;> first | rfl | exact absurd rfl (this _ _ _ _)
  refine ⟨fun pins s σ H Dd I ⟨ρ, n, f, ρ', n', R, ev, q⟩ => (ps_asg (d_e D h2) (pg_sub (pe_var (by rw [D.ok.hN]; exact hi) (vis_of D.ok.hsc hx) hd hcd) (d_e D h1) set_list ha) hs (stores_none rfl)).run pins s σ H Dd I ?_⟩
  obtain ⟨dv, n1, e1, ev⟩ := bnd_inv (show bnd (evE Φ c ρ n) _ = _ from ev)
  obtain ⟨dk, n2, e2, ev⟩ := bnd_inv ev
  obtain ⟨d, e3, ev⟩ := obind_inv ev
  obtain ⟨d', e4, ev⟩ := map_inv ev
  cases ev
  obtain ⟨a, s1, s2⟩ := ownList R e3
  refine ⟨_, ρ, n, dv, n1, R.rel, e1, fun v H1 k1 w1 r1 _ => ⟨.ref a, s1, _, ρ, n1, dk, _, (R.after k1 w1).rel, e2, fun u H2 k2 w2 r2 _ => ?_⟩⟩
  have R2 := (R.after k1 w1).after k2 w2
  cases d with
  | list ds =>
    cases dk with
    | int j =>
      obtain ⟨m, e5, rfl⟩ := map_inv (show (ixN ds.length j).map _ = _ from e4)
      obtain ⟨a', s3, fa, xs, g1, g2⟩ := ownList R2 e3
      rw [s1] at s3
      cases s3
      cases r2
      exact ⟨a, xs, j, m, rfl, rfl, g1, by rw [g2.length]; exact e5, q _ _ (newList_ok R2 (getO_some e3) s1 fa (g2.set (r1.keep (k2.weak R2.rel.tk) fun _ _ z => z) m))⟩
    | _ => cases e4
  | _ => cases e4
theorem psAug (D : DOk Γ N Φ W X sc) {k : Nat} {x : Str} {px pos : Pos} {o : Operator} {o' : Bop} {e : Expr} {i : Nat} {c : E} (ho : augOp o' = true) (hi : N[i]? = some x) (hx : locB sc x = true) (hop : opIs o o' = true) (h : mtE Γ N k sc e c = true) :
    PS X (.AugAssign (.Name x px) o e pos) (RdS Φ W B H0 (.aug i o' c)) := by
  have st := D.store x hx
  have go : ∀ (f : Int → Int → Int), PIp X o (ipI f) → (∀ a b z, opV o' (.int a) (.int b) = some z → z = .int (f a b)) → PS X (.AugAssign (.Name x px) o e pos) (RdS Φ W B H0 (.aug i o' c)) := fun g hp hg => by
    refine ⟨fun pins s σ H Dd I ⟨ρ, n, f, ρ', n', R, ev, q⟩ => (ps_aug D.ok.nd (by rw [D.ok.hN]; exact hi) st.1 (d_e D h) hp st.2).run pins s σ H Dd I ?_⟩
    obtain ⟨d, e1, ev⟩ := obind_inv (show (getV ρ i).bind _ = _ from ev)
    obtain ⟨dv, n1, e2, ev⟩ := bnd_inv ev
    split at ev
    · rename_i hh
      rw [Bool.and_eq_true] at hh
      obtain ⟨z, e3, ev⟩ := map_inv ev
      cases ev
      cases d <;> try (cases hh.1; done)
      cases dv <;> try (cases hh.2; done)
      obtain ⟨v, g1, g2⟩ := R.rel.getV e1
      cases g2
      refine ⟨_, g1, _, ρ, n, _, _, R.rel, e2, fun u H1 k1 w1 r1 _ => ?_⟩
      cases r1
      refine ⟨_, _, rfl, rfl, ?_⟩
      have := hg _ _ _ e3
      subst this
      exact q _ _ (R.set (fr := false) k1 w1 (.int _) (fun e => by cases e) i)
    · cases ev
  cases o' <;> try (cases ho; done)
  · cases o <;> try (cases hop; done)
    exact go _ ip_add fun a b z e => by cases e; rfl
  · cases o <;> try (cases hop; done)
    exact go _ ip_sub fun a b z e => by cases e; rfl
theorem psAugs (D : DOk Γ N Φ W X sc) {k : Nat} {x : Str} {px sp pos : Pos} {o : Operator} {o' : Bop} {i e : Expr} {y : Nat} {i' c : E} (ho : augOp o' = true) (hi : N[y]? = some x) (hx : visB sc x = true) (hd : (x == ("__debug__" : Str)) = false) (hcd : (x == ("__classdict__" : Str)) = false)
    (hop : opIs o o' = true) (h1 : mtE Γ N k sc i i' = true) (h2 : mtE Γ N k sc e c = true) : PS X (.AugAssign (.Subscript (.Name x px) i sp) o e pos) (RdS Φ W B H0 (.augs y i' o' c)) := by
  have ha : ∀ ov iv new, augStore i ov iv new = (do holding [new, ov, iv] (setItem ov iv new); release [new, ov, iv] []; pure .next) := by
    intro ov iv new
    have := mt_noslice h1
    cases i <;> first | rfl | exact absurd rfl (this _ _ _ _)
  have go : ∀ (f : Int → Int → Int), PIp X o (ipI f) → (∀ a b z, opV o' (.int a) (.int b) = some z → z = .int (f a b)) → PS X (.AugAssign (.Subscript (.Name x px) i sp) o e pos) (RdS Φ W B H0 (.augs y i' o' c)) := fun g hp hg => by
    refine ⟨fun pins s σ H Dd I ⟨ρ, n, f, ρ', n', R, ev, q⟩ => (ps_augS (pe_var (by rw [D.ok.hN]; exact hi) (vis_of D.ok.hsc hx) hd hcd) (d_e D h1) getL (d_e D h2) hp set_list ha).run pins s σ H Dd I ?_⟩
    obtain ⟨d, e1, ev⟩ := obind_inv (show (getO ρ y).bind _ = _ from ev)
    obtain ⟨dk, n1, e2, ev⟩ := bnd_inv ev
    obtain ⟨da, e3, ev⟩ := obind_inv ev
    obtain ⟨dv, n2, e4, ev⟩ := bnd_inv ev
    split at ev
    · rename_i hh
      rw [Bool.and_eq_true] at hh
      obtain ⟨z, e5, ev⟩ := obind_inv ev
      obtain ⟨d', e6, ev⟩ := map_inv ev
      cases ev
      cases da <;> try (cases hh.1; done)
      cases dv <;> try (cases hh.2; done)
      have := hg _ _ _ e5
      subst this
      cases d with
      | list ds =>
        cases dk with
        | int j =>
          obtain ⟨m, e7, rfl⟩ := map_inv (show (ixN ds.length j).map _ = _ from e6)
          obtain ⟨a, s1, fa, xs, g1, g2⟩ := ownList R e1
          refine ⟨.ref a, s1, _, ρ, n, _, n1, R.rel, e2, fun u H1 k1 w1 r1 _ => ?_⟩
          cases r1
          have R1 := R.after k1 w1
          obtain ⟨a', s3, fa1, xs1, g3, g4⟩ := ownList R1 e1
          rw [s1] at s3
          cases s3
          obtain ⟨v, h3, h4⟩ := atI_rep g4 (show atI ds j = some _ from e3)
          refine ⟨a, xs1, j, v, rfl, rfl, SqL.of g3, h3, _, ρ, n1, _, _, R1.rel, e4, fun u2 H2 k2 w2 r2 _ => ?_⟩
          cases h4
          cases r2
          have R2 := R1.after k2 w2
          obtain ⟨a', s3, fa2, xs2, g5, g6⟩ := ownList R2 e1
          rw [s1] at s3
          cases s3
          exact ⟨_, _, rfl, rfl, a, xs2, j, m, rfl, rfl, g5, by rw [g6.length]; exact e7, q _ _ (newList_ok R2 (getO_some e1) s1 fa2 (g6.set (.int _) m))⟩
        | _ => cases e6
      | _ => cases e6
    · cases ev
  cases o' <;> try (cases ho; done)
  · cases o <;> try (cases hop; done)
    exact go _ ip_add fun a b z e => by cases e; rfl
  · cases o <;> try (cases hop; done)
    exact go _ ip_sub fun a b z e => by cases e; rfl

/-! ### methods of lists -/
theorem nostars_few {k : Nat} {pos : Pos} {env : PySem.Env} {es : List Expr} {cs : List E} (h : all2 (mtE Γ N k sc) es cs = true) (hl : es.length < 29) :
    ((backTo pos (starEach es env)).all (fun x => !x.1) && (backToKw pos (keywordEach [] env)).all (fun x => x.1.isSome) && decide (es.length + ([] : List Keyword).length + (if ([] : List Keyword).isEmpty then 0 else 1) < 30)) = true := by
  have h1 := nostars (pos := pos) (env := env) h
  have h2 : (backTo pos (starEach es env)).all (fun x => !x.1) = true := by
    rw [List.all_eq_true]
    intro x hx
    rw [List.any_eq_false] at h1
    simpa using h1 x hx
  rw [h2]
  simp [backToKw, keywordEach]
  omega
theorem noSuper {x : Str} {px : Pos} {m : Str} : attributeBase (.Name x px) m X.env (eval (.Name x px) X.env) = eval (.Name x px) X.env := rfl
theorem psSm (D : DOk Γ N Φ W X sc) {k : Nat} {x m : Str} {px ap cp pos : Pos} {e : Expr} {es : List Expr} {m' : Sm} {y : Nat} {cs : List E} (hi : N[y]? = some x) (hx : visB sc x = true) (hd : (x == ("__debug__" : Str)) = false) (hcd : (x == ("__classdict__" : Str)) = false)
    (hm : smName m' = m) (hline : (ap.endLine == cp.line) = true) (h : all2 (mtE Γ N k sc) (e :: es) cs = true) : PS X (.Expr (.Call (.Attribute (.Name x px) m ap) (e :: es) [] cp) pos) (RdS Φ W B H0 (.sm m' y cs)) := by
  subst hm
  have pn : PE X (.Name x px) (tVar y) := pe_var (by rw [D.ok.hN]; exact hi) (vis_of D.ok.hsc hx) hd hcd
  have pa : PA X (e :: es) (RdEs Φ W cs) := paEs (sc' := sc) (fun h => d_e D h) h
  obtain ⟨c1, cr, rfl, g1, g2⟩ := all2_cons h
  refine ⟨fun pins s σ H Dd I ⟨ρ, n, f, ρ', n', R, ev, q⟩ => ?_⟩
  obtain ⟨d, e1, ev⟩ := obind_inv (show (getO ρ y).bind _ = _ from ev)
  obtain ⟨ys, n1, e2, ev⟩ := bnd_inv ev
  obtain ⟨d', e3, ev⟩ := map_inv ev
  cases ev
  have hlen : es.length < 28 := by
    have h1 := len_evEs e2
    have h2 := all2_len g2
    unfold smV at e3
    split at e3 <;> first
      | (simp only [List.length_cons, List.length_nil] at h1; omega)
      | (cases e3; done)
  have few := nostars_few (pos := cp) (env := X.env) h (by rw [List.length_cons]; omega)
  obtain ⟨a, s1, fa, s2⟩ : ∃ a, σ[y]? = some (some (.ref a)) ∧ True ∧ True := by
    obtain ⟨a, s1, _⟩ := ownList R e1
    exact ⟨a, s1, trivial, trivial⟩
  unfold smV at e3
  split at e3
  · -- append
    rename_i ds dy
    split at e3
    case isFalse => cases e3
    cases e3
    rename_i hl
    refine (ps_expr (pe_bm PySem.F.plainAttrs_list PySem.F.slot_list_append PySem.F.type_list_append mt_append pn pa noSuper few hline (mt_nostar g1 _ _) (nostars g2)) rfl).run pins s σ H Dd I ?_
    obtain ⟨a', s3, fa, xs, g3, g4⟩ := ownList R e1
    rw [s1] at s3
    cases s3
    refine ⟨.ref a, s1, .inl ⟨rfl, xs, SqL.of g3⟩, _, ρ, n, _, _, R.rel, e2, fun vs H1 k1 w1 r1 => ?_⟩
    have R1 := R.after k1 w1
    obtain ⟨a', s3, fa1, xs1, g5, g6⟩ := ownList R1 e1
    rw [s1] at s3
    cases s3
    cases r1 with
    | cons r1 rr =>
      cases rr
      exact ⟨a, xs1, _, rfl, rfl, g5, by rw [g6.length]; exact Nat.lt_of_lt_of_le hl (by decide), q _ _ (newList_ok R1 (getO_some e1) s1 fa1 (g6.append (.cons r1 .nil)))⟩
  · -- extend
    rename_i ds dys
    split at e3
    case isFalse => cases e3
    cases e3
    rename_i hl
    refine (ps_expr (pe_bm PySem.F.plainAttrs_list PySem.F.slot_list_extend PySem.F.type_list_extend mt_extend pn pa noSuper few hline (mt_nostar g1 _ _) (nostars g2)) rfl).run pins s σ H Dd I ?_
    obtain ⟨a', s3, fa, xs, g3, g4⟩ := ownList R e1
    rw [s1] at s3
    cases s3
    refine ⟨.ref a, s1, .inl ⟨rfl, xs, SqL.of g3⟩, _, ρ, n, _, _, R.rel, e2, fun vs H1 k1 w1 r1 => ?_⟩
    have R1 := R.after k1 w1
    obtain ⟨a', s3, fa1, xs1, g5, g6⟩ := ownList R1 e1
    rw [s1] at s3
    cases s3
    cases r1 with
    | cons r1 rr =>
      cases rr
      cases r1 with
      | lst g7 g8 g9 =>
        exact ⟨a, _, xs1, _, rfl, rfl, g5, g7, by rw [g6.length, g9.length]; exact Nat.le_trans (Nat.le_of_lt hl) (by decide), q _ _ (newList_ok R1 (getO_some e1) s1 fa1 (g6.append g9))⟩
  · cases e3

/-! ### return, if, loops -/
theorem peTv (D : DOk Γ N Φ W X sc) {i : Nat} : ∀ {k : Nat} {e : Expr}, mtE Γ N k sc e (.var i) = true → PE X e (tVar i)
  | 0, _, h => by simp [mtE] at h
  | k + 1, e, h => by
    cases e <;> try (simp [mtE] at h; done)
    case BoolOp o vs p =>
      match vs, h with
      | [a], h => exact ⟨(pe_one (peTv D (e := a) (by simpa [mtE] using h))).run⟩
      | [], h => simp [mtE] at h
      | a :: b :: r, h => cases o <;> simp [mtE] at h
    case Name x p =>
      simp only [mtE, Bool.and_eq_true, decide_eq_true_eq, Bool.not_eq_true'] at h
      exact pe_var (by rw [D.ok.hN]; exact h.1.1.1) (vis_of D.ok.hsc h.1.1.2) h.1.2 h.2
theorem psRet (D : DOk Γ N Φ W X sc) {k : Nat} {e : Expr} {pos : Pos} {c : E} (h : mtE Γ N k sc e c = true) : PS X (.Return (some e) pos) (RdS Φ W B H0 (.ret c)) := by
  cases hv : isVar c with
  | none =>
    refine ⟨fun pins s σ H Dd I ⟨ρ, n, f, ρ', n', R, ev, q⟩ => (ps_ret (d_e D h)).run pins s σ H Dd I ?_⟩
    obtain ⟨d, n1, e1, ev⟩ := bnd_inv (show bnd (evB (evE Φ c) c ρ n) _ = _ from ev)
    cases ev
    rw [evB_other hv] at e1
    refine ⟨_, ρ, n, d, _, R.rel, e1, fun v H1 k1 w1 r1 fr => q v H1 (R.keep.trans k1) w1 (r1.keep (F := FO B ρ σ) Keep.refl fun a _ z => .inl z) fun hf hm a ea => ?_⟩
    rw [hv] at hf
    obtain ⟨g1, g2⟩ := fr (by simpa using hf) hm a ea
    exact ⟨none_back g1 R.keep R.rel.wp, g2.shrink (fun b z => z.imp .inl id) fun _ b _ eb => by rw [ea] at eb; cases eb; exact .inr rfl⟩
  | some i =>
    have := isVar_some hv
    subst this
    refine ⟨fun pins s σ H Dd I ⟨ρ, n, f, ρ', n', R, ev, q⟩ => (ps_ret (peTv D h)).run pins s σ H Dd I ?_⟩
    obtain ⟨d, n1, e1, ev⟩ := bnd_inv (show bnd (evB (evE Φ (.var i)) (.var i) ρ n) _ = _ from ev)
    cases ev
    obtain ⟨d', e2, e1⟩ := map_inv (show (getB ρ i).map (fun d => (d, n)) = _ from e1)
    cases e1
    unfold getB at e2
    split at e2
    · rename_i d' hs
      cases e2
      obtain ⟨ov, s1, s2⟩ := R.rel.sl _ _ hs
      cases ov with
      | none => exact s2.elim
      | some v =>
        refine ⟨v, s1, q v H R.keep R.rel.wp (Rep.keep (F := FO B ρ σ) Keep.refl (fun a _ z => .inl z) (show Rep W _ H v d from s2)) fun hf hm => ?_⟩
        exfalso
        have : getO ρ i = none := by unfold getO; rw [hs]
        simp [frsh, isVar, this] at hf
    · rename_i d' hs
      cases e2
      obtain ⟨ov, s1, s2⟩ := R.rel.sl _ _ hs
      obtain ⟨a, rfl, fa, nwa⟩ := s2.oSome
      have h0 : H0 a = none := R.own0 a ⟨i, d, hs, s1⟩
      have nb : ¬ B a := fun z => R.bdom a z h0
      refine ⟨.ref a, s1, q _ H R.keep R.rel.wp ?_ fun _ _ a' ea => ?_⟩
      · cases d with
        | list ds =>
          obtain ⟨_, xs, h1, h2⟩ := s2
          exact .lst h1 nb (h2.keep (F := FO B ρ σ) Keep.refl fun b _ z => .inl z)
        | dict ds =>
          obtain ⟨_, h | h⟩ := s2
          · obtain ⟨xs, h1, h2⟩ := h
            exact .dK (.inl h1) nb (h2.keep (F := FO B ρ σ) Keep.refl fun b _ z => .inl z)
          · obtain ⟨xs, h1, h2⟩ := h
            exact .dT (.inl h1) nb (h2.keep (F := FO B ρ σ) Keep.refl fun b _ z => .inl z)
        | _ => exact s2.elim
      · cases ea
        refine ⟨h0, s2.shrink (fun b z => ?_) fun _ b _ eb => by cases eb; exact .inr rfl⟩
        rcases z with z | rfl
        · exact .inl z
        · exact fa
    · cases e2
theorem psIf (D : DOk Γ N Φ W X sc) {k : Nat} {t : Expr} {a b : List Stmt} {pos : Pos} {t' : E} {a' b' : List S} (h : mtE Γ N k sc t t' = true) (ha : PSs X a (RdSs Φ W B H0 a')) (hb : PSs X b (RdSs Φ W B H0 b')) : PS X (.If t a b pos) (RdS Φ W B H0 (.ite t' a' b')) := by
  refine ⟨fun pins s σ H Dd I ⟨ρ, n, f, ρ', n', R, ev, q⟩ => (ps_if (d_t D h) ha hb).run pins s σ H Dd I ?_⟩
  obtain ⟨x, n1, e1, ev⟩ := bnd_inv (show bnd (evE Φ t' ρ n) _ = _ from ev)
  obtain ⟨c, e2, ev⟩ := obind_inv ev
  have := asB_inv e2
  subst this
  refine ⟨_, ρ, n, c, n1, R.rel, e1, fun H1 k1 w1 => ?_⟩
  cases c with
  | true => exact ⟨ρ, n1, f, ρ', n', R.after k1 w1, ev, q⟩
  | false => exact ⟨ρ, n1, f, ρ', n', R.after k1 w1, ev, q⟩
theorem psWhile (D : DOk Γ N Φ W X sc) {k : Nat} {t : Expr} {b : List Stmt} {pos : Pos} {t' : E} {b' : List S} (h : mtE Γ N k sc t t' = true) (hb : PSs X b (RdSs Φ W B H0 b')) : PS X (.While t b [] pos) (RdS Φ W B H0 (.whl t' b')) := by
  have hp : PassesOwn (model X.prog X.w) X.A X.env X.xe := by rw [D.ok.xe]; exact PassesOwn.never
  refine ⟨fun pins s σ H Dd I ⟨ρ, n, f, ρ', n', R, ev, q⟩ => (ps_while hp (d_t D h) hb).run pins s σ H Dd I ?_⟩
  have ev : whlL (evE Φ t') (evSs Φ b') Φ.wb ρ n = some (f, ρ', n') := ev
  refine ⟨fun m σ H => ∃ ρ n, RelS W B H0 ρ n σ H ∧ whlL (evE Φ t') (evSs Φ b') m ρ n = some (f, ρ', n'), ⟨Φ.wb, ρ, n, R, ev⟩, ?_⟩
  rintro m σ1 H1 ⟨ρ1, n1, R1, ev1⟩
  cases m with
  | zero => cases ev1
  | succ m =>
    obtain ⟨x, n2, e1, ev1⟩ := bnd_inv (show bnd (evE Φ t' ρ1 n1) _ = _ from ev1)
    obtain ⟨c, e2, ev1⟩ := obind_inv ev1
    have := asB_inv e2
    subst this
    refine ⟨_, ρ1, n1, c, n2, R1.rel, e1, fun H2 k2 w2 => ?_⟩
    have R2 := R1.after k2 w2
    cases c with
    | false =>
      cases ev1
      exact q σ1 H2 R2
    | true =>
      show ∃ N : L2.St → Hp → Prop, _
      refine ⟨fun σ' H' => ∃ ρ n, RelS W B H0 ρ n σ' H' ∧ whlL (evE Φ t') (evSs Φ b') m ρ n = some (f, ρ', n'), fun σ' H' hN => ⟨m, Nat.lt_succ_self m, hN⟩, ?_⟩
      have ev1 : (match evSs Φ b' ρ1 n2 with
        | some (.nx, ρ, n) => whlL (evE Φ t') (evSs Φ b') m ρ n
        | some (.ct, ρ, n) => whlL (evE Φ t') (evSs Φ b') m ρ n
        | some (.brk, ρ, n) => some (.nx, ρ, n)
        | r => r) = some (f, ρ', n') := ev1
      split at ev1
      · rename_i ρ3 n3 e3
        exact ⟨ρ1, n2, .nx, ρ3, n3, R2, e3, fun σ4 H4 R4 => ⟨ρ3, n3, R4, ev1⟩⟩
      · rename_i ρ3 n3 e3
        exact ⟨ρ1, n2, .ct, ρ3, n3, R2, e3, fun σ4 H4 R4 => ⟨ρ3, n3, R4, ev1⟩⟩
      · rename_i ρ3 n3 e3
        cases ev1
        exact ⟨ρ1, n2, .brk, ρ', n', R2, e3, fun σ4 H4 R4 => q σ4 H4 R4⟩
      · rename_i h1 h2 h3
        refine ⟨ρ1, n2, f, ρ', n', R2, ev1, ?_⟩
        cases f with
        | nx => exact absurd ev1 (h1 ρ' n')
        | ct => exact absurd ev1 (h2 ρ' n')
        | brk => exact absurd ev1 (h3 ρ' n')
        | ret d f => exact q
def RdGSx (W : Wld) (B : Addr → Prop) (t : Tg) : TG := fun v σ H Q => ∃ H0, RdGS W B H0 t v σ H Q
def RdSsx (Φ : Fns) (W : Wld) (B : Addr → Prop) (cs : List S) : TS := fun Dd σ H => ∃ H0, RdSs Φ W B H0 cs Dd σ H
theorem forL_cons {st : EV.D → EV.Env → Nat → Out} {x : EV.D} {xs : List EV.D} {ρ : EV.Env} {n : Nat} : forL st (x :: xs) ρ n = match st x ρ n with
    | some (.nx, ρ, n) => forL st xs ρ n
    | some (.ct, ρ, n) => forL st xs ρ n
    | some (.brk, ρ, n) => some (.nx, ρ, n)
    | r => r := rfl
theorem psFor (D : DOk Γ N Φ W X sc) {k : Nat} {t it : Expr} {b : List Stmt} {pos : Pos} {t' : Tg} {it' : E} {b' : List S} (hn : noSet it = true) (hi : mtI Γ N k sc it it' = true) (ht : mtT N sc k t t' = true) (hb : ∀ H0, PSs X b (RdSs Φ W B H0 b')) : PS X (.For t it b [] pos) (RdS Φ W B H0 (.for t' it' b')) := by
  have hp : PassesOwn (model X.prog X.w) X.A X.env X.xe := by rw [D.ok.xe]; exact PassesOwn.never
  have hI : PI X t it (RdIV Φ W it') := (piI (pk_all k) (by omega) D.ok hi).2
  have hG : PG X t (RdGSx W B t') := ⟨fun pins s σ H v u Q I rv ⟨H0, h⟩ => (pgS (B := B) (H0 := H0) D ht).run pins s σ H v u Q I rv h⟩
  have hB : PSs X b (RdSsx Φ W B b') := ⟨fun pins s σ H Dd I ⟨H0, h⟩ => (hb H0).run pins s σ H Dd I h⟩
  refine ⟨fun pins s σ H Dd I ⟨ρ, n, f, ρ', n', R, ev, q⟩ => (ps_for hp D.ok.calm hI hG hB (noSet_fold hn)).run pins s σ H Dd I ?_⟩
  obtain ⟨x, n1, e1, ev⟩ := bnd_inv (show bnd (evE Φ it' ρ n) _ = _ from ev)
  obtain ⟨xs, e2, ev⟩ := obind_inv ev
  have ev : forL (fun x ρ n => (bindT t' false x ρ).bind fun ρ' => evSs Φ b' ρ' n) xs ρ n1 = some (f, ρ', n') := ev
  refine ⟨FO B ρ σ, ρ, n, x, xs, n1, R.rel, e1, e2, fun J H1 k1 w1 hJ => ?_⟩
  have R1 := R.after k1 w1
  refine ⟨fun i m σ2 H2 => i + m = xs.length ∧ ∃ ρ2 n2, RelS W B (baseH ρ σ H1) ρ2 n2 σ2 H2 ∧ forL (fun x ρ n => (bindT t' false x ρ).bind fun ρ' => evSs Φ b' ρ' n) (xs.drop i) ρ2 n2 = some (f, ρ', n'),
    ⟨xs.length, by omega, ρ, n1, R1.rebase, ev⟩, ?_⟩
  rintro i m σ2 H2 ⟨him, ρ2, n2, R2, ev2⟩
  have tkF : ∀ a, W.tok a → FO B ρ σ a := fun a z => .inl (R.wab a (W.sub a z))
  have kF : Keep (FO B ρ σ) H1 H2 := fun a o na e => R2.keep a o (fun z => na (tkF a z)) (by rw [baseH_not fun z => na (.inr z)]; exact e)
  by_cases hlt : i < xs.length
  · refine .inr ?_
    have hx : xs[i]? = some xs[i] := List.getElem?_eq_getElem hlt
    obtain ⟨hgo, hyl⟩ := (hJ i H2 kF).1 _ hx
    rw [List.drop_eq_getElem_cons hlt, forL_cons] at ev2
    have key : ∃ fl ρ4 n4 ρ3, bindT t' false xs[i] ρ2 = some ρ3 ∧ evSs Φ b' ρ3 n2 = some (fl, ρ4, n4) ∧ (match fl with
        | .nx => forL (fun x ρ n => (bindT t' false x ρ).bind fun ρ' => evSs Φ b' ρ' n) (xs.drop (i + 1)) ρ4 n4 = some (f, ρ', n')
        | .ct => forL (fun x ρ n => (bindT t' false x ρ).bind fun ρ' => evSs Φ b' ρ' n) (xs.drop (i + 1)) ρ4 n4 = some (f, ρ', n')
        | .brk => f = .nx ∧ ρ4 = ρ' ∧ n4 = n'
        | .ret d fr => f = .ret d fr ∧ ρ4 = ρ' ∧ n4 = n') := by
      split at ev2
      · rename_i ρ4 n4 h
        obtain ⟨ρ3, h1, h2⟩ := obind_inv h
        exact ⟨_, ρ4, n4, ρ3, h1, h2, ev2⟩
      · rename_i ρ4 n4 h
        obtain ⟨ρ3, h1, h2⟩ := obind_inv h
        exact ⟨_, ρ4, n4, ρ3, h1, h2, ev2⟩
      · rename_i ρ4 n4 h
        obtain ⟨ρ3, h1, h2⟩ := obind_inv h
        cases ev2
        exact ⟨_, _, _, ρ3, h1, h2, rfl, rfl, rfl⟩
      · rename_i g1 g2 g3
        obtain ⟨ρ3, h1, h2⟩ := obind_inv ev2
        refine ⟨f, ρ', n', ρ3, h1, h2, ?_⟩
        cases f with
        | nx => exact absurd ev2 (g1 ρ' n')
        | ct => exact absurd ev2 (g2 ρ' n')
        | brk => exact absurd ev2 (g3 ρ' n')
        | ret d fr => exact ⟨rfl, rfl, rfl⟩
    obtain ⟨fl, ρ4, n4, ρ3, b1, b2, b3⟩ := key
    refine ⟨hgo, fun σ' H' => ∃ ρ4 n4, RelS W B (baseH ρ σ H1) ρ4 n4 σ' H' ∧ forL (fun x ρ n => (bindT t' false x ρ).bind fun ρ' => evSs Φ b' ρ' n) (xs.drop (i + 1)) ρ4 n4 = some (f, ρ', n'), fun σ' H' ⟨ρ5, n5, r5, ev5⟩ => ⟨m - 1, by omega, by omega, ρ5, n5, r5, ev5⟩, fun v H3 hy => ?_⟩
    obtain ⟨sm, rp⟩ := hyl v H3 hy
    have R3 := R2.after (Keep.same sm) (W.same R2.rel.wp sm)
    have rx : Rep W (FO B ρ2 σ2) H3 v xs[i] := rp _ (fun a ha z => by
      rcases z with z | z
      · exact .inl z
      · refine .inr ?_
        cases Classical.em (OwnA ρ σ a) with
        | inl h => exact h
        | inr h =>
          have := R2.own0 a z
          rw [baseH_not h] at this
          exact absurd this ha) R2.rel.tr
    refine ⟨baseH ρ σ H1, ρ2, ρ3, _, n2, R3, rx, b1, fun σ' R' _ => ⟨baseH ρ σ H1, ρ3, n2, fl, ρ4, n4, R', b2, ?_⟩⟩
    cases fl with
    | nx => exact fun σ6 H6 R6 => ⟨ρ4, n4, R6, b3⟩
    | ct => exact fun σ6 H6 R6 => ⟨ρ4, n4, R6, b3⟩
    | brk =>
      obtain ⟨rfl, rfl, rfl⟩ := b3
      exact fun σ6 H6 R6 => q σ6 H6 (R1.back R6)
    | ret d fr =>
      obtain ⟨rfl, rfl, rfl⟩ := b3
      exact fun v6 H6 k6 w6 r6 f6 => q v6 H6 (base_keep R1 k6) w6 r6 fun h1 h2 a ea => ⟨base_none R1 (f6 h1 h2 a ea).1, (f6 h1 h2 a ea).2⟩
  · refine .inl ⟨(hJ i H2 kF).2 (by omega), ?_⟩
    rw [List.drop_eq_nil_of_le (by omega)] at ev2
    cases ev2
    exact q σ2 H2 (R1.back R2)

/-! ### the theorem of statements -/
def Sk (Γ N : List Str) (Φ : Fns) (W : Wld) (X : Cx) (sc : Scope) (B : Addr → Prop) (k : Nat) : Prop := ∀ (j : Nat), j ≤ k → ∀ (H0 : Hp), (∀ s c, mtS Γ N j sc s c = true → PS X s (RdS Φ W B H0 c)) ∧ (∀ ss cs, mtSs Γ N j sc ss cs = true → PSs X ss (RdSs Φ W B H0 cs))
theorem smain (D : DOk Γ N Φ W X sc) {k : Nat} (ih : Sk Γ N Φ W X sc B k) (H0 : Hp) {s : Stmt} {c : S} (h : mtS Γ N (k + 1) sc s c = true) : PS X s (RdS Φ W B H0 c) := by
  have ihB : ∀ (H0 : Hp) {ss cs}, mtSs Γ N k sc ss cs = true → PSs X ss (RdSs Φ W B H0 cs) := fun H0 ss cs h => (ih k (Nat.le_refl _) H0).2 ss cs h
  unfold mtS at h
  split at h
  · simp only [Bool.and_eq_true, decide_eq_true_eq] at h
    exact psName D h.1.1 h.1.2 h.2
  · simp only [Bool.and_eq_true] at h
    exact psTup D h.1.1 h.1.2 h.2
  · simp only [Bool.and_eq_true, decide_eq_true_eq] at h
    obtain ⟨⟨⟨⟨⟨h1, h2⟩, h3⟩, h4⟩, h5⟩, h6⟩ := h
    exact psPar D h1 h2 h3 h4 h5 h6
  · simp only [Bool.and_eq_true, decide_eq_true_eq, Bool.not_eq_true'] at h
    obtain ⟨⟨⟨⟨⟨h1, h2⟩, h3⟩, h4⟩, h5⟩, h6⟩ := h
    exact psSet D h1 h2 h3 h4 h5 h6 (by rename_i e _ _ _ _; cases e <;> rfl)
  · simp only [Bool.and_eq_true, decide_eq_true_eq] at h
    obtain ⟨⟨⟨⟨h1, h2⟩, h3⟩, h4⟩, h5⟩ := h
    exact psAug D h1 h2 h3 h4 h5
  · simp only [Bool.and_eq_true, decide_eq_true_eq, Bool.not_eq_true'] at h
    obtain ⟨⟨⟨⟨⟨⟨⟨h1, h2⟩, h3⟩, h4⟩, h5⟩, h6⟩, h7⟩, h8⟩ := h
    exact psAugs D h1 h2 h3 h4 h5 h6 h7 h8
  · simp only [Bool.and_eq_true, decide_eq_true_eq, Bool.not_eq_true'] at h
    obtain ⟨⟨⟨⟨⟨⟨h1, h2⟩, h3⟩, h4⟩, h5⟩, h6⟩, h7⟩ := h
    exact psSm D h1 h2 h3 h4 h5 h6 h7
  · exact psRet D h
  · refine ⟨fun pins s σ H Dd I ⟨ρ, n, f, ρ', n', R, ev, q⟩ => ps_retN.run pins s σ H Dd I ?_⟩
    cases ev
    exact q .non H R.keep R.rel.wp .non fun e => by cases e
  · simp only [Bool.and_eq_true] at h
    exact psIf D h.1.1 (ihB H0 h.1.2) (ihB H0 h.2)
  · simp only [Bool.and_eq_true] at h
    exact psWhile D h.1 (ihB H0 h.2)
  · simp only [Bool.and_eq_true] at h
    exact psFor D h.1.1.1 h.1.1.2 h.1.2 fun H0 => ihB H0 h.2
  · refine ⟨fun pins s σ H Dd I ⟨ρ, n, f, ρ', n', R, ev, q⟩ => ps_break.run pins s σ H Dd I ?_⟩
    cases ev
    exact q σ H R
  · refine ⟨fun pins s σ H Dd I ⟨ρ, n, f, ρ', n', R, ev, q⟩ => ps_continue.run pins s σ H Dd I ?_⟩
    cases ev
    exact q σ H R
  · refine ⟨fun pins s σ H Dd I ⟨ρ, n, f, ρ', n', R, ev, q⟩ => ps_pass.run pins s σ H Dd I ?_⟩
    cases ev
    exact q σ H R
  · cases h
theorem sk_all (D : DOk Γ N Φ W X sc) : ∀ k, Sk Γ N Φ W X sc B k
  | 0 => fun j hj H0 => by
    have : j = 0 := by omega
    subst this
    exact ⟨fun s c h => by simp [mtS] at h, fun ss cs h => by simp [mtSs] at h⟩
  | k + 1 => fun j hj H0 => by
    rcases Nat.lt_or_ge k j with h1 | h1
    · have : j = k + 1 := by omega
      subst this
      refine ⟨fun s c h => smain D (sk_all D k) H0 h, fun ss cs h => ?_⟩
      have ih := sk_all D k k (Nat.le_refl _) H0
      unfold mtSs at h
      split at h
      · cases h
      · rename_i e1
        cases e1
        exact pssFrz (ih.2 _ _ h)
      · exact pssNil
      · rename_i e1
        cases e1
        rw [Bool.and_eq_true] at h
        exact pssCons (ih.1 _ _ h.1) (ih.2 _ _ h.2)
      · cases h
    · exact sk_all D k j h1 H0
end
end EV

/-! EvN: defs. -/
namespace EV
open PySem PySem.Spec PyProof.Rows L2

/-- the dict of draws at dw, the draws at L: the state is how many are taken -/
def mkW (dw L : Addr) (ds : List Int) : Wld where
  tok := fun a => a = dw
  wa := fun a => a = dw ∨ a = L
  wp := fun n H => H dw = some (.dK [(.inr "draws", .ref L), (.inr "at", .int (n : Int))]) ∧ H L = some (.lst (ds.map V.int))
  sub := fun a h => .inl h
  trk := fun n H a h z => by
    rcases z with rfl | rfl
    · rw [h.1]; simp
    · rw [h.2]; simp
  stab := fun n H H' h z => ⟨by rw [z dw (.inl rfl)]; exact h.1, by rw [z L (.inr rfl)]; exact h.2⟩
theorem rep_wld {W : Wld} {F : Addr → Prop} {H : Hp} {v : V} (h : Rep W F H v WLD) : ∃ a, v = .ref a ∧ W.tok a := by
  have gK : ∀ kvs l, RepK W F H kvs l → l ≠ [(PyData.none, PyData.none)] := fun kvs l h e => by
    cases h with
    | nil => cases e
    | cons r rr =>
      injection e with e1 e2
      injection e1 with e3 e4
      rename_i k _ _ _ _
      cases k <;> cases e3
  have gT : ∀ kvs l, RepT W F H kvs l → l ≠ [(PyData.none, PyData.none)] := fun kvs l h e => by
    cases h with
    | nil => cases e
    | cons r rr =>
      injection e with e1 e2
      injection e1 with e3 e4
      cases e3
  generalize hd : WLD = d at h
  cases h with
  | dK e n r => injection hd with e; exact absurd e.symm (gK _ _ r)
  | dT e n r => injection hd with e; exact absurd e.symm (gT _ _ r)
  | wld t => exact ⟨_, rfl, t⟩
  | _ => cases hd
def noFn (_ : List D) (_ : Nat) : Option (D × Nat) := none
/-- the defs so far, which of them hand back what is new, the bound of whiles -/
def Phi (L : List (List D → Nat → Option (D × Nat))) (fs : List Bool) (wb : Nat) : Fns := ⟨fun g => L.getD g noFn, fun g => fs.getD g false, wb⟩
section
variable {P : Program} {w : World} {K : PySem.W.Frag} {mg : Str → Option Value} {base : Heap} {W : Wld} {Φ : Fns} {Γ : List Str}
/-- one def keeps what its function says, at a level below k -/
def OneOk (P : Program) (w : World) (K : PySem.W.Frag) (mg : Str → Option Value) (base : Heap) (W : Wld) (fn : List D → Nat → Option (D × Nat)) (fr : Bool) (k : Nat) (x : Str) : Prop :=
  ∃ fa fd ps j, j ≤ k ∧ FnOk P w K mg base CX0 j fa fd ps (fun vs H Q _ => vs.length = ps.length ∧ ∃ F ds n d n', RepL W F H vs ds ∧ (∀ a, F a → H a ≠ none) ∧ (∀ a, W.wa a → F a) ∧ W.wp n H ∧ fn ds n = some (d, n') ∧ WantF fr W F H n' d Q) ∧
    mg x = some (.ref fa) ∧ PySem.W.keepIn K (.ref fa) = true ∧ Binds K fd ps [] ∧ ∀ ds n r, fn ds n = some r → ds.length = ps.length
theorem OneOk.mono {fn : List D → Nat → Option (D × Nat)} {fr : Bool} {j k : Nat} {x : Str} (h : OneOk P w K mg base W fn fr j x) (hk : j ≤ k) : OneOk P w K mg base W fn fr k x := by
  obtain ⟨fa, fd, ps, i, hi, r⟩ := h
  exact ⟨fa, fd, ps, i, by omega, r⟩
def FnsOk (P : Program) (w : World) (K : PySem.W.Frag) (mg : Str → Option Value) (base : Heap) (W : Wld) (Φ : Fns) (Γ : List Str) (k : Nat) : Prop := ∀ (g : Nat) x, Γ[g]? = some x → OneOk P w K mg base W (Φ.ev g) (Φ.fr g) k x
theorem FnsOk.nil {L : List (List D → Nat → Option (D × Nat))} {fs : List Bool} {wb k : Nat} : FnsOk P w K mg base W (Phi L fs wb) [] k := fun g x e => by simp at e
theorem FnsOk.snoc {L : List (List D → Nat → Option (D × Nat))} {fs : List Bool} {wb k : Nat} {fn : List D → Nat → Option (D × Nat)} {fr : Bool} {x : Str} (h : FnsOk P w K mg base W (Phi L fs wb) Γ k) (hl : L.length = Γ.length) (hf : fs.length = Γ.length) (h1 : OneOk P w K mg base W fn fr k x) :
    FnsOk P w K mg base W (Phi (L ++ [fn]) (fs ++ [fr]) wb) (Γ ++ [x]) k := fun g y e => by
  rcases getElem_app e with ⟨a, b⟩ | ⟨a, b⟩
  · have := h g y b
    have e1 : (Phi (L ++ [fn]) (fs ++ [fr]) wb).ev g = (Phi L fs wb).ev g := by
      show (L ++ [fn]).getD g noFn = L.getD g noFn
      rw [List.getD_eq_getElem?_getD, List.getD_eq_getElem?_getD, List.getElem?_append_left (by omega)]
    have e2 : (Phi (L ++ [fn]) (fs ++ [fr]) wb).fr g = (Phi L fs wb).fr g := by
      show (fs ++ [fr]).getD g false = fs.getD g false
      rw [List.getD_eq_getElem?_getD, List.getD_eq_getElem?_getD, List.getElem?_append_left (by omega)]
    rw [e1, e2]
    exact this
  · subst a b
    have e1 : (Phi (L ++ [fn]) (fs ++ [fr]) wb).ev Γ.length = fn := by
      show (L ++ [fn]).getD Γ.length noFn = fn
      rw [← hl]
      simp
    have e2 : (Phi (L ++ [fn]) (fs ++ [fr]) wb).fr Γ.length = fr := by
      show (fs ++ [fr]).getD Γ.length false = fr
      rw [← hf]
      simp
    rw [e1, e2]
    exact h1
theorem FnsOk.mono {j k : Nat} (h : FnsOk P w K mg base W Φ Γ j) (hk : j ≤ k) : FnsOk P w K mg base W Φ Γ k := fun g x e => (h g x e).mono hk
theorem start_get {N : List Str} {vs : List V} : start N vs = vs.map some ++ List.replicate (N.length - vs.length) none := rfl
/-- what a def promises of its function -/
def prom (W : Wld) (fn : List D → Nat → Option (D × Nat)) (fr : Bool) (np : Nat) : Sp := fun vs H Q _ => vs.length = np ∧ ∃ F ds n d n', RepL W F H vs ds ∧ (∀ a, F a → H a ≠ none) ∧ (∀ a, W.wa a → F a) ∧ W.wp n H ∧ fn ds n = some (d, n') ∧ WantF fr W F H n' d Q
/-- THE RULE of a def -/
theorem def_fn {x qual : Str} {st : Stmt} {f : Addr} {fd : FuncData} {N ps : List Str} {k np m mt : Nat} {fr : Bool} {body : List S} (h : FnsOk P w K mg base W Φ Γ k) (hb : ∀ y ∈ bNames, mg y = none) (F : Fun K x qual st f fd) (S : FnScope N ps (defScope st)) (hmg : mg x = some (.ref f))
    (bd : Binds K fd ps []) (hnp : ps.length = np) (hm : N.length = m) (hmt : mtSs Γ N mt (defScope st) (defBody st) body = true) : FnOk P w K mg base CX0 (k + 1) f fd ps (prom W (evF Φ fr np m body) fr ps.length) := by
  subst hnp hm
  refine F.ok S (fun vs H Q E h => h.1) (fun cdv A outer s H vs Q E hr hsp => ?_)
  · obtain ⟨hl, Fx, ds, n, d, n', hrep, tr, wa, wp, hev, want⟩ := hsp
    have D : DOk Γ N Φ W (cxOf CX0 P w K mg base N qual (defScope st) f cdv A outer s H E).nox (defScope st) := by
      refine ⟨⟨rfl, rfl, S.nd, rfl, rfl, hr.units, hb, fun g y e => ?_⟩, fun _ => rfl, S.kind⟩
      obtain ⟨fa, fd', ps', j, hj, G, g1, g2, g3, g4⟩ := h g y e
      exact ⟨fa, fd', ps', j, G, hr.mono hj, g1, g2, g3, g4⟩
    refine ⟨RdSs Φ W Fx H body, (sk_all D mt mt (Nat.le_refl _) H).2 _ _ hmt, ?_⟩
    have hdl : ds.length = ps.length := by rw [← hrep.length]; exact hl
    unfold evF at hev
    rw [if_neg (by rw [hdl]; simp)] at hev
    have hpn : ps.length ≤ N.length := by
      have := congrArg List.length S.pre
      rw [List.length_take] at this
      omega
    have sl : ∀ (i : Nat) s, (ds.map Sl.v ++ List.replicate (N.length - ps.length) Sl.u)[i]? = some s → ∃ ov, (start N vs)[i]? = some ov ∧ SlR W Fx H s ov ∧ ∀ dd, s ≠ .o dd := fun i s e => by
      rw [start_get, hl]
      rw [List.getElem?_append] at e ⊢
      rw [List.length_map, hdl] at e
      rw [List.length_map, hl]
      split at e
      · rename_i hi
        rw [if_pos hi]
        rw [List.getElem?_map] at e ⊢
        obtain ⟨dd, e1, e2⟩ := Option.map_eq_some_iff.mp e
        obtain ⟨v, h1, h2⟩ := hrep.get e1
        subst e2
        exact ⟨some v, by rw [h1]; rfl, h2, fun _ z => by cases z⟩
      · rename_i hi
        rw [if_neg hi]
        rw [List.getElem?_replicate] at e ⊢
        split at e
        · rename_i h2
          cases e
          exact ⟨none, by rw [if_pos h2], trivial, fun _ z => by cases z⟩
        · cases e
    have noO : ∀ a, ¬ OwnA (ds.map Sl.v ++ List.replicate (N.length - ps.length) Sl.u) (start N vs) a := fun a ⟨i, dd, e1, e2⟩ => by
      obtain ⟨_, _, _, h⟩ := sl i _ e1
      exact h dd rfl
    have R : RelS W Fx H (ds.map Sl.v ++ List.replicate (N.length - ps.length) Sl.u) n (start N vs) H := by
      refine ⟨⟨by rw [start_get]; simp [hl, hdl], fun i s e => ?_, fun a z => z.elim (tr a) fun z => absurd z (noO a), fun a z => .inl (wa a z), wp⟩, Keep.refl, fun a z => absurd z (noO a), tr, wa, fun i j di dj a e1 e2 e3 e4 => absurd ⟨i, di, e1, e3⟩ (noO a)⟩
      obtain ⟨ov, h1, h2, h3⟩ := sl i s e
      exact ⟨ov, h1, h2.shrink (fun a z => z.elim id fun z => absurd z (noO a)) fun dd a es _ => absurd es (h3 dd)⟩
    have rd : ∀ fl ρ' n2, evSs Φ body (ds.map Sl.v ++ List.replicate (N.length - ps.length) Sl.u) n = some (fl, ρ', n2) → EndOk W Fx H { nx := fun _ H' => Q .non H', rt := Q } fl ρ' n2 → RdSs Φ W Fx H body { nx := fun _ H' => Q .non H', rt := Q } (start N vs) H := fun fl ρ' n2 e q => ⟨_, n, fl, ρ', n2, R, e, q⟩
    split at hev
    · rename_i d1 f1 ρ1 n1 e1
      split at hev
      · cases hev
      · cases hev
        rename_i hf
        refine rd _ _ _ e1 fun v H' k' w' r' fr' => want v H' k' w' r' fun h1 h2 => fr' ?_ h2
        cases f1 with
        | true => rfl
        | false => exact absurd (by rw [h1]; rfl) hf
    · rename_i ρ1 n1 e1
      split at hev
      · cases hev
      · cases hev
        rename_i hf
        refine rd _ _ _ e1 fun σ H' R' => want .non H' R'.keep R'.rel.wp .non fun h1 => absurd h1 hf
    · cases hev
theorem def_ok {x qual : Str} {st : Stmt} {f : Addr} {fd : FuncData} {N ps : List Str} {k np m mt : Nat} {fr : Bool} {body : List S} (h : FnsOk P w K mg base W Φ Γ k) (hb : ∀ y ∈ bNames, mg y = none) (F : Fun K x qual st f fd) (S : FnScope N ps (defScope st)) (hmg : mg x = some (.ref f))
    (bd : Binds K fd ps []) (hnp : ps.length = np) (hm : N.length = m) (hmt : mtSs Γ N mt (defScope st) (defBody st) body = true) : OneOk P w K mg base W (evF Φ fr np m body) fr (k + 1) x := by
  refine ⟨f, fd, ps, k + 1, Nat.le_refl _, def_fn h hb F S hmg bd hnp hm hmt, hmg, F.kp, bd, fun ds n r e => ?_⟩
  unfold evF at e
  split at e
  · cases e
  · rename_i h1
    rw [hnp]
    simpa using h1
end
end EV
end

section
/-! EvS: the evaluator, rewritten step by step (for `walk_at "ev"`). -/
namespace EV
open PySem PySem.Spec PyProof.Rows L2
open PySem.W (dataLt alike minD maxD)

section
variable {Φ : Fns} {ρ : Env} {n : Nat} {d : D} {i : Nat} {s : Sl}
theorem getV_v : getV (.v d :: ρ) 0 = some d := rfl
theorem getV_s : getV (s :: ρ) (i + 1) = getV ρ i := rfl
theorem getB_v : getB (.v d :: ρ) 0 = some d := rfl
theorem getB_o : getB (.o d :: ρ) 0 = some d := rfl
theorem getB_s : getB (s :: ρ) (i + 1) = getB ρ i := rfl
theorem getO_o : getO (.o d :: ρ) 0 = some d := rfl
theorem getO_v : getO (.v d :: ρ) 0 = none := rfl
theorem getO_s : getO (s :: ρ) (i + 1) = getO ρ i := rfl
theorem frz_v : frzE (.v d :: ρ) 0 = .v d :: ρ := rfl
theorem frz_o : frzE (.o d :: ρ) 0 = .v d :: ρ := rfl
theorem frz_u : frzE (.u :: ρ) 0 = .u :: ρ := rfl
theorem frz_s : frzE (s :: ρ) (i + 1) = s :: frzE ρ i := by
  unfold frzE
  rw [List.getElem?_cons_succ]
  split <;> simp_all
theorem wipe_nil : wipeE ρ [] = ρ := rfl
theorem wipe_cons {v : Nat} {vs : List Nat} : wipeE ρ (v :: vs) = (wipeE ρ vs).set v .u := rfl
theorem hold_int {fr : Bool} {k : Int} : hold fr (.int k) = .v (.int k) := by cases fr <;> rfl
theorem hold_bool {fr : Bool} {k : Bool} : hold fr (.bool k) = .v (.bool k) := by cases fr <;> rfl
theorem hold_str {fr : Bool} {k : Str} : hold fr (.str k) = .v (.str k) := by cases fr <;> rfl
theorem hold_none {fr : Bool} : hold fr .none = .v .none := by cases fr <;> rfl
theorem hold_tup {fr : Bool} {k : List D} : hold fr (.tuple k) = .v (.tuple k) := by cases fr <;> rfl
theorem hold_false : hold false d = .v d := rfl
theorem hold_list {k : List D} : hold true (.list k) = .o (.list k) := rfl
theorem hold_dict {k : List (D × D)} : hold true (.dict k) = .o (.dict k) := rfl

theorem e_var : evE Φ (.var i) ρ n = (getV ρ i).map fun d => (d, n) := rfl
theorem e_int {k : Int} : evE Φ (.int k) ρ n = some (.int k, n) := rfl
theorem e_str {k : Str} : evE Φ (.str k) ρ n = some (.str k, n) := rfl
theorem e_bl {k : Bool} : evE Φ (.bl k) ρ n = some (.bool k, n) := rfl
theorem e_non : evE Φ .non ρ n = some (.none, n) := rfl
variable {a b c t : E} {es : List E}
theorem e_op {o : Bop} : evE Φ (.op o a b) ρ n = bnd (evB (evE Φ a) a ρ n) fun x n => bnd (evB (evE Φ b) b ρ n) fun y n => (opV o x y).map fun z => (z, n) := rfl
def negV : D → Option D
  | .int i => some (.int (-i))
  | _ => none
theorem e_neg : evE Φ (.neg a) ρ n = bnd (evE Φ a ρ n) fun x n => (negV x).map fun z => (z, n) := by
  show bnd _ _ = bnd _ _
  congr 1
  funext x n
  cases x <;> rfl
theorem negV_int {k : Int} : negV (.int k) = some (.int (-k)) := rfl
theorem e_not : evE Φ (.not a) ρ n = bnd (evE Φ a ρ n) fun x n => (asB x).map fun k => (.bool !k, n) := rfl
theorem e_and : evE Φ (.and a b) ρ n = bnd (evE Φ a ρ n) fun x n => (asB x).bind fun k => bif k then evE Φ b ρ n else some (.bool false, n) := rfl
theorem e_or : evE Φ (.or a b) ρ n = bnd (evE Φ a ρ n) fun x n => (asB x).bind fun k => bif k then some (.bool true, n) else evE Φ b ρ n := rfl
theorem e_cmp {o : Cop} : evE Φ (.cmp o a b) ρ n = bnd (evB (evE Φ a) a ρ n) fun x n => bnd (evB (evE Φ b) b ρ n) fun y n => (cmpV o x y).map fun z => (z, n) := rfl
theorem e_chn {o o' : Cop} : evE Φ (.chn o o' a b c) ρ n = bnd (evB (evE Φ a) a ρ n) fun x n => bnd (evB (evE Φ b) b ρ n) fun y n => (cmpV o x y).bind fun z => (asB z).bind fun k =>
      bif k then bnd (evB (evE Φ c) c ρ n) fun w n => (cmpV o' y w).map fun z => (z, n) else some (.bool false, n) := rfl
theorem e_ifx : evE Φ (.ifx t a b) ρ n = bnd (evE Φ t ρ n) fun x n => (asB x).bind fun k => bif k then evE Φ a ρ n else evE Φ b ρ n := rfl
theorem e_tup : evE Φ (.tup es) ρ n = bnd (evEs Φ es ρ n) fun xs n => some (.tuple xs, n) := rfl
theorem e_lst : evE Φ (.lst es) ρ n = bnd (evEs Φ es ρ n) fun xs n => some (.list xs, n) := rfl
theorem e_call {f : Nat} : evE Φ (.call f es) ρ n = bnd (evEs Φ es ρ n) fun xs n => Φ.ev f xs n := rfl
theorem e_bi {f : Bi} : evE Φ (.bi f es) ρ n = bnd (evBs Φ es ρ n) fun xs n => (biV f xs).map fun z => (z, n) := rfl
theorem e_idx : evE Φ (.idx a b) ρ n = bnd (evB (evE Φ a) a ρ n) fun x n => bnd (evE Φ b ρ n) fun y n => (idxV x y).map fun z => (z, n) := rfl
theorem e_slc {lo hi : Option E} : evE Φ (.slc a lo hi) ρ n = bnd (evB (evE Φ a) a ρ n) fun x n => bnd (evO Φ lo ρ n) fun l n => bnd (evO Φ hi ρ n) fun h n => (slcV x l h).map fun z => (z, n) := rfl
theorem e_rev : evE Φ (.rev a) ρ n = bnd (evB (evE Φ a) a ρ n) fun x n => (revV x).map fun z => (z, n) := rfl
theorem e_mth {m : Mt} : evE Φ (.mth m a es) ρ n = bnd (evB (evE Φ a) a ρ n) fun x n => bnd (evEs Φ es ρ n) fun ys n => (mtV m x ys).map fun z => (z, n) := rfl
/-- a comprehension over items -/
def compB (Φ : Fns) (own : List Nat) (tg : Tg) (ifs : List E) (elt : E) (ρ : Env) (xs : List D) (n : Nat) : Option (D × Nat) := bnd (walkL (stepC Φ own tg ifs elt ρ) xs n) fun ys n => if ys.length ≤ 1000000 then some (.list ys, n) else none
theorem e_comp {own : List Nat} {tg : Tg} {ifs : List E} {elt : E} : evE Φ (.comp own tg a ifs elt) ρ n = bnd (evB (evE Φ a) a ρ n) fun x n => (iterV x).bind fun xs => compB Φ own tg ifs elt ρ xs n := rfl
theorem o_none : evO Φ none ρ n = some (none, n) := rfl
def intO : D → Option (Option Int)
  | .int i => some (some i)
  | _ => none
theorem o_some : evO Φ (some a) ρ n = bnd (evE Φ a ρ n) fun x n => (intO x).map fun z => (z, n) := by
  show bnd _ _ = bnd _ _
  congr 1
  funext x n
  cases x <;> rfl
theorem intO_int {k : Int} : intO (.int k) = some (some k) := rfl
theorem es_nil : evEs Φ [] ρ n = some ([], n) := rfl
theorem es_cons : evEs Φ (a :: es) ρ n = bnd (evE Φ a ρ n) fun x n => bnd (evEs Φ es ρ n) fun xs n => some (x :: xs, n) := rfl
theorem bs_nil : evBs Φ [] ρ n = some ([], n) := rfl
theorem bs_cons : evBs Φ (a :: es) ρ n = bnd (evB (evE Φ a) a ρ n) fun x n => bnd (evBs Φ es ρ n) fun xs n => some (x :: xs, n) := rfl
theorem t_nil : evT Φ [] ρ n = some (true, n) := rfl
theorem t_one : evT Φ [a] ρ n = bnd (evE Φ a ρ n) fun x n => (asB x).map fun k => (k, n) := by
  show bnd _ _ = bnd _ _
  congr 1
  funext x n
  cases asB x <;> rfl
variable {f : Env → Nat → Option (D × Nat)}
theorem b_var : evB f (.var i) ρ n = (getB ρ i).map fun d => (d, n) := rfl
theorem b_int {k : Int} : evB f (.int k) ρ n = f ρ n := rfl
theorem b_str {k : Str} : evB f (.str k) ρ n = f ρ n := rfl
theorem b_bl {k : Bool} : evB f (.bl k) ρ n = f ρ n := rfl
theorem b_non : evB f .non ρ n = f ρ n := rfl
theorem b_op {o : Bop} : evB f (.op o a b) ρ n = f ρ n := rfl
theorem b_neg : evB f (.neg a) ρ n = f ρ n := rfl
theorem b_not : evB f (.not a) ρ n = f ρ n := rfl
theorem b_and : evB f (.and a b) ρ n = f ρ n := rfl
theorem b_or : evB f (.or a b) ρ n = f ρ n := rfl
theorem b_cmp {o : Cop} : evB f (.cmp o a b) ρ n = f ρ n := rfl
theorem b_chn {o o' : Cop} : evB f (.chn o o' a b c) ρ n = f ρ n := rfl
theorem b_ifx : evB f (.ifx t a b) ρ n = f ρ n := rfl
theorem b_tup : evB f (.tup es) ρ n = f ρ n := rfl
theorem b_lst : evB f (.lst es) ρ n = f ρ n := rfl
theorem b_call {g : Nat} : evB f (.call g es) ρ n = f ρ n := rfl
theorem b_bi {g : Bi} : evB f (.bi g es) ρ n = f ρ n := rfl
theorem b_idx : evB f (.idx a b) ρ n = f ρ n := rfl
theorem b_slc {lo hi : Option E} : evB f (.slc a lo hi) ρ n = f ρ n := rfl
theorem b_rev : evB f (.rev a) ρ n = f ρ n := rfl
theorem b_mth {m : Mt} : evB f (.mth m a es) ρ n = f ρ n := rfl
theorem b_comp {own : List Nat} {tg : Tg} {ifs : List E} {elt : E} : evB f (.comp own tg a ifs elt) ρ n = f ρ n := rfl
theorem b_comp2 {own : List Nat} {tg tg2 : Tg} {ifs : List E} {elt : E} : evB f (.comp2 own tg a tg2 b ifs elt) ρ n = f ρ n := rfl
theorem b_dic {k : Bool} {ks vs : List E} : evB f (.dic k ks vs) ρ n = f ρ n := rfl
end
theorem asB_bool {b : Bool} : asB (.bool b) = some b := rfl
theorem cond_dec {α : Type} {p : Prop} [Decidable p] {x y : α} : (bif decide p then x else y) = if p then x else y := by
  by_cases h : p <;> simp [h]
theorem cond_not {α : Type} {p : Bool} {x y : α} : (bif !p then x else y) = bif p then y else x := by cases p <;> rfl
theorem bnd_ite {α β : Type} {p : Prop} [Decidable p] {x y : Option (α × Nat)} {k : α → Nat → Option β} : bnd (if p then x else y) k = if p then bnd x k else bnd y k := by split <;> rfl
theorem map_ite {α β : Type} {p : Prop} [Decidable p] {x y : Option α} {k : α → β} : (if p then x else y).map k = if p then x.map k else y.map k := by split <;> rfl
theorem obind_ite {α β : Type} {p : Prop} [Decidable p] {x y : Option α} {k : α → Option β} : (if p then x else y).bind k = if p then x.bind k else y.bind k := by split <;> rfl

theorem ite_t {α : Type} {p : Prop} [Decidable p] {x y : α} (h : p) : (if p then x else y) = x := if_pos h
theorem ite_f {α : Type} {p : Prop} [Decidable p] {x y : α} (h : ¬ p) : (if p then x else y) = y := if_neg h

/-! ### values -/
theorem v_addI {a b : Int} : opV .add (.int a) (.int b) = some (.int (a + b)) := rfl
theorem v_subI {a b : Int} : opV .sub (.int a) (.int b) = some (.int (a - b)) := rfl
theorem v_mulI {a b : Int} (h1 : -18446744073709551616 < a) (h2 : a < 18446744073709551616) (h3 : -18446744073709551616 < b) (h4 : b < 18446744073709551616) : opV .mul (.int a) (.int b) = some (.int (a * b)) := by
  simp [opV, small, h1, h2, h3, h4]
theorem v_fdivI {a b : Int} (h1 : 0 < b) (h2 : b < 1000000000) : opV .fdiv (.int a) (.int b) = some (.int (a / b)) := by
  simp [opV, h1, h2]
theorem v_modI {a b : Int} (h1 : 0 < b) : opV .mod (.int a) (.int b) = some (.int (a % b)) := by
  simp [opV, h1]
theorem v_addT {a b : List D} (h : a.length + b.length ≤ 1000000) : opV .add (.tuple a) (.tuple b) = some (.tuple (a ++ b)) := by simp [opV, h]
theorem v_addL {a b : List D} (h : a.length + b.length ≤ 1000000) : opV .add (.list a) (.list b) = some (.list (a ++ b)) := by simp [opV, h]
theorem v_addS {a b : Str} (h : a.length + b.length ≤ 1000000) : opV .add (.str a) (.str b) = some (.str (a ++ b)) := by simp [opV, h]
theorem v_mulT {a : List D} {k : Int} (h1 : -1000 ≤ k) (h2 : k ≤ 1000) (h : a.length ≤ 1000) : opV .mul (.tuple a) (.int k) = some (.tuple (List.replicate k.toNat a).flatten) := by simp [opV, h, h1, h2]
theorem v_mulL {a : List D} {k : Int} (h1 : -1000 ≤ k) (h2 : k ≤ 1000) (h : a.length ≤ 1000) : opV .mul (.list a) (.int k) = some (.list (List.replicate k.toNat a).flatten) := by simp [opV, h, h1, h2]
theorem c_eqI {a b : Int} : cmpV .eq (.int a) (.int b) = some (.bool (decide (a = b))) := rfl
theorem c_neI {a b : Int} : cmpV .ne (.int a) (.int b) = some (.bool (!decide (a = b))) := rfl
theorem c_ltI {a b : Int} : cmpV .lt (.int a) (.int b) = some (.bool (decide (a < b))) := rfl
theorem c_leI {a b : Int} : cmpV .le (.int a) (.int b) = some (.bool (decide (a ≤ b))) := rfl
theorem c_gtI {a b : Int} : cmpV .gt (.int a) (.int b) = some (.bool (decide (b < a))) := rfl
theorem c_geI {a b : Int} : cmpV .ge (.int a) (.int b) = some (.bool (decide (b ≤ a))) := rfl
theorem c_is_nn : cmpV .is .none .none = some (.bool true) := rfl
theorem c_isn_nn : cmpV .isn .none .none = some (.bool false) := rfl
theorem c_is_in {a : Int} : cmpV .is (.int a) .none = some (.bool false) := rfl
theorem c_isn_in {a : Int} : cmpV .isn (.int a) .none = some (.bool true) := rfl
theorem c_is_tn {a : List D} : cmpV .is (.tuple a) .none = some (.bool false) := rfl
theorem c_isn_tn {a : List D} : cmpV .isn (.tuple a) .none = some (.bool true) := rfl
theorem c_is_bb {a b : Bool} : cmpV .is (.bool a) (.bool b) = some (.bool (decide (a = b))) := rfl
theorem c_isn_bb {a b : Bool} : cmpV .isn (.bool a) (.bool b) = some (.bool (!decide (a = b))) := rfl
theorem bi_lenL {xs : List D} : biV .len [.list xs] = some (.int xs.length) := rfl
theorem bi_lenT {xs : List D} : biV .len [.tuple xs] = some (.int xs.length) := rfl
theorem bi_sumL {xs : List D} : biV .sum [.list xs] = (intsOf xs).map fun ns => .int ns.sum := rfl
theorem bi_sumT {xs : List D} : biV .sum [.tuple xs] = (intsOf xs).map fun ns => .int ns.sum := rfl
theorem bi_abs {k : Int} : biV .abs [.int k] = some (.int (if k < 0 then -k else k)) := rfl
theorem bi_intI {k : Int} : biV .int [.int k] = some (.int k) := rfl
theorem bi_intB {k : Bool} : biV .int [.bool k] = some (.int (if k then 1 else 0)) := rfl
theorem max2_eq (m n : Int) : max2 m n = max m n := by unfold max2; omega
theorem min2_eq (m n : Int) : min2 m n = min m n := by unfold min2; omega
theorem bi_max2 {m n : Int} : biV .max [.int m, .int n] = some (.int (max m n)) := by rw [← max2_eq]; rfl
theorem bi_min2 {m n : Int} : biV .min [.int m, .int n] = some (.int (min m n)) := by rw [← min2_eq]; rfl
theorem bi_tupL {xs : List D} : biV .tuple [.list xs] = some (.tuple xs) := rfl
theorem bi_tupT {xs : List D} : biV .tuple [.tuple xs] = some (.tuple xs) := rfl
theorem bi_lstL {xs : List D} : biV .list [.list xs] = some (.list xs) := rfl
theorem bi_lstT {xs : List D} : biV .list [.tuple xs] = some (.list xs) := rfl
theorem intsOf_map : ∀ ns : List Int, intsOf (ns.map PyData.int) = some ns
  | [] => rfl
  | n :: ns => by
    show (intsOf (ns.map PyData.int)).map (n :: ·) = _
    rw [intsOf_map ns]
    rfl
theorem boolsOf_map : ∀ ns : List Bool, boolsOf (ns.map PyData.bool) = some ns
  | [] => rfl
  | n :: ns => by
    show (boolsOf (ns.map PyData.bool)).map (n :: ·) = _
    rw [boolsOf_map ns]
    rfl
theorem bi_range1 {k : Int} (h1 : -4611686018427387904 ≤ k) (h2 : k < 4611686018427387904) : biV .range [.int k] = some (.list (rangeL 0 k)) := by simp [biV, lim62, h1, h2]
theorem bi_range2 {j k : Int} (h3 : -4611686018427387904 ≤ j) (h4 : j < 4611686018427387904) (h1 : -4611686018427387904 ≤ k) (h2 : k < 4611686018427387904) : biV .range [.int j, .int k] = some (.list (rangeL j k)) := by simp [biV, lim62, h1, h2, h3, h4]
theorem it_list {xs : List D} : iterV (.list xs) = some xs := rfl
theorem it_tup {xs : List D} : iterV (.tuple xs) = some xs := rfl
theorem ix_T {xs : List D} {k : Int} : idxV (.tuple xs) (.int k) = atI xs k := rfl
theorem ix_L {xs : List D} {k : Int} : idxV (.list xs) (.int k) = atI xs k := rfl
theorem at0 {α : Type} {x : α} {xs : List α} : atI (x :: xs) 0 = some x := atI_nat (j := 0) rfl
theorem at1 {α : Type} {x y : α} {xs : List α} : atI (x :: y :: xs) 1 = some y := atI_nat (j := 1) rfl
theorem at2 {α : Type} {x y z : α} {xs : List α} : atI (x :: y :: z :: xs) 2 = some z := atI_nat (j := 2) rfl
theorem at3 {α : Type} {x y z u : α} {xs : List α} : atI (x :: y :: z :: u :: xs) 3 = some u := atI_nat (j := 3) rfl
theorem atL {α : Type} {xs : List α} {x : α} : atI (xs ++ [x]) (-1) = some x := atI_last _ _
theorem atLc {α : Type} {xs : List α} {x y : α} : atI (y :: (xs ++ [x])) (-1) = some x := atI_last (y :: xs) x
theorem at1s {α : Type} {x : α} : atI [x] (-1) = some x := atI_last [] x

/-! ### statements -/
def outE (o : Option Env) (n : Nat) : Out := o.map fun ρ' => (.nx, ρ', n)
section
variable {Φ : Fns} {ρ : Env} {n : Nat} {a b c t e : E} {x : Nat} {ss : List S}
theorem ss_nil : evSs Φ [] ρ n = some (.nx, ρ, n) := rfl
theorem ss_cons {s : S} : evSs Φ (s :: ss) ρ n = bns (evS Φ s ρ n) fun ρ n => evSs Φ ss ρ n := rfl
theorem bns_nx {k : Env → Nat → Out} : bns (some (.nx, ρ, n)) k = k ρ n := rfl
theorem bns_ret {k : Env → Nat → Out} {d : D} {f : Bool} : bns (some (.ret d f, ρ, n)) k = some (.ret d f, ρ, n) := rfl
theorem bns_brk {k : Env → Nat → Out} : bns (some (.brk, ρ, n)) k = some (.brk, ρ, n) := rfl
theorem bns_ct {k : Env → Nat → Out} : bns (some (.ct, ρ, n)) k = some (.ct, ρ, n) := rfl
theorem bns_ite {p : Prop} [Decidable p] {u v : Out} {k : Env → Nat → Out} : bns (if p then u else v) k = if p then bns u k else bns v k := by split <;> rfl
/-- a store of what e says -/
theorem s_asg {tg : Tg} (h : isVar e = none) : evS Φ (.asg tg e) ρ n = bnd (evE Φ e ρ n) fun d n => outE (bindT tg (frsh Φ e) d ρ) n := by
  unfold evS
  rw [h]
  rfl
theorem s_asgv {tg : Tg} {j : Nat} : evS Φ (.asg tg (.var j)) ρ n = (getB ρ j).bind fun d => outE (bindT tg false d (frzE ρ j)) n := rfl
theorem s_par {is : List Nat} {es : List E} : evS Φ (.par is es) ρ n = bnd (evEs Φ es ρ n) fun ds n => outE (parB Φ is es ds ρ) n := rfl
theorem s_set {i : E} : evS Φ (.set x i e) ρ n = bnd (evE Φ e ρ n) fun y n => bnd (evE Φ i ρ n) fun k n => (getO ρ x).bind fun d => (setV d k y).map fun d' => (.nx, ρ.set x (.o d'), n) := rfl
theorem s_aug {o : Bop} : evS Φ (.aug x o e) ρ n = (getV ρ x).bind fun d => bnd (evE Φ e ρ n) fun y n => if isInt d && isInt y then (opV o d y).map fun z => (.nx, ρ.set x (.v z), n) else none := rfl
theorem s_augs {i : E} {o : Bop} : evS Φ (.augs x i o e) ρ n = (getO ρ x).bind fun d => bnd (evE Φ i ρ n) fun k n => (idxV d k).bind fun a => bnd (evE Φ e ρ n) fun y n =>
      if isInt a && isInt y then (opV o a y).bind fun z => (setV d k z).map fun d' => (.nx, ρ.set x (.o d'), n) else none := rfl
theorem s_sm {m : Sm} {es : List E} : evS Φ (.sm m x es) ρ n = (getO ρ x).bind fun d => bnd (evEs Φ es ρ n) fun ys n => (smV m d ys).map fun d' => (.nx, ρ.set x (.o d'), n) := rfl
theorem s_ret (h : isVar e = none) : evS Φ (.ret e) ρ n = bnd (evE Φ e ρ n) fun d n => some (.ret d (frsh Φ e), ρ, n) := by
  show bnd (evB (evE Φ e) e ρ n) _ = _
  rw [evB_other h, h]
  simp
theorem s_retv {j : Nat} : evS Φ (.ret (.var j)) ρ n = (getB ρ j).bind fun d => some (.ret d (getO ρ j).isSome, ρ, n) := by
  show bnd ((getB ρ j).map fun d => (d, n)) _ = _
  cases getB ρ j with
  | none => rfl
  | some d => simp [bnd, frsh, isVar]
theorem s_retN : evS Φ .retN ρ n = some (.ret .none false, ρ, n) := rfl
theorem s_ite {u v : List S} : evS Φ (.ite t u v) ρ n = bnd (evE Φ t ρ n) fun x n => (asB x).bind fun k => bif k then evSs Φ u ρ n else evSs Φ v ρ n := rfl
def whlB (Φ : Fns) (t : E) (b : List S) (f : Nat) (ρ : Env) (n : Nat) : Out := whlL (evE Φ t) (evSs Φ b) f ρ n
theorem s_whl {u : List S} : evS Φ (.whl t u) ρ n = whlB Φ t u Φ.wb ρ n := rfl
def whlK (Φ : Fns) (t : E) (b : List S) (f : Nat) : Out → Out
  | some (.nx, ρ, n) => whlB Φ t b f ρ n
  | some (.ct, ρ, n) => whlB Φ t b f ρ n
  | some (.brk, ρ, n) => some (.nx, ρ, n)
  | r => r
theorem whl_step {u : List S} {f : Nat} : whlB Φ t u (f + 1) ρ n = bnd (evE Φ t ρ n) fun x n => (asB x).bind fun b => bif b then whlK Φ t u f (evSs Φ u ρ n) else some (.nx, ρ, n) := by
  show bnd _ _ = bnd _ _
  congr 1
theorem whlK_nx {u : List S} {f : Nat} : whlK Φ t u f (some (.nx, ρ, n)) = whlB Φ t u f ρ n := rfl
theorem whlK_ct {u : List S} {f : Nat} : whlK Φ t u f (some (.ct, ρ, n)) = whlB Φ t u f ρ n := rfl
theorem whlK_brk {u : List S} {f : Nat} : whlK Φ t u f (some (.brk, ρ, n)) = some (.nx, ρ, n) := rfl
theorem whlK_ret {u : List S} {f : Nat} {d : D} {g : Bool} : whlK Φ t u f (some (.ret d g, ρ, n)) = some (.ret d g, ρ, n) := rfl
theorem whlK_ite {p : Prop} [Decidable p] {u : List S} {f : Nat} {y z : Out} : whlK Φ t u f (if p then y else z) = if p then whlK Φ t u f y else whlK Φ t u f z := by split <;> rfl
def forB (Φ : Fns) (t : Tg) (b : List S) (xs : List D) (ρ : Env) (n : Nat) : Out := forL (fun x ρ n => (bindT t false x ρ).bind fun ρ' => evSs Φ b ρ' n) xs ρ n
theorem s_for {tg : Tg} {u : List S} : evS Φ (.for tg e u) ρ n = bnd (evE Φ e ρ n) fun x n => (iterV x).bind fun xs => forB Φ tg u xs ρ n := rfl
def forK (Φ : Fns) (t : Tg) (b : List S) (xs : List D) : Out → Out
  | some (.nx, ρ, n) => forB Φ t b xs ρ n
  | some (.ct, ρ, n) => forB Φ t b xs ρ n
  | some (.brk, ρ, n) => some (.nx, ρ, n)
  | r => r
theorem for_nil {tg : Tg} {u : List S} : forB Φ tg u [] ρ n = some (.nx, ρ, n) := rfl
theorem for_cons {tg : Tg} {u : List S} {d : D} {xs : List D} : forB Φ tg u (d :: xs) ρ n = forK Φ tg u xs ((bindT tg false d ρ).bind fun ρ' => evSs Φ u ρ' n) := by
  show forL _ (d :: xs) ρ n = _
  rw [forL_cons]
  generalize (bindT tg false d ρ).bind (fun ρ' => evSs Φ u ρ' n) = o
  cases o with
  | none => rfl
  | some p =>
    obtain ⟨fl, r, m⟩ := p
    cases fl <;> rfl
theorem forK_nx {tg : Tg} {u : List S} {xs : List D} : forK Φ tg u xs (some (.nx, ρ, n)) = forB Φ tg u xs ρ n := rfl
theorem forK_ct {tg : Tg} {u : List S} {xs : List D} : forK Φ tg u xs (some (.ct, ρ, n)) = forB Φ tg u xs ρ n := rfl
theorem forK_brk {tg : Tg} {u : List S} {xs : List D} : forK Φ tg u xs (some (.brk, ρ, n)) = some (.nx, ρ, n) := rfl
theorem forK_ret {tg : Tg} {u : List S} {xs : List D} {d : D} {g : Bool} : forK Φ tg u xs (some (.ret d g, ρ, n)) = some (.ret d g, ρ, n) := rfl
theorem forK_ite {p : Prop} [Decidable p] {tg : Tg} {u : List S} {xs : List D} {y z : Out} : forK Φ tg u xs (if p then y else z) = if p then forK Φ tg u xs y else forK Φ tg u xs z := by split <;> rfl
theorem s_brk : evS Φ .brk ρ n = some (.brk, ρ, n) := rfl
theorem s_cont : evS Φ .cont ρ n = some (.ct, ρ, n) := rfl
theorem s_pass : evS Φ .pass ρ n = some (.nx, ρ, n) := rfl
theorem s_frz : evS Φ (.frz x) ρ n = some (.nx, frzE ρ x, n) := rfl
theorem outE_some {m : Nat} : outE (some ρ) m = some (.nx, ρ, m) := rfl
theorem bt_nm {i : Nat} {fr : Bool} {d : D} : bindT (.nm i) fr d ρ = some (ρ.set i (hold fr d)) := rfl
theorem bt_tp {ts : List Tg} {fr : Bool} {ds : List D} : bindT (.tp ts) fr (.tuple ds) ρ = bindTs ts ds ρ := by simp [bindT]
theorem bt_nil : bindTs [] [] ρ = some ρ := by simp [bindTs]
theorem bt_cons {t : Tg} {ts : List Tg} {d : D} {ds : List D} : bindTs (t :: ts) (d :: ds) ρ = (bindT t false d ρ).bind fun ρ' => bindTs ts ds ρ' := by simp [bindTs]
theorem par_nil : parB Φ [] [] [] ρ = some ρ := rfl
theorem par_cons {i : Nat} {is : List Nat} {e : E} {es : List E} {d : D} {ds : List D} : parB Φ (i :: is) (e :: es) (d :: ds) ρ = parB Φ is es ds (ρ.set i (hold (frsh Φ e) d)) := rfl
theorem sm_app {xs : List D} {y : D} (h : xs.length < 1000000) : smV .append (.list xs) [y] = some (.list (xs ++ [y])) := by simp [smV, h]
theorem isI_int {k : Int} : isInt (.int k) = true := rfl
def finF (fr : Bool) : Out → Option (D × Nat)
  | some (.ret d f, _, n') => if fr && !f then none else some (d, n')
  | some (.nx, _, n') => if fr then none else some (.none, n')
  | _ => none
theorem evF_eq {fr : Bool} {np m : Nat} {body : List S} {args : List D} (h : args.length = np) : evF Φ fr np m body args n = finF fr (evSs Φ body (args.map Sl.v ++ List.replicate (m - np) Sl.u) n) := by
  unfold evF
  rw [if_neg (by simp [h])]
  generalize evSs Φ body (args.map Sl.v ++ List.replicate (m - np) Sl.u) n = o
  cases o with
  | none => rfl
  | some p =>
    obtain ⟨fl, r, m⟩ := p
    cases fl <;> rfl
theorem fin_ret {d : D} {f : Bool} : finF false (some (.ret d f, ρ, n)) = some (d, n) := rfl
theorem fin_retT {d : D} : finF true (some (.ret d true, ρ, n)) = some (d, n) := rfl
theorem fin_nx : finF false (some (.nx, ρ, n)) = some (.none, n) := rfl
theorem fin_ite {fr : Bool} {p : Prop} [Decidable p] {y z : Out} : finF fr (if p then y else z) = if p then finF fr y else finF fr z := by split <;> rfl
theorem Phi_ev {L : List (List D → Nat → Option (D × Nat))} {fs : List Bool} {wb g : Nat} : (Phi L fs wb).ev g = L.getD g noFn := rfl
theorem Phi_wb {L : List (List D → Nat → Option (D × Nat))} {fs : List Bool} {wb : Nat} : (Phi L fs wb).wb = wb := rfl
theorem getD_z {α : Type} {x d : α} {xs : List α} : (x :: xs).getD 0 d = x := rfl
theorem getD_s {α : Type} {x d : α} {xs : List α} {i : Nat} : (x :: xs).getD (i + 1) d = xs.getD i d := rfl
theorem st_z {α : Type} {x y : α} {xs : List α} : (x :: xs).set 0 y = y :: xs := rfl
theorem st_s {α : Type} {x y : α} {xs : List α} {i : Nat} : (x :: xs).set (i + 1) y = x :: xs.set i y := rfl
end
/-! ### freshness, by looks -/
section
variable {Φ : Fns} {a b t : E} {es : List E}
theorem f_var {i : Nat} : frsh Φ (.var i) = false := rfl
theorem f_int {k : Int} : frsh Φ (.int k) = false := rfl
theorem f_str {k : Str} : frsh Φ (.str k) = false := rfl
theorem f_bl {k : Bool} : frsh Φ (.bl k) = false := rfl
theorem f_non : frsh Φ .non = false := rfl
theorem f_op {o : Bop} : frsh Φ (.op o a b) = true := rfl
theorem f_neg : frsh Φ (.neg a) = false := rfl
theorem f_tup : frsh Φ (.tup es) = false := rfl
theorem f_lst : frsh Φ (.lst es) = true := rfl
theorem f_bi {g : Bi} : frsh Φ (.bi g es) = true := rfl
theorem f_ifx : frsh Φ (.ifx t a b) = false := rfl
theorem f_idx : frsh Φ (.idx a b) = false := rfl
theorem f_comp {own : List Nat} {tg : Tg} {ifs : List E} {elt : E} : frsh Φ (.comp own tg a ifs elt) = true := rfl
theorem f_slc {lo hi : Option E} : frsh Φ (.slc a lo hi) = true := rfl
theorem f_rev : frsh Φ (.rev a) = true := rfl
theorem f_call {g : Nat} : frsh Φ (.call g es) = Φ.fr g := rfl
end
/-! ### comprehensions that draw nothing -/
theorem walk_pure {step : D → Nat → Option (List D × Nat)} {g : D → List D} {n : Nat} : ∀ {xs : List D}, (∀ x ∈ xs, step x n = some (g x, n)) → walkL step xs n = some (xs.flatMap g, n)
  | [], _ => rfl
  | x :: xs, h => by
    unfold walkL
    rw [h x List.mem_cons_self, bnd_some, walk_pure fun y hy => h y (List.mem_cons_of_mem _ hy), bnd_some, List.flatMap_cons]
theorem comp_map {Φ : Fns} {own : List Nat} {tg : Tg} {ifs : List E} {elt : E} {ρ : Env} {n : Nat} {xs : List D} (g : D → D) (h : ∀ x ∈ xs, stepC Φ own tg ifs elt ρ x n = some ([g x], n)) (hl : xs.length ≤ 1000000) : compB Φ own tg ifs elt ρ xs n = some (.list (xs.map g), n) := by
  unfold compB
  have e : xs.flatMap (fun x => [g x]) = xs.map g := by
    clear h hl
    induction xs with
    | nil => rfl
    | cons x xs ih => rw [List.flatMap_cons, ih]; rfl
  rw [walk_pure h, bnd_some, e, if_pos (by simpa using hl)]
theorem comp_filter {Φ : Fns} {own : List Nat} {tg : Tg} {ifs : List E} {elt : E} {ρ : Env} {n : Nat} {xs : List D} (p : D → Bool) (g : D → D) (h : ∀ x ∈ xs, stepC Φ own tg ifs elt ρ x n = some (if p x then [g x] else [], n)) (hl : xs.length ≤ 1000000) : compB Φ own tg ifs elt ρ xs n = some (.list ((xs.filter p).map g), n) := by
  unfold compB
  have e : xs.flatMap (fun x => if p x then [g x] else []) = (xs.filter p).map g := by
    clear h hl
    induction xs with
    | nil => rfl
    | cons x xs ih =>
      rw [List.flatMap_cons, ih, List.filter_cons]
      cases p x <;> rfl
  rw [walk_pure h, bnd_some, e, if_pos ?_]
  rw [List.length_map]
  exact Nat.le_trans (List.length_filter_le _ _) hl
theorem stepC_eq {Φ : Fns} {own : List Nat} {tg : Tg} {ifs : List E} {elt : E} {ρ : Env} {x : D} {n : Nat} : stepC Φ own tg ifs elt ρ x n = (bindT tg false x (wipeE ρ own)).bind fun ρ' => bnd (evT Φ ifs ρ' n) fun k n => bif k then bnd (evE Φ elt ρ' n) fun y n => some ([y], n) else some ([], n) := rfl
theorem comp_eq {Φ : Fns} {own : List Nat} {tg : Tg} {ifs : List E} {elt : E} {ρ : Env} {n : Nat} {xs : List D} : compB Φ own tg ifs elt ρ xs n = bnd (walkL (stepC Φ own tg ifs elt ρ) xs n) fun ys n => if ys.length ≤ 1000000 then some (.list ys, n) else none := rfl
theorem walk_nil {step : D → Nat → Option (List D × Nat)} {n : Nat} : walkL step [] n = some ([], n) := rfl
theorem walk_cons {step : D → Nat → Option (List D × Nat)} {n : Nat} {x : D} {xs : List D} : walkL step (x :: xs) n = bnd (step x n) fun ys n => bnd (walkL step xs n) fun zs n => some (ys ++ zs, n) := rfl
theorem io_nil : intsOf [] = some [] := rfl
theorem io_cons {k : Int} {xs : List D} : intsOf (.int k :: xs) = (intsOf xs).map (k :: ·) := rfl
theorem rg0 : rangeL 0 0 = [] := rfl
theorem rg1 : rangeL 0 1 = [.int 0] := rfl
theorem rg2 : rangeL 0 2 = [.int 0, .int 1] := rfl
theorem rg3 : rangeL 0 3 = [.int 0, .int 1, .int 2] := rfl
theorem rg4 : rangeL 0 4 = [.int 0, .int 1, .int 2, .int 3] := rfl
theorem rg5 : rangeL 0 5 = [.int 0, .int 1, .int 2, .int 3, .int 4] := rfl
theorem rg6 : rangeL 0 6 = [.int 0, .int 1, .int 2, .int 3, .int 4, .int 5] := rfl
theorem rg7 : rangeL 0 7 = [.int 0, .int 1, .int 2, .int 3, .int 4, .int 5, .int 6] := rfl
theorem rg8 : rangeL 0 8 = [.int 0, .int 1, .int 2, .int 3, .int 4, .int 5, .int 6, .int 7] := rfl
theorem comp_all {α : Type} {Φ : Fns} {own : List Nat} {tg : Tg} {ifs : List E} {elt : E} {ρ : Env} {n : Nat} (L : List α) (enc g : α → D) (h : ∀ a ∈ L, stepC Φ own tg ifs elt ρ (enc a) n = some ([g a], n)) (hl : L.length ≤ 1000000) : compB Φ own tg ifs elt ρ (L.map enc) n = some (.list (L.map g), n) := by
  have e : walkL (stepC Φ own tg ifs elt ρ) (L.map enc) n = some (L.map g, n) := by
    clear hl
    induction L with
    | nil => rfl
    | cons a L ih =>
      rw [List.map_cons, walk_cons, h a List.mem_cons_self, bnd_some, ih fun b hb => h b (List.mem_cons_of_mem _ hb)]
      rfl
  unfold compB
  rw [e, bnd_some, if_pos (by simpa using hl)]
theorem comp_sel {α : Type} {Φ : Fns} {own : List Nat} {tg : Tg} {ifs : List E} {elt : E} {ρ : Env} {n : Nat} (L : List α) (enc g : α → D) (p : α → Bool) (h : ∀ a ∈ L, stepC Φ own tg ifs elt ρ (enc a) n = some (if p a then [g a] else [], n)) (hl : L.length ≤ 1000000) : compB Φ own tg ifs elt ρ (L.map enc) n = some (.list ((L.filter p).map g), n) := by
  have e : walkL (stepC Φ own tg ifs elt ρ) (L.map enc) n = some ((L.filter p).map g, n) := by
    clear hl
    induction L with
    | nil => rfl
    | cons a L ih =>
      rw [List.map_cons, walk_cons, h a List.mem_cons_self, bnd_some, ih fun b hb => h b (List.mem_cons_of_mem _ hb), List.filter_cons]
      cases p a <;> rfl
  unfold compB
  rw [e, bnd_some, if_pos (Nat.le_trans (by rw [List.length_map]; exact List.length_filter_le _ _) hl)]
theorem rng_map (k : Int) : rangeL 0 k = (List.range k.toNat).map fun i : Nat => PyData.int i := by
  unfold rangeL
  simp
theorem ok_none {k : Nat} : okB (k + 1) .none = true := rfl
theorem ok_int {k : Nat} {i : Int} : okB (k + 1) (.int i) = true := rfl
theorem ok_bool {k : Nat} {i : Bool} : okB (k + 1) (.bool i) = true := rfl
theorem ok_str {k : Nat} {i : Str} : okB (k + 1) (.str i) = true := rfl
theorem ok_tup {k : Nat} {xs : List D} : okB (k + 1) (.tuple xs) = xs.all (okB k) := rfl
theorem ok_lst {k : Nat} {xs : List D} : okB (k + 1) (.list xs) = xs.all (okB k) := rfl
theorem ok_ints {k : Nat} {L : List Int} : (L.map PyData.int).all (okB (k + 1)) = true := by
  rw [List.all_map]
  exact List.all_eq_true.2 fun x _ => rfl
theorem c_eq_nn : cmpV .eq .none .none = some (.bool true) := by rfl
theorem c_ne_nn : cmpV .ne .none .none = some (.bool false) := by rfl
theorem c_eq_in {a : Int} : cmpV .eq (.int a) .none = some (.bool false) := rfl
theorem c_ne_in {a : Int} : cmpV .ne (.int a) .none = some (.bool true) := rfl
theorem c_eq_ni {a : Int} : cmpV .eq .none (.int a) = some (.bool false) := rfl
theorem c_ne_ni {a : Int} : cmpV .ne .none (.int a) = some (.bool true) := rfl
theorem c_eq_bb {a b : Bool} : cmpV .eq (.bool a) (.bool b) = some (.bool (decide (a = b))) := by cases a <;> cases b <;> rfl
theorem c_ne_bb {a b : Bool} : cmpV .ne (.bool a) (.bool b) = some (.bool (!decide (a = b))) := by cases a <;> cases b <;> rfl
end EV
end

section
/-! EvT: lists of whole numbers. -/
namespace EV
open PySem PySem.Spec PyProof.Rows L2
open PySem.W (dataLt alike minD maxD)
theorem cmpAll_ints (L : List Int) : cmpAll (L.map PyData.int) = true := by
  unfold cmpAll
  rw [Bool.or_eq_true]
  left
  rw [List.all_map]
  exact List.all_eq_true.2 fun x _ => rfl
theorem foldl_max : ∀ (L : List Int) (a : Int), (L.foldl max a = a ∨ L.foldl max a ∈ L) ∧ a ≤ L.foldl max a ∧ ∀ x ∈ L, x ≤ L.foldl max a
  | [], a => ⟨.inl rfl, Int.le_refl _, fun x h => by simp at h⟩
  | b :: L, a => by
    obtain ⟨h1, h2, h3⟩ := foldl_max L (max a b)
    rw [List.foldl_cons]
    refine ⟨?_, by omega, fun x hx => ?_⟩
    · rcases h1 with h1 | h1
      · rw [h1]
        by_cases c : a ≤ b
        · right
          rw [show max a b = b by omega]
          exact List.mem_cons_self
        · left
          omega
      · exact .inr (List.mem_cons_of_mem _ h1)
    · rcases List.mem_cons.1 hx with e | e
      · omega
      · exact h3 x e
theorem foldl_min : ∀ (L : List Int) (a : Int), (L.foldl min a = a ∨ L.foldl min a ∈ L) ∧ L.foldl min a ≤ a ∧ ∀ x ∈ L, L.foldl min a ≤ x
  | [], a => ⟨.inl rfl, Int.le_refl _, fun x h => by simp at h⟩
  | b :: L, a => by
    obtain ⟨h1, h2, h3⟩ := foldl_min L (min a b)
    rw [List.foldl_cons]
    refine ⟨?_, by omega, fun x hx => ?_⟩
    · rcases h1 with h1 | h1
      · rw [h1]
        by_cases c : b ≤ a
        · right
          rw [show min a b = b by omega]
          exact List.mem_cons_self
        · left
          omega
      · exact .inr (List.mem_cons_of_mem _ h1)
    · rcases List.mem_cons.1 hx with e | e
      · omega
      · exact h3 x e
def mxI (L : List Int) : Int := L.tail.foldl max (L.headD 0)
def mnI (L : List Int) : Int := L.tail.foldl min (L.headD 0)
theorem mxI_mem {L : List Int} (h : L ≠ []) : mxI L ∈ L := by
  cases L with
  | nil => exact absurd rfl h
  | cons a L =>
    rcases (foldl_max L a).1 with e | e
    · show L.foldl max a ∈ _
      rw [e]
      exact List.mem_cons_self
    · exact List.mem_cons_of_mem _ e
theorem mxI_le {L : List Int} {x : Int} (h : x ∈ L) : x ≤ mxI L := by
  cases L with
  | nil => simp at h
  | cons a L =>
    rcases List.mem_cons.1 h with e | e
    · rw [e]; exact (foldl_max L a).2.1
    · exact (foldl_max L a).2.2 x e
theorem mnI_mem {L : List Int} (h : L ≠ []) : mnI L ∈ L := by
  cases L with
  | nil => exact absurd rfl h
  | cons a L =>
    rcases (foldl_min L a).1 with e | e
    · show L.foldl min a ∈ _
      rw [e]
      exact List.mem_cons_self
    · exact List.mem_cons_of_mem _ e
theorem mnI_le {L : List Int} {x : Int} (h : x ∈ L) : mnI L ≤ x := by
  cases L with
  | nil => simp at h
  | cons a L =>
    rcases List.mem_cons.1 h with e | e
    · rw [e]; exact (foldl_min L a).2.1
    · exact (foldl_min L a).2.2 x e
theorem maxL_ints {L : List Int} (h : L ≠ []) : maxL (L.map PyData.int) = some (.int (mxI L)) := by
  cases L with
  | nil => exact absurd rfl h
  | cons a L =>
    have c := cmpAll_ints (a :: L)
    rw [List.map_cons] at c ⊢
    show (if cmpAll (PyData.int a :: L.map PyData.int) = true then some (maxD _ _) else none) = _
    rw [if_pos c, PySem.W.maxD_ints]
    rfl
theorem minL_ints {L : List Int} (h : L ≠ []) : minL (L.map PyData.int) = some (.int (mnI L)) := by
  cases L with
  | nil => exact absurd rfl h
  | cons a L =>
    have c := cmpAll_ints (a :: L)
    rw [List.map_cons] at c ⊢
    show (if cmpAll (PyData.int a :: L.map PyData.int) = true then some (minD _ _) else none) = _
    rw [if_pos c, PySem.W.minD_ints]
    rfl
theorem bi_maxL {L : List Int} (h : L ≠ []) : biV .max [.list (L.map PyData.int)] = some (.int (mxI L)) := maxL_ints h
theorem bi_maxT {L : List Int} (h : L ≠ []) : biV .max [.tuple (L.map PyData.int)] = some (.int (mxI L)) := maxL_ints h
theorem bi_minL {L : List Int} (h : L ≠ []) : biV .min [.list (L.map PyData.int)] = some (.int (mnI L)) := minL_ints h
theorem bi_minT {L : List Int} (h : L ≠ []) : biV .min [.tuple (L.map PyData.int)] = some (.int (mnI L)) := minL_ints h
/-! ### places -/
theorem at_enc {α : Type} (L : List α) (enc : α → D) {i : Int} (h0 : 0 ≤ i) (h1 : i.toNat < L.length) : atI (L.map enc) i = some (enc L[i.toNat]) := by
  have e : i = (i.toNat : Int) := by omega
  have := atI_nat (xs := L.map enc) (j := i.toNat) (v := enc L[i.toNat]) (by rw [List.getElem?_map, List.getElem?_eq_getElem h1]; rfl)
  rw [← e] at this
  exact this
theorem at_int (L : List Int) {i : Int} (h0 : 0 ≤ i) (h1 : i < L.length) : atI (L.map PyData.int) i = some (.int (L.getD i.toNat 0)) := by
  rw [at_enc L _ h0 (by omega), List.getD_eq_getElem?_getD, List.getElem?_eq_getElem (by omega)]
  rfl
theorem at_last {α : Type} (L : List α) (enc : α → D) (h : L ≠ []) : atI (L.map enc) (-1) = some (enc (L.getLast h)) := by
  have e : L = L.dropLast ++ [L.getLast h] := (List.dropLast_concat_getLast h).symm
  have : atI ((L.dropLast ++ [L.getLast h]).map enc) (-1) = some (enc (L.getLast h)) := by
    rw [List.map_append]
    exact atI_last _ _
  rw [← e] at this
  exact this
/-! ### alike or not -/
structure Enc {α : Type} [DecidableEq α] (k : Nat) (enc : α → D) : Prop where
  ok : ∀ a, okB k (enc a) = true
  eq : ∀ a b, PyData.eqv (enc a) (enc b) = decide (a = b)
theorem encI (k : Nat) : Enc (k + 1) PyData.int := ⟨fun _ => rfl, fun a b => by rw [PyData.eqv]; rfl⟩
section
variable {α : Type} [DecidableEq α] {k : Nat} {enc : α → D}
theorem Enc.all (E : Enc k enc) : ∀ L M : List α, PyData.eqvAll (L.map enc) (M.map enc) = decide (L = M)
  | [], [] => by simp [PyData.eqvAll]
  | [], b :: M => by simp [PyData.eqvAll]
  | a :: L, [] => by simp [PyData.eqvAll]
  | a :: L, b :: M => by
    rw [List.map_cons, List.map_cons, PyData.eqvAll, E.eq, E.all L M]
    by_cases h : a = b <;> by_cases h' : L = M <;> simp [h, h']
theorem Enc.oks (E : Enc k enc) (L : List α) : (L.map enc).all (okB k) = true := by
  rw [List.all_map]
  exact List.all_eq_true.2 fun x _ => E.ok x
theorem Enc.tup (E : Enc k enc) : Enc (k + 1) fun L : List α => PyData.tuple (L.map enc) :=
  ⟨fun L => E.oks L, fun L M => by rw [PyData.eqv]; exact E.all L M⟩
theorem Enc.lst (E : Enc k enc) : Enc (k + 1) fun L : List α => PyData.list (L.map enc) :=
  ⟨fun L => E.oks L, fun L M => by rw [PyData.eqv]; exact E.all L M⟩
theorem Enc.c_eqL (E : Enc 7 enc) (L M : List α) : cmpV .eq (.list (L.map enc)) (.list (M.map enc)) = some (.bool (decide (L = M))) := by
  have e := E.lst.eq L M
  have o1 := E.lst.ok L
  have o2 := E.lst.ok M
  show (if okB 8 _ && okB 8 _ then some (PyData.bool (PyData.eqv _ _)) else none) = _
  rw [o1, o2, e]
  rfl
theorem Enc.c_neL (E : Enc 7 enc) (L M : List α) : cmpV .ne (.list (L.map enc)) (.list (M.map enc)) = some (.bool (!decide (L = M))) := by
  have e := E.lst.eq L M
  have o1 := E.lst.ok L
  have o2 := E.lst.ok M
  show (if okB 8 _ && okB 8 _ then some (PyData.bool (!PyData.eqv _ _)) else none) = _
  rw [o1, o2, e]
  rfl
theorem Enc.c_eqT (E : Enc 7 enc) (L M : List α) : cmpV .eq (.tuple (L.map enc)) (.tuple (M.map enc)) = some (.bool (decide (L = M))) := by
  have e := E.tup.eq L M
  have o1 := E.tup.ok L
  have o2 := E.tup.ok M
  show (if okB 8 _ && okB 8 _ then some (PyData.bool (PyData.eqv _ _)) else none) = _
  rw [o1, o2, e]
  rfl
theorem Enc.c_neT (E : Enc 7 enc) (L M : List α) : cmpV .ne (.tuple (L.map enc)) (.tuple (M.map enc)) = some (.bool (!decide (L = M))) := by
  have e := E.tup.eq L M
  have o1 := E.tup.ok L
  have o2 := E.tup.ok M
  show (if okB 8 _ && okB 8 _ then some (PyData.bool (!PyData.eqv _ _)) else none) = _
  rw [o1, o2, e]
  rfl
end
theorem c_eqLI {L M : List Int} : cmpV .eq (.list (L.map PyData.int)) (.list (M.map PyData.int)) = some (.bool (decide (L = M))) := (encI 6).c_eqL L M
theorem c_neLI {L M : List Int} : cmpV .ne (.list (L.map PyData.int)) (.list (M.map PyData.int)) = some (.bool (!decide (L = M))) := (encI 6).c_neL L M
theorem c_eqTI {L M : List Int} : cmpV .eq (.tuple (L.map PyData.int)) (.tuple (M.map PyData.int)) = some (.bool (decide (L = M))) := (encI 6).c_eqT L M
theorem c_neTI {L M : List Int} : cmpV .ne (.tuple (L.map PyData.int)) (.tuple (M.map PyData.int)) = some (.bool (!decide (L = M))) := (encI 6).c_neT L M
theorem c_eqL0 {L : List Int} : cmpV .eq (.list (L.map PyData.int)) (.list []) = some (.bool (decide (L = []))) := (encI 6).c_eqL L []
theorem c_neL0 {L : List Int} : cmpV .ne (.list (L.map PyData.int)) (.list []) = some (.bool (!decide (L = []))) := (encI 6).c_neL L []
theorem ii_eq {a b c d : Int} : cmpV .eq (.tuple [.int a, .int b]) (.tuple [.int c, .int d]) = some (.bool (decide (a = c ∧ b = d))) := by
  have := (encI 6).c_eqT [a, b] [c, d]
  simpa using this
theorem ii_ne {a b c d : Int} : cmpV .ne (.tuple [.int a, .int b]) (.tuple [.int c, .int d]) = some (.bool (!decide (a = c ∧ b = d))) := by
  have := (encI 6).c_neT [a, b] [c, d]
  simpa using this
theorem ii_eqn {xs : List D} : cmpV .ne (.tuple [.int 0, .int 0]) .none = some (.bool true) := rfl
/-! ### draws within a list -/
theorem comp_any {α : Type} {Φ : Fns} {own : List Nat} {tg : Tg} {ifs : List E} {elt : E} {ρ : Env} (enc : α → D) (Q : α → Prop) : ∀ (xs : List D) (n : Nat), (∀ x ∈ xs, ∀ n, ∃ a n', stepC Φ own tg ifs elt ρ x n = some ([enc a], n') ∧ Q a) → xs.length ≤ 1000000 →
    ∃ (L : List α) (n' : Nat), L.length = xs.length ∧ (∀ a ∈ L, Q a) ∧ compB Φ own tg ifs elt ρ xs n = some (.list (L.map enc), n') := by
  intro xs n h hl
  have W : ∀ (xs : List D) (n : Nat), (∀ x ∈ xs, ∀ n, ∃ a n', stepC Φ own tg ifs elt ρ x n = some ([enc a], n') ∧ Q a) → ∃ (L : List α) (n' : Nat), L.length = xs.length ∧ (∀ a ∈ L, Q a) ∧ walkL (stepC Φ own tg ifs elt ρ) xs n = some (L.map enc, n') := by
    intro xs
    induction xs with
    | nil => exact fun n _ => ⟨[], n, rfl, fun a h => by simp at h, rfl⟩
    | cons x xs ih =>
      intro n h
      obtain ⟨a, n1, e1, q⟩ := h x List.mem_cons_self n
      obtain ⟨L, n2, l2, q2, e2⟩ := ih n1 fun y hy => h y (List.mem_cons_of_mem _ hy)
      refine ⟨a :: L, n2, by simp [l2], fun b hb => ?_, ?_⟩
      · rcases List.mem_cons.1 hb with e | e
        · rw [e]; exact q
        · exact q2 b e
      · rw [walk_cons, e1, bnd_some, e2, bnd_some]
        rfl
  obtain ⟨L, n', l, q, e⟩ := W xs n h
  refine ⟨L, n', l, q, ?_⟩
  rw [comp_eq, e, bnd_some, if_pos (by rw [List.length_map, l]; exact hl)]
theorem rng_len (k : Int) : (rangeL 0 k).length = k.toNat := by
  rw [rng_map, List.length_map, List.length_range]
theorem rng_mem {k : Int} {x : D} (h : x ∈ rangeL 0 k) : ∃ i : Nat, i < k.toNat ∧ x = .int i := by
  rw [rng_map, List.mem_map] at h
  obtain ⟨i, hi, e⟩ := h
  exact ⟨i, List.mem_range.1 hi, e.symm⟩
theorem cut_pre {xs : List D} {k : Int} (h0 : 0 ≤ k) : slcV (.list xs) none (some k) = some (.list (xs.take k.toNat)) := by
  show some (PyData.list (cutL xs none (some k))) = _
  unfold cutL HT.sIx
  simp only [if_neg (by omega : ¬ k < 0), List.drop_zero, Nat.sub_zero]
  rw [List.take_eq_take_min (i := k.toNat)]
theorem cut_preT {xs : List D} {k : Int} (h0 : 0 ≤ k) : slcV (.tuple xs) none (some k) = some (.tuple (xs.take k.toNat)) := by
  show some (PyData.tuple (cutL xs none (some k))) = _
  unfold cutL HT.sIx
  simp only [if_neg (by omega : ¬ k < 0), List.drop_zero, Nat.sub_zero]
  rw [List.take_eq_take_min (i := k.toNat)]
/-- the first that is so -/
theorem filt_first (p : Nat → Bool) : ∀ (n f : Nat), f < n → p f = true → (∀ i < f, p i = false) → ∃ W, (List.range n).filter p = f :: W := by
  intro n
  induction n with
  | zero => intro f h; omega
  | succ n ih =>
    intro f hf h1 h2
    rw [List.range_succ, List.filter_append]
    by_cases c : f < n
    · obtain ⟨W, e⟩ := ih f c h1 h2
      exact ⟨W ++ _, by rw [e]; rfl⟩
    · have : f = n := by omega
      subst this
      refine ⟨[], ?_⟩
      have : (List.range f).filter p = [] := by
        rw [List.filter_eq_nil_iff]
        intro a ha
        rw [h2 a (List.mem_range.1 ha)]
        exact Bool.false_ne_true
      rw [this, List.filter_cons, h1]
      rfl
theorem filt_none (p : Nat → Bool) (n : Nat) (h : ∀ i < n, p i = false) : (List.range n).filter p = [] := by
  rw [List.filter_eq_nil_iff]
  intro a ha
  rw [h a (List.mem_range.1 ha)]
  exact Bool.false_ne_true
theorem filt_span (lo hi : Nat) (n : Nat) : (List.range n).filter (fun k => decide (lo ≤ k) && decide (k < hi)) = (List.range (min n hi - lo)).map (lo + ·) := by
  induction n with
  | zero => simp
  | succ n ih =>
    rw [List.range_succ, List.filter_append, ih, List.filter_cons, List.filter_nil]
    by_cases h1 : lo ≤ n <;> by_cases h2 : n < hi
    · have e : min (n + 1) hi - lo = min n hi - lo + 1 := by omega
      have e2 : lo + (min n hi - lo) = n := by omega
      rw [e, List.range_succ, List.map_append]
      simp [h1, h2, e2]
    · have e : min (n + 1) hi - lo = min n hi - lo := by omega
      rw [e]
      simp [h1, h2]
    · have e : min (n + 1) hi - lo = min n hi - lo := by omega
      rw [e]
      simp [h1, h2]
    · have e : min (n + 1) hi - lo = min n hi - lo := by omega
      rw [e]
      simp [h1, h2]
/-! ### fronts -/
def pre (h : Int) : List Int → List Int
  | [] => [h]
  | f :: fs => h :: pre (h + f) fs
theorem pre_len : ∀ (fs : List Int) (h : Int), (pre h fs).length = fs.length + 1
  | [], _ => rfl
  | f :: fs, h => by rw [pre, List.length_cons, pre_len fs, List.length_cons]
theorem pre_shift (a : Int) : ∀ (fs : List Int) (h : Int), pre (a + h) fs = (pre h fs).map (a + ·)
  | [], _ => rfl
  | f :: fs, h => by rw [pre, pre, List.map_cons, ← pre_shift a fs, Int.add_assoc]
theorem pre_snoc : ∀ (fs : List Int) (h f : Int), pre h (fs ++ [f]) = pre h fs ++ [h + fs.sum + f]
  | [], h, f => by simp [pre]
  | g :: fs, h, f => by rw [List.cons_append, pre, pre, pre_snoc fs, List.cons_append, List.sum_cons]; congr 3; omega
theorem pre_last : ∀ (fs : List Int) (h : Int) (p : pre h fs ≠ []), (pre h fs).getLast p = h + fs.sum
  | [], h, _ => by simp [pre]
  | f :: fs, h, _ => by
    have q : pre (h + f) fs ≠ [] := by intro e; have := pre_len fs (h + f); rw [e] at this; simp at this
    show (h :: pre (h + f) fs).getLast _ = _
    rw [List.getLast_cons q, pre_last fs, List.sum_cons]
    omega
theorem pre_ne (fs : List Int) (h : Int) : pre h fs ≠ [] := by intro e; have := pre_len fs h; rw [e] at this; simp at this
theorem encN (k : Nat) : Enc (k + 1) (fun i : Nat => PyData.int i) := ⟨fun _ => rfl, fun a b => by
  rw [PyData.eqv]
  show decide ((a : Int) = b) = _
  by_cases h : a = b
  · simp [h]
  · simp [h, show ¬ (a : Int) = b by omega]⟩
theorem c_eqN0 {L : List Nat} : cmpV .eq (.list (L.map fun i : Nat => PyData.int i)) (.list []) = some (.bool (decide (L = []))) := (encN 6).c_eqL L []
theorem c_neN0 {L : List Nat} : cmpV .ne (.list (L.map fun i : Nat => PyData.int i)) (.list []) = some (.bool (!decide (L = []))) := (encN 6).c_neL L []
theorem cut_tail {x : D} {xs : List D} : slcV (.tuple (x :: xs)) (some 1) none = some (.tuple xs) := by
  show some (PyData.tuple (cutL (x :: xs) (some 1) none)) = _
  unfold cutL HT.sIx
  simp
theorem cut_tailL {x : D} {xs : List D} : slcV (.list (x :: xs)) (some 1) none = some (.list xs) := by
  show some (PyData.list (cutL (x :: xs) (some 1) none)) = _
  unfold cutL HT.sIx
  simp
/-- the way along, stopped where it leaves -/
def run (room : Int) : Int → List Int → List Int
  | h, [] => [h]
  | h, f :: fs => if 0 ≤ h + f ∧ h + f ≤ room then h :: run room (h + f) fs else [h]
def far (room : Int) : Int → List Int → Nat
  | _, [] => 0
  | h, f :: fs => if 0 ≤ h + f ∧ h + f ≤ room then far room (h + f) fs + 1 else 0
theorem far_le (room : Int) : ∀ (fs : List Int) (h : Int), far room h fs ≤ fs.length
  | [], _ => Nat.le_refl _
  | f :: fs, h => by
    have := far_le room fs (h + f)
    unfold far
    rw [List.length_cons]
    split <;> omega
theorem run_take (room : Int) : ∀ (fs : List Int) (h : Int), run room h fs = (pre h fs).take (far room h fs + 1)
  | [], _ => rfl
  | f :: fs, h => by
    have := run_take room fs (h + f)
    unfold run far pre
    split
    · rw [this]; rfl
    · rfl
theorem run_len (room : Int) (fs : List Int) (h : Int) : (run room h fs).length = far room h fs + 1 := by
  rw [run_take, List.length_take, pre_len]
  have := far_le room fs h
  omega
theorem far_ok (room : Int) : ∀ (fs : List Int) (h : Int) (k : Nat), k < far room h fs → 0 ≤ (pre h fs).getD (k + 1) 0 ∧ (pre h fs).getD (k + 1) 0 ≤ room
  | [], _, k, h => by simp [far] at h
  | f :: fs, h, k, hk => by
    unfold far at hk
    unfold pre
    rw [List.getD_cons_succ]
    split at hk
    · cases k with
      | zero => cases fs <;> simpa [pre] using (by assumption)
      | succ k => exact far_ok room fs (h + f) k (by omega)
    · omega
theorem far_bad (room : Int) : ∀ (fs : List Int) (h : Int), far room h fs < fs.length → ¬ (0 ≤ (pre h fs).getD (far room h fs + 1) 0 ∧ (pre h fs).getD (far room h fs + 1) 0 ≤ room)
  | [], _, h => by simp [far] at h
  | f :: fs, h, hk => by
    unfold far at hk ⊢
    unfold pre
    rw [List.getD_cons_succ]
    by_cases c : 0 ≤ h + f ∧ h + f ≤ room
    · rw [if_pos c] at hk ⊢
      exact far_bad room fs (h + f) (by rw [List.length_cons] at hk; omega)
    · rw [if_neg c]
      cases fs <;> simpa [pre] using c
theorem pre_get0 (h : Int) (fs : List Int) : (pre h fs).getD 0 0 = h := by cases fs <;> rfl
/-! ### tests kept as one -/
theorem cd_some {b : Bool} {x y : D} {n : Nat} : (bif b then some (x, n) else some (y, n)) = some (bif b then x else y, n) := by cases b <;> rfl
theorem cd_bb {b x y : Bool} : (bif b then PyData.bool x else PyData.bool y) = .bool (bif b then x else y) := by cases b <;> rfl
theorem cd_ii {b : Bool} {x y : Int} : (bif b then PyData.int x else PyData.int y) = .int (bif b then x else y) := by cases b <;> rfl
theorem cd_ll {b : Bool} {x y : List D} : (bif b then PyData.list x else PyData.list y) = .list (bif b then x else y) := by cases b <;> rfl
theorem cd_tt {b : Bool} {x y : List D} : (bif b then PyData.tuple x else PyData.tuple y) = .tuple (bif b then x else y) := by cases b <;> rfl
theorem cd_and {b x : Bool} : (bif b then x else false) = (b && x) := by cases b <;> rfl
theorem cd_or {b x : Bool} : (bif b then true else x) = (b || x) := by cases b <;> rfl
theorem cd_decI {p : Prop} [Decidable p] {x y : Int} : (bif decide p then x else y) = if p then x else y := cond_dec
theorem cd_decL {p : Prop} [Decidable p] {x y : List D} : (bif decide p then x else y) = if p then x else y := cond_dec
theorem cd_oi {p q : Bool} {x y : Int} : cmpV .ne (bif p then PyData.int x else .none) (bif q then PyData.int y else .none) = some (.bool (!(decide (p = q) && (!p || decide (x = y))))) := by
  cases p <;> cases q <;> simp [c_neI, c_ne_nn, c_ne_in, c_ne_ni]
theorem cd_oe {p q : Bool} {x y : Int} : cmpV .eq (bif p then PyData.int x else .none) (bif q then PyData.int y else .none) = some (.bool (decide (p = q) && (!p || decide (x = y)))) := by
  cases p <;> cases q <;> simp [c_eqI, c_eq_nn, c_eq_in, c_eq_ni]
mutual
theorem eqv_refl : ∀ (k : Nat) (d : D), okB k d = true → PyData.eqv d d = true
  | 0, _, h => by cases h
  | k + 1, .none, _ => by rw [PyData.eqv]
  | k + 1, .bool b, _ => by rw [PyData.eqv]; simp
  | k + 1, .int b, _ => by rw [PyData.eqv]; simp
  | k + 1, .str b, _ => by rw [PyData.eqv]; simp
  | k + 1, .dict _, h => by cases h
  | k + 1, .list xs, h => by rw [PyData.eqv]; exact eqv_reflA k xs h
  | k + 1, .tuple xs, h => by rw [PyData.eqv]; exact eqv_reflA k xs h
theorem eqv_reflA : ∀ (k : Nat) (xs : List D), xs.all (okB k) = true → PyData.eqvAll xs xs = true
  | _, [], _ => by rw [PyData.eqvAll]
  | k, x :: xs, h => by
    rw [List.all_cons, Bool.and_eq_true] at h
    rw [PyData.eqvAll, eqv_refl k x h.1, eqv_reflA k xs h.2]
    rfl
end
theorem c_ne_refl {x : D} (h : okB 8 x = true) : cmpV .ne x x = some (.bool false) := by
  have e := eqv_refl 8 x h
  cases x with
  | int i => simp [c_neI]
  | none => rfl
  | dict _ => cases h
  | bool b => cases b <;> rfl
  | str b => show some (PyData.bool (!PyData.eqv (.str b) (.str b))) = _; rw [e]; rfl
  | list b => show (if okB 8 _ && okB 8 _ then some (PyData.bool (!PyData.eqv _ _)) else none) = _; rw [e, h]; rfl
  | tuple b => show (if okB 8 _ && okB 8 _ then some (PyData.bool (!PyData.eqv _ _)) else none) = _; rw [e, h]; rfl
theorem c_eq_refl {x : D} (h : okB 8 x = true) : cmpV .eq x x = some (.bool true) := by
  have e := eqv_refl 8 x h
  cases x with
  | int i => simp [c_eqI]
  | none => rfl
  | dict _ => cases h
  | bool b => cases b <;> rfl
  | str b => show some (PyData.bool (PyData.eqv (.str b) (.str b))) = _; rw [e]
  | list b => show (if okB 8 _ && okB 8 _ then some (PyData.bool (PyData.eqv _ _)) else none) = _; rw [e, h]; rfl
  | tuple b => show (if okB 8 _ && okB 8 _ then some (PyData.bool (PyData.eqv _ _)) else none) = _; rw [e, h]; rfl
theorem ok_bif {k : Nat} {b : Bool} {x y : D} (h1 : okB k x = true) (h2 : okB k y = true) : okB k (bif b then x else y) = true := by cases b <;> assumption
theorem ok_if {k : Nat} {p : Prop} [Decidable p] {x y : D} (h1 : okB k x = true) (h2 : okB k y = true) : okB k (if p then x else y) = true := by split <;> assumption
theorem ss_lazy {Φ : Fns} {ρ : Env} {n : Nat} {ss : List S} {s : S} : evSs Φ (s :: ss) ρ n = bns (evS Φ s ρ n) (evSs Φ ss) := rfl
theorem c_eq_cn {x : D} {xs : List D} (h : okB 8 (.list (x :: xs)) = true) : cmpV .eq (.list (x :: xs)) (.list []) = some (.bool false) := by
  show (if okB 8 (.list (x :: xs)) && okB 8 (.list []) then some (PyData.bool (PyData.eqv (.list (x :: xs)) (.list []))) else none) = _
  rw [h, PyData.eqv, PyData.eqvAll]
  rfl
theorem c_ne_cn {x : D} {xs : List D} (h : okB 8 (.list (x :: xs)) = true) : cmpV .ne (.list (x :: xs)) (.list []) = some (.bool true) := by
  show (if okB 8 (.list (x :: xs)) && okB 8 (.list []) then some (PyData.bool (!PyData.eqv (.list (x :: xs)) (.list []))) else none) = _
  rw [h, PyData.eqv, PyData.eqvAll]
  rfl
theorem c_eq_00 : cmpV .eq (.list []) (.list []) = some (.bool true) := c_eq_refl rfl
theorem c_ne_00 : cmpV .ne (.list []) (.list []) = some (.bool false) := c_ne_refl rfl
theorem mn_1 {a : Int} : biV .min [.list [.int a]] = some (.int a) := bi_minL (L := [a]) (by simp)
theorem mn_2 {a b : Int} : biV .min [.list [.int a, .int b]] = some (.int (min a b)) := bi_minL (L := [a, b]) (by simp)
theorem mx_1 {a : Int} : biV .max [.list [.int a]] = some (.int a) := bi_maxL (L := [a]) (by simp)
theorem mx_2 {a b : Int} : biV .max [.list [.int a, .int b]] = some (.int (max a b)) := bi_maxL (L := [a, b]) (by simp)
theorem pre_neg (h : Int) : ∀ (L : List Int) (a : Int), pre (h - a) (L.map fun c => -c) = (pre a L).map fun x => h - x
  | [], _ => rfl
  | c :: L, a => by
    rw [List.map_cons, pre, pre, List.map_cons, ← pre_neg h L, show h - (a + c) = h - a + -c by omega]
theorem getD_map {L : List Int} {f : Int → Int} {j : Nat} (h : j < L.length) : (L.map f).getD j 0 = f (L.getD j 0) := by
  rw [List.getD_eq_getElem?_getD, List.getD_eq_getElem?_getD, List.getElem?_map, List.getElem?_eq_getElem h]
  rfl
theorem bns_some {α : Type} {p : Fl × Env × Nat} {k : Env → Nat → Out} : bns (some p) k = match p with
    | (.nx, ρ, n) => k ρ n
    | r => some r := by
  obtain ⟨f, ρ, n⟩ := p
  cases f <;> rfl
theorem ss_app {Φ : Fns} {B : List S} : ∀ {A : List S} {ρ : Env} {n : Nat}, evSs Φ (A ++ B) ρ n = bns (evSs Φ A ρ n) (evSs Φ B)
  | [], ρ, n => rfl
  | s :: A, ρ, n => by
    rw [List.cons_append, ss_lazy, ss_lazy]
    generalize evS Φ s ρ n = o
    cases o with
    | none => rfl
    | some p =>
      obtain ⟨f, ρ', n'⟩ := p
      cases f with
      | nx => exact ss_app (A := A)
      | _ => rfl
/-- the body, cut behind its k-th row -/
theorem ss_cut {Φ : Fns} {ρ : Env} {n : Nat} {b : List S} (k : Nat) : evSs Φ b ρ n = bns (evSs Φ (b.take k) ρ n) (evSs Φ (b.drop k)) := by
  rw [← ss_app, List.take_append_drop]
theorem Phi_fr {L : List (List D → Nat → Option (D × Nat))} {fs : List Bool} {wb g : Nat} : (Phi L fs wb).fr g = fs.getD g false := rfl
theorem filt_lt (F n : Nat) : (List.range n).filter (fun k => decide (k < F)) = List.range (min n F) := by
  have h := filt_span 0 F n
  simp only [Nat.zero_le, decide_true, Bool.true_and, Nat.sub_zero, Nat.zero_add, List.map_id'] at h
  exact h
theorem bi_max3 {a b c : Int} : biV .max [.int a, .int b, .int c] = some (.int (max (max a b) c)) := by rw [← max2_eq, ← max2_eq]; rfl
theorem bi_min3 {a b c : Int} : biV .min [.int a, .int b, .int c] = some (.int (min (min a b) c)) := by rw [← min2_eq, ← min2_eq]; rfl
theorem bi_sort {xs : List D} (h : sortOk xs = true) : biV .sorted [.list xs] = some (.list (sortD xs)) := by
  show (if sortOk xs then some (PyData.list (sortD xs)) else none) = _
  rw [if_pos h]
theorem pre_map_head (h : Int) (L : List Int) : ∃ r, pre h L = h :: r := by cases L <;> exact ⟨_, rfl⟩
theorem ok_nats {k : Nat} {L : List Nat} : (L.map fun i : Nat => PyData.int i).all (okB (k + 1)) = true := by
  rw [List.all_map]
  exact List.all_eq_true.2 fun x _ => rfl
theorem dc_t {p : Prop} [Decidable p] (h : p) : decide p = true := decide_eq_true h
theorem dc_f {p : Prop} [Decidable p] (h : ¬ p) : decide p = false := decide_eq_false h
end EV
end

section
/-! C_k37: the defs of law_k37_whole_known_ways_up_and_down as pieces of EV's language, printed by gen.py. -/
namespace EV.k37
open PySem EV
def wb : Nat := 1000000
/-- a draw: what stands next, by the remainder -/
def fn__law_next (ds : List Int) : List D → Nat → Option (D × Nat)
  | [.dict [(.none, .none)], .int m], n => if 0 < m then some (.int (ds.getD n 0 % m), n + 1) else none
  | _, _ => none

/-! ### taken_on: car 0, stretch 1, room 2, flat 3, climb 4, back 5, found 6 -/
def b_taken_on : List S := [
  .asg (.tp [.nm 2, .nm 3, .nm 4, .nm 5]) (.var 0),
  .asg (.nm 6) (.op .add (.op .mul (.var 3) (.idx (.var 1) (.int 0))) (.op .mul (.var 4) (.idx (.var 1) (.int 1)))),
  .ret (.ifx (.cmp .ge (.var 6) (.int 0)) (.var 6) (.neg (.op .fdiv (.op .mul (.neg (.var 6)) (.var 5)) (.int 100))))]
abbrev Ph_taken_on (ds : List Int) : Fns := Phi [fn__law_next ds] [false] wb
def fn_taken_on (ds : List Int) : List D → Nat → Option (D × Nat) := evF (Ph_taken_on ds) false 2 7 b_taken_on
/-! ### held_on_way: car 0, held 1, route 2, found 3, stretch 4, later 5 -/
def b_held_on_way_1 : List S := [
  .asg (.nm 5) (.op .sub (.idx (.var 3) (.neg (.int 1))) (.call 1 [.var 0, .var 4])),
  .ite (.cmp .lt (.var 5) (.int 0)) [.ret (.bi .tuple [.var 3])] [],
  .sm .append 3 [.bi .min [.idx (.var 0) (.int 0), .var 5]]]
def b_held_on_way : List S := [
  .asg (.nm 3) (.lst [.var 1]),
  .for (.nm 4) (.var 2) b_held_on_way_1,
  .ret (.bi .tuple [.var 3])]
abbrev Ph_held_on_way (ds : List Int) : Fns := Phi [fn__law_next ds, fn_taken_on ds] [false, false] wb
def fn_held_on_way (ds : List Int) : List D → Nat → Option (D × Nat) := evF (Ph_held_on_way ds) false 3 6 b_held_on_way
/-! ### comes_to_end: car 0, held 1, route 2 -/
def b_comes_to_end : List S := [
  .ret (.cmp .eq (.bi .len [.call 2 [.var 0, .var 1, .var 2]]) (.op .add (.bi .len [.var 2]) (.int 1)))]
abbrev Ph_comes_to_end (ds : List Int) : Fns := Phi [fn__law_next ds, fn_taken_on ds, fn_held_on_way ds] [false, false, false] wb
def fn_comes_to_end (ds : List Int) : List D → Nat → Option (D × Nat) := evF (Ph_comes_to_end ds) false 3 3 b_comes_to_end
/-! ### least_needed: car 0, route 1, goal 2, need 3, stretch 4 -/
def b_least_needed_1 : List S := [
  .ite (.cmp .gt (.var 3) (.idx (.var 0) (.int 0))) [.ret (.non)] [],
  .asg (.nm 3) (.bi .max [.int 0, .op .add (.var 3) (.call 1 [.var 0, .var 4]), .call 1 [.var 0, .var 4]])]
def b_least_needed : List S := [
  .asg (.nm 3) (.var 2),
  .for (.nm 4) (.rev (.var 1)) b_least_needed_1,
  .ret (.ifx (.cmp .le (.var 3) (.idx (.var 0) (.int 0))) (.var 3) (.non))]
abbrev Ph_least_needed (ds : List Int) : Fns := Phi [fn__law_next ds, fn_taken_on ds, fn_held_on_way ds, fn_comes_to_end ds] [false, false, false, false] wb
def fn_least_needed (ds : List Int) : List D → Nat → Option (D × Nat) := evF (Ph_least_needed ds) false 3 5 b_least_needed
/-! ### turned_route: route 0, long 1, rise 2 -/
def b_turned_route : List S := [
  .ret (.bi .tuple [.comp [1, 2] (.tp [.nm 1, .nm 2]) (.rev (.var 0)) [] (.tup [.var 1, .neg (.var 2)])])]
abbrev Ph_turned_route (ds : List Int) : Fns := Phi [fn__law_next ds, fn_taken_on ds, fn_held_on_way ds, fn_comes_to_end ds, fn_least_needed ds] [false, false, false, false, false] wb
def fn_turned_route (ds : List Int) : List D → Nat → Option (D × Nat) := evF (Ph_turned_route ds) false 1 3 b_turned_route
/-! ### _law_holds: w 0, route 1, car 2, takes 3, long 4, rise 5, own 6, held 7, rows 8, goal 9, need 10, is_there 11, k 12, stretch 13 -/
def b__law_holds_1 : List S := [
  .asg (.nm 6) (.op .add (.op .mul (.idx (.var 2) (.int 1)) (.var 4)) (.op .mul (.idx (.var 2) (.int 2)) (.var 5))),
  .sm .append 3 [.ifx (.cmp .ge (.var 6) (.int 0)) (.var 6) (.op .sub (.int 0) (.op .fdiv (.op .mul (.op .sub (.int 0) (.var 6)) (.idx (.var 2) (.int 3))) (.int 100)))]]
def b__law_holds_2 : List S := [
  .ite (.cmp .lt (.op .sub (.idx (.var 8) (.neg (.int 1))) (.var 6)) (.int 0)) [.brk] [],
  .sm .append 8 [.bi .min [.idx (.var 2) (.int 0), .op .sub (.idx (.var 8) (.neg (.int 1))) (.var 6)]]]
def b__law_holds_3 : List S := [
  .asg (.nm 10) (.bi .max [.int 0, .op .add (.var 10) (.var 6)]),
  .asg (.nm 11) (.and (.var 11) (.cmp .le (.var 10) (.idx (.var 2) (.int 0))))]
def b__law_holds : List S := [
  .asg (.nm 1) (.bi .tuple [.comp [12] (.nm 12) (.bi .range [.call 0 [.var 0, .int 5]]) [] (.tup [.op .add (.int 1) (.call 0 [.var 0, .int 5]), .op .sub (.call 0 [.var 0, .int 9]) (.int 4)])]),
  .asg (.nm 2) (.tup [.op .add (.int 1) (.call 0 [.var 0, .int 60]), .call 0 [.var 0, .int 4], .call 0 [.var 0, .int 4], .call 0 [.var 0, .int 101]]),
  .asg (.nm 3) (.lst []),
  .for (.tp [.nm 4, .nm 5]) (.var 1) b__law_holds_1,
  .ite (.cmp .ne (.comp [13] (.nm 13) (.var 1) [] (.call 1 [.var 2, .var 13])) (.var 3)) [.ret (.bl false)] [],
  .par [7, 8] [.call 0 [.var 0, .op .add (.idx (.var 2) (.int 0)) (.int 1)], .lst []],
  .sm .append 8 [.var 7],
  .frz 3,
  .for (.nm 6) (.var 3) b__law_holds_2,
  .ite (.or (.cmp .ne (.call 2 [.var 2, .var 7, .var 1]) (.bi .tuple [.var 8])) (.cmp .ne (.call 3 [.var 2, .var 7, .var 1]) (.cmp .eq (.bi .len [.var 8]) (.op .add (.bi .len [.var 1]) (.int 1))))) [.ret (.bl false)] [],
  .asg (.nm 9) (.call 0 [.var 0, .op .add (.idx (.var 2) (.int 0)) (.int 1)]),
  .par [10, 11] [.var 9, .bl true],
  .for (.nm 6) (.rev (.var 3)) b__law_holds_3,
  .ret (.and (.cmp .eq (.call 4 [.var 2, .var 1, .var 9]) (.ifx (.var 11) (.var 10) (.non))) (.cmp .eq (.call 5 [.call 5 [.var 1]]) (.var 1)))]
abbrev Ph__law_holds (ds : List Int) : Fns := Phi [fn__law_next ds, fn_taken_on ds, fn_held_on_way ds, fn_comes_to_end ds, fn_least_needed ds, fn_turned_route ds] [false, false, false, false, false, false] wb
def fn__law_holds (ds : List Int) : List D → Nat → Option (D × Nat) := evF (Ph__law_holds ds) false 1 14 b__law_holds
end EV.k37
end

section
open PySem EV L2
local macro_rules | `(tactic| walk_at "ev") => `(tactic| simp (maxSteps := 4000000) (implicitDefEqProofs := false) (disch := first | omega | assumption | (simp only [List.length_map, List.length_append, List.length_cons, List.length_nil, pre_len, List.length_range, List.length_take, List.length_reverse] <;> omega) | (simp only [ok_tup, ok_lst, ok_int, ok_bool, ok_none, ok_str, ok_ints, ok_nats, List.all_cons, List.all_nil, Bool.and_self]) | decide) only [getV_v, getV_s, getB_v, getB_o, getB_s, getO_o, getO_v, getO_s, frz_v, frz_o, frz_u, frz_s, wipe_nil, wipe_cons, hold_int, hold_bool, hold_str, hold_none, hold_tup, hold_false, hold_list, hold_dict, e_var, e_int, e_str, e_bl, e_non, e_op, e_neg, negV_int, e_not, e_and, e_or, e_cmp, e_chn, e_ifx, e_tup, e_lst, e_call, e_bi, e_idx, e_slc, e_rev, e_mth, e_comp, o_none, o_some, intO_int, es_nil, es_cons, bs_nil, bs_cons, t_nil, t_one, b_var, b_int, b_str, b_bl, b_non, b_op, b_neg, b_not, b_and, b_or, b_cmp, b_chn, b_ifx, b_tup, b_lst, b_call, b_bi, b_idx, b_slc, b_rev, b_mth, b_comp, b_comp2, b_dic, asB_bool, cond_not, v_addI, v_subI, v_mulI, v_fdivI, v_modI, v_addT, v_addL, v_addS, v_mulT, v_mulL, c_eqI, c_neI, c_ltI, c_leI, c_gtI, c_geI, c_is_nn, c_isn_nn, c_is_in, c_isn_in, c_is_tn, c_isn_tn, c_is_bb, c_isn_bb, bi_lenL, bi_lenT, bi_sumL, bi_sumT, bi_abs, bi_intI, bi_intB, bi_max2, bi_min2, bi_tupL, bi_tupT, bi_lstL, bi_lstT, bi_range1, bi_range2, it_list, it_tup, ix_T, ix_L, at0, at1, at2, at3, atL, atLc, at1s, ss_nil, bns_nx, bns_ret, bns_brk, bns_ct, s_asg, s_asgv, s_par, s_set, s_aug, s_augs, s_sm, s_ret, s_retv, s_retN, s_ite, s_whl, whlK_nx, whlK_ct, whlK_brk, whlK_ret, s_for, forK_nx, forK_ct, forK_brk, forK_ret, s_brk, s_cont, s_pass, s_frz, outE_some, bt_nm, bt_tp, bt_nil, bt_cons, par_nil, par_cons, sm_app, isI_int, fin_ret, fin_retT, fin_nx, Phi_ev, Phi_wb, getD_z, getD_s, st_z, st_s, f_var, f_int, f_str, f_bl, f_non, f_op, f_neg, f_tup, f_lst, f_bi, f_ifx, f_idx, f_comp, f_slc, f_rev, f_call, bnd_some, bnd_none, Option.map_some, Option.bind_some, Option.map_none, Option.bind_none, Option.isSome_some, Option.isSome_none, List.map_cons, List.map_nil, List.cons_append, List.nil_append, List.replicate_succ, List.replicate_zero, cond_true, cond_false, Nat.reduceSub, Nat.reduceAdd, Bool.and_self, Bool.not_true, Bool.not_false, Bool.and_true, Bool.true_and, Bool.and_false, Bool.false_and, if_true, if_false, Bool.false_eq_true, reduceIte, decide_true, decide_false, List.length_cons, List.length_nil, intsOf_map, boolsOf_map, io_nil, io_cons, decide_eq_true_eq, List.sum_cons, List.sum_nil, Nat.reduceLeDiff, Nat.reduceEqDiff, Int.reduceLE, Int.reduceLT, Int.reduceAdd, Int.reduceSub, Int.reduceMul, Int.reduceNeg, Int.reduceEq, Int.reduceDiv, Int.reduceMod, Int.reduceToNat, Int.zero_add, ok_none, ok_int, ok_bool, ok_str, ok_tup, ok_lst, ok_ints, c_eq_nn, c_ne_nn, c_eq_in, c_ne_in, c_eq_ni, c_ne_ni, c_eq_bb, c_ne_bb, List.all_cons, List.all_nil, bi_maxL, bi_maxT, bi_minL, bi_minT, at_int, c_eqLI, c_neLI, c_eqTI, c_neTI, c_eqL0, c_neL0, ii_eq, ii_ne, cut_pre, cut_preT, List.length_map, c_eqN0, c_neN0, cut_tail, cut_tailL, pre_len, ite_t, ite_f, ss_lazy, c_eq_cn, c_ne_cn, c_eq_00, c_ne_00, mn_1, mn_2, mx_1, mx_2, c_ne_refl, c_eq_refl, Phi_fr, Int.toNat_natCast, eq_self, bi_max3, bi_min3, bi_sort, Int.zero_sub, ok_nats, cd_some, cd_bb, cd_ii, cd_ll, cd_tt, cd_and, cd_or, cd_decI, cd_decL, cd_oi, cd_oe, Bool.or_false, Bool.or_true, Bool.or_self, Bool.not_not, Bool.decide_and, Bool.decide_or, Bool.false_or, Bool.true_or, dc_t, dc_f])
local macro_rules | `(tactic| walk_at "evs") => `(tactic| simp (maxSteps := 4000000) (implicitDefEqProofs := false) (disch := first | omega | assumption | (simp only [List.length_map, List.length_append, List.length_cons, List.length_nil, pre_len, List.length_range, List.length_take, List.length_reverse] <;> omega) | (simp only [ok_tup, ok_lst, ok_int, ok_bool, ok_none, ok_str, ok_ints, ok_nats, List.all_cons, List.all_nil, Bool.and_self]) | decide) only [getV_v, getV_s, getB_v, getB_o, getB_s, getO_o, getO_v, getO_s, frz_v, frz_o, frz_u, frz_s, wipe_nil, wipe_cons, hold_int, hold_bool, hold_str, hold_none, hold_tup, hold_false, hold_list, hold_dict, e_var, e_int, e_str, e_bl, e_non, e_op, e_neg, negV_int, e_not, e_and, e_or, e_cmp, e_chn, e_ifx, e_tup, e_lst, e_call, e_bi, e_idx, e_slc, e_rev, e_mth, e_comp, o_none, o_some, intO_int, es_nil, es_cons, bs_nil, bs_cons, t_nil, t_one, b_var, b_int, b_str, b_bl, b_non, b_op, b_neg, b_not, b_and, b_or, b_cmp, b_chn, b_ifx, b_tup, b_lst, b_call, b_bi, b_idx, b_slc, b_rev, b_mth, b_comp, b_comp2, b_dic, asB_bool, cond_not, v_addI, v_subI, v_mulI, v_fdivI, v_modI, v_addT, v_addL, v_addS, v_mulT, v_mulL, c_eqI, c_neI, c_ltI, c_leI, c_gtI, c_geI, c_is_nn, c_isn_nn, c_is_in, c_isn_in, c_is_tn, c_isn_tn, c_is_bb, c_isn_bb, bi_lenL, bi_lenT, bi_sumL, bi_sumT, bi_abs, bi_intI, bi_intB, bi_max2, bi_min2, bi_tupL, bi_tupT, bi_lstL, bi_lstT, bi_range1, bi_range2, it_list, it_tup, ix_T, ix_L, at0, at1, at2, at3, atL, atLc, at1s, ss_nil, bns_nx, bns_ret, bns_brk, bns_ct, s_asg, s_asgv, s_par, s_set, s_aug, s_augs, s_sm, s_ret, s_retv, s_retN, s_ite, s_whl, whlK_nx, whlK_ct, whlK_brk, whlK_ret, s_for, forK_nx, forK_ct, forK_brk, forK_ret, s_brk, s_cont, s_pass, s_frz, outE_some, bt_nm, bt_tp, bt_nil, bt_cons, par_nil, par_cons, sm_app, isI_int, fin_ret, fin_retT, fin_nx, Phi_ev, Phi_wb, getD_z, getD_s, st_z, st_s, f_var, f_int, f_str, f_bl, f_non, f_op, f_neg, f_tup, f_lst, f_bi, f_ifx, f_idx, f_comp, f_slc, f_rev, f_call, bnd_some, bnd_none, Option.map_some, Option.bind_some, Option.map_none, Option.bind_none, Option.isSome_some, Option.isSome_none, List.map_cons, List.map_nil, List.cons_append, List.nil_append, List.replicate_succ, List.replicate_zero, cond_true, cond_false, Nat.reduceSub, Nat.reduceAdd, Bool.and_self, Bool.not_true, Bool.not_false, Bool.and_true, Bool.true_and, Bool.and_false, Bool.false_and, if_true, if_false, Bool.false_eq_true, reduceIte, decide_true, decide_false, List.length_cons, List.length_nil, intsOf_map, boolsOf_map, io_nil, io_cons, decide_eq_true_eq, List.sum_cons, List.sum_nil, Nat.reduceLeDiff, Nat.reduceEqDiff, Int.reduceLE, Int.reduceLT, Int.reduceAdd, Int.reduceSub, Int.reduceMul, Int.reduceNeg, Int.reduceEq, Int.reduceDiv, Int.reduceMod, Int.reduceToNat, Int.zero_add, ok_none, ok_int, ok_bool, ok_str, ok_tup, ok_lst, ok_ints, c_eq_nn, c_ne_nn, c_eq_in, c_ne_in, c_eq_ni, c_ne_ni, c_eq_bb, c_ne_bb, List.all_cons, List.all_nil, bi_maxL, bi_maxT, bi_minL, bi_minT, at_int, c_eqLI, c_neLI, c_eqTI, c_neTI, c_eqL0, c_neL0, ii_eq, ii_ne, cut_pre, cut_preT, List.length_map, c_eqN0, c_neN0, cut_tail, cut_tailL, pre_len, ite_t, ite_f, ss_lazy, c_eq_cn, c_ne_cn, c_eq_00, c_ne_00, mn_1, mn_2, mx_1, mx_2, c_ne_refl, c_eq_refl, Phi_fr, Int.toNat_natCast, eq_self, bi_max3, bi_min3, bi_sort, Int.zero_sub, ok_nats, cd_some, cd_bb, cd_ii, cd_ll, cd_tt, cd_and, cd_or, cd_decI, cd_decL, cd_oi, cd_oe, Bool.or_false, Bool.or_true, Bool.or_self, Bool.not_not, Bool.decide_and, Bool.decide_or, Bool.false_or, Bool.true_or, dc_t, dc_f, *])
local macro_rules | `(tactic| walk_at "evi") => `(tactic| simp (maxSteps := 4000000) (implicitDefEqProofs := false) (disch := first | omega | assumption | (simp only [List.length_map, List.length_append, List.length_cons, List.length_nil, pre_len, List.length_range, List.length_take, List.length_reverse] <;> omega) | (simp only [ok_tup, ok_lst, ok_int, ok_bool, ok_none, ok_str, ok_ints, ok_nats, List.all_cons, List.all_nil, Bool.and_self]) | decide) only [getV_v, getV_s, getB_v, getB_o, getB_s, getO_o, getO_v, getO_s, frz_v, frz_o, frz_u, frz_s, wipe_nil, wipe_cons, hold_int, hold_bool, hold_str, hold_none, hold_tup, hold_false, hold_list, hold_dict, e_var, e_int, e_str, e_bl, e_non, e_op, e_neg, negV_int, e_not, e_and, e_or, e_cmp, e_chn, e_ifx, e_tup, e_lst, e_call, e_bi, e_idx, e_slc, e_rev, e_mth, e_comp, o_none, o_some, intO_int, es_nil, es_cons, bs_nil, bs_cons, t_nil, t_one, b_var, b_int, b_str, b_bl, b_non, b_op, b_neg, b_not, b_and, b_or, b_cmp, b_chn, b_ifx, b_tup, b_lst, b_call, b_bi, b_idx, b_slc, b_rev, b_mth, b_comp, b_comp2, b_dic, asB_bool, cond_not, v_addI, v_subI, v_mulI, v_fdivI, v_modI, v_addT, v_addL, v_addS, v_mulT, v_mulL, c_eqI, c_neI, c_ltI, c_leI, c_gtI, c_geI, c_is_nn, c_isn_nn, c_is_in, c_isn_in, c_is_tn, c_isn_tn, c_is_bb, c_isn_bb, bi_lenL, bi_lenT, bi_sumL, bi_sumT, bi_abs, bi_intI, bi_intB, bi_max2, bi_min2, bi_tupL, bi_tupT, bi_lstL, bi_lstT, bi_range1, bi_range2, it_list, it_tup, ix_T, ix_L, at0, at1, at2, at3, atL, atLc, at1s, ss_nil, bns_nx, bns_ret, bns_brk, bns_ct, s_asg, s_asgv, s_par, s_set, s_aug, s_augs, s_sm, s_ret, s_retv, s_retN, s_ite, s_whl, whlK_nx, whlK_ct, whlK_brk, whlK_ret, s_for, forK_nx, forK_ct, forK_brk, forK_ret, s_brk, s_cont, s_pass, s_frz, outE_some, bt_nm, bt_tp, bt_nil, bt_cons, par_nil, par_cons, sm_app, isI_int, fin_ret, fin_retT, fin_nx, Phi_ev, Phi_wb, getD_z, getD_s, st_z, st_s, f_var, f_int, f_str, f_bl, f_non, f_op, f_neg, f_tup, f_lst, f_bi, f_ifx, f_idx, f_comp, f_slc, f_rev, f_call, bnd_some, bnd_none, Option.map_some, Option.bind_some, Option.map_none, Option.bind_none, Option.isSome_some, Option.isSome_none, List.map_cons, List.map_nil, List.cons_append, List.nil_append, List.replicate_succ, List.replicate_zero, cond_true, cond_false, Nat.reduceSub, Nat.reduceAdd, Bool.and_self, Bool.not_true, Bool.not_false, Bool.and_true, Bool.true_and, Bool.and_false, Bool.false_and, if_true, if_false, Bool.false_eq_true, reduceIte, decide_true, decide_false, List.length_cons, List.length_nil, intsOf_map, boolsOf_map, io_nil, io_cons, decide_eq_true_eq, List.sum_cons, List.sum_nil, Nat.reduceLeDiff, Nat.reduceEqDiff, Int.reduceLE, Int.reduceLT, Int.reduceAdd, Int.reduceSub, Int.reduceMul, Int.reduceNeg, Int.reduceEq, Int.reduceDiv, Int.reduceMod, Int.reduceToNat, Int.zero_add, ok_none, ok_int, ok_bool, ok_str, ok_tup, ok_lst, ok_ints, c_eq_nn, c_ne_nn, c_eq_in, c_ne_in, c_eq_ni, c_ne_ni, c_eq_bb, c_ne_bb, List.all_cons, List.all_nil, bi_maxL, bi_maxT, bi_minL, bi_minT, at_int, c_eqLI, c_neLI, c_eqTI, c_neTI, c_eqL0, c_neL0, ii_eq, ii_ne, cut_pre, cut_preT, List.length_map, c_eqN0, c_neN0, cut_tail, cut_tailL, pre_len, ite_t, ite_f, ss_lazy, c_eq_cn, c_ne_cn, c_eq_00, c_ne_00, mn_1, mn_2, mx_1, mx_2, c_ne_refl, c_eq_refl, Phi_fr, Int.toNat_natCast, eq_self, bi_max3, bi_min3, bi_sort, Int.zero_sub, ok_nats, cond_dec, bnd_ite, map_ite, obind_ite, bns_ite, forK_ite, whlK_ite, fin_ite])
local macro_rules | `(tactic| walk_at "evh") => `(tactic| simp (maxSteps := 4000000) (implicitDefEqProofs := false) (disch := first | omega | assumption | (simp only [List.length_map, List.length_append, List.length_cons, List.length_nil, pre_len, List.length_range, List.length_take, List.length_reverse] <;> omega) | (simp only [ok_tup, ok_lst, ok_int, ok_bool, ok_none, ok_str, ok_ints, ok_nats, List.all_cons, List.all_nil, Bool.and_self]) | decide) only [getV_v, getV_s, getB_v, getB_o, getB_s, getO_o, getO_v, getO_s, frz_v, frz_o, frz_u, frz_s, wipe_nil, wipe_cons, hold_int, hold_bool, hold_str, hold_none, hold_tup, hold_false, hold_list, hold_dict, e_var, e_int, e_str, e_bl, e_non, e_op, e_neg, negV_int, e_not, e_and, e_or, e_cmp, e_chn, e_ifx, e_tup, e_lst, e_call, e_bi, e_idx, e_slc, e_rev, e_mth, e_comp, o_none, o_some, intO_int, es_nil, es_cons, bs_nil, bs_cons, t_nil, t_one, b_var, b_int, b_str, b_bl, b_non, b_op, b_neg, b_not, b_and, b_or, b_cmp, b_chn, b_ifx, b_tup, b_lst, b_call, b_bi, b_idx, b_slc, b_rev, b_mth, b_comp, b_comp2, b_dic, asB_bool, cond_not, v_addI, v_subI, v_mulI, v_fdivI, v_modI, v_addT, v_addL, v_addS, v_mulT, v_mulL, c_eqI, c_neI, c_ltI, c_leI, c_gtI, c_geI, c_is_nn, c_isn_nn, c_is_in, c_isn_in, c_is_tn, c_isn_tn, c_is_bb, c_isn_bb, bi_lenL, bi_lenT, bi_sumL, bi_sumT, bi_abs, bi_intI, bi_intB, bi_max2, bi_min2, bi_tupL, bi_tupT, bi_lstL, bi_lstT, bi_range1, bi_range2, it_list, it_tup, ix_T, ix_L, at0, at1, at2, at3, atL, atLc, at1s, ss_nil, bns_nx, bns_ret, bns_brk, bns_ct, s_asg, s_asgv, s_par, s_set, s_aug, s_augs, s_sm, s_ret, s_retv, s_retN, s_ite, s_whl, whlK_nx, whlK_ct, whlK_brk, whlK_ret, s_for, forK_nx, forK_ct, forK_brk, forK_ret, s_brk, s_cont, s_pass, s_frz, outE_some, bt_nm, bt_tp, bt_nil, bt_cons, par_nil, par_cons, sm_app, isI_int, fin_ret, fin_retT, fin_nx, Phi_ev, Phi_wb, getD_z, getD_s, st_z, st_s, f_var, f_int, f_str, f_bl, f_non, f_op, f_neg, f_tup, f_lst, f_bi, f_ifx, f_idx, f_comp, f_slc, f_rev, f_call, bnd_some, bnd_none, Option.map_some, Option.bind_some, Option.map_none, Option.bind_none, Option.isSome_some, Option.isSome_none, List.map_cons, List.map_nil, List.cons_append, List.nil_append, List.replicate_succ, List.replicate_zero, cond_true, cond_false, Nat.reduceSub, Nat.reduceAdd, Bool.and_self, Bool.not_true, Bool.not_false, Bool.and_true, Bool.true_and, Bool.and_false, Bool.false_and, if_true, if_false, Bool.false_eq_true, reduceIte, decide_true, decide_false, List.length_cons, List.length_nil, intsOf_map, boolsOf_map, io_nil, io_cons, decide_eq_true_eq, List.sum_cons, List.sum_nil, Nat.reduceLeDiff, Nat.reduceEqDiff, Int.reduceLE, Int.reduceLT, Int.reduceAdd, Int.reduceSub, Int.reduceMul, Int.reduceNeg, Int.reduceEq, Int.reduceDiv, Int.reduceMod, Int.reduceToNat, Int.zero_add, ok_none, ok_int, ok_bool, ok_str, ok_tup, ok_lst, ok_ints, c_eq_nn, c_ne_nn, c_eq_in, c_ne_in, c_eq_ni, c_ne_ni, c_eq_bb, c_ne_bb, List.all_cons, List.all_nil, bi_maxL, bi_maxT, bi_minL, bi_minT, at_int, c_eqLI, c_neLI, c_eqTI, c_neTI, c_eqL0, c_neL0, ii_eq, ii_ne, cut_pre, cut_preT, List.length_map, c_eqN0, c_neN0, cut_tail, cut_tailL, pre_len, ite_t, ite_f, ss_lazy, c_eq_cn, c_ne_cn, c_eq_00, c_ne_00, mn_1, mn_2, mx_1, mx_2, c_ne_refl, c_eq_refl, Phi_fr, Int.toNat_natCast, eq_self, bi_max3, bi_min3, bi_sort, Int.zero_sub, ok_nats, cond_dec, bnd_ite, map_ite, obind_ite, bns_ite, forK_ite, whlK_ite, fin_ite, *])
namespace EV.k37
theorem next_ev (ds : List Int) (n : Nat) (m : Int) (h : 0 < m) : fn__law_next ds [WLD, .int m] n = some (.int (ds.getD n 0 % m), n + 1) := by
  show (if 0 < m then _ else _) = _
  rw [if_pos h]
theorem next_ex (ds : List Int) (n : Nat) (m : Int) (h : 0 < m) : ∃ a, fn__law_next ds [WLD, .int m] n = some (.int a, n + 1) ∧ 0 ≤ a ∧ a < m :=
  ⟨_, next_ev ds n m h, Int.emod_nonneg _ (by omega), Int.emod_lt_of_pos _ h⟩
theorem mod_lo (ds : List Int) (n : Nat) (m : Int) (h : 0 < m) : 0 ≤ ds.getD n 0 % m := Int.emod_nonneg _ (by omega)
theorem mod_hi (ds : List Int) (n : Nat) (m : Int) (h : 0 < m) : ds.getD n 0 % m < m := Int.emod_lt_of_pos _ h
abbrev eP (p : Int × Int) : D := .tuple [.int p.1, .int p.2]
abbrev car (room flat climb back : Int) : D := .tuple [.int room, .int flat, .int climb, .int back]
/-- what a stretch takes -/
def tk (flat climb back : Int) (p : Int × Int) : Int := if 0 ≤ flat * p.1 + climb * p.2 then flat * p.1 + climb * p.2 else -(-(flat * p.1 + climb * p.2) * back / 100)
theorem tk_raw (flat climb : Int) (h1 : 0 ≤ flat ∧ flat ≤ 10) (h2 : 0 ≤ climb ∧ climb ≤ 10) (p : Int × Int) (hp : 0 ≤ p.1 ∧ p.1 ≤ 10 ∧ -10 ≤ p.2 ∧ p.2 ≤ 10) : -1000 ≤ flat * p.1 + climb * p.2 ∧ flat * p.1 + climb * p.2 ≤ 1000 := by
  have a1 : 0 ≤ flat * p.1 := Int.mul_nonneg h1.1 hp.1
  have a2 : flat * p.1 ≤ 10 * 10 := Int.mul_le_mul h1.2 hp.2.1 hp.1 (by omega)
  have a3 : climb * p.2 ≤ climb * 10 := Int.mul_le_mul_of_nonneg_left hp.2.2.2 h2.1
  have a4 : climb * (-10) ≤ climb * p.2 := Int.mul_le_mul_of_nonneg_left hp.2.2.1 h2.1
  omega
theorem tk_bd (flat climb back : Int) (h1 : 0 ≤ flat ∧ flat ≤ 10) (h2 : 0 ≤ climb ∧ climb ≤ 10) (h3 : 0 ≤ back ∧ back ≤ 100) (p : Int × Int) (hp : 0 ≤ p.1 ∧ p.1 ≤ 10 ∧ -10 ≤ p.2 ∧ p.2 ≤ 10) : -1000 ≤ tk flat climb back p ∧ tk flat climb back p ≤ 1000 := by
  have := tk_raw flat climb h1 h2 p hp
  unfold tk
  generalize flat * p.1 + climb * p.2 = o at *
  split
  · omega
  · have b1 : 0 ≤ -o * back := Int.mul_nonneg (by omega) h3.1
    have b2 : -o * back ≤ -o * 100 := Int.mul_le_mul_of_nonneg_left h3.2 (by omega)
    omega
theorem taken_ev (ds : List Int) (n : Nat) (room flat climb back : Int) (h1 : 0 ≤ flat ∧ flat ≤ 10) (h2 : 0 ≤ climb ∧ climb ≤ 10) (h3 : 0 ≤ back ∧ back ≤ 100) (p : Int × Int) (hp : 0 ≤ p.1 ∧ p.1 ≤ 10 ∧ -10 ≤ p.2 ∧ p.2 ≤ 10) :
    fn_taken_on ds [car room flat climb back, eP p] n = some (.int (tk flat climb back p), n) := by
  have := tk_raw flat climb h1 h2 p hp
  unfold fn_taken_on tk
  rw [evF_eq (np := 2) rfl]
  unfold b_taken_on
  by_cases c : 0 ≤ flat * p.1 + climb * p.2
  · rw [if_pos c]
    walk_at "evs"
  · rw [if_neg c]
    walk_at "evs"
/-- the way, held along -/
def wy (room : Int) : Int → List Int → List Int
  | h, [] => [h]
  | h, t :: ts => if h - t < 0 then [h] else h :: wy room (min room (h - t)) ts
theorem way_loop (ds : List Int) (n : Nat) (room flat climb back : Int) (h1 : 0 ≤ flat ∧ flat ≤ 10) (h2 : 0 ≤ climb ∧ climb ≤ 10) (h3 : 0 ≤ back ∧ back ≤ 100) (hd fs0 : D) : ∀ (xs : List (Int × Int)) (acc : List Int) (h : Int) (s4 s5 : Sl), acc.length + xs.length ≤ 1000 → (∀ p ∈ xs, 0 ≤ p.1 ∧ p.1 ≤ 10 ∧ -10 ≤ p.2 ∧ p.2 ≤ 10) →
    ∃ s4' s5' fl, forB (Ph_held_on_way ds) (.nm 4) b_held_on_way_1 (xs.map eP) [.v (car room flat climb back), .v hd, .v fs0, .o (.list (acc.map PyData.int ++ [.int h])), s4, s5] n =
      some (fl, [.v (car room flat climb back), .v hd, .v fs0, .o (.list ((acc ++ wy room h (xs.map (tk flat climb back))).map PyData.int)), s4', s5'], n) ∧ (fl = .nx ∨ fl = .ret (.tuple ((acc ++ wy room h (xs.map (tk flat climb back))).map PyData.int)) true)
  | [], acc, h, s4, s5, _, _ => ⟨s4, s5, .nx, by simp [wy, for_nil], .inl rfl⟩
  | x :: xs, acc, h, s4, s5, hb, hf => by
    have hx := hf x List.mem_cons_self
    have ht := taken_ev ds n room flat climb back h1 h2 h3 x hx
    have htb := tk_bd flat climb back h1 h2 h3 x hx
    rw [List.length_cons] at hb
    rw [List.map_cons, for_cons, List.map_cons]
    unfold b_held_on_way_1 wy
    have el : (acc.map PyData.int ++ [PyData.int h]).length = acc.length + 1 := by simp
    generalize tk flat climb back x = t at *
    by_cases k : h - t < 0
    · rw [if_pos k]
      clear hf
      walk_at "evs"
      refine ⟨.v (eP x), .v (.int (h - t)), .ret (.tuple ((acc ++ [h]).map PyData.int)) true, ?_, .inr rfl⟩
      rw [List.map_append]
      rfl
    · rw [if_neg k]
      obtain ⟨s4', s5', fl, e, hf'⟩ := way_loop ds n room flat climb back h1 h2 h3 hd fs0 xs (acc ++ [h]) (min room (h - t)) (.v (eP x)) (.v (.int (h - t))) (by simp; omega) (fun y hy => hf y (List.mem_cons_of_mem _ hy))
      clear hf
      walk_at "evs"
      refine ⟨s4', s5', fl, ?_, ?_⟩
      · unfold b_held_on_way_1 at e
        simpa [List.map_append] using e
      · simpa using hf'
theorem way_ev (ds : List Int) (n : Nat) (room flat climb back h : Int) (h1 : 0 ≤ flat ∧ flat ≤ 10) (h2 : 0 ≤ climb ∧ climb ≤ 10) (h3 : 0 ≤ back ∧ back ≤ 100) (xs : List (Int × Int)) (hb : xs.length ≤ 900) (hf : ∀ p ∈ xs, 0 ≤ p.1 ∧ p.1 ≤ 10 ∧ -10 ≤ p.2 ∧ p.2 ≤ 10) :
    fn_held_on_way ds [car room flat climb back, .int h, .tuple (xs.map eP)] n = some (.tuple ((wy room h (xs.map (tk flat climb back))).map PyData.int), n) := by
  unfold fn_held_on_way
  rw [evF_eq (np := 3) rfl]
  unfold b_held_on_way
  obtain ⟨s4, s5, fl, e, hf⟩ := way_loop ds n room flat climb back h1 h2 h3 (.int h) (.tuple (xs.map eP)) xs [] h .u .u (by simp; omega) hf
  rw [List.map_nil, List.nil_append, List.nil_append] at e
  rw [List.nil_append] at hf
  rcases hf with hf | hf <;> subst hf <;> walk_at "evs"
theorem end_ev (ds : List Int) (n : Nat) (room flat climb back h : Int) (h1 : 0 ≤ flat ∧ flat ≤ 10) (h2 : 0 ≤ climb ∧ climb ≤ 10) (h3 : 0 ≤ back ∧ back ≤ 100) (xs : List (Int × Int)) (hb : xs.length ≤ 900) (hf : ∀ p ∈ xs, 0 ≤ p.1 ∧ p.1 ≤ 10 ∧ -10 ≤ p.2 ∧ p.2 ≤ 10) :
    fn_comes_to_end ds [car room flat climb back, .int h, .tuple (xs.map eP)] n = some (.bool (decide (((wy room h (xs.map (tk flat climb back))).length : Int) = xs.length + 1)), n) := by
  have e := way_ev ds n room flat climb back h h1 h2 h3 xs hb hf
  unfold fn_comes_to_end
  rw [evF_eq (np := 3) rfl]
  unfold b_comes_to_end
  clear hf
  walk_at "evs"
/-- what is needed, from the end on; none: more than the room -/
def nd (room : Int) : Int → List Int → Option Int
  | g, [] => if g ≤ room then some g else none
  | g, t :: ts => if room < g then none else nd room (max 0 (g + t)) ts
theorem need_loop (ds : List Int) (n : Nat) (room flat climb back : Int) (h1 : 0 ≤ flat ∧ flat ≤ 10) (h2 : 0 ≤ climb ∧ climb ≤ 10) (h3 : 0 ≤ back ∧ back ≤ 100) (a1 a2 : D) : ∀ (xs : List (Int × Int)) (need : Int) (s4 : Sl), (∀ p ∈ xs, 0 ≤ p.1 ∧ p.1 ≤ 10 ∧ -10 ≤ p.2 ∧ p.2 ≤ 10) → 0 ≤ need →
    (∃ r, forB (Ph_least_needed ds) (.nm 4) b_least_needed_1 (xs.map eP) [.v (car room flat climb back), .v a1, .v a2, .v (.int need), s4] n = some (.ret .none false, r, n) ∧ nd room need (xs.map (tk flat climb back)) = none) ∨
    ∃ s4' g, forB (Ph_least_needed ds) (.nm 4) b_least_needed_1 (xs.map eP) [.v (car room flat climb back), .v a1, .v a2, .v (.int need), s4] n = some (.nx, [.v (car room flat climb back), .v a1, .v a2, .v (.int g), s4'], n) ∧ nd room need (xs.map (tk flat climb back)) = if g ≤ room then some g else none
  | [], need, s4, _, _ => .inr ⟨s4, need, rfl, rfl⟩
  | x :: xs, need, s4, hf, h0 => by
    have hx := hf x List.mem_cons_self
    have ht := taken_ev ds n room flat climb back h1 h2 h3 x hx
    have htb := tk_bd flat climb back h1 h2 h3 x hx
    rw [List.map_cons, for_cons, List.map_cons]
    unfold b_least_needed_1 nd
    by_cases k : room < need
    · rw [if_pos k]
      left
      clear hf
      walk_at "evs"
      exact ⟨_, rfl, trivial⟩
    · rw [if_neg k]
      have em : max (max 0 (need + tk flat climb back x)) (tk flat climb back x) = max 0 (need + tk flat climb back x) := by omega
      have ih := need_loop ds n room flat climb back h1 h2 h3 a1 a2 xs (max 0 (need + tk flat climb back x)) (.v (eP x)) (fun y hy => hf y (List.mem_cons_of_mem _ hy)) (by omega)
      clear hf
      unfold b_least_needed_1 at ih
      rcases ih with ⟨r, e, h⟩ | ⟨s4', g, e, h⟩
      · left
        refine ⟨r, ?_, h⟩
        walk_at "evs"
      · right
        refine ⟨s4', g, ?_, h⟩
        walk_at "evs"
theorem need_ev (ds : List Int) (n : Nat) (room flat climb back goal : Int) (h1 : 0 ≤ flat ∧ flat ≤ 10) (h2 : 0 ≤ climb ∧ climb ≤ 10) (h3 : 0 ≤ back ∧ back ≤ 100) (xs : List (Int × Int)) (hf : ∀ p ∈ xs, 0 ≤ p.1 ∧ p.1 ≤ 10 ∧ -10 ≤ p.2 ∧ p.2 ≤ 10) (h0 : 0 ≤ goal) :
    fn_least_needed ds [car room flat climb back, .tuple (xs.map eP), .int goal] n = some (((nd room goal (xs.reverse.map (tk flat climb back))).map PyData.int).getD .none, n) := by
  have hl := need_loop ds n room flat climb back h1 h2 h3 (.tuple (xs.map eP)) (.int goal) xs.reverse goal .u (fun y hy => hf y (List.mem_reverse.1 hy)) h0
  rw [List.map_reverse (f := eP)] at hl
  clear hf
  unfold fn_least_needed
  rw [evF_eq (np := 3) rfl]
  unfold b_least_needed
  have er : revV (.tuple (xs.map eP)) = some (.tuple (xs.map eP).reverse) := rfl
  rcases hl with ⟨r, e, h⟩ | ⟨s4', g, e, h⟩
  · rw [h]
    walk_at "evs"
    rfl
  · rw [h]
    by_cases c : g ≤ room
    · rw [if_pos c]
      walk_at "evs"
      rfl
    · rw [if_neg c]
      walk_at "evs"
      rfl
theorem turned_ev (ds : List Int) (n : Nat) (xs : List (Int × Int)) (hb : xs.length ≤ 900) :
    fn_turned_route ds [.tuple (xs.map eP)] n = some (.tuple ((xs.reverse.map fun p => (p.1, -p.2)).map eP), n) := by
  have er : revV (.tuple (xs.map eP)) = some (.tuple (xs.reverse.map eP)) := by rw [List.map_reverse]; rfl
  unfold fn_turned_route
  rw [evF_eq (np := 1) rfl]
  unfold b_turned_route
  walk_at "evs"
  rw [comp_all xs.reverse _ (fun p => eP (p.1, -p.2)) (fun x hx => by
    rw [stepC_eq]
    walk_at "evs") (by rw [List.length_reverse]; omega)]
  walk_at "evs"
  rw [List.map_map]
  rfl
theorem law1 (ds : List Int) (n : Nat) (w r : D) (room flat climb back : Int) (h1 : 0 ≤ flat ∧ flat ≤ 10) (h2 : 0 ≤ climb ∧ climb ≤ 10) (h3 : 0 ≤ back ∧ back ≤ 100) : ∀ (xs : List (Int × Int)) (acc : List Int) (s4 s5 s6 : Sl), acc.length + xs.length ≤ 1000 → (∀ p ∈ xs, 0 ≤ p.1 ∧ p.1 ≤ 10 ∧ -10 ≤ p.2 ∧ p.2 ≤ 10) →
    ∃ s4' s5' s6', forB (Ph__law_holds ds) (.tp [.nm 4, .nm 5]) b__law_holds_1 (xs.map eP) [.v w, .v r, .v (car room flat climb back), .o (.list (acc.map PyData.int)), s4, s5, s6, .u, .u, .u, .u, .u, .u, .u] n =
      some (.nx, [.v w, .v r, .v (car room flat climb back), .o (.list ((acc ++ xs.map (tk flat climb back)).map PyData.int)), s4', s5', s6', .u, .u, .u, .u, .u, .u, .u], n)
  | [], acc, s4, s5, s6, _, _ => ⟨s4, s5, s6, by simp [for_nil]⟩
  | x :: xs, acc, s4, s5, s6, hb, hf => by
    have hx := hf x List.mem_cons_self
    have hr := tk_raw flat climb h1 h2 x hx
    rw [List.length_cons] at hb
    obtain ⟨s4', s5', s6', e⟩ := law1 ds n w r room flat climb back h1 h2 h3 xs (acc ++ [tk flat climb back x]) (.v (.int x.1)) (.v (.int x.2)) (.v (.int (flat * x.1 + climb * x.2))) (by simp; omega) (fun y hy => hf y (List.mem_cons_of_mem _ hy))
    refine ⟨s4', s5', s6', ?_⟩
    clear hf
    rw [List.map_cons, for_cons, List.map_cons]
    rw [List.map_append, List.append_assoc] at e
    unfold b__law_holds_1 at e ⊢
    rw [List.map_cons, List.map_nil] at e
    have et : tk flat climb back x = if 0 ≤ flat * x.1 + climb * x.2 then flat * x.1 + climb * x.2 else -(-(flat * x.1 + climb * x.2) * back / 100) := rfl
    by_cases c : 0 ≤ flat * x.1 + climb * x.2
    · rw [if_pos c] at et
      rw [et] at e ⊢
      walk_at "evs"
    · rw [if_neg c] at et
      rw [et] at e ⊢
      walk_at "evs"
theorem law2 (ds : List Int) (n : Nat) (w r ts0 hd : D) (room flat climb back : Int) (s4 s5 : Sl) : ∀ (ts acc : List Int) (h : Int) (s6 : Sl), acc.length + ts.length ≤ 1000 →
    ∃ s6', forB (Ph__law_holds ds) (.nm 6) b__law_holds_2 (ts.map PyData.int) [.v w, .v r, .v (car room flat climb back), .v ts0, s4, s5, s6, .v hd, .o (.list (acc.map PyData.int ++ [.int h])), .u, .u, .u, .u, .u] n =
      some (.nx, [.v w, .v r, .v (car room flat climb back), .v ts0, s4, s5, s6', .v hd, .o (.list ((acc ++ wy room h ts).map PyData.int)), .u, .u, .u, .u, .u], n)
  | [], acc, h, s6, _ => ⟨s6, by simp [wy, for_nil]⟩
  | t :: ts, acc, h, s6, hb => by
    rw [List.length_cons] at hb
    rw [List.map_cons, for_cons]
    unfold b__law_holds_2 wy
    have el : (acc.map PyData.int ++ [PyData.int h]).length = acc.length + 1 := by simp
    by_cases k : h - t < 0
    · rw [if_pos k]
      refine ⟨.v (.int t), ?_⟩
      rw [List.map_append, List.map_cons, List.map_nil]
      walk_at "evs"
    · rw [if_neg k]
      obtain ⟨s6', e⟩ := law2 ds n w r ts0 hd room flat climb back s4 s5 ts (acc ++ [h]) (min room (h - t)) (.v (.int t)) (by simp; omega)
      refine ⟨s6', ?_⟩
      unfold b__law_holds_2 at e
      rw [List.map_append, List.map_cons, List.map_nil, show acc ++ [h] ++ wy room (min room (h - t)) ts = acc ++ h :: wy room (min room (h - t)) ts by simp] at e
      walk_at "evs"
theorem nd_over (room g : Int) (ts : List Int) (h : room < g) : nd room g ts = none := by
  cases ts with
  | nil => unfold nd; rw [if_neg (by omega)]
  | cons t ts => unfold nd; rw [if_pos h]
theorem law3 (ds : List Int) (n : Nat) (w r ts0 hd rows gl : D) (room flat climb back : Int) (s4 s5 s12 s13 : Sl) : ∀ (ts : List Int) (g : Int) (b : Bool) (s6 : Sl),
    ∃ s6' g' b', forB (Ph__law_holds ds) (.nm 6) b__law_holds_3 (ts.map PyData.int) [.v w, .v r, .v (car room flat climb back), .v ts0, s4, s5, s6, .v hd, .o rows, .v gl, .v (.int g), .v (.bool b), s12, s13] n =
      some (.nx, [.v w, .v r, .v (car room flat climb back), .v ts0, s4, s5, s6', .v hd, .o rows, .v gl, .v (.int g'), .v (.bool b'), s12, s13], n) ∧ (b = false → b' = false) ∧ (b = true → g ≤ room → nd room g ts = if b' then some g' else none)
  | [], g, b, s6 => ⟨s6, g, b, rfl, fun h => h, fun h h2 => by
      unfold nd
      rw [if_pos h2, if_pos h]⟩
  | t :: ts, g, b, s6 => by
    obtain ⟨s6', g', b', e, i1, i2⟩ := law3 ds n w r ts0 hd rows gl room flat climb back s4 s5 s12 s13 ts (max 0 (g + t)) (b && decide (max 0 (g + t) ≤ room)) (.v (.int t))
    refine ⟨s6', g', b', ?_, fun h => i1 (by rw [h]; rfl), fun h h2 => ?_⟩
    · clear i1 i2
      rw [List.map_cons, for_cons]
      unfold b__law_holds_3 at e ⊢
      cases b <;> walk_at "evs" <;> simp only [Bool.false_and, Bool.true_and] at e <;> exact e
    · unfold nd
      rw [if_neg (by omega)]
      subst h
      by_cases c : max 0 (g + t) ≤ room
      · exact i2 (by rw [decide_eq_true c]; rfl) c
      · rw [nd_over _ _ _ (by omega), i1 (by rw [decide_eq_false c]; rfl)]
        rfl
theorem back_back (L : List (Int × Int)) : ((L.reverse.map fun p => (p.1, -p.2)).reverse.map fun p => (p.1, -p.2)) = L := by
  rw [← List.map_reverse, List.reverse_reverse, List.map_map]
  have : ((fun p : Int × Int => (p.1, -p.2)) ∘ fun p => (p.1, -p.2)) = id := by
    funext p
    simp
  rw [this, List.map_id]
theorem encP : Enc 7 eP := ⟨fun a => rfl, fun a b => by
  have := (encI 5).tup.eq [a.1, a.2] [b.1, b.2]
  show PyData.eqv (.tuple [.int a.1, .int a.2]) (.tuple [.int b.1, .int b.2]) = _
  rw [show (PyData.tuple [.int a.1, .int a.2]) = PyData.tuple ([a.1, a.2].map PyData.int) from rfl, show (PyData.tuple [.int b.1, .int b.2]) = PyData.tuple ([b.1, b.2].map PyData.int) from rfl, this]
  obtain ⟨a1, a2⟩ := a
  obtain ⟨b1, b2⟩ := b
  simp⟩
theorem holds (ds : List Int) (n : Nat) : ∃ n', fn__law_holds ds [WLD] n = some (.bool true, n') := by
  unfold fn__law_holds
  rw [evF_eq (np := 1) rfl]
  obtain ⟨q, eq, q0, q1⟩ := next_ex ds n 5 (by omega)
  obtain ⟨L, m, l, hL, e⟩ : ∃ (L : List (Int × Int)) (n' : Nat), L.length = (rangeL 0 q).length ∧ (∀ p ∈ L, 0 ≤ p.1 ∧ p.1 ≤ 10 ∧ -10 ≤ p.2 ∧ p.2 ≤ 10) ∧ compB (Ph__law_holds ds) [12] (.nm 12) [] (.tup [.op .add (.int 1) (.call 0 [.var 0, .int 5]), .op .sub (.call 0 [.var 0, .int 9]) (.int 4)]) [.v WLD, .u, .u, .u, .u, .u, .u, .u, .u, .u, .u, .u, .u, .u] (rangeL 0 q) (n + 1) = some (.list (L.map eP), n') := by
    refine comp_any _ _ _ _ (fun x hx m => ?_) (by rw [rng_len]; omega)
    obtain ⟨i, _, rfl⟩ := rng_mem hx
    obtain ⟨b, eb, b0, b1⟩ := next_ex ds m 5 (by omega)
    obtain ⟨c, ec, c0, c1⟩ := next_ex ds (m + 1) 9 (by omega)
    refine ⟨(1 + b, c - 4), m + 1 + 1, ?_, by show 0 ≤ 1 + b ∧ 1 + b ≤ 10 ∧ -10 ≤ c - 4 ∧ c - 4 ≤ 10; omega⟩
    rw [stepC_eq]
    generalize WLD = w at *
    walk_at "evs"
  rw [rng_len] at l
  obtain ⟨r, er, r0, r1⟩ := next_ex ds m 60 (by omega)
  obtain ⟨f, ef, f0, f1⟩ := next_ex ds (m + 1) 4 (by omega)
  obtain ⟨c, ec, c0, c1⟩ := next_ex ds (m + 1 + 1) 4 (by omega)
  obtain ⟨b, eb, b0, b1⟩ := next_ex ds (m + 1 + 1 + 1) 101 (by omega)
  obtain ⟨h, eh, h0, h1⟩ := next_ex ds (m + 1 + 1 + 1 + 1) (1 + r + 1) (by omega)
  obtain ⟨g, eg, g0, g1⟩ := next_ex ds (m + 1 + 1 + 1 + 1 + 1) (1 + r + 1) (by omega)
  generalize WLD = w at *
  obtain ⟨t4, t5, t6, l1⟩ := law1 ds (m + 1 + 1 + 1 + 1) w (.tuple (L.map eP)) (1 + r) f c b (by omega) (by omega) (by omega) L [] .u .u .u (by simp; omega) hL
  rw [List.map_nil, List.nil_append] at l1
  have tl : (L.map (tk f c b)).length ≤ 5 := by rw [List.length_map]; omega
  obtain ⟨s6, l2⟩ := law2 ds (m + 1 + 1 + 1 + 1 + 1) w (.tuple (L.map eP)) (.list ((L.map (tk f c b)).map PyData.int)) (.int h) (1 + r) f c b t4 t5 (L.map (tk f c b)) [] h t6 (by simp; omega)
  rw [List.map_nil, List.nil_append, List.nil_append] at l2
  obtain ⟨z6, gz, bz, l3, _, i2⟩ := law3 ds (m + 1 + 1 + 1 + 1 + 1 + 1) w (.tuple (L.map eP)) (.list ((L.map (tk f c b)).map PyData.int)) (.int h) (.list ((wy (1 + r) h (L.map (tk f c b))).map PyData.int)) (.int g) (1 + r) f c b t4 t5 .u .u (L.map (tk f c b)).reverse g true s6
  have i2 := i2 rfl (by omega)
  rw [List.map_reverse] at l3
  have u1 := fun k => way_ev ds k (1 + r) f c b h (by omega) (by omega) (by omega) L (by omega) hL
  have u2 := fun k => end_ev ds k (1 + r) f c b h (by omega) (by omega) (by omega) L (by omega) hL
  have u3 := fun k => need_ev ds k (1 + r) f c b g (by omega) (by omega) (by omega) L hL (by omega)
  have u4 := fun k => turned_ev ds k L (by omega)
  have u5 := fun k => turned_ev ds k (L.reverse.map fun p => (p.1, -p.2)) (by rw [List.length_map, List.length_reverse]; omega)
  rw [back_back] at u5
  rw [List.map_reverse, i2] at u3
  have hc : ∀ s0 s1 s3 s4 s5 s6 s7 s8 s9 s10 s11 s12 s13 k, compB (Ph__law_holds ds) [13] (.nm 13) [] (.call 1 [.var 2, .var 13]) [s0, s1, .v (car (1 + r) f c b), s3, s4, s5, s6, s7, s8, s9, s10, s11, s12, s13] (L.map eP) k = some (.list ((L.map (tk f c b)).map PyData.int), k) := by
    intros
    rw [List.map_map]
    refine comp_all _ _ _ (fun x hx => ?_) (by omega)
    have ht := fun k => taken_ev ds k (1 + r) f c b (by omega) (by omega) (by omega) x (hL x hx)
    clear hL u1 u2 u3 u4 u5 l1 l2 l3
    rw [stepC_eq]
    walk_at "evs"
    rfl
  have cq := encP.c_eqT L L
  rw [decide_eq_true rfl] at cq
  have e3 : ((if bz = true then some gz else none).map PyData.int).getD .none = bif bz then PyData.int gz else .none := by cases bz <;> rfl
  rw [e3] at u3
  have rv : revV (.list ((L.map (tk f c b)).map PyData.int)) = some (.list ((L.map (tk f c b)).map PyData.int).reverse) := rfl
  clear hL i2 e3
  unfold b__law_holds
  walk_at "evs"
  exact ⟨_, rfl⟩
end EV.k37
end

section
/-! W_k37: the walk. -/
namespace EV.k37
open PySem PySem.Spec PyProof.Rows L2 EV
def topS (i : Nat) : Stmt := PySem.Challenge.pw_onecharge_k37_whole_known_ways_up_and_do.main.body.getD i (.Pass ⟨0, 0, 0, 0⟩)
abbrev s__law_next : Stmt := topS 8
abbrev s__law_draws : Stmt := topS 7
abbrev s_law : Stmt := topS 10
def Gam : List Str := ["_law_next", "taken_on", "held_on_way", "comes_to_end", "least_needed", "turned_route", "_law_holds"]

abbrev s_taken_on : Stmt := topS 1
theorem sc_taken_on : FnScope ["car", "stretch", "room", "flat", "climb", "back", "found"] ["car", "stretch"] (defScope s_taken_on) := ⟨rfl, rfl, rfl, by decide +kernel, rfl, by decide +kernel, by decide +kernel⟩
theorem mt_taken_on : mtSs (Gam.take 1) ["car", "stretch", "room", "flat", "climb", "back", "found"] 40 (defScope s_taken_on) (defBody s_taken_on) b_taken_on = true := by decide +kernel
abbrev s_held_on_way : Stmt := topS 2
theorem sc_held_on_way : FnScope ["car", "held", "route", "found", "stretch", "later"] ["car", "held", "route"] (defScope s_held_on_way) := ⟨rfl, rfl, rfl, by decide +kernel, rfl, by decide +kernel, by decide +kernel⟩
theorem mt_held_on_way : mtSs (Gam.take 2) ["car", "held", "route", "found", "stretch", "later"] 40 (defScope s_held_on_way) (defBody s_held_on_way) b_held_on_way = true := by decide +kernel
abbrev s_comes_to_end : Stmt := topS 3
theorem sc_comes_to_end : FnScope ["car", "held", "route"] ["car", "held", "route"] (defScope s_comes_to_end) := ⟨rfl, rfl, rfl, by decide +kernel, rfl, by decide +kernel, by decide +kernel⟩
theorem mt_comes_to_end : mtSs (Gam.take 3) ["car", "held", "route"] 40 (defScope s_comes_to_end) (defBody s_comes_to_end) b_comes_to_end = true := by decide +kernel
abbrev s_least_needed : Stmt := topS 4
theorem sc_least_needed : FnScope ["car", "route", "goal", "need", "stretch"] ["car", "route", "goal"] (defScope s_least_needed) := ⟨rfl, rfl, rfl, by decide +kernel, rfl, by decide +kernel, by decide +kernel⟩
theorem mt_least_needed : mtSs (Gam.take 4) ["car", "route", "goal", "need", "stretch"] 40 (defScope s_least_needed) (defBody s_least_needed) b_least_needed = true := by decide +kernel
abbrev s_turned_route : Stmt := topS 5
theorem sc_turned_route : FnScope ["route", "long", "rise"] ["route"] (defScope s_turned_route) := ⟨rfl, rfl, rfl, by decide +kernel, rfl, by decide +kernel, by decide +kernel⟩
theorem mt_turned_route : mtSs (Gam.take 5) ["route", "long", "rise"] 40 (defScope s_turned_route) (defBody s_turned_route) b_turned_route = true := by decide +kernel
abbrev s__law_holds : Stmt := topS 9
theorem sc__law_holds : FnScope ["w", "route", "car", "takes", "long", "rise", "own", "held", "rows", "goal", "need", "is_there", "k", "stretch"] ["w"] (defScope s__law_holds) := ⟨rfl, rfl, rfl, by decide +kernel, rfl, by decide +kernel, by decide +kernel⟩
theorem mt__law_holds : mtSs (Gam.take 6) ["w", "route", "car", "takes", "long", "rise", "own", "held", "rows", "goal", "need", "is_there", "k", "stretch"] 40 (defScope s__law_holds) (defBody s__law_holds) b__law_holds = true := by decide +kernel
/-! ### the draws and the law itself, by hand -/
section
variable {P : Program} {w : World} {K : PySem.W.Frag} {mg : Str → Option Value} {base : Heap}
theorem sc__law_next : FnScope ["w", "many"] ["w", "many"] (defScope s__law_next) := ⟨rfl, rfl, rfl, by decide +kernel, rfl, by decide +kernel, by decide +kernel⟩
theorem next_inv {ds : List Int} {as : List D} {n n' : Nat} {d : D} (h : fn__law_next ds as n = some (d, n')) : ∃ m, as = [WLD, .int m] ∧ 0 < m ∧ d = .int (ds.getD n 0 % m) ∧ n' = n + 1 := by
  unfold fn__law_next at h
  split at h
  · split at h
    · cases h
      exact ⟨_, rfl, by assumption, rfl, rfl⟩
    · cases h
  · cases h
theorem ok__law_next {dw L : Addr} {ds : List Int} {f : Addr} {fd : FuncData} (hne : dw ≠ L) (F : Fun K "_law_next" "_law_next" s__law_next f fd) (hb : ∀ y ∈ bNames, mg y = none) (hmg : mg "_law_next" = some (.ref f)) (bd : Binds K fd ["w", "many"] []) :
    OneOk P w K mg base (mkW dw L ds) (fn__law_next ds) false 1 "_law_next" := by
  have ml : mg "len" = none := hb _ (by decide +kernel)
  have mi : mg "int" = none := hb _ (by decide +kernel)
  refine ⟨f, fd, ["w", "many"], 1, Nat.le_refl _, F.ok sc__law_next (fun vs H Q E h => h.1) (fun cdv A outer s H vs Q E hr hsp => ?_), hmg, F.kp, bd, fun as n r e => ?_⟩
  · obtain ⟨hl, Fx, as, n, d, n', hrep, tr, wa, wp, hev, want⟩ := hsp
    obtain ⟨m, rfl, hm, rfl, rfl⟩ := next_inv hev
    have hu := hu_of hr
    cases hrep with
    | cons r1 rr =>
    cases rr with
    | cons r2 rr =>
    cases rr
    cases r2
    obtain ⟨a, rfl, ht⟩ := rep_wld r1
    have ht : dw = a := Eq.symm ht
    subst ht
    obtain ⟨hd, hL⟩ := wp
    refine ⟨_, pss_cons (ps_daug hu (pv 0) pe_str pe_int in_add (fun _ _ _ => rfl))
      (pss_cons (ps_if (pt_cmpR op_gt (pe_dget hu (pv 0) pe_str (fun _ _ => rfl)) (pe_callB call_len_seq (by rfl) ml PySem.boot_len (pa_cons (pe_dget hu (pv 0) pe_str (fun _ _ => rfl)) pa_nil)) (nomark _)) (pss_one (ps_ret pe_int)) pss_nil)
      (pss_one (ps_ret (pe_op op_mod (pe_callTy call_int1 (by rfl) mi boot_int' (pa_cons (pe_ix ix_list (pe_dget hu (pv 0) pe_str (fun _ _ => rfl)) (pe_op op_sub (pe_dget hu (pv 0) pe_str (fun _ _ => rfl)) pe_int) (fun _ _ => rfl)) pa_nil)) (pv 1))))), ?_⟩
    have hd1 : upd H _ (.dK [(.inr "draws", .ref L), (.inr "at", .int ((n : Int) + 1))]) dw = some (.dK [(.inr "draws", .ref L), (.inr "at", .int ((n : Int) + 1))]) := upd_same
    have hL1 : upd H dw (.dK [(.inr "draws", .ref L), (.inr "at", .int ((n : Int) + 1))]) L = some (.lst (ds.map V.int)) := by rw [upd_ne (Ne.symm hne)]; exact hL
    have wp1 : (mkW dw L ds).wp (n + 1) (upd H dw (.dK [(.inr "draws", .ref L), (.inr "at", .int ((n : Int) + 1))])) := ⟨by rw [hd1]; rfl, hL1⟩
    have k1 : Keep (mkW dw L ds).tok H (upd H dw (.dK [(.inr "draws", .ref L), (.inr "at", .int ((n : Int) + 1))])) := fun b o nb e => by rw [upd_ne nb]; exact e
    have ga : DGet H dw (.str "at") (some (.int n)) := DGet.k (k := .inr "at") hd
    have ga1 : DGet (upd H dw (.dK [(.inr "draws", .ref L), (.inr "at", .int ((n : Int) + 1))])) dw (.str "at") (some (.int ((n : Int) + 1))) := DGet.k (k := .inr "at") hd1
    have gd1 : DGet (upd H dw (.dK [(.inr "draws", .ref L), (.inr "at", .int ((n : Int) + 1))])) dw (.str "draws") (some (.ref L)) := DGet.k (k := .inr "draws") hd1
    refine ⟨.ref dw, rfl, dw, .int n, rfl, ga, _, _, rfl, rfl, _, DPut.k (k := .inr "at") hd (show 2 < sizeLine by decide), ?_⟩
    have ep : putK [((.inr "draws" : Key), V.ref L), (.inr "at", .int n)] (.inr "at") (.int ((n : Int) + 1)) = [(.inr "draws", .ref L), (.inr "at", .int ((n : Int) + 1))] := rfl
    rw [ep]
    refine ⟨.ref dw, rfl, dw, _, rfl, ga1, .ref dw, rfl, dw, _, rfl, gd1, L, ds.map V.int, rfl, .inl (SqL.of hL1), _, _, rfl, rfl, _, rfl, ite2 (fun e => ?_) (fun e => ?_)⟩
    · have e := of_decide_eq_true e
      rw [List.length_map] at e
      refine want _ _ k1 wp1 ?_ fun h => by cases h
      have : ds.getD n 0 = 0 := by
        rw [List.getD_eq_getElem?_getD, List.getElem?_eq_none (by omega)]
        rfl
      rw [this, Int.zero_emod]
      exact .int 0
    · have e : ¬ ((ds.map V.int).length : Int) < (n : Int) + 1 := fun z => e (decide_eq_true z)
      rw [List.length_map] at e
      have hn : n < ds.length := by omega
      refine ⟨.ref dw, rfl, dw, _, rfl, gd1, .ref dw, rfl, dw, _, rfl, ga1, _, _, rfl, rfl, L, ds.map V.int, _, .int ds[n], rfl, rfl, SqL.of hL1, ?_, .inl ⟨_, rfl, .int m, rfl, _, _, rfl, rfl, hm, ?_⟩⟩
      · rw [Int.add_sub_cancel]
        exact atI_nat (by rw [List.getElem?_map, List.getElem?_eq_getElem hn]; rfl)
      · refine want _ _ k1 wp1 ?_ fun h => by cases h
        rw [List.getD_eq_getElem?_getD, List.getElem?_eq_getElem hn]
        exact .int _
  · obtain ⟨m, rfl, _⟩ := next_inv (show fn__law_next ds as n = some (r.1, r.2) from e)
    rfl

theorem sc__law_draws : FnScope ["script", "many", "draws", "mixed", "k", "cell", "rest", "turn"] ["script", "many"] (defScope s__law_draws) := ⟨rfl, rfl, rfl, by decide +kernel, rfl, by decide +kernel, by decide +kernel⟩
def mix (mx cell k : Int) : Int := (mx * 48271 + cell % 1000003 + k) % 65537
theorem mix_rng (mx cell k : Int) : 0 ≤ mix mx cell k ∧ mix mx cell k < 65537 := by unfold mix; omega
def mix2 (mx k : Int) : Int := (mx * 16807 + k + 1) % 65537
theorem mix2_rng (mx k : Int) : 0 ≤ mix2 mx k ∧ mix2 mx k < 65537 := by unfold mix2; omega
def cutI (xs : List Int) (lo hi : Option Int) : List Int := (xs.drop (HT.sIx xs.length 0 lo)).take (HT.sIx xs.length xs.length hi - HT.sIx xs.length 0 lo)
/-- a list of ints, new -/
def spDraws (K : PySem.W.Frag) : Sp := fun vs H Q _ => ∃ (a : Addr) (ns : List Int), vs = [.ref a, .int 200] ∧ SqL K H a (ns.map V.int) ∧ ns.length ≤ 63 ∧ ∀ (H' : Hp) (p : Addr) (ds : List Int), Same H H' → H p = none → H' p = some (.lst (ds.map V.int)) → Q (.ref p) H'
/-- what stands while draws grow -/
structure Dr (H : Hp) (a D : Addr) (m : Nat) (σ : L2.St) (H2 : Hp) : Prop where
  st : ∃ mx y4 y5 y6 y7, σ = [some (.ref a), some (.int 200), some (.ref D), some (.int mx), y4, y5, y6, y7] ∧ 0 ≤ mx ∧ mx < 65537
  same : Same H H2
  fr : H D = none
  ls : ∃ ds : List Int, H2 D = some (.lst (ds.map V.int)) ∧ ds.length ≤ m
theorem Dr.app {H : Hp} {a D : Addr} {m : Nat} {σ σ' : L2.St} {H2 : Hp} {ds : List Int} {i : Int} (d : Dr H a D m σ H2) (h : H2 D = some (.lst (ds.map V.int))) (hl : ds.length ≤ m) (hs : ∃ mx y4 y5 y6 y7, σ' = [some (.ref a), some (.int 200), some (.ref D), some (.int mx), y4, y5, y6, y7] ∧ 0 ≤ mx ∧ mx < 65537) :
    Dr H a D (m + 1) σ' (upd H2 D (.lst (ds.map V.int ++ [.int i]))) where
  st := hs
  same := fun b o e => by rw [upd_ne (ne_of_none e d.fr)]; exact d.same b o e
  fr := d.fr
  ls := ⟨ds ++ [i], by rw [upd_same]; simp, by simp; omega⟩
theorem ok__law_draws {f : Addr} {fd : FuncData} (F : Fun K "_law_draws" "_law_draws" s__law_draws f fd) (hb : ∀ y ∈ bNames, mg y = none) : FnOk P w K mg base CX0 1 f fd ["script", "many"] (spDraws K) := by
  have ml : mg "len" = none := hb _ (by decide +kernel)
  have mi : mg "int" = none := hb _ (by decide +kernel)
  have ma : mg "abs" = none := hb _ (by decide +kernel)
  have mr : mg "range" = none := hb _ (by decide +kernel)
  have S := sc__law_draws
  refine F.ok S (fun vs H Q E h => by obtain ⟨a, ns, rfl, _⟩ := h; rfl) (fun cdv A outer s H vs Q E hr hsp => ?_)
  obtain ⟨a, ns, rfl, hS, hlen, q⟩ := hsp
  have hS' : ∀ {H2}, Same H H2 → SqL K H2 a (ns.map V.int) := fun s => s.seq hS
  refine ⟨_, (pss_cons (ps_set (i := 2) S.nd rfl (.inl rfl) (pe_lst pa_nil))
      (pss_cons (ps_set (i := 3) S.nd rfl (.inl rfl) pe_int)
      (pss_cons (ps_for PassesOwn.never rfl (pi_range1 (by rfl) mr (pa_cons (pe_callB call_len_seq (by rfl) ml PySem.boot_len (pa_cons (pv 0) pa_nil)) pa_nil)) (pg_name (i := 4) S.nd rfl (.inl rfl)) (pss_cons (ps_set (i := 5) S.nd rfl (.inl rfl) (pe_callB call_abs (by rfl) ma boot_abs' (pa_cons (pe_callTy call_int1 (by rfl) mi boot_int' (pa_cons (pe_ix ix_list (pv 0) (pv 4) (fun _ _ => rfl)) pa_nil)) pa_nil)))
      (pss_cons (ps_set (i := 3) S.nd rfl (.inl rfl) (pe_op op_mod (pe_callTy call_int1 (by rfl) mi boot_int' (pa_cons (pe_op op_add (pe_op op_add (pe_op op_mul (pv 3) pe_int) (pe_op op_mod (pv 5) pe_int)) (pv 4)) pa_nil)) pe_int))
      (pss_cons (ps_set (i := 6) S.nd rfl (.inl rfl) pe_int)
      (pss_cons (ps_if (pt_cmpR op_ge (pv 5) (pe_op op_pow pe_int pe_int) (nomark _)) (pss_one (ps_set (i := 6) S.nd rfl (.inl rfl) (pv 5))) (pss_cons (ps_expr (pe_bm PySem.F.plainAttrs_list PySem.F.slot_list_append PySem.F.type_list_append mt_append (pv 2) (pa_cons (pe_op op_mod (pe_callTy call_int1 (by rfl) mi boot_int' (pa_cons (pv 5) pa_nil)) pe_int) pa_nil)))
      (pss_one (ps_expr (pe_bm PySem.F.plainAttrs_list PySem.F.slot_list_append PySem.F.type_list_append mt_append (pv 2) (pa_cons (pe_op op_mod (pe_op op_mod (pe_callTy call_int1 (by rfl) mi boot_int' (pa_cons (pe_op op_add (pe_op op_mul (pv 3) pe_int) pe_int) pa_nil)) pe_int) pe_int) pa_nil))))))
      (pss_one (ps_for PassesOwn.never rfl (pi_range1 (by rfl) mr (pa_cons pe_int pa_nil)) (pg_name (i := 7) S.nd rfl (.inl rfl)) (pss_one (ps_if (pt_cmpR op_gt (pv 6) pe_int (nomark _)) (pss_cons (ps_expr (pe_bm PySem.F.plainAttrs_list PySem.F.slot_list_append PySem.F.type_list_append mt_append (pv 2) (pa_cons (pe_op op_mod (pe_callTy call_int1 (by rfl) mi boot_int' (pa_cons (pv 6) pa_nil)) pe_int) pa_nil)))
      (pss_one (ps_set (i := 6) S.nd rfl (.inl rfl) (pe_op op_fdiv (pv 6) pe_int)))) pss_nil)))))))))
      (pss_cons (ps_for PassesOwn.never rfl (pi_range1 (by rfl) mr (pa_cons (pv 1) pa_nil)) (pg_name (i := 4) S.nd rfl (.inl rfl)) (pss_cons (ps_set (i := 3) S.nd rfl (.inl rfl) (pe_op op_mod (pe_callTy call_int1 (by rfl) mi boot_int' (pa_cons (pe_op op_add (pe_op op_add (pe_op op_mul (pv 3) pe_int) (pv 4)) pe_int) pa_nil)) pe_int))
      (pss_one (ps_expr (pe_bm PySem.F.plainAttrs_list PySem.F.slot_list_append PySem.F.type_list_append mt_append (pv 2) (pa_cons (pe_op op_mod (pe_callTy call_int1 (by rfl) mi boot_int' (pa_cons (pv 3) pa_nil)) pe_int) pa_nil))))))
      (pss_one (ps_ret (pe_slice sl_list (pv 2) po_none (po_some (pv 1))))))))), ?_⟩
  refine ⟨Nat.zero_le _, fun D nD => ?_⟩
  have d0 : Dr H a D 0 [some (.ref a), some (.int 200), some (.ref D), some (.int 7), none, none, none, none] (upd H D (.lst [])) := ⟨⟨7, _, _, _, _, rfl, by decide, by decide⟩, fun b o e => by rw [upd_ne (ne_of_none e nD)]; exact e, nD, ⟨[], upd_same, Nat.le_refl _⟩⟩
  have line : 16200 < sizeLine := by decide
  refine ⟨.ref a, rfl, _, ns.map V.int, rfl, .inl (hS' d0.same), ?_⟩
  refine ⟨_, rfl, by rw [List.length_map]; omega, by rw [List.length_map]; omega, ?_⟩
  refine for_range (n := ((ns.map V.int).length : Int).toNat) (fun i σ H2 => i ≤ 63 ∧ Dr H a D (62 * i) σ H2) ⟨by omega, d0⟩ (fun i σ H2 hi hI => ?_) (fun σ H2 hI => ?_)
  · -- a turn
    obtain ⟨hi63, d⟩ := hI
    rw [List.length_map, Int.toNat_natCast] at hi
    obtain ⟨mx, y4, y5, y6, y7, rfl, m0, m1⟩ := d.st
    refine ⟨.ref a, rfl, .int (0 + (i : Int)), rfl, a, ns.map V.int, _, .int ns[i], rfl, rfl, hS' d.same, ?_, .inl ⟨_, rfl, _, rfl, ?_⟩⟩
    · rw [Int.zero_add]
      exact atI_nat (by rw [List.getElem?_map, List.getElem?_eq_getElem hi]; rfl)
    generalize hc : (if ns[i] < 0 then -ns[i] else ns[i]) = cell
    refine ⟨.int mx, rfl, _, _, rfl, rfl, .inl ⟨by omega, by omega⟩, .int cell, rfl, _, _, rfl, rfl, (by show (0 : Int) < _; decide), _, _, rfl, rfl, .int (0 + (i : Int)), rfl, _, _, rfl, rfl, .inl ⟨_, rfl, _, _, rfl, rfl, (by show (0 : Int) < _; decide), ?_⟩⟩
    have m2 := mix_rng mx cell (0 + (i : Int))
    refine ⟨.int cell, rfl, _, _, rfl, rfl, ⟨by decide, by decide, by decide⟩, _, _, rfl, rfl, _, rfl, ?_⟩
    obtain ⟨ds, hD, hl⟩ := d.ls
    refine ite2 (fun e => ?_) (fun e => ?_)
    · refine ⟨.int cell, rfl, ?_⟩
      have dd : Dr H a D (62 * i + 2) [some (.ref a), some (.int 200), some (.ref D), some (.int (mix mx cell (0 + (i : Int)))), some (.int (0 + (i : Int))), some (.int cell), some (.int cell), y7] H2 := ⟨⟨_, _, _, _, _, rfl, m2⟩, d.same, d.fr, ds, hD, by omega⟩
      refine ⟨60, rfl, by decide, by decide, for_range (n := 60) (fun j σ H3 => ∃ r y7, σ = [some (.ref a), some (.int 200), some (.ref D), some (.int (mix mx cell (0 + (i : Int)))), some (.int (0 + (i : Int))), some (.int cell), some (.int r), y7] ∧ Dr H a D (62 * i + 2 + j) σ H3) ⟨_, _, rfl, dd⟩ (fun j σ H3 hj hI => ?_) (fun σ H3 hI => ?_)⟩
      · obtain ⟨r, y, rfl, d⟩ := hI
        obtain ⟨ds, hD, hl⟩ := d.ls
        refine ⟨.int r, rfl, _, _, rfl, rfl, _, rfl, ite2 (fun e => ?_) (fun e => ?_)⟩
        · refine ⟨.ref D, rfl, .inl ⟨rfl, _, SqL.of hD⟩, .int r, rfl, .inl ⟨_, rfl, _, _, rfl, rfl, (by show (0 : Int) < _; decide), D, _, _, rfl, rfl, hD, by rw [List.length_map]; omega, .int r, rfl, _, _, rfl, rfl, ⟨by decide, by decide⟩, _, _, rfl, ?_⟩⟩
          exact d.app hD hl ⟨_, _, _, _, _, rfl, m2⟩
        · exact ⟨r, _, rfl, ⟨⟨_, _, _, _, _, rfl, m2⟩, d.same, d.fr, ds, hD, by omega⟩⟩
      · obtain ⟨r, y, rfl, d⟩ := hI
        obtain ⟨ds, hD, hl⟩ := d.ls
        exact ⟨by omega, ⟨_, _, _, _, _, rfl, m2⟩, d.same, d.fr, ds, hD, by omega⟩
    · refine ⟨.ref D, rfl, .inl ⟨rfl, _, SqL.of hD⟩, .int cell, rfl, .inl ⟨_, rfl, _, _, rfl, rfl, (by show (0 : Int) < _; decide), D, _, _, rfl, rfl, hD, by rw [List.length_map]; omega, ?_⟩⟩
      have d1 : Dr H a D (62 * i + 1) [some (.ref a), some (.int 200), some (.ref D), some (.int (mix mx cell (0 + (i : Int)))), some (.int (0 + (i : Int))), some (.int cell), some (.int 0), y7] (upd H2 D (.lst (ds.map V.int ++ [.int (cell % 997)]))) := d.app hD hl ⟨_, _, _, _, _, rfl, m2⟩
      obtain ⟨ds1, hD1, hl1⟩ := d1.ls
      refine ⟨.ref D, rfl, .inl ⟨rfl, _, SqL.of hD1⟩, .int (mix mx cell (0 + (i : Int))), rfl, _, _, rfl, rfl, .inl ⟨by omega, by omega⟩, _, _, rfl, rfl, .inl ⟨_, rfl, _, _, rfl, rfl, (by show (0 : Int) < _; decide), _, _, rfl, rfl, (by show (0 : Int) < _; decide), D, _, _, rfl, rfl, hD1, by rw [List.length_map]; omega, ?_⟩⟩
      have dd := d1.app (i := ((mix mx cell (0 + (i : Int))) * 69621 + 5) % 65521 % 997) (σ' := [some (.ref a), some (.int 200), some (.ref D), some (.int (mix mx cell (0 + (i : Int)))), some (.int (0 + (i : Int))), some (.int cell), some (.int 0), y7]) hD1 hl1 ⟨_, _, _, _, _, rfl, m2⟩
      refine ⟨60, rfl, by decide, by decide, for_range (n := 60) (fun j σ H3 => ∃ r y7, σ = [some (.ref a), some (.int 200), some (.ref D), some (.int (mix mx cell (0 + (i : Int)))), some (.int (0 + (i : Int))), some (.int cell), some (.int r), y7] ∧ Dr H a D (62 * i + 2 + j) σ H3) ⟨_, _, rfl, dd⟩ (fun j σ H3 hj hI => ?_) (fun σ H3 hI => ?_)⟩
      · obtain ⟨r, y, rfl, d⟩ := hI
        obtain ⟨ds, hD, hl⟩ := d.ls
        refine ⟨.int r, rfl, _, _, rfl, rfl, _, rfl, ite2 (fun e => ?_) (fun e => ?_)⟩
        · refine ⟨.ref D, rfl, .inl ⟨rfl, _, SqL.of hD⟩, .int r, rfl, .inl ⟨_, rfl, _, _, rfl, rfl, (by show (0 : Int) < _; decide), D, _, _, rfl, rfl, hD, by rw [List.length_map]; omega, .int r, rfl, _, _, rfl, rfl, ⟨by decide, by decide⟩, _, _, rfl, ?_⟩⟩
          exact d.app hD hl ⟨_, _, _, _, _, rfl, m2⟩
        · exact ⟨r, _, rfl, ⟨⟨_, _, _, _, _, rfl, m2⟩, d.same, d.fr, ds, hD, by omega⟩⟩
      · obtain ⟨r, y, rfl, d⟩ := hI
        obtain ⟨ds, hD, hl⟩ := d.ls
        exact ⟨by omega, ⟨_, _, _, _, _, rfl, m2⟩, d.same, d.fr, ds, hD, by omega⟩
  · -- the other loop
    obtain ⟨hi63, d⟩ := hI
    obtain ⟨mx, y4, y5, y6, y7, rfl, m0, m1⟩ := d.st
    have d1 : Dr H a D 4000 [some (.ref a), some (.int 200), some (.ref D), some (.int mx), y4, y5, y6, y7] H2 := ⟨d.st, d.same, d.fr, let ⟨ds, h1, h2⟩ := d.ls; ⟨ds, h1, by omega⟩⟩
    refine ⟨.int 200, rfl, 200, rfl, by decide, by decide, for_range (n := 200) (fun j σ H3 => Dr H a D (4000 + j) σ H3) d1 (fun j σ H3 hj d => ?_) (fun σ H3 d => ?_)⟩
    · obtain ⟨mx, y4, y5, y6, y7, rfl, m0, m1⟩ := d.st
      obtain ⟨ds, hD, hl⟩ := d.ls
      refine ⟨.int mx, rfl, _, _, rfl, rfl, .inl ⟨by omega, by omega⟩, .int (0 + (j : Int)), rfl, _, _, rfl, rfl, _, _, rfl, rfl, .inl ⟨_, rfl, _, _, rfl, rfl, (by show (0 : Int) < _; decide), ?_⟩⟩
      have m2 := mix2_rng mx (0 + (j : Int))
      refine ⟨.ref D, rfl, .inl ⟨rfl, _, SqL.of hD⟩, .int (mix2 mx (0 + (j : Int))), rfl, .inl ⟨_, rfl, _, _, rfl, rfl, (by show (0 : Int) < _; decide), D, _, _, rfl, rfl, hD, by rw [List.length_map]; omega, ?_⟩⟩
      exact d.app hD hl ⟨_, _, _, _, _, rfl, m2⟩
    · obtain ⟨mx, y4, y5, y6, y7, rfl, m0, m1⟩ := d.st
      obtain ⟨ds, hD, hl⟩ := d.ls
      refine ⟨.ref D, rfl, .int 200, rfl, _, rfl, D, _, rfl, SqL.of hD, fun p hp => ?_⟩
      refine q _ p (cutI ds none (some 200)) (fun b o e => ?_) (d.same.free hp) ?_
      · rw [upd_ne (ne_of_none (d.same b o e) hp)]
        exact d.same b o e
      · rw [upd_same]
        unfold cutV cutI
        rw [List.length_map, List.map_take, List.map_drop]

theorem sc_law : FnScope ["script", "w", "turn"] ["script"] (defScope s_law) := ⟨rfl, rfl, rfl, by decide +kernel, rfl, by decide +kernel, by decide +kernel⟩
def spLaw (K : PySem.W.Frag) : Sp := fun vs H Q _ => ∃ (a : Addr) (ns : List Int), vs = [.ref a] ∧ SqL K H a (ns.map V.int) ∧ ns.length ≤ 63 ∧ ∀ H', Q (.bl true) H'
theorem ok_law {fh : List Int → List D → Nat → Option (D × Nat)} (holds : ∀ ds n, ∃ n', fh ds [WLD] n = some (.bool true, n')) {f fD fH : Addr} {fd fdD fdH : FuncData} {k : Nat} (F : Fun K "law" "law" s_law f fd) (FD : Fun K "_law_draws" "_law_draws" s__law_draws fD fdD) (kp : PySem.W.keepIn K (.ref fH) = true)
    (bD : Binds K fdD ["script", "many"] []) (bH : Binds K fdH ["w"] []) (gD : mg "_law_draws" = some (.ref fD)) (gH : mg "_law_holds" = some (.ref fH)) (hb : ∀ y ∈ bNames, mg y = none) (hk : 1 ≤ k)
    (GH : ∀ (dw L : Addr) (ds : List Int), dw ≠ L → FnOk P w K mg base CX0 k fH fdH ["w"] (prom (mkW dw L ds) (fh ds) false 1)) : FnOk P w K mg base CX0 (k + 1) f fd ["script"] (spLaw K) := by
  have mr : mg "range" = none := hb _ (by decide +kernel)
  have GD := ok__law_draws (P := P) (w := w) (base := base) FD hb
  have G : FnOk P w K mg base CX0 k fH fdH ["w"] (fun vs H Q E => ∃ dw L ds, dw ≠ L ∧ prom (mkW dw L ds) (fh ds) false 1 vs H Q E) :=
    ⟨fun vs H Q E ⟨_, _, _, _, h⟩ => h.1, fun A outer s H args us vs Q E hr e0 hbb hv ⟨dw, L, ds, hne, h⟩ => (GH dw L ds hne).run A outer s H args us vs Q E hr e0 hbb hv h⟩
  have S := sc_law
  refine F.ok S (fun vs H Q E h => by obtain ⟨a, ns, rfl, _⟩ := h; rfl) (fun cdv A outer s H vs Q E hr hsp => ?_)
  obtain ⟨a, ns, rfl, hS, hlen, q⟩ := hsp
  refine ⟨_, pss_cons (ps_set (i := 1) S.nd rfl (.inl rfl) (pe_disp (pps_cons pe_str (pe_call GD (hr.mono hk) (by rfl) gD FD.kp bD .nil pass0 (pa_cons (pv 0) (pa_cons pe_int pa_nil))) (pps_cons pe_str pe_int pps_nil)) (by rfl) (by rfl) (fun z => by cases z) (by decide)))
    (pss_cons (ps_for PassesOwn.never rfl (pi_range1 (by rfl) mr (pa_cons pe_int pa_nil)) (pg_name (i := 2) S.nd rfl (.inl rfl)) (pss_one (ps_if (pt_not (pt_val (pe_call G hr (by rfl) gH kp bH .nil pass0 (pa_cons (pv 1) pa_nil)))) (pss_one (ps_ret pe_bl)) pss_nil)))
    (pss_one (ps_ret pe_bl))), ?_⟩
  intro p hp
  have s1 : Same H (upd H p (.dK [])) := fun b o e => by rw [upd_ne (ne_of_none e hp)]; exact e
  refine ⟨.ref a, rfl, a, ns, rfl, s1.seq hS, hlen, fun H2 D ds s2 hD hH2 => ?_⟩
  have hp2 : H2 p = some (.dK []) := s2 _ _ upd_same
  have hpD : p ≠ D := fun e => by rw [← e, upd_same] at hD; cases hD
  refine ⟨hp2, [(.inr "draws", .ref D), (.inr "at", .int 0)], rfl, (show 2 ≤ 15 by decide), ?_⟩
  have em : mergeK [] [((.inr "draws" : Key), V.ref D), (.inr "at", .int 0)] = [(.inr "draws", .ref D), (.inr "at", .int 0)] := rfl
  rw [em]
  refine ⟨4, rfl, by decide, by decide, for_range (n := 4) (fun i σ H3 => ∃ y n, σ = [some (.ref a), some (.ref p), y] ∧ (mkW p D ds).wp n H3) ⟨none, 0, rfl, upd_same, by rw [upd_ne (Ne.symm hpD)]; exact hH2⟩ (fun i σ H3 hi hI => ?_) (fun σ H3 hI => q H3)⟩
  obtain ⟨y, n, rfl, hw⟩ := hI
  obtain ⟨n', hn⟩ := holds ds n
  refine ⟨.ref p, rfl, p, D, ds, hpD, rfl, fun b => b = p ∨ b = D, [WLD], n, _, n', .cons (.wld rfl) .nil, fun b hb => ?_, fun b hb => hb, hw, hn, fun v H4 _ w4 r4 _ => ?_⟩
  · exact (mkW p D ds).trk n H3 b hw hb
  · cases r4
    exact ⟨true, rfl, _, n', rfl, w4⟩

theorem all_mk (holds : ∀ ds n, ∃ n', fn__law_holds ds [WLD] n = some (.bool true, n')) {l : PySem.W.OpenLaw} {w : World} {K : PySem.W.Frag} {h : Heap} {mg : Str → Option Value} {fa : Addr} (X : K.In h) (G : h.Ns mainGlobals mg) (hfa : mg "law" = some (.ref fa))
    {f0 : Addr} {od0 an0 : Option Addr} {sl0 : Array (Option Value)} {oc0 kV0 dc0 pm0 cd0 ct0 : Value} {f1 : Addr} {od1 an1 : Option Addr} {sl1 : Array (Option Value)} {oc1 kV1 dc1 pm1 cd1 ct1 : Value} {f2 : Addr} {od2 an2 : Option Addr} {sl2 : Array (Option Value)} {oc2 kV2 dc2 pm2 cd2 ct2 : Value} {f3 : Addr} {od3 an3 : Option Addr} {sl3 : Array (Option Value)} {oc3 kV3 dc3 pm3 cd3 ct3 : Value} {f4 : Addr} {od4 an4 : Option Addr} {sl4 : Array (Option Value)} {oc4 kV4 dc4 pm4 cd4 ct4 : Value} {f5 : Addr} {od5 an5 : Option Addr} {sl5 : Array (Option Value)} {oc5 kV5 dc5 pm5 cd5 ct5 : Value} {f6 : Addr} {od6 an6 : Option Addr} {sl6 : Array (Option Value)} {oc6 kV6 dc6 pm6 cd6 ct6 : Value} {f7 : Addr} {od7 an7 : Option Addr} {sl7 : Array (Option Value)} {oc7 kV7 dc7 pm7 cd7 ct7 : Value} {f8 : Addr} {od8 an8 : Option Addr} {sl8 : Array (Option Value)} {oc8 kV8 dc8 pm8 cd8 ct8 : Value}
    (a0 : PySem.W.nsIn K mainGlobals "_law_next" = some (some (.ref f0))) (l0 : K.lookup f0 = some ⟨oc0, od0, .func (PySem.W.fnOf "_law_next" "_law_next" (defArgs s__law_next) (defBody s__law_next) (defScope s__law_next) .none kV0 dc0 pm0 an0 cd0 ct0), sl0⟩) (c0 : PySem.W.codeIn K cd0 "_law_next" = true) (k0 : PySem.W.keepIn K (.ref f0) = true) (a1 : PySem.W.nsIn K mainGlobals "taken_on" = some (some (.ref f1))) (l1 : K.lookup f1 = some ⟨oc1, od1, .func (PySem.W.fnOf "taken_on" "taken_on" (defArgs s_taken_on) (defBody s_taken_on) (defScope s_taken_on) .none kV1 dc1 pm1 an1 cd1 ct1), sl1⟩) (c1 : PySem.W.codeIn K cd1 "taken_on" = true) (k1 : PySem.W.keepIn K (.ref f1) = true) (a2 : PySem.W.nsIn K mainGlobals "held_on_way" = some (some (.ref f2))) (l2 : K.lookup f2 = some ⟨oc2, od2, .func (PySem.W.fnOf "held_on_way" "held_on_way" (defArgs s_held_on_way) (defBody s_held_on_way) (defScope s_held_on_way) .none kV2 dc2 pm2 an2 cd2 ct2), sl2⟩) (c2 : PySem.W.codeIn K cd2 "held_on_way" = true) (k2 : PySem.W.keepIn K (.ref f2) = true) (a3 : PySem.W.nsIn K mainGlobals "comes_to_end" = some (some (.ref f3))) (l3 : K.lookup f3 = some ⟨oc3, od3, .func (PySem.W.fnOf "comes_to_end" "comes_to_end" (defArgs s_comes_to_end) (defBody s_comes_to_end) (defScope s_comes_to_end) .none kV3 dc3 pm3 an3 cd3 ct3), sl3⟩) (c3 : PySem.W.codeIn K cd3 "comes_to_end" = true) (k3 : PySem.W.keepIn K (.ref f3) = true) (a4 : PySem.W.nsIn K mainGlobals "least_needed" = some (some (.ref f4))) (l4 : K.lookup f4 = some ⟨oc4, od4, .func (PySem.W.fnOf "least_needed" "least_needed" (defArgs s_least_needed) (defBody s_least_needed) (defScope s_least_needed) .none kV4 dc4 pm4 an4 cd4 ct4), sl4⟩) (c4 : PySem.W.codeIn K cd4 "least_needed" = true) (k4 : PySem.W.keepIn K (.ref f4) = true) (a5 : PySem.W.nsIn K mainGlobals "turned_route" = some (some (.ref f5))) (l5 : K.lookup f5 = some ⟨oc5, od5, .func (PySem.W.fnOf "turned_route" "turned_route" (defArgs s_turned_route) (defBody s_turned_route) (defScope s_turned_route) .none kV5 dc5 pm5 an5 cd5 ct5), sl5⟩) (c5 : PySem.W.codeIn K cd5 "turned_route" = true) (k5 : PySem.W.keepIn K (.ref f5) = true) (a6 : PySem.W.nsIn K mainGlobals "_law_holds" = some (some (.ref f6))) (l6 : K.lookup f6 = some ⟨oc6, od6, .func (PySem.W.fnOf "_law_holds" "_law_holds" (defArgs s__law_holds) (defBody s__law_holds) (defScope s__law_holds) .none kV6 dc6 pm6 an6 cd6 ct6), sl6⟩) (c6 : PySem.W.codeIn K cd6 "_law_holds" = true) (k6 : PySem.W.keepIn K (.ref f6) = true) (a7 : PySem.W.nsIn K mainGlobals "_law_draws" = some (some (.ref f7))) (l7 : K.lookup f7 = some ⟨oc7, od7, .func (PySem.W.fnOf "_law_draws" "_law_draws" (defArgs s__law_draws) (defBody s__law_draws) (defScope s__law_draws) .none kV7 dc7 pm7 an7 cd7 ct7), sl7⟩) (c7 : PySem.W.codeIn K cd7 "_law_draws" = true) (k7 : PySem.W.keepIn K (.ref f7) = true) (a8 : PySem.W.nsIn K mainGlobals "law" = some (some (.ref f8))) (l8 : K.lookup f8 = some ⟨oc8, od8, .func (PySem.W.fnOf "law" "law" (defArgs s_law) (defBody s_law) (defScope s_law) .none kV8 dc8 pm8 an8 cd8 ct8), sl8⟩) (c8 : PySem.W.codeIn K cd8 "law" = true) (k8 : PySem.W.keepIn K (.ref f8) = true)
    (z0 : PySem.W.nsIn K mainGlobals "len" = some none) (z1 : PySem.W.nsIn K mainGlobals "sum" = some none) (z2 : PySem.W.nsIn K mainGlobals "max" = some none) (z3 : PySem.W.nsIn K mainGlobals "min" = some none) (z4 : PySem.W.nsIn K mainGlobals "sorted" = some none) (z5 : PySem.W.nsIn K mainGlobals "tuple" = some none) (z6 : PySem.W.nsIn K mainGlobals "list" = some none) (z7 : PySem.W.nsIn K mainGlobals "abs" = some none) (z8 : PySem.W.nsIn K mainGlobals "int" = some none) (z9 : PySem.W.nsIn K mainGlobals "all" = some none) (z10 : PySem.W.nsIn K mainGlobals "any" = some none) (z11 : PySem.W.nsIn K mainGlobals "dict" = some none) (z12 : PySem.W.nsIn K mainGlobals "range" = some none) (z13 : PySem.W.nsIn K mainGlobals "zip" = some none) (z14 : PySem.W.nsIn K mainGlobals "set" = some none) (z15 : PySem.W.nsIn K mainGlobals "isinstance" = some none) :
    ∃ fd : FuncData, (∀ (s : Shared) (v : Value), BindsTo s fd ⟨[v], []⟩ [("script", v)]) ∧ ∀ base : Heap, K.In base → base.Ns mainGlobals mg → FnOk l.prog w K mg base CX0 8 fa fd ["script"] (spLaw K) := by
  have e := hfa.symm.trans (PySem.W.mg_of X G a8)
  cases e
  have hb : ∀ y ∈ bNames, mg y = none := by
    intro y hy
    simp only [bNames, List.mem_cons, List.not_mem_nil, or_false] at hy
    rcases hy with rfl | rfl | rfl | rfl | rfl | rfl | rfl | rfl | rfl | rfl | rfl | rfl | rfl | rfl | rfl | rfl
    · exact PySem.W.mg_none_of X G z0
    · exact PySem.W.mg_none_of X G z1
    · exact PySem.W.mg_none_of X G z2
    · exact PySem.W.mg_none_of X G z3
    · exact PySem.W.mg_none_of X G z4
    · exact PySem.W.mg_none_of X G z5
    · exact PySem.W.mg_none_of X G z6
    · exact PySem.W.mg_none_of X G z7
    · exact PySem.W.mg_none_of X G z8
    · exact PySem.W.mg_none_of X G z9
    · exact PySem.W.mg_none_of X G z10
    · exact PySem.W.mg_none_of X G z11
    · exact PySem.W.mg_none_of X G z12
    · exact PySem.W.mg_none_of X G z13
    · exact PySem.W.mg_none_of X G z14
    · exact PySem.W.mg_none_of X G z15
  have F0 := fun_mk (st := s__law_next) l0 c0 k0
  have b0 := F0.binds (ps := ["w", "many"]) fun _ _ _ _ _ _ us hl => match us, hl with | [_, _], _ => rfl
  have F1 := fun_mk (st := s_taken_on) l1 c1 k1
  have b1 := F1.binds (ps := ["car", "stretch"]) fun _ _ _ _ _ _ us hl => match us, hl with | [_, _], _ => rfl
  have F2 := fun_mk (st := s_held_on_way) l2 c2 k2
  have b2 := F2.binds (ps := ["car", "held", "route"]) fun _ _ _ _ _ _ us hl => match us, hl with | [_, _, _], _ => rfl
  have F3 := fun_mk (st := s_comes_to_end) l3 c3 k3
  have b3 := F3.binds (ps := ["car", "held", "route"]) fun _ _ _ _ _ _ us hl => match us, hl with | [_, _, _], _ => rfl
  have F4 := fun_mk (st := s_least_needed) l4 c4 k4
  have b4 := F4.binds (ps := ["car", "route", "goal"]) fun _ _ _ _ _ _ us hl => match us, hl with | [_, _, _], _ => rfl
  have F5 := fun_mk (st := s_turned_route) l5 c5 k5
  have b5 := F5.binds (ps := ["route"]) fun _ _ _ _ _ _ us hl => match us, hl with | [_], _ => rfl
  have F6 := fun_mk (st := s__law_holds) l6 c6 k6
  have b6 := F6.binds (ps := ["w"]) fun _ _ _ _ _ _ us hl => match us, hl with | [_], _ => rfl
  have F7 := fun_mk (st := s__law_draws) l7 c7 k7
  have b7 := F7.binds (ps := ["script", "many"]) fun _ _ _ _ _ _ us hl => match us, hl with | [_, _], _ => rfl
  have F8 := fun_mk (st := s_law) l8 c8 k8
  have b8 := F8.binds (ps := ["script"]) fun _ _ _ _ _ _ us hl => match us, hl with | [_], _ => rfl
  refine ⟨PySem.W.fnOf "law" "law" (defArgs s_law) (defBody s_law) (defScope s_law) .none kV8 dc8 pm8 an8 cd8 ct8, fun s v => .of_eq rfl, fun base _ _ => ?_⟩
  refine ok_law (fh := fn__law_holds) holds F8 F7 k6 b7 b6 (PySem.W.mg_of X G a7) (PySem.W.mg_of X G a6) hb (by decide) fun dw L ds hne => ?_
  have G1 : FnsOk l.prog w K mg base (mkW dw L ds) (Ph_taken_on ds) (Gam.take 1) 1 := FnsOk.snoc (L := []) (fs := []) (Γ := []) FnsOk.nil rfl rfl (ok__law_next hne F0 hb (PySem.W.mg_of X G a0) b0)
  have O1 : OneOk l.prog w K mg base (mkW dw L ds) (fn_taken_on ds) false 2 "taken_on" := def_ok G1 hb F1 sc_taken_on (PySem.W.mg_of X G a1) b1 rfl rfl mt_taken_on
  have G2 : FnsOk l.prog w K mg base (mkW dw L ds) (Ph_held_on_way ds) (Gam.take 2) 2 := FnsOk.snoc (L := [fn__law_next ds]) (fs := [false]) (Γ := Gam.take 1) (G1.mono (by decide)) rfl rfl O1
  have O2 : OneOk l.prog w K mg base (mkW dw L ds) (fn_held_on_way ds) false 3 "held_on_way" := def_ok G2 hb F2 sc_held_on_way (PySem.W.mg_of X G a2) b2 rfl rfl mt_held_on_way
  have G3 : FnsOk l.prog w K mg base (mkW dw L ds) (Ph_comes_to_end ds) (Gam.take 3) 3 := FnsOk.snoc (L := [fn__law_next ds, fn_taken_on ds]) (fs := [false, false]) (Γ := Gam.take 2) (G2.mono (by decide)) rfl rfl O2
  have O3 : OneOk l.prog w K mg base (mkW dw L ds) (fn_comes_to_end ds) false 4 "comes_to_end" := def_ok G3 hb F3 sc_comes_to_end (PySem.W.mg_of X G a3) b3 rfl rfl mt_comes_to_end
  have G4 : FnsOk l.prog w K mg base (mkW dw L ds) (Ph_least_needed ds) (Gam.take 4) 4 := FnsOk.snoc (L := [fn__law_next ds, fn_taken_on ds, fn_held_on_way ds]) (fs := [false, false, false]) (Γ := Gam.take 3) (G3.mono (by decide)) rfl rfl O3
  have O4 : OneOk l.prog w K mg base (mkW dw L ds) (fn_least_needed ds) false 5 "least_needed" := def_ok G4 hb F4 sc_least_needed (PySem.W.mg_of X G a4) b4 rfl rfl mt_least_needed
  have G5 : FnsOk l.prog w K mg base (mkW dw L ds) (Ph_turned_route ds) (Gam.take 5) 5 := FnsOk.snoc (L := [fn__law_next ds, fn_taken_on ds, fn_held_on_way ds, fn_comes_to_end ds]) (fs := [false, false, false, false]) (Γ := Gam.take 4) (G4.mono (by decide)) rfl rfl O4
  have O5 : OneOk l.prog w K mg base (mkW dw L ds) (fn_turned_route ds) false 6 "turned_route" := def_ok G5 hb F5 sc_turned_route (PySem.W.mg_of X G a5) b5 rfl rfl mt_turned_route
  have G6 : FnsOk l.prog w K mg base (mkW dw L ds) (Ph__law_holds ds) (Gam.take 6) 6 := FnsOk.snoc (L := [fn__law_next ds, fn_taken_on ds, fn_held_on_way ds, fn_comes_to_end ds, fn_least_needed ds]) (fs := [false, false, false, false, false]) (Γ := Gam.take 5) (G5.mono (by decide)) rfl rfl O5
  exact def_fn G6 hb F6 sc__law_holds (PySem.W.mg_of X G a6) b6 rfl rfl mt__law_holds
end
end EV.k37
end

/-! E_k37: the end. -/
open PySem PySem.W PyProof.Rows
set_option maxHeartbeats 0 in
theorem PySem.Challenge.cw_onecharge_k37_whole_known_ways_up_and_do_holds : PySem.Challenge.rw_onecharge_k37_whole_known_ways_up_and_do.Holds := by
  w_on; o_law; k_head; (case hw => w_witness2)
  k_fill
  refine L2.walk_of (l := PySem.Challenge.rw_onecharge_k37_whole_known_ways_up_and_do) (n := 63) (k := 8) (x := "script") (CX := fun _ => L2.CX0) (sp := fun w => EV.k37.spLaw _) rfl (by decide) rfl ⟨rfl, by decide, by decide⟩ (fun w h Y => PySem.W.kIn_of Y) ?F (fun _ _ a ns hl _ hS => ⟨a, ns, rfl, hS, hl, fun _ => rfl⟩) (fun _ _ _ _ _ z => z)
  case F =>
    intro w mg fa h KX G hmg
    refine' EV.k37.all_mk EV.k37.holds KX G hmg ?a0 ?l0 ?c0 ?k0 ?a1 ?l1 ?c1 ?k1 ?a2 ?l2 ?c2 ?k2 ?a3 ?l3 ?c3 ?k3 ?a4 ?l4 ?c4 ?k4 ?a5 ?l5 ?c5 ?k5 ?a6 ?l6 ?c6 ?k6 ?a7 ?l7 ?c7 ?k7 ?a8 ?l8 ?c8 ?k8 ?z0 ?z1 ?z2 ?z3 ?z4 ?z5 ?z6 ?z7 ?z8 ?z9 ?z10 ?z11 ?z12 ?z13 ?z14 ?z15
    (case a0 => k_is); (case l0 => k_is); (case c0 => k_is); (case k0 => k_is); (case a1 => k_is); (case l1 => k_is); (case c1 => k_is); (case k1 => k_is)
    (case a2 => k_is); (case l2 => k_is); (case c2 => k_is); (case k2 => k_is); (case a3 => k_is); (case l3 => k_is); (case c3 => k_is); (case k3 => k_is)
    (case a4 => k_is); (case l4 => k_is); (case c4 => k_is); (case k4 => k_is); (case a5 => k_is); (case l5 => k_is); (case c5 => k_is); (case k5 => k_is)
    (case a6 => k_is); (case l6 => k_is); (case c6 => k_is); (case k6 => k_is); (case a7 => k_is); (case l7 => k_is); (case c7 => k_is); (case k7 => k_is)
    (case a8 => k_is); (case l8 => k_is); (case c8 => k_is); (case k8 => k_is); (case z0 => k_is); (case z1 => k_is); (case z2 => k_is); (case z3 => k_is)
    (case z4 => k_is); (case z5 => k_is); (case z6 => k_is); (case z7 => k_is); (case z8 => k_is); (case z9 => k_is); (case z10 => k_is); (case z11 => k_is)
    (case z12 => k_is); (case z13 => k_is); (case z14 => k_is); (case z15 => k_is)
