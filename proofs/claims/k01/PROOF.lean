import PyProof.Rows.All
import Wide.All
import OpenK.AllK
import Wide.FinOn
import KE.KStateDown
import PySem.Str
import PyProof.Lay0
import PyProof.P3Statements
import HandS.ForMost
import HandS.ForExc
import HandS.Walk
import HandS.TupMul
import HandS.TupAny
import HandS.Style
import HandS.IsInst
import HandS.Deep
import HandS.SortInts
import HandS.Zip
import HandS.Rev
import KE.GoesMore
import HandS.TryMany
import HandS.HeadHook1
import HandS.HeadHook2
import HandS.HeadHook4
import HandS.Head0
import HandS.Head1
import HandS.Head2
import HandS.HeadEnd
import PySem.Challenge.RW_proofplay_k01_whole_primes_and_powers
set_option Elab.async false
section -- TLSyn
/-! TL, part 1: values as trees, a compact syntax of a subset of Python, its meaning as predicate transformers over trees. -/
namespace TL
open PySem

inductive TV where
  | non | bl (b : Bool) | int (i : Int) | str (x : Str)
  | tup (xs : List TV) | lst (xs : List TV)
  | dct (ks vs : List TV)
  | obj (c : Nat) (vs : List TV)
  | clo (f : Nat) (vs : List TV)
  | xcp (c : Nat) (vs : List TV)
  | scr (ns : List Int)
  deriving Inhabited

mutual
def TV.dat : TV → PyData
  | .non => .none | .bl b => .bool b | .int i => .int i | .str x => .str x
  | .tup xs => .tuple (TV.dats xs) | .lst xs => .list (TV.dats xs)
  | .dct _ _ | .obj _ _ | .clo _ _ | .xcp _ _ | .scr _ => .none
def TV.dats : List TV → List PyData
  | [] => []
  | x :: xs => x.dat :: TV.dats xs
end
mutual
/-- plain data, at most n deep -/
def TV.flat : Nat → TV → Bool
  | _, .non | _, .bl _ | _, .int _ => true
  | _, .str x => PyData.strOk x
  | n, .tup xs => (match n with | 0 => false | n + 1 => TV.flats n xs)
  | n, .lst xs => (match n with | 0 => false | n + 1 => TV.flats n xs)
  | _, .dct _ _ | _, .obj _ _ | _, .clo _ _ | _, .xcp _ _ | _, .scr _ => false
def TV.flats : Nat → List TV → Bool
  | _, [] => true
  | n, x :: xs => x.flat n && TV.flats n xs
end
def eqv (x y : TV) : Bool := PyData.eqv x.dat y.dat
/-- 16,777,216: the longest list -/
def line : Nat := 16777216

abbrev Env := List (Option TV)
structure Xc where
  cls : Nat
  args : List TV

inductive Bop where | add | sub | mul | mod | fdiv | pow | shl | shr | band | bxor
  deriving DecidableEq
inductive Cop where | eq | ne | lt | le | gt | ge | is_ | isn | in_ | nin
  deriving DecidableEq
inductive Bi where | len | abs | int | str | bool | max2 | min2 | sum | sum2 | all | any | sorted | list | tuple | min1 | max1
  deriving DecidableEq
inductive Ty where | int | bool | str | tuple | list | dict | cls (c : Nat)
  deriving DecidableEq
inductive ItK where | seq | range | enum | zip | rev
  deriving DecidableEq
inductive Tg where
  | name (i : Nat)
  | tup (ts : List Tg)

inductive E where
  | var (i : Nat) | io (i : Nat)
  | int (i : Int) | str (x : Str) | bl (b : Bool) | non
  | glob (g : Nat)
  | bin (o : Bop) (a b : E) | neg (a : E)
  | not_ (a : E) | cmp (o : Cop) (a b : E) | cmp2 (o p : Cop) (a b c : E)
  | bop (isAnd : Bool) (as : List E)
  | ife (c a b : E)
  | call (f : Nat) (as : List E)
  | bi (b : Bi) (as : List E)
  | isi (a : E) (t : Ty)
  | tup (as : List E) | lst (as : List E)
  | idx (a i : E)
  | slc (a : E) (lo hi : Option E) | rev (a : E) | step2 (a : E) (from1 : Bool)
  | comp (elt : E) (tg : Tg) (k : ItK) (as : List E) (cond : Option E) (own : List Nat)
  | comp2 (elt : E) (tg : Tg) (k : ItK) (as : List E) (tg2 : Tg) (k2 : ItK) (as2 : List E) (own : List Nat)
  | pop (i : Nat) | popAt (i : Nat) (e : E)
  | index (a b : E)
  | xfld (i : Nat)

inductive S where
  | asg (i : Nat) (e : E)
  | asgT (t : Tg) (e : E)
  | par (is : List Nat) (es : List E)
  | aug (i : Nat) (o : Bop) (e : E)
  | setI (i : Nat) (ixs : List E) (e : E)
  | append (i : Nat) (ixs : List E) (e : E)
  | extend (i : Nat) (e : E)
  | expr (e : E)
  | ret (e : E) | retN
  | ife (c : E) (a b : List S)
  | for_ (t : Tg) (k : ItK) (as : List E) (body : List S)
  | while_ (c : E) (body : List S)
  | raise_ (c : Nat) (as : List E)
  | try_ (body : List S) (hs : List (Nat × Option Nat × List S))
  | pass | brk | cont

/-- a def: how many parameters, which of them it may change (and how deep it then owns them), how deep it owns what it returns, how many slots, the body -/
structure Def where
  ar : Nat
  io : List (Nat × Nat)
  ret : Nat
  slots : Nat
  body : List S

/-! ### values -/
def numOf : TV → Option Int
  | .int i => some i
  | _ => none
def intsOf : List TV → Option (List Int)
  | [] => some []
  | .int i :: r => (intsOf r).map (i :: ·)
  | _ :: _ => none
def blsOf : List TV → Option (List Bool)
  | [] => some []
  | .bl b :: r => (blsOf r).map (b :: ·)
  | _ :: _ => none
def seqOf : TV → Option (List TV)
  | .tup xs => some xs
  | .lst xs => some xs
  | _ => none

def mulOk (i j : Int) : Prop := (-(2 ^ 64) < i ∧ i < 2 ^ 64) ∨ (-(2 ^ 64) < j ∧ j < 2 ^ 64)
/-- a primitive's answer (what it asks, the value), where there is one -/
abbrev An (α : Type) := Option (Prop × α)
def app {α : Type} (a : An α) (K : α → Prop) : Prop := match a with | some (c, x) => c ∧ K x | none => False
def ok {α : Type} (x : α) : An α := some (True, x)
def addF : TV → TV → An TV
  | .int i, .int j => ok (.int (i + j))
  | .str x, .str y => some (x.length + y.length ≤ line, .str (x ++ y))
  | .lst xs, .lst ys => some (xs.length + ys.length ≤ line, .lst (xs ++ ys))
  | .tup xs, .tup ys => some (xs.length + ys.length ≤ line, .tup (xs ++ ys))
  | _, _ => none
def mulF : TV → TV → An TV
  | .int i, .int j => some (mulOk i j, .int (i * j))
  | .lst xs, .int k => some (-(2 ^ 62) < k ∧ k < 2 ^ 62 ∧ xs.length * k.toNat ≤ line, .lst (List.replicate k.toNat xs).flatten)
  | .tup xs, .int k => some (-(2 ^ 62) < k ∧ k < 2 ^ 62 ∧ xs.length * k.toNat ≤ line, .tup (List.replicate k.toNat xs).flatten)
  | _, _ => none
def binF : Bop → TV → TV → An TV
  | .add, x, y => addF x y
  | .mul, x, y => mulF x y
  | .sub, .int i, .int j => ok (.int (i - j))
  | .mod, .int i, .int j => some (0 < j, .int (i % j))
  | .fdiv, .int i, .int j => some (0 < j ∧ j < 1073741824, .int (i / j))
  | .pow, .int i, .int j => some (0 ≤ j ∧ j ≤ 1000000 ∧ i.natAbs < 2 ^ 64, .int (i ^ j.toNat))
  | .shl, .int i, .int j => some (0 ≤ j ∧ j ≤ 1000000 ∧ i.natAbs < 2 ^ 64, .int (i * 2 ^ j.toNat))
  | .shr, .int i, .int j => some (0 ≤ j, .int (i / 2 ^ j.toNat))
  | .band, .int i, .int j => ok (.int (Builtin.bitAnd i j))
  | .bxor, .int i, .int j => ok (.int (Builtin.bitXor i j))
  | _, _, _ => none
def augF : Bop → TV → TV → An TV
  | .add, .int i, .int j => ok (.int (i + j))
  | .sub, .int i, .int j => ok (.int (i - j))
  | _, _, _ => none
def negF : TV → An TV
  | .int i => ok (.int (-i))
  | _ => none
def isNon : TV → Bool
  | .non => true
  | _ => false
def cmpF : Cop → TV → TV → An Bool
  | .eq, x, y => some (x.flat 60 = true ∧ y.flat 60 = true, eqv x y)
  | .ne, x, y => some (x.flat 60 = true ∧ y.flat 60 = true, !eqv x y)
  | .lt, .int i, .int j => ok (decide (i < j))
  | .le, .int i, .int j => ok (decide (i ≤ j))
  | .gt, .int i, .int j => ok (decide (j < i))
  | .ge, .int i, .int j => ok (decide (j ≤ i))
  | .is_, x, .non => ok (isNon x)
  | .isn, x, .non => ok (!isNon x)
  | .is_, .bl a, .bl b => ok (decide (a = b))
  | .isn, .bl a, .bl b => ok (!decide (a = b))
  | .in_, x, .lst ys => some (x.flat 60 = true ∧ TV.flats 60 ys = true, ys.any fun y => eqv y x)
  | .nin, x, .lst ys => some (x.flat 60 = true ∧ TV.flats 60 ys = true, !ys.any fun y => eqv y x)
  | .in_, x, .tup ys => some (x.flat 60 = true ∧ TV.flats 60 ys = true, ys.any fun y => eqv y x)
  | .nin, x, .tup ys => some (x.flat 60 = true ∧ TV.flats 60 ys = true, !ys.any fun y => eqv y x)
  | _, _, _ => none
def truF : TV → An Bool
  | .bl b => ok b
  | .int i => ok (i != 0)
  | .non => ok false
  | .tup xs => ok (!xs.isEmpty)
  | .lst xs => ok (!xs.isEmpty)
  | _ => none
def tyF : TV → Ty → An Bool
  | _, .cls _ => none
  | .non, _ => ok false
  | .bl _, t => ok (t == .bool || t == .int)
  | .int _, t => ok (t == .int)
  | .str _, t => ok (t == .str)
  | .tup _, t => ok (t == .tuple)
  | .lst _, t => ok (t == .list)
  | _, _ => none
def atI (xs : List TV) (i : Int) : Option TV :=
  if 0 ≤ i then xs[i.toNat]? else if -(xs.length : Int) ≤ i then xs[(i + xs.length).toNat]? else none
def idxF : TV → TV → An TV
  | .tup xs, .int i => (atI xs i).bind ok
  | .lst xs, .int i => (atI xs i).bind ok
  | _, _ => none
/-- a slice's end, n the length, d what stands where it is left out -/
def cutIx (n d : Nat) : Option Int → Nat
  | none => d
  | some v => if v < 0 then (v + n).toNat else min v.toNat n
def cut (xs : List TV) (lo hi : Option Int) : List TV := (xs.drop (cutIx xs.length 0 lo)).take (cutIx xs.length xs.length hi - cutIx xs.length 0 lo)
def cutF : TV → Option Int → Option Int → An TV
  | .tup xs, lo, hi => ok (.tup (cut xs lo hi))
  | .lst xs, lo, hi => ok (.lst (cut xs lo hi))
  | .scr ns, lo, hi => ok (.lst (cut (ns.map .int) lo hi))
  | _, _, _ => none
def revF : TV → An TV
  | .tup xs => ok (.tup xs.reverse)
  | .lst xs => ok (.lst xs.reverse)
  | _ => none
def evens {α : Type} : List α → List α
  | [] => []
  | [x] => [x]
  | x :: _ :: r => x :: evens r
def step2F (from1 : Bool) : TV → An TV
  | .tup xs => ok (.tup (evens (if from1 then xs.drop 1 else xs)))
  | .lst xs => ok (.lst (evens (if from1 then xs.drop 1 else xs)))
  | _ => none
def indexF : TV → TV → An TV
  | .lst xs, y => (xs.findIdx? fun z => eqv z y).bind fun j => some (y.flat 0 = true ∧ TV.flats 0 xs = true, .int j)
  | _, _ => none
def insI (x : Int) : List Int → List Int
  | [] => [x]
  | y :: r => if x ≤ y then x :: y :: r else y :: insI x r
def sortI : List Int → List Int
  | [] => []
  | x :: r => insI x (sortI r)
def leastI (x : Int) (r : List Int) : Int := r.foldl min x
def mostI (x : Int) (r : List Int) : Int := r.foldl max x
def biF : Bi → List TV → An TV
  | .len, [.tup xs] => ok (.int xs.length)
  | .len, [.lst xs] => ok (.int xs.length)
  | .abs, [.int i] => ok (.int i.natAbs)
  | .int, [.int i] => ok (.int i)
  | .int, [.bl b] => ok (.int (if b then 1 else 0))
  | .str, [.int i] => some (i.natAbs.log2 < 1920, .str (toString i))
  | .max2, [.int i, .int j] => ok (.int (max i j))
  | .min2, [.int i, .int j] => ok (.int (min i j))
  | .sum, [.lst xs] => (intsOf xs).bind fun ns => ok (.int ns.sum)
  | .all, [.lst xs] => (blsOf xs).bind fun bs => ok (.bl (bs.all id))
  | .any, [.lst xs] => (blsOf xs).bind fun bs => ok (.bl (bs.any id))
  | .sorted, [.lst xs] => (intsOf xs).bind fun ns => ok (.lst ((sortI ns).map .int))
  | .list, [.lst xs] => ok (.lst xs)
  | .list, [.tup xs] => ok (.lst xs)
  | .tuple, [.lst xs] => ok (.tup xs)
  | .tuple, [.tup xs] => ok (.tup xs)
  | .min1, [.lst xs] => (match intsOf xs with | some (n :: ns) => ok (.int (leastI n ns)) | _ => none)
  | .max1, [.lst xs] => (match intsOf xs with | some (n :: ns) => ok (.int (mostI n ns)) | _ => none)
  | _, _ => none
def rangeL (a : Int) (n : Nat) : List TV := (List.range n).map fun (i : Nat) => TV.int (a + (i : Int))
def rangeD (a : Int) (n : Nat) : List TV := (List.range n).map fun (i : Nat) => TV.int (a - (i : Int))
def small62 (i : Int) : Prop := -(2 ^ 62) ≤ i ∧ i < 2 ^ 62
def pairsZ (xs ys : List TV) : List TV := List.zipWith (fun x y => .tup [x, y]) xs ys
def pairsE (xs : List TV) : List TV := xs.zipIdx.map fun p => .tup [.int p.2, p.1]
def itF : ItK → List TV → An (List TV)
  | .seq, [.tup xs] => ok xs
  | .seq, [.lst xs] => ok xs
  | .range, [.int n] => some (n ≤ line ∧ small62 n, rangeL 0 n.toNat)
  | .range, [.int a, .int b] => some (b - a ≤ line ∧ small62 a ∧ small62 b, rangeL a (b - a).toNat)
  | .range, [.int a, .int b, .int c] => some (c = -1 ∧ a - b ≤ line ∧ small62 a ∧ small62 b, rangeD a (a - b).toNat)
  | .enum, [.tup xs] => ok (pairsE xs)
  | .enum, [.lst xs] => ok (pairsE xs)
  | .zip, [.tup xs, .tup ys] => ok (pairsZ xs ys)
  | .zip, [.lst xs, .lst ys] => ok (pairsZ xs ys)
  | .rev, [.tup xs] => ok xs.reverse
  | .rev, [.lst xs] => ok xs.reverse
  | _, _ => none

/-! ### slots -/
def getV (ρ : Env) (i : Nat) (K : TV → Prop) : Prop :=
  match ρ[i]? with
  | some (some x) => K x
  | _ => False
mutual
def bindTg : Tg → TV → Env → (Env → Prop) → Prop
  | .name i, x, ρ, K => K (ρ.set i (some x))
  | .tup ts, x, ρ, K => (match x with | .tup xs => bindTgs ts xs ρ K | .lst xs => bindTgs ts xs ρ K | _ => False)
def bindTgs : List Tg → List TV → Env → (Env → Prop) → Prop
  | [], [], ρ, K => K ρ
  | t :: ts, x :: xs, ρ, K => bindTg t x ρ fun ρ' => bindTgs ts xs ρ' K
  | _, _, _, _ => False
end
def wipe (ρ : Env) : List Nat → Env
  | [] => ρ
  | i :: r => (wipe ρ r).set i none
/-- the slots of own as they were in ρ₀ -/
def restore (ρ₀ : Env) (ρ : Env) : List Nat → Env
  | [] => ρ
  | i :: r => (restore ρ₀ ρ r).set i (ρ₀[i]?.getD none)
def setAll : List Nat → List TV → Env → Option Env
  | [], [], ρ => some ρ
  | i :: is, x :: xs, ρ => setAll is xs (ρ.set i (some x))
  | _, _, _ => none

/-- a call: the def, the arguments, what is wanted of the value (with the changed parameters), of an exception -/
abbrev Calls := Nat → List TV → (TV → List TV → Prop) → (Xc → List TV → Prop) → Prop

/-- the arguments, those that may be changed read last -/
def fillIo : List E → List TV → Env → (List TV → Prop) → Prop
  | [], [], _, K => K []
  | .io i :: as, x :: xs, ρ, K => getV ρ i fun y => fillIo as xs ρ fun ys => K (y :: ys)
  | _ :: as, x :: xs, ρ, K => fillIo as xs ρ fun ys => K (x :: ys)
  | _, _, _, _ => False
def backIo : List E → List TV → Env → Env
  | .io i :: as, y :: ys, ρ => backIo as ys (ρ.set i (some y))
  | .io _ :: _, [], ρ => ρ
  | _ :: as, ys, ρ => backIo as ys ρ
  | [], _, ρ => ρ

def loopC (f : TV → Env → List TV → (List TV → Env → Prop) → Prop) : List TV → Env → List TV → (List TV → Env → Prop) → Prop
  | [], ρ, acc, K => K acc ρ
  | x :: xs, ρ, acc, K => f x ρ acc fun acc' ρ' => loopC f xs ρ' acc' K

section
variable (C : Calls) (G : Nat → TV)
mutual
def wpE : E → Env → (TV → Env → Prop) → (Xc → Env → Prop) → Prop
  | .var i, ρ, K, _ => getV ρ i fun x => K x ρ
  | .io i, ρ, K, _ => getV ρ i fun _ => K .non ρ
  | .int i, ρ, K, _ => K (.int i) ρ
  | .str x, ρ, K, _ => K (.str x) ρ
  | .bl b, ρ, K, _ => K (.bl b) ρ
  | .non, ρ, K, _ => K .non ρ
  | .glob g, ρ, K, _ => K (G g) ρ
  | .bin o a b, ρ, K, X => wpE a ρ (fun x ρ1 => wpE b ρ1 (fun y ρ2 => app (binF o x y) fun z => K z ρ2) X) X
  | .neg a, ρ, K, X => wpE a ρ (fun x ρ1 => app (negF x) fun z => K z ρ1) X
  | .not_ a, ρ, K, X => wpE a ρ (fun x ρ1 => app (truF x) fun b => K (.bl (!b)) ρ1) X
  | .cmp o a b, ρ, K, X => wpE a ρ (fun x ρ1 => wpE b ρ1 (fun y ρ2 => app (cmpF o x y) fun z => K (.bl z) ρ2) X) X
  | .cmp2 o p a b c, ρ, K, X => wpE a ρ (fun x ρ1 => wpE b ρ1 (fun y ρ2 => app (cmpF o x y) fun z =>
      if z = true then wpE c ρ2 (fun w ρ3 => app (cmpF p y w) fun z' => K (.bl z') ρ3) X else K (.bl false) ρ2) X) X
  | .bop d as, ρ, K, X => wpV d as ρ K X
  | .ife c a b, ρ, K, X => wpT c ρ (fun t ρ1 => if t = true then wpE a ρ1 K X else wpE b ρ1 K X) X
  | .call f as, ρ, K, X => wpEs as ρ (fun xs ρ1 => fillIo as xs ρ1 fun ys => C f ys (fun r os => K r (backIo as os ρ1)) fun e os => X e (backIo as os ρ1)) X
  | .bi b as, ρ, K, X => wpEs as ρ (fun xs ρ1 => app (biF b xs) fun z => K z ρ1) X
  | .isi a t, ρ, K, X => wpE a ρ (fun x ρ1 => app (tyF x t) fun b => K (.bl b) ρ1) X
  | .tup as, ρ, K, X => wpEs as ρ (fun xs ρ1 => xs.length ≤ line ∧ K (.tup xs) ρ1) X
  | .lst as, ρ, K, X => wpEs as ρ (fun xs ρ1 => xs.length ≤ line ∧ K (.lst xs) ρ1) X
  | .idx a i, ρ, K, X => wpE a ρ (fun x ρ1 => wpE i ρ1 (fun y ρ2 => app (idxF x y) fun z => K z ρ2) X) X
  | .slc a lo hi, ρ, K, X => wpE a ρ (fun x ρ1 => wpO lo ρ1 (fun l ρ2 => wpO hi ρ2 (fun h ρ3 => app (cutF x l h) fun z => K z ρ3) X) X) X
  | .rev a, ρ, K, X => wpE a ρ (fun x ρ1 => app (revF x) fun z => K z ρ1) X
  | .step2 a f, ρ, K, X => wpE a ρ (fun x ρ1 => app (step2F f x) fun z => K z ρ1) X
  | .comp elt tg k as cond own, ρ, K, X => wpEs as ρ (fun vs ρ1 => app (itF k vs) fun items =>
      loopC (fun x ρ2 acc next => bindTg tg x (wipe ρ2 own) fun ρ3 => wpC cond ρ3 (fun b ρ4 =>
        if b = true then wpE elt ρ4 (fun y ρ5 => next (acc ++ [y]) (restore ρ1 ρ5 own)) (fun _ _ => False) else next acc (restore ρ1 ρ4 own)) (fun _ _ => False)) items ρ1 [] fun acc ρ' => K (.lst acc) ρ') X
  | .comp2 elt tg k as tg2 k2 as2 own, ρ, K, X => wpEs as ρ (fun vs ρ1 => app (itF k vs) fun items =>
      loopC (fun x ρ2 acc next => bindTg tg x (wipe ρ2 own) fun ρ3 => wpEs as2 ρ3 (fun vs2 ρ4 => app (itF k2 vs2) fun items2 =>
        loopC (fun x2 ρ5 acc2 next2 => bindTg tg2 x2 ρ5 fun ρ6 => wpE elt ρ6 (fun y ρ7 => acc2.length < line ∧ next2 (acc2 ++ [y]) ρ7) (fun _ _ => False)) items2 ρ4 acc fun acc2 ρ8 => next acc2 (restore ρ1 ρ8 own)) (fun _ _ => False)) items ρ1 [] fun acc ρ' => K (.lst acc) ρ') X
  | .pop i, ρ, K, _ => getV ρ i fun x => (match x with
      | .lst xs => (match xs.getLast? with | some y => K y (ρ.set i (some (.lst xs.dropLast))) | none => False)
      | _ => False)
  | .popAt i e, ρ, K, X => getV ρ i fun x0 => (match x0 with
      | .lst _ => wpE e ρ (fun j ρ1 => getV ρ1 i fun x => (match x, j with
        | .lst xs, .int j => (0 ≤ j ∧ j < line) ∧ (match xs[j.toNat]? with | some y => K y (ρ1.set i (some (.lst (xs.eraseIdx j.toNat)))) | none => False)
        | _, _ => False)) X
      | _ => False)
  | .index a b, ρ, K, X => wpE a ρ (fun x ρ1 => (match x with
      | .lst xs => wpE b ρ1 (fun y ρ2 => app (indexF (.lst xs) y) fun z => K z ρ2) X
      | _ => False)) X
  | .xfld i, ρ, K, _ => getV ρ i fun x => (match x with | .xcp _ [y] => K y ρ | _ => False)
def wpT : E → Env → (Bool → Env → Prop) → (Xc → Env → Prop) → Prop
  | .not_ a, ρ, K, X => wpT a ρ (fun b ρ1 => K (!b) ρ1) X
  | .cmp o a b, ρ, K, X => wpE a ρ (fun x ρ1 => wpE b ρ1 (fun y ρ2 => app (cmpF o x y) fun z => K z ρ2) X) X
  | .cmp2 o p a b c, ρ, K, X => wpE a ρ (fun x ρ1 => wpE b ρ1 (fun y ρ2 => app (cmpF o x y) fun z =>
      if z = true then wpE c ρ2 (fun w ρ3 => app (cmpF p y w) fun z' => K z' ρ3) X else K false ρ2) X) X
  | .bop d as, ρ, K, X => wpB d as ρ K X
  | .var i, ρ, K, _ => getV ρ i fun x => app (truF x) fun b => K b ρ
  | .call f as, ρ, K, X => wpEs as ρ (fun xs ρ1 => fillIo as xs ρ1 fun ys => C f ys (fun r os => app (truF r) fun b => K b (backIo as os ρ1)) fun e os => X e (backIo as os ρ1)) X
  | .bi b as, ρ, K, X => wpEs as ρ (fun xs ρ1 => app (biF b xs) fun z => app (truF z) fun t => K t ρ1) X
  | .isi a t, ρ, K, X => wpE a ρ (fun x ρ1 => app (tyF x t) fun b => K b ρ1) X
  | .idx a i, ρ, K, X => wpE a ρ (fun x ρ1 => wpE i ρ1 (fun y ρ2 => app (idxF x y) fun z => app (truF z) fun b => K b ρ2) X) X
  | .bl b, ρ, K, _ => K b ρ
  | .ife c a b, ρ, K, X => wpT c ρ (fun t ρ1 => if t = true then wpT a ρ1 K X else wpT b ρ1 K X) X
  | _, _, _, _ => False
def wpV : Bool → List E → Env → (TV → Env → Prop) → (Xc → Env → Prop) → Prop
  | _, [], _, _, _ => False
  | _, [a], ρ, K, X => wpE a ρ K X
  | d, a :: b :: r, ρ, K, X => wpE a ρ (fun x ρ1 => app (truF x) fun t => if t = d then wpV d (b :: r) ρ1 K X else K x ρ1) X
def wpB : Bool → List E → Env → (Bool → Env → Prop) → (Xc → Env → Prop) → Prop
  | _, [], _, _, _ => False
  | _, [a], ρ, K, X => wpT a ρ K X
  | d, a :: b :: r, ρ, K, X => wpT a ρ (fun t ρ1 => if t = d then wpB d (b :: r) ρ1 K X else K t ρ1) X
def wpEs : List E → Env → (List TV → Env → Prop) → (Xc → Env → Prop) → Prop
  | [], ρ, K, _ => K [] ρ
  | a :: as, ρ, K, X => wpE a ρ (fun x ρ1 => wpEs as ρ1 (fun xs ρ2 => K (x :: xs) ρ2) X) X
def wpO : Option E → Env → (Option Int → Env → Prop) → (Xc → Env → Prop) → Prop
  | none, ρ, K, _ => K none ρ
  | some a, ρ, K, X => wpE a ρ (fun x ρ1 => match x with | .int i => K (some i) ρ1 | _ => False) X
def wpC : Option E → Env → (Bool → Env → Prop) → (Xc → Env → Prop) → Prop
  | none, ρ, K, _ => K true ρ
  | some a, ρ, K, X => wpT a ρ K X
end
end

structure Dn where
  nx : Env → Prop
  rt : TV → Env → Prop
  bk : Env → Prop := fun _ => False
  ct : Env → Prop := fun _ => False
  ex : Xc → Env → Prop := fun _ _ => False

def loopF (f : TV → Env → (Env → Prop) → Prop) : List TV → Env → (Env → Prop) → Prop
  | [], ρ, K => K ρ
  | x :: xs, ρ, K => f x ρ fun ρ' => loopF f xs ρ' K
def loopW (c : Env → (Bool → Env → Prop) → Prop) (b : Env → (Env → Prop) → Prop) : Nat → Env → (Env → Prop) → Prop
  | 0, _, _ => False
  | m + 1, ρ, K => c ρ fun t ρ1 => if t = true then b ρ1 fun ρ2 => loopW c b m ρ2 K else K ρ1
/-- x[i1] .. [in] = y within a tree -/
def putAt : TV → List TV → TV → Option TV
  | .lst xs, [.int i], y => if 0 ≤ i ∧ i < xs.length then some (.lst (xs.set i.toNat y)) else if -(xs.length : Int) ≤ i ∧ i < 0 then some (.lst (xs.set (i + xs.length).toNat y)) else none
  | .lst xs, .int i :: j :: r, y => if 0 ≤ i then (match xs[i.toNat]? with | some x => (putAt x (j :: r) y).map fun z => .lst (xs.set i.toNat z) | none => none) else none
  | _, _, _ => none
/-- x[i1] .. [in].append(y) -/
def appAt : TV → List TV → TV → Option TV
  | .lst xs, [], y => some (.lst (xs ++ [y]))
  | .lst xs, .int i :: r, y => if 0 ≤ i then (match xs[i.toNat]? with | some x => (appAt x r y).map fun z => .lst (xs.set i.toNat z) | none => none) else none
  | _, _, _ => none
def lenAt : TV → List TV → Nat
  | .lst xs, [] => xs.length
  | .lst xs, .int i :: r => if 0 ≤ i then (match xs[i.toNat]? with | some x => lenAt x r | none => 0) else 0
  | _, _ => 0
def isL : TV → Bool
  | .lst _ => true
  | _ => false
def isSub (c h : Nat) : Bool := c == h || h == 0

section
variable (C : Calls) (G : Nat → TV)
mutual
def wpS : S → Env → Dn → Prop
  | .asg i e, ρ, D => wpE C G e ρ (fun x ρ1 => D.nx (ρ1.set i (some x))) D.ex
  | .asgT t e, ρ, D => wpE C G e ρ (fun x ρ1 => bindTg t x ρ1 D.nx) D.ex
  | .par is es, ρ, D => wpEs C G es ρ (fun xs ρ1 => match setAll is xs ρ1 with | some ρ2 => D.nx ρ2 | none => False) D.ex
  | .aug i o e, ρ, D => getV ρ i fun x => wpE C G e ρ (fun y ρ1 => app (augF o x y) fun z => D.nx (ρ1.set i (some z))) D.ex
  | .setI i ixs e, ρ, D => wpE C G e ρ (fun y ρ1 => getV ρ1 i fun _ => wpEs C G ixs ρ1 (fun js ρ2 => getV ρ2 i fun x => match putAt x js y with | some z => D.nx (ρ2.set i (some z)) | none => False) D.ex) D.ex
  | .append i ixs e, ρ, D => getV ρ i fun x0 => isL x0 = true ∧ wpEs C G ixs ρ (fun js ρ1 => wpE C G e ρ1 (fun y ρ2 => getV ρ2 i fun x => lenAt x js < line ∧ match appAt x js y with | some z => D.nx (ρ2.set i (some z)) | none => False) D.ex) D.ex
  | .extend i e, ρ, D => wpE C G e ρ (fun y ρ1 => getV ρ1 i fun x => match x, y with | .lst xs, .lst ys => xs.length + ys.length ≤ line ∧ D.nx (ρ1.set i (some (.lst (xs ++ ys)))) | _, _ => False) D.ex
  | .expr e, ρ, D => wpE C G e ρ (fun _ ρ1 => D.nx ρ1) D.ex
  | .ret e, ρ, D => wpE C G e ρ (fun x ρ1 => D.rt x ρ1) D.ex
  | .retN, ρ, D => D.rt .non ρ
  | .ife c a b, ρ, D => wpT C G c ρ (fun t ρ1 => if t = true then wpSs a ρ1 D else wpSs b ρ1 D) D.ex
  | .for_ t k as body, ρ, D => wpEs C G as ρ (fun vs ρ1 => app (itF k vs) fun items =>
      loopF (fun x ρ2 next => bindTg t x ρ2 fun ρ3 => wpSs body ρ3 { D with nx := next, ct := next, bk := D.nx }) items ρ1 D.nx) D.ex
  | .while_ c body, ρ, D => ∃ m, loopW (fun ρ1 K => wpT C G c ρ1 K D.ex) (fun ρ1 next => wpSs body ρ1 { D with nx := next, ct := next, bk := D.nx }) m ρ D.nx
  | .raise_ c as, ρ, D => wpEs C G as ρ (fun xs ρ1 => D.ex ⟨c, xs⟩ ρ1) D.ex
  | .try_ body hs, ρ, D => wpSs body ρ { D with ex := fun x ρ1 => wpH hs x ρ1 D }
  | .pass, ρ, D => D.nx ρ
  | .brk, ρ, D => D.bk ρ
  | .cont, ρ, D => D.ct ρ
def wpSs : List S → Env → Dn → Prop
  | [], ρ, D => D.nx ρ
  | s :: r, ρ, D => wpS s ρ { D with nx := fun ρ1 => wpSs r ρ1 D }
def wpH : List (Nat × Option Nat × List S) → Xc → Env → Dn → Prop
  | [], x, ρ, D => D.ex x ρ
  | (h, n, b) :: r, x, ρ, D => if isSub x.cls h = true then
      (match n with
        | none => wpSs b ρ { D with ex := fun _ _ => False }
        | some i => wpSs b (ρ.set i none) { D with nx := fun ρ1 => D.nx (ρ1.set i none), bk := fun ρ1 => D.bk (ρ1.set i none), ct := fun ρ1 => D.ct (ρ1.set i none), ex := fun _ _ => False })
    else wpH r x ρ D
end
end

/-- the changed parameters behind a body -/
def finals : List (Nat × Nat) → Env → (List TV → Prop) → Prop
  | [], _, K => K []
  | (i, _) :: r, ρ, K => getV ρ i fun x => finals r ρ fun xs => K (x :: xs)
/-- a program: its defs, its module's constants; calls at most n deep -/
structure Prog where
  defs : List Def
  globs : List TV
def Prog.call (P : Prog) : Nat → Calls
  | 0 => fun _ _ _ _ => False
  | n + 1 => fun f xs K X => match P.defs[f]? with
    | none => False
    | some d => xs.length = d.ar ∧ wpSs (P.call n) (fun g => P.globs.getD g .non) d.body (xs.map some ++ List.replicate (d.slots - d.ar) none)
        { nx := fun ρ => finals d.io ρ fun os => K .non os, rt := fun x ρ => finals d.io ρ fun os => K x os, ex := fun e ρ => finals d.io ρ fun os => X e os }
end TL
end -- TLSyn

section -- TLMono
/-! TL, part 2: what is wanted may be weakened. -/
namespace TL
open PySem
theorem app_mono {α : Type} {a : An α} {K K' : α → Prop} (h : ∀ x, K x → K' x) (q : app a K) : app a K' := by
  unfold app at *
  split at q
  · exact ⟨q.1, h _ q.2⟩
  · exact q
theorem getV_mono {ρ : Env} {i : Nat} {K K' : TV → Prop} (h : ∀ x, K x → K' x) (q : getV ρ i K) : getV ρ i K' := by
  unfold getV at *
  split at q
  · exact h _ q
  · exact q
mutual
theorem bindTg_mono {K K' : Env → Prop} (h : ∀ x, K x → K' x) : ∀ (t : Tg) (x : TV) (ρ : Env), bindTg t x ρ K → bindTg t x ρ K'
  | .name i, x, ρ, q => by simp only [bindTg] at *; exact h _ q
  | .tup ts, x, ρ, q => by
    simp only [bindTg] at *
    split at q
    · exact bindTgs_mono h ts _ ρ q
    · exact bindTgs_mono h ts _ ρ q
    · exact q
theorem bindTgs_mono {K K' : Env → Prop} (h : ∀ x, K x → K' x) : ∀ (ts : List Tg) (xs : List TV) (ρ : Env), bindTgs ts xs ρ K → bindTgs ts xs ρ K'
  | [], [], ρ, q => by simp only [bindTgs] at *; exact h _ q
  | t :: ts, x :: xs, ρ, q => by
    simp only [bindTgs] at *
    exact bindTg_mono (fun ρ' => bindTgs_mono h ts xs ρ') t x ρ q
  | [], _ :: _, _, q => by simp only [bindTgs] at q
  | _ :: _, [], _, q => by simp only [bindTgs] at q
end
theorem fillIo_mono : ∀ (as : List E) (xs : List TV) (ρ : Env) {K K' : List TV → Prop}, (∀ x, K x → K' x) → fillIo as xs ρ K → fillIo as xs ρ K'
  | [], [], _, _, _, h, q => by simp only [fillIo] at *; exact h _ q
  | [], _ :: _, _, _, _, _, q => by simp only [fillIo] at q
  | [a], [], _, _, _, _, q => by cases a <;> simp only [fillIo] at q
  | a :: _ :: _, [], _, _, _, _, q => by cases a <;> simp only [fillIo] at q
  | a :: as, x :: xs, ρ, _, _, h, q => by
    cases a
    case io i => simp only [fillIo] at *; exact getV_mono (fun y => fillIo_mono as xs ρ fun ys => h _) q
    all_goals (simp only [fillIo] at *; exact fillIo_mono as xs ρ (fun ys => h _) q)
theorem loopC_mono {f g : TV → Env → List TV → (List TV → Env → Prop) → Prop} (hf : ∀ x ρ acc (K K' : List TV → Env → Prop), (∀ a ρ, K a ρ → K' a ρ) → f x ρ acc K → g x ρ acc K') :
    ∀ (xs : List TV) (ρ : Env) (acc : List TV) {K K' : List TV → Env → Prop}, (∀ a ρ, K a ρ → K' a ρ) → loopC f xs ρ acc K → loopC g xs ρ acc K'
  | [], _, _, _, _, h, q => h _ _ q
  | x :: xs, ρ, acc, _, _, h, q => hf x ρ acc _ _ (fun a ρ' => loopC_mono hf xs ρ' a h) q
theorem loopF_mono {f g : TV → Env → (Env → Prop) → Prop} (hf : ∀ x ρ (K K' : Env → Prop), (∀ ρ, K ρ → K' ρ) → f x ρ K → g x ρ K') :
    ∀ (xs : List TV) (ρ : Env) {K K' : Env → Prop}, (∀ ρ, K ρ → K' ρ) → loopF f xs ρ K → loopF g xs ρ K'
  | [], _, _, _, h, q => h _ q
  | x :: xs, ρ, _, _, h, q => hf x ρ _ _ (fun ρ' => loopF_mono hf xs ρ' h) q
theorem loopW_mono {c c' : Env → (Bool → Env → Prop) → Prop} {b b' : Env → (Env → Prop) → Prop} (hc : ∀ ρ (K K' : Bool → Env → Prop), (∀ t ρ, K t ρ → K' t ρ) → c ρ K → c' ρ K')
    (hb : ∀ ρ (K K' : Env → Prop), (∀ ρ, K ρ → K' ρ) → b ρ K → b' ρ K') : ∀ (m : Nat) (ρ : Env) {K K' : Env → Prop}, (∀ ρ, K ρ → K' ρ) → loopW c b m ρ K → loopW c' b' m ρ K'
  | 0, _, _, _, _, q => q
  | m + 1, ρ, K, K', h, q => hc ρ _ _ (fun t ρ1 q1 => by
      cases t with
      | true =>
        simp only [if_true] at *
        exact hb ρ1 _ _ (fun ρ2 => loopW_mono hc hb m ρ2 h) q1
      | false =>
        simp only [Bool.false_eq_true, if_false] at *
        exact h _ q1) q
def MonoC (C : Calls) : Prop := ∀ f xs {K K' : TV → List TV → Prop} {X X' : Xc → List TV → Prop}, (∀ r os, K r os → K' r os) → (∀ e os, X e os → X' e os) → C f xs K X → C f xs K' X'
section
variable {C : Calls} {G : Nat → TV} (hC : MonoC C)
include hC
mutual
theorem wpE_mono : ∀ (c : E) (ρ : Env) {K K' : TV → Env → Prop} {X X' : Xc → Env → Prop}, (∀ x ρ, K x ρ → K' x ρ) → (∀ e ρ, X e ρ → X' e ρ) → wpE C G c ρ K X → wpE C G c ρ K' X'
  | .var i, ρ, _, _, _, _, h, hx, q => by simp only [wpE] at *; exact getV_mono (fun x => h x ρ) q
  | .io _, ρ, _, _, _, _, h, hx, q => by simp only [wpE] at *; exact getV_mono (fun x => h _ ρ) q
  | .int _, ρ, _, _, _, _, h, hx, q => by simp only [wpE] at *; exact h _ _ q
  | .str _, ρ, _, _, _, _, h, hx, q => by simp only [wpE] at *; exact h _ _ q
  | .bl _, ρ, _, _, _, _, h, hx, q => by simp only [wpE] at *; exact h _ _ q
  | .non, ρ, _, _, _, _, h, hx, q => by simp only [wpE] at *; exact h _ _ q
  | .glob _, ρ, _, _, _, _, h, hx, q => by simp only [wpE] at *; exact h _ _ q
  | .bin o a b, ρ, _, _, _, _, h, hx, q => by
    simp only [wpE] at *
    exact wpE_mono a ρ (fun x ρ1 => wpE_mono b ρ1 (fun y ρ2 => app_mono fun z => h z ρ2) hx) hx q
  | .neg a, ρ, _, _, _, _, h, hx, q => by
    simp only [wpE] at *
    exact wpE_mono a ρ (fun x ρ1 => app_mono fun z => h z ρ1) hx q
  | .not_ a, ρ, _, _, _, _, h, hx, q => by
    simp only [wpE] at *
    exact wpE_mono a ρ (fun x ρ1 => app_mono fun z => h _ ρ1) hx q
  | .cmp o a b, ρ, _, _, _, _, h, hx, q => by
    simp only [wpE] at *
    exact wpE_mono a ρ (fun x ρ1 => wpE_mono b ρ1 (fun y ρ2 => app_mono fun z => h _ ρ2) hx) hx q
  | .cmp2 o p a b c, ρ, _, _, _, _, h, hx, q => by
    simp only [wpE] at *
    refine wpE_mono a ρ (fun x ρ1 => wpE_mono b ρ1 (fun y ρ2 => app_mono fun z q => ?_) hx) hx q
    cases z with
    | true => simp only [if_true] at *; exact wpE_mono c ρ2 (fun w ρ3 => app_mono fun z' => h _ ρ3) hx q
    | false => simp only [Bool.false_eq_true, if_false] at *; exact h _ _ q
  | .bop d as, ρ, _, _, _, _, h, hx, q => by
    simp only [wpE] at *
    exact wpV_mono d as ρ h hx q
  | .ife c a b, ρ, _, _, _, _, h, hx, q => by
    simp only [wpE] at *
    refine wpT_mono c ρ (fun t ρ1 q => ?_) hx q
    cases t with
    | true => simp only [if_true] at *; exact wpE_mono a ρ1 h hx q
    | false => simp only [Bool.false_eq_true, if_false] at *; exact wpE_mono b ρ1 h hx q
  | .call f as, ρ, _, _, _, _, h, hx, q => by
    simp only [wpE] at *
    exact wpEs_mono as ρ (fun xs ρ1 => fillIo_mono as xs ρ1 fun ys => hC f ys (fun r os => h r _) fun e os => hx e _) hx q
  | .bi b as, ρ, _, _, _, _, h, hx, q => by
    simp only [wpE] at *
    exact wpEs_mono as ρ (fun xs ρ1 => app_mono fun z => h _ ρ1) hx q
  | .isi a t, ρ, _, _, _, _, h, hx, q => by
    simp only [wpE] at *
    exact wpE_mono a ρ (fun x ρ1 => app_mono fun z => h _ ρ1) hx q
  | .tup as, ρ, _, _, _, _, h, hx, q => by
    simp only [wpE] at *
    exact wpEs_mono as ρ (fun xs ρ1 q => ⟨q.1, h _ ρ1 q.2⟩) hx q
  | .lst as, ρ, _, _, _, _, h, hx, q => by
    simp only [wpE] at *
    exact wpEs_mono as ρ (fun xs ρ1 q => ⟨q.1, h _ ρ1 q.2⟩) hx q
  | .idx a i, ρ, _, _, _, _, h, hx, q => by
    simp only [wpE] at *
    exact wpE_mono a ρ (fun x ρ1 => wpE_mono i ρ1 (fun y ρ2 => app_mono fun z => h z ρ2) hx) hx q
  | .slc a lo hi, ρ, _, _, _, _, h, hx, q => by
    simp only [wpE] at *
    exact wpE_mono a ρ (fun x ρ1 => wpO_mono lo ρ1 (fun l ρ2 => wpO_mono hi ρ2 (fun r ρ3 => app_mono fun z => h z ρ3) hx) hx) hx q
  | .rev a, ρ, _, _, _, _, h, hx, q => by
    simp only [wpE] at *
    exact wpE_mono a ρ (fun x ρ1 => app_mono fun z => h z ρ1) hx q
  | .step2 a f, ρ, _, _, _, _, h, hx, q => by
    simp only [wpE] at *
    exact wpE_mono a ρ (fun x ρ1 => app_mono fun z => h z ρ1) hx q
  | .comp elt tg k as cond own, ρ, _, _, _, _, h, hx, q => by
    simp only [wpE] at *
    refine wpEs_mono as ρ (fun vs ρ1 => app_mono fun items => loopC_mono (fun x ρ2 acc K K' hK => bindTg_mono (fun ρ3 => wpC_mono cond ρ3 (fun b ρ4 q => ?_) fun _ _ z => z) tg x _) items ρ1 [] fun acc ρ' => h _ ρ') hx q
    cases b with
    | true => simp only [if_true] at *; exact wpE_mono elt ρ4 (fun y ρ5 => hK _ _) (fun _ _ z => z) q
    | false => simp only [Bool.false_eq_true, if_false] at *; exact hK _ _ q
  | .comp2 elt tg k as tg2 k2 as2 own, ρ, _, _, _, _, h, hx, q => by
    simp only [wpE] at *
    refine wpEs_mono as ρ (fun vs ρ1 => app_mono fun items => loopC_mono (fun x ρ2 acc K K' hK => bindTg_mono (fun ρ3 => wpEs_mono as2 ρ3 (fun vs2 ρ4 => app_mono fun items2 =>
      loopC_mono (fun x2 ρ5 acc2 K2 K2' hK2 => bindTg_mono (fun ρ6 => wpE_mono elt ρ6 (fun y ρ7 q => ⟨q.1, hK2 _ _ q.2⟩) fun _ _ z => z) tg2 x2 ρ5) items2 ρ4 acc fun acc2 ρ8 => hK _ _) fun _ _ z => z) tg x _) items ρ1 [] fun acc ρ' => h _ ρ') hx q
  | .pop i, ρ, _, _, _, _, h, hx, q => by
    simp only [wpE] at *
    refine getV_mono (fun x q => ?_) q
    split at q
    · split at q
      · exact h _ _ q
      · exact q
    · exact q
  | .popAt i e, ρ, _, _, _, _, h, hx, q => by
    simp only [wpE] at *
    refine getV_mono (fun x0 q => ?_) q
    split at q
    · refine wpE_mono e ρ (fun j ρ1 => getV_mono fun x q => ?_) hx q
      split at q
      · refine ⟨q.1, ?_⟩
        have q := q.2
        split at q
        · exact h _ _ q
        · exact q
      · exact q
    · exact q
  | .index a b, ρ, _, _, _, _, h, hx, q => by
    simp only [wpE] at *
    refine wpE_mono a ρ (fun x ρ1 q => ?_) hx q
    split at q
    · exact wpE_mono b ρ1 (fun y ρ2 => app_mono fun z => h z ρ2) hx q
    · exact q
  | .xfld i, ρ, _, _, _, _, h, hx, q => by
    simp only [wpE] at *
    refine getV_mono (fun x q => ?_) q
    split at q
    · exact h _ _ q
    · exact q
theorem wpT_mono : ∀ (c : E) (ρ : Env) {K K' : Bool → Env → Prop} {X X' : Xc → Env → Prop}, (∀ x ρ, K x ρ → K' x ρ) → (∀ e ρ, X e ρ → X' e ρ) → wpT C G c ρ K X → wpT C G c ρ K' X'
  | .not_ a, ρ, _, _, _, _, h, hx, q => by
    simp only [wpT] at *
    exact wpT_mono a ρ (fun x ρ1 => h _ ρ1) hx q
  | .cmp o a b, ρ, _, _, _, _, h, hx, q => by
    simp only [wpT] at *
    exact wpE_mono a ρ (fun x ρ1 => wpE_mono b ρ1 (fun y ρ2 => app_mono fun z => h _ ρ2) hx) hx q
  | .cmp2 o p a b c, ρ, _, _, _, _, h, hx, q => by
    simp only [wpT] at *
    refine wpE_mono a ρ (fun x ρ1 => wpE_mono b ρ1 (fun y ρ2 => app_mono fun z q => ?_) hx) hx q
    cases z with
    | true => simp only [if_true] at *; exact wpE_mono c ρ2 (fun w ρ3 => app_mono fun z' => h _ ρ3) hx q
    | false => simp only [Bool.false_eq_true, if_false] at *; exact h _ _ q
  | .bop d as, ρ, _, _, _, _, h, hx, q => by
    simp only [wpT] at *
    exact wpB_mono d as ρ h hx q
  | .var i, ρ, _, _, _, _, h, hx, q => by simp only [wpT] at *; exact getV_mono (fun x => app_mono fun b => h b ρ) q
  | .call f as, ρ, _, _, _, _, h, hx, q => by
    simp only [wpT] at *
    exact wpEs_mono as ρ (fun xs ρ1 => fillIo_mono as xs ρ1 fun ys => hC f ys (fun r os => app_mono fun b => h b _) fun e os => hx e _) hx q
  | .bi b as, ρ, _, _, _, _, h, hx, q => by
    simp only [wpT] at *
    exact wpEs_mono as ρ (fun xs ρ1 => app_mono fun z => app_mono fun t => h t ρ1) hx q
  | .isi a t, ρ, _, _, _, _, h, hx, q => by
    simp only [wpT] at *
    exact wpE_mono a ρ (fun x ρ1 => app_mono fun z => h _ ρ1) hx q
  | .idx a i, ρ, _, _, _, _, h, hx, q => by
    simp only [wpT] at *
    exact wpE_mono a ρ (fun x ρ1 => wpE_mono i ρ1 (fun y ρ2 => app_mono fun z => app_mono fun b => h b ρ2) hx) hx q
  | .bl _, ρ, _, _, _, _, h, hx, q => by simp only [wpT] at *; exact h _ _ q
  | .ife c a b, ρ, _, _, _, _, h, hx, q => by
    simp only [wpT] at *
    refine wpT_mono c ρ (fun t ρ1 q => ?_) hx q
    cases t with
    | true => simp only [if_true] at *; exact wpT_mono a ρ1 h hx q
    | false => simp only [Bool.false_eq_true, if_false] at *; exact wpT_mono b ρ1 h hx q
  | .io _, _, _, _, _, _, _, _, q => by simp only [wpT] at q
  | .int _, _, _, _, _, _, _, _, q => by simp only [wpT] at q
  | .str _, _, _, _, _, _, _, _, q => by simp only [wpT] at q
  | .non, _, _, _, _, _, _, _, q => by simp only [wpT] at q
  | .glob _, _, _, _, _, _, _, _, q => by simp only [wpT] at q
  | .bin _ _ _, _, _, _, _, _, _, _, q => by simp only [wpT] at q
  | .neg _, _, _, _, _, _, _, _, q => by simp only [wpT] at q
  | .tup _, _, _, _, _, _, _, _, q => by simp only [wpT] at q
  | .lst _, _, _, _, _, _, _, _, q => by simp only [wpT] at q
  | .slc _ _ _, _, _, _, _, _, _, _, q => by simp only [wpT] at q
  | .rev _, _, _, _, _, _, _, _, q => by simp only [wpT] at q
  | .step2 _ _, _, _, _, _, _, _, _, q => by simp only [wpT] at q
  | .comp _ _ _ _ _ _, _, _, _, _, _, _, _, q => by simp only [wpT] at q
  | .comp2 _ _ _ _ _ _ _ _, _, _, _, _, _, _, _, q => by simp only [wpT] at q
  | .pop _, _, _, _, _, _, _, _, q => by simp only [wpT] at q
  | .popAt _ _, _, _, _, _, _, _, _, q => by simp only [wpT] at q
  | .index _ _, _, _, _, _, _, _, _, q => by simp only [wpT] at q
  | .xfld _, _, _, _, _, _, _, _, q => by simp only [wpT] at q
theorem wpV_mono : ∀ (d : Bool) (as : List E) (ρ : Env) {K K' : TV → Env → Prop} {X X' : Xc → Env → Prop}, (∀ x ρ, K x ρ → K' x ρ) → (∀ e ρ, X e ρ → X' e ρ) → wpV C G d as ρ K X → wpV C G d as ρ K' X'
  | _, [], _, _, _, _, _, _, _, q => by simp only [wpV] at q
  | _, [a], ρ, _, _, _, _, h, hx, q => by simp only [wpV] at *; exact wpE_mono a ρ h hx q
  | d, a :: b :: r, ρ, _, _, _, _, h, hx, q => by
    simp only [wpV] at *
    refine wpE_mono a ρ (fun x ρ1 => app_mono fun t q => ?_) hx q
    split at q
    · rename_i e; rw [if_pos e]; exact wpV_mono d (b :: r) ρ1 h hx q
    · rename_i e; rw [if_neg e]; exact h _ _ q
theorem wpB_mono : ∀ (d : Bool) (as : List E) (ρ : Env) {K K' : Bool → Env → Prop} {X X' : Xc → Env → Prop}, (∀ x ρ, K x ρ → K' x ρ) → (∀ e ρ, X e ρ → X' e ρ) → wpB C G d as ρ K X → wpB C G d as ρ K' X'
  | _, [], _, _, _, _, _, _, _, q => by simp only [wpB] at q
  | _, [a], ρ, _, _, _, _, h, hx, q => by simp only [wpB] at *; exact wpT_mono a ρ h hx q
  | d, a :: b :: r, ρ, _, _, _, _, h, hx, q => by
    simp only [wpB] at *
    refine wpT_mono a ρ (fun t ρ1 q => ?_) hx q
    split at q
    · rename_i e; rw [if_pos e]; exact wpB_mono d (b :: r) ρ1 h hx q
    · rename_i e; rw [if_neg e]; exact h _ _ q
theorem wpEs_mono : ∀ (as : List E) (ρ : Env) {K K' : List TV → Env → Prop} {X X' : Xc → Env → Prop}, (∀ x ρ, K x ρ → K' x ρ) → (∀ e ρ, X e ρ → X' e ρ) → wpEs C G as ρ K X → wpEs C G as ρ K' X'
  | [], _, _, _, _, _, h, _, q => by simp only [wpEs] at *; exact h _ _ q
  | a :: as, ρ, _, _, _, _, h, hx, q => by
    simp only [wpEs] at *
    exact wpE_mono a ρ (fun x ρ1 => wpEs_mono as ρ1 (fun xs ρ2 => h _ ρ2) hx) hx q
theorem wpO_mono : ∀ (a : Option E) (ρ : Env) {K K' : Option Int → Env → Prop} {X X' : Xc → Env → Prop}, (∀ x ρ, K x ρ → K' x ρ) → (∀ e ρ, X e ρ → X' e ρ) → wpO C G a ρ K X → wpO C G a ρ K' X'
  | none, _, _, _, _, _, h, _, q => by simp only [wpO] at *; exact h _ _ q
  | some a, ρ, _, _, _, _, h, hx, q => by
    simp only [wpO] at *
    refine wpE_mono a ρ (fun x ρ1 q => ?_) hx q
    split at q
    · exact h _ _ q
    · exact q
theorem wpC_mono : ∀ (a : Option E) (ρ : Env) {K K' : Bool → Env → Prop} {X X' : Xc → Env → Prop}, (∀ x ρ, K x ρ → K' x ρ) → (∀ e ρ, X e ρ → X' e ρ) → wpC C G a ρ K X → wpC C G a ρ K' X'
  | none, _, _, _, _, _, h, _, q => by simp only [wpC] at *; exact h _ _ q
  | some a, ρ, _, _, _, _, h, hx, q => by simp only [wpC] at *; exact wpT_mono a ρ h hx q
end
end
structure Dn.le (D D' : Dn) : Prop where
  nx : ∀ ρ, D.nx ρ → D'.nx ρ
  rt : ∀ x ρ, D.rt x ρ → D'.rt x ρ
  bk : ∀ ρ, D.bk ρ → D'.bk ρ
  ct : ∀ ρ, D.ct ρ → D'.ct ρ
  ex : ∀ x ρ, D.ex x ρ → D'.ex x ρ
theorem finals_mono : ∀ (io : List (Nat × Nat)) (ρ : Env) {K K' : List TV → Prop}, (∀ x, K x → K' x) → finals io ρ K → finals io ρ K'
  | [], _, _, _, h, q => by simp only [finals] at *; exact h _ q
  | (i, d) :: r, ρ, _, _, h, q => by simp only [finals] at *; exact getV_mono (fun x => finals_mono r ρ fun xs => h _) q
section
variable {C : Calls} {G : Nat → TV} (hC : MonoC C)
include hC
set_option linter.unusedSectionVars false
mutual
theorem wpS_mono : ∀ (c : S) (ρ : Env) {D D' : Dn}, D.le D' → wpS C G c ρ D → wpS C G c ρ D'
  | .asg i e, ρ, _, _, h, q => by simp only [wpS] at *; exact wpE_mono hC e ρ (fun x ρ1 => h.nx _) h.ex q
  | .asgT t e, ρ, _, _, h, q => by simp only [wpS] at *; exact wpE_mono hC e ρ (fun x ρ1 => bindTg_mono h.nx t x ρ1) h.ex q
  | .par is es, ρ, _, _, h, q => by
    simp only [wpS] at *
    refine wpEs_mono hC es ρ (fun xs ρ1 q => ?_) h.ex q
    split at q
    · exact h.nx _ q
    · exact q
  | .aug i o e, ρ, _, _, h, q => by simp only [wpS] at *; exact getV_mono (fun x => wpE_mono hC e ρ (fun y ρ1 => app_mono fun z => h.nx _) h.ex) q
  | .setI i ixs e, ρ, _, _, h, q => by
    simp only [wpS] at *
    refine wpE_mono hC e ρ (fun y ρ1 => getV_mono fun _ => wpEs_mono hC ixs ρ1 (fun js ρ2 => getV_mono fun x q => ?_) h.ex) h.ex q
    split at q
    · exact h.nx _ q
    · exact q
  | .append i ixs e, ρ, _, _, h, q => by
    simp only [wpS] at *
    refine getV_mono (fun x0 q0 => ⟨q0.1, wpEs_mono hC ixs ρ (fun js ρ1 => wpE_mono hC e ρ1 (fun y ρ2 => getV_mono fun x q => ⟨q.1, ?_⟩) h.ex) h.ex q0.2⟩) q
    have q := q.2
    split at q
    · exact h.nx _ q
    · exact q
  | .extend i e, ρ, _, _, h, q => by
    simp only [wpS] at *
    refine wpE_mono hC e ρ (fun y ρ1 => getV_mono fun x q => ?_) h.ex q
    split at q
    · exact ⟨q.1, h.nx _ q.2⟩
    · exact q
  | .expr e, ρ, _, _, h, q => by simp only [wpS] at *; exact wpE_mono hC e ρ (fun x ρ1 => h.nx _) h.ex q
  | .ret e, ρ, _, _, h, q => by simp only [wpS] at *; exact wpE_mono hC e ρ (fun x ρ1 => h.rt x _) h.ex q
  | .retN, ρ, _, _, h, q => by simp only [wpS] at *; exact h.rt _ _ q
  | .ife c a b, ρ, _, _, h, q => by
    simp only [wpS] at *
    refine wpT_mono hC c ρ (fun t ρ1 q => ?_) h.ex q
    cases t with
    | true => simp only [if_true] at *; exact wpSs_mono a ρ1 h q
    | false => simp only [Bool.false_eq_true, if_false] at *; exact wpSs_mono b ρ1 h q
  | .for_ t k as body, ρ, _, _, h, q => by
    simp only [wpS] at *
    exact wpEs_mono hC as ρ (fun vs ρ1 => app_mono fun items => loopF_mono (fun x ρ2 K K' hK => bindTg_mono (fun ρ3 q => by refine wpSs_mono body ρ3 ?_ q; exact ⟨hK, h.rt, h.nx, hK, h.ex⟩) t x ρ2) items ρ1 h.nx) h.ex q
  | .while_ c body, ρ, _, _, h, q => by
    simp only [wpS] at *
    obtain ⟨m, q⟩ := q
    exact ⟨m, loopW_mono (fun ρ1 K K' hK => wpT_mono hC c ρ1 hK h.ex) (fun ρ1 K K' hK q => by refine wpSs_mono body ρ1 ?_ q; exact ⟨hK, h.rt, h.nx, hK, h.ex⟩) m ρ h.nx q⟩
  | .raise_ c as, ρ, _, _, h, q => by simp only [wpS] at *; exact wpEs_mono hC as ρ (fun xs ρ1 => h.ex _ _) h.ex q
  | .try_ body hs, ρ, _, _, h, q => by
    simp only [wpS] at *
    refine wpSs_mono body ρ ?_ q
    exact ⟨h.nx, h.rt, h.bk, h.ct, fun x ρ1 => wpH_mono hs x ρ1 h⟩
  | .pass, ρ, _, _, h, q => by simp only [wpS] at *; exact h.nx _ q
  | .brk, ρ, _, _, h, q => by simp only [wpS] at *; exact h.bk _ q
  | .cont, ρ, _, _, h, q => by simp only [wpS] at *; exact h.ct _ q
theorem wpSs_mono : ∀ (c : List S) (ρ : Env) {D D' : Dn}, D.le D' → wpSs C G c ρ D → wpSs C G c ρ D'
  | [], ρ, _, _, h, q => by simp only [wpSs] at *; exact h.nx _ q
  | s :: r, ρ, _, _, h, q => by
    simp only [wpSs] at *
    refine wpS_mono s ρ ?_ q
    exact ⟨fun ρ1 => wpSs_mono r ρ1 h, h.rt, h.bk, h.ct, h.ex⟩
theorem wpH_mono : ∀ (hs : List (Nat × Option Nat × List S)) (x : Xc) (ρ : Env) {D D' : Dn}, D.le D' → wpH C G hs x ρ D → wpH C G hs x ρ D'
  | [], x, ρ, _, _, h, q => by simp only [wpH] at *; exact h.ex _ _ q
  | (c, n, b) :: r, x, ρ, _, _, h, q => by
    simp only [wpH] at *
    split at q
    · rename_i e
      rw [if_pos e]
      cases n with
      | none => refine wpSs_mono b ρ ?_ q; exact ⟨h.nx, h.rt, h.bk, h.ct, fun _ _ z => z⟩
      | some i => refine wpSs_mono b _ ?_ q; exact ⟨fun ρ1 => h.nx _, h.rt, fun ρ1 => h.bk _, fun ρ1 => h.ct _, fun _ _ z => z⟩
    · rename_i e
      rw [if_neg e]
      exact wpH_mono r x ρ h q
end
end
theorem Prog.call_mono (P : Prog) : ∀ n, MonoC (P.call n)
  | 0 => fun _ _ _ _ _ _ _ _ q => q
  | n + 1 => fun f xs _ _ _ _ hk hx q => by
    unfold Prog.call at *
    cases e : P.defs[f]? with
    | none => simp only [e] at q
    | some d =>
      simp only [e] at q ⊢
      refine ⟨q.1, wpSs_mono (Prog.call_mono P n) d.body _ ?_ q.2⟩
      exact ⟨fun ρ => finals_mono d.io ρ fun os => hk _ os, fun x ρ => finals_mono d.io ρ fun os => hk x os, fun _ z => z, fun _ z => z, fun e ρ => finals_mono d.io ρ fun os => hx e os⟩
end TL
end -- TLMono

section -- TLRep
/-! TL, part 3: trees in the heap: what is shared, what is owned. -/
set_option linter.all false
set_option autoImplicit true
namespace TL
open PySem PySem.Spec PyProof.Rows
open L2 (V Hp HO Rd SqL SqT upd upd_same upd_ne Vals RelV)

/-- a list of the written part -/
def KL (K : PySem.W.Frag) (a : Addr) (xs : List V) : Prop :=
  ∃ (o : Obj) (its : Array Value) (n : Nat), K.lookup a = some o ∧ o.cls = .type "list" ∧ o.dict = none ∧ o.data = .seq its n ∧ its.size ≤ sizeLine ∧ Vals xs its.toList
/-- the script -/
def Scr (K : PySem.W.Frag) (H : Hp) (ns : List Int) (v : V) : Prop := ns.length ≤ line ∧ ∃ a, v = .ref a ∧ ((∃ o, H a = some (.frz o (.lst (ns.map V.int)))) ∨ KL K a (ns.map V.int))
theorem Scr.sq {K H ns v} (h : Scr K H ns v) : ∃ a, v = .ref a ∧ SqL K H a (ns.map V.int) := by
  obtain ⟨_, a, e, h⟩ := h
  exact ⟨a, e, h.elim (fun q => .inl (.inr q)) .inr⟩

mutual
/-- x stands at v; its lists from depth m on are not of L -/
def Rp (K : PySem.W.Frag) (H : Hp) (L : Addr → Prop) : Nat → TV → V → Prop
  | _, .non, v => v = .non
  | _, .bl b, v => v = .bl b
  | _, .int i, v => v = .int i
  | _, .str x, v => v = .str x
  | m, .tup xs, v => ∃ a vs, v = .ref a ∧ SqT K H a vs ∧ xs.length ≤ line ∧ Rps K H L (m - 1) xs vs
  | m, .lst xs, v => ∃ a vs, v = .ref a ∧ (H a = some (.lst vs) ∧ (m = 0 → ¬ L a)) ∧ xs.length ≤ line ∧ Rps K H L (m - 1) xs vs
  | _, .scr ns, v => Scr K H ns v
  | _, _, _ => False
def Rps (K : PySem.W.Frag) (H : Hp) (L : Addr → Prop) : Nat → List TV → List V → Prop
  | _, [], vs => vs = []
  | m, x :: xs, vs => ∃ v r, vs = v :: r ∧ Rp K H L m x v ∧ Rps K H L m xs r
end
mutual
/-- x stands at v; its lists down to depth d are owned, at F -/
def Own (K : PySem.W.Frag) (H : Hp) (L : Addr → Prop) : Nat → TV → V → List Addr → Prop
  | _, .non, v, F => v = .non ∧ F = []
  | _, .bl b, v, F => v = .bl b ∧ F = []
  | _, .int i, v, F => v = .int i ∧ F = []
  | _, .str x, v, F => v = .str x ∧ F = []
  | d, .tup xs, v, F => ∃ a vs, v = .ref a ∧ SqT K H a vs ∧ xs.length ≤ line ∧ Owns K H L (d - 1) xs vs F
  | _, .scr ns, v, F => Scr K H ns v ∧ F = []
  | 0, .lst xs, v, F => ∃ a vs, v = .ref a ∧ (H a = some (.lst vs) ∧ ¬ L a) ∧ xs.length ≤ line ∧ Owns K H L 0 xs vs F
  | d + 1, .lst xs, v, F => ∃ a vs F', v = .ref a ∧ H a = some (.lst vs) ∧ F = a :: F' ∧ xs.length ≤ line ∧ Owns K H L d xs vs F'
  | _, _, _, _ => False
def Owns (K : PySem.W.Frag) (H : Hp) (L : Addr → Prop) : Nat → List TV → List V → List Addr → Prop
  | _, [], vs, F => vs = [] ∧ F = []
  | d, x :: xs, vs, F => ∃ v r F1 F2, vs = v :: r ∧ F = F1 ++ F2 ∧ Own K H L d x v F1 ∧ Owns K H L d xs r F2
end
/-- what may be changed -/
def mutO : HO → Bool
  | .lst _ | .dK _ | .dT _ | .set _ _ | .ins _ _ _ => true
  | _ => false

/-- from H to H': only W is changed, L' holds what L held and new things -/
structure Kp (H : Hp) (L : Addr → Prop) (W : Addr → Prop) (H' : Hp) (L' : Addr → Prop) : Prop where
  keep : ∀ b o, H b = some o → ¬ W b → H' b = some o
  ls : ∀ b, L' b → L b ∨ H b = none
  wl : ∀ b, W b → L b
  mt : ∀ b, W b → ∀ o, H b = some o → mutO o = true
theorem Kp.sqT {K H L W H' L' a vs} (k : Kp H L W H' L') (h : SqT K H a vs) : SqT K H' a vs := by
  rcases h with (h | ⟨o, h⟩) | h
  · exact .inl (.inl (k.keep _ _ h fun w => by have := k.mt _ w _ h; cases this))
  · exact .inl (.inr ⟨o, k.keep _ _ h fun w => by have := k.mt _ w _ h; cases this⟩)
  · exact .inr h
theorem Kp.shL {H L W H' L'} {a : Addr} {vs : List V} (k : Kp H L W H' L') (h : H a = some (.lst vs) ∧ ¬ L a) : H' a = some (.lst vs) ∧ ¬ L' a := by
  obtain ⟨h, n⟩ := h
  refine ⟨k.keep _ _ h fun w => n (k.wl _ w), fun l => ?_⟩
  rcases k.ls _ l with q | q
  · exact n q
  · rw [h] at q; cases q
theorem Kp.scr {K H L W H' L' ns v} (k : Kp H L W H' L') (h : Scr K H ns v) : Scr K H' ns v := by
  obtain ⟨l, a, e, h⟩ := h
  exact ⟨l, a, e, h.imp (fun ⟨o, q⟩ => ⟨o, k.keep _ _ q fun w => by have := k.mt _ w _ q; cases this⟩) id⟩
section
variable {K : PySem.W.Frag} {H H' : Hp} {L L' W : Addr → Prop}
mutual
theorem Own.keep (k : Kp H L W H' L') : ∀ (x : TV) (d : Nat) (v : V) (F : List Addr), (∀ b ∈ F, ¬ W b) → Own K H L d x v F → Own K H' L' d x v F
  | .non, _, _, _, _, h => by simpa only [Own] using h
  | .bl _, _, _, _, _, h => by simpa only [Own] using h
  | .int _, _, _, _, _, h => by simpa only [Own] using h
  | .str _, _, _, _, _, h => by simpa only [Own] using h
  | .tup xs, d, v, F, hw, h => by
    simp only [Own] at *
    obtain ⟨a, vs, e, q, l, h⟩ := h
    exact ⟨a, vs, e, k.sqT q, l, Owns.keep k xs _ vs F hw h⟩
  | .lst xs, 0, v, F, hw, h => by
    simp only [Own] at *
    obtain ⟨a, vs, e, q, l, h⟩ := h
    exact ⟨a, vs, e, k.shL q, l, Owns.keep k xs _ vs F hw h⟩
  | .lst xs, d + 1, v, F, hw, h => by
    simp only [Own] at *
    obtain ⟨a, vs, F', e, q, eF, l, h⟩ := h
    subst eF
    exact ⟨a, vs, F', e, k.keep _ _ q (hw a (by simp)), rfl, l, Owns.keep k xs _ vs F' (fun b hb => hw b (by simp [hb])) h⟩
  | .dct _ _, _, _, _, _, h => by simp only [Own] at h
  | .obj _ _, _, _, _, _, h => by simp only [Own] at h
  | .clo _ _, _, _, _, _, h => by simp only [Own] at h
  | .xcp _ _, _, _, _, _, h => by simp only [Own] at h
  | .scr _, _, _, _, _, h => by simp only [Own] at *; exact ⟨k.scr h.1, h.2⟩
theorem Owns.keep (k : Kp H L W H' L') : ∀ (xs : List TV) (d : Nat) (vs : List V) (F : List Addr), (∀ b ∈ F, ¬ W b) → Owns K H L d xs vs F → Owns K H' L' d xs vs F
  | [], _, _, _, _, h => by simpa only [Owns] using h
  | x :: xs, d, vs, F, hw, h => by
    simp only [Owns] at *
    obtain ⟨v, r, F1, F2, e1, e2, h1, h2⟩ := h
    subst e2
    exact ⟨v, r, F1, F2, e1, rfl, Own.keep k x d v F1 (fun b hb => hw b (by simp [hb])) h1, Owns.keep k xs d r F2 (fun b hb => hw b (by simp [hb])) h2⟩
end
mutual
theorem Own.nil : ∀ (x : TV) (v : V) (F : List Addr), Own K H L 0 x v F → F = []
  | .non, _, _, h => by simp only [Own] at h; exact h.2
  | .bl _, _, _, h => by simp only [Own] at h; exact h.2
  | .int _, _, _, h => by simp only [Own] at h; exact h.2
  | .str _, _, _, h => by simp only [Own] at h; exact h.2
  | .tup xs, v, F, h => by
    simp only [Own] at h
    obtain ⟨a, vs, e, q, l, h⟩ := h
    exact Owns.nil xs vs F h
  | .lst xs, v, F, h => by
    simp only [Own] at h
    obtain ⟨a, vs, e, q, l, h⟩ := h
    exact Owns.nil xs vs F h
  | .dct _ _, _, _, h => by simp only [Own] at h
  | .obj _ _, _, _, h => by simp only [Own] at h
  | .clo _ _, _, _, h => by simp only [Own] at h
  | .xcp _ _, _, _, h => by simp only [Own] at h
  | .scr _, _, _, h => by simp only [Own] at h; exact h.2
theorem Owns.nil : ∀ (xs : List TV) (vs : List V) (F : List Addr), Owns K H L 0 xs vs F → F = []
  | [], _, _, h => by simp only [Owns] at h; exact h.2
  | x :: xs, vs, F, h => by
    simp only [Owns] at h
    obtain ⟨v, r, F1, F2, e1, e2, h1, h2⟩ := h
    rw [e2, Own.nil x v F1 h1, Owns.nil xs r F2 h2]; rfl
end
mutual
theorem Rp.own : ∀ (x : TV) (v : V), Rp K H L 0 x v → Own K H L 0 x v []
  | .non, _, h => by simp only [Rp, Own] at *; exact ⟨h, trivial⟩
  | .bl _, _, h => by simp only [Rp, Own] at *; exact ⟨h, trivial⟩
  | .int _, _, h => by simp only [Rp, Own] at *; exact ⟨h, trivial⟩
  | .str _, _, h => by simp only [Rp, Own] at *; exact ⟨h, trivial⟩
  | .tup xs, v, h => by
    simp only [Rp, Own] at *
    obtain ⟨a, vs, e, q, l, h⟩ := h
    exact ⟨a, vs, e, q, l, Rps.own xs vs h⟩
  | .lst xs, v, h => by
    simp only [Rp, Own, true_implies] at *
    obtain ⟨a, vs, e, q, l, h⟩ := h
    exact ⟨a, vs, e, q, l, Rps.own xs vs h⟩
  | .dct _ _, _, h => by simp only [Rp] at h
  | .obj _ _, _, h => by simp only [Rp] at h
  | .clo _ _, _, h => by simp only [Rp] at h
  | .xcp _ _, _, h => by simp only [Rp] at h
  | .scr _, _, h => by simp only [Rp, Own] at *; exact ⟨h, trivial⟩
theorem Rps.own : ∀ (xs : List TV) (vs : List V), Rps K H L 0 xs vs → Owns K H L 0 xs vs []
  | [], _, h => by simp only [Rps, Owns] at *; exact ⟨h, trivial⟩
  | x :: xs, vs, h => by
    simp only [Rps, Owns] at *
    obtain ⟨v, r, e1, h1, h2⟩ := h
    exact ⟨v, r, [], [], e1, rfl, Rp.own x v h1, Rps.own xs r h2⟩
end
mutual
theorem Own.rp : ∀ (x : TV) (v : V) (F : List Addr), Own K H L 0 x v F → Rp K H L 0 x v
  | .non, _, _, h => by simp only [Rp, Own] at *; exact h.1
  | .bl _, _, _, h => by simp only [Rp, Own] at *; exact h.1
  | .int _, _, _, h => by simp only [Rp, Own] at *; exact h.1
  | .str _, _, _, h => by simp only [Rp, Own] at *; exact h.1
  | .tup xs, v, F, h => by
    simp only [Rp, Own] at *
    obtain ⟨a, vs, e, q, l, h⟩ := h
    exact ⟨a, vs, e, q, l, Owns.rp xs vs F h⟩
  | .lst xs, v, F, h => by
    simp only [Rp, Own, true_implies] at *
    obtain ⟨a, vs, e, q, l, h⟩ := h
    exact ⟨a, vs, e, q, l, Owns.rp xs vs F h⟩
  | .dct _ _, _, _, h => by simp only [Own] at h
  | .obj _ _, _, _, h => by simp only [Own] at h
  | .clo _ _, _, _, h => by simp only [Own] at h
  | .xcp _ _, _, _, h => by simp only [Own] at h
  | .scr _, _, _, h => by simp only [Rp, Own] at *; exact h.1
theorem Owns.rp : ∀ (xs : List TV) (vs : List V) (F : List Addr), Owns K H L 0 xs vs F → Rps K H L 0 xs vs
  | [], _, _, h => by simp only [Rps, Owns] at *; exact h.1
  | x :: xs, vs, F, h => by
    simp only [Rps, Owns] at *
    obtain ⟨v, r, F1, F2, e1, e2, h1, h2⟩ := h
    exact ⟨v, r, e1, Own.rp x v F1 h1, Owns.rp xs r F2 h2⟩
end
mutual
/-- all objects kept -/
theorem Rp.keep0 (k : Kp H L (fun _ => False) H' L') : ∀ (x : TV) (m : Nat) (v : V), Rp K H L m x v → Rp K H' L' m x v
  | .non, _, _, h => by simpa only [Rp] using h
  | .bl _, _, _, h => by simpa only [Rp] using h
  | .int _, _, _, h => by simpa only [Rp] using h
  | .str _, _, _, h => by simpa only [Rp] using h
  | .tup xs, m, v, h => by
    simp only [Rp] at *
    obtain ⟨a, vs, e, q, l, h⟩ := h
    exact ⟨a, vs, e, k.sqT q, l, Rps.keep0 k xs _ vs h⟩
  | .lst xs, m, v, h => by
    simp only [Rp] at *
    obtain ⟨a, vs, e, q, l, h⟩ := h
    refine ⟨a, vs, e, ⟨k.keep _ _ q.1 fun w => w, fun z l' => ?_⟩, l, Rps.keep0 k xs _ vs h⟩
    rcases k.ls _ l' with y | y
    · exact q.2 z y
    · rw [q.1] at y; cases y
  | .dct _ _, _, _, h => by simp only [Rp] at h
  | .obj _ _, _, _, h => by simp only [Rp] at h
  | .clo _ _, _, _, h => by simp only [Rp] at h
  | .xcp _ _, _, _, h => by simp only [Rp] at h
  | .scr _, _, _, h => by simp only [Rp] at *; exact k.scr h
theorem Rps.keep0 (k : Kp H L (fun _ => False) H' L') : ∀ (xs : List TV) (m : Nat) (vs : List V), Rps K H L m xs vs → Rps K H' L' m xs vs
  | [], _, _, h => by simpa only [Rps] using h
  | x :: xs, m, vs, h => by
    simp only [Rps] at *
    obtain ⟨v, r, e1, h1, h2⟩ := h
    exact ⟨v, r, e1, Rp.keep0 k x m v h1, Rps.keep0 k xs m r h2⟩
end
mutual
theorem Rp.mono : ∀ (x : TV) (m m' : Nat) (v : V), m ≤ m' → Rp K H L m x v → Rp K H L m' x v
  | .non, _, _, _, _, h => by simpa only [Rp] using h
  | .bl _, _, _, _, _, h => by simpa only [Rp] using h
  | .int _, _, _, _, _, h => by simpa only [Rp] using h
  | .str _, _, _, _, _, h => by simpa only [Rp] using h
  | .tup xs, m, m', v, hm, h => by
    simp only [Rp] at *
    obtain ⟨a, vs, e, q, l, h⟩ := h
    exact ⟨a, vs, e, q, l, Rps.mono xs _ _ vs (by omega) h⟩
  | .lst xs, m, m', v, hm, h => by
    simp only [Rp] at *
    obtain ⟨a, vs, e, q, l, h⟩ := h
    exact ⟨a, vs, e, ⟨q.1, fun z => q.2 (by omega)⟩, l, Rps.mono xs _ _ vs (by omega) h⟩
  | .dct _ _, _, _, _, _, h => by simp only [Rp] at h
  | .obj _ _, _, _, _, _, h => by simp only [Rp] at h
  | .clo _ _, _, _, _, _, h => by simp only [Rp] at h
  | .xcp _ _, _, _, _, _, h => by simp only [Rp] at h
  | .scr _, _, _, _, _, h => by simpa only [Rp] using h
theorem Rps.mono : ∀ (xs : List TV) (m m' : Nat) (vs : List V), m ≤ m' → Rps K H L m xs vs → Rps K H L m' xs vs
  | [], _, _, _, _, h => by simpa only [Rps] using h
  | x :: xs, m, m', vs, hm, h => by
    simp only [Rps] at *
    obtain ⟨v, r, e1, h1, h2⟩ := h
    exact ⟨v, r, e1, Rp.mono x m m' v hm h1, Rps.mono xs m m' r hm h2⟩
end
mutual
/-- less is owned -/
theorem Own.weak : ∀ (x : TV) (d d' : Nat) (v : V) (F : List Addr), d' ≤ d → F.Nodup → Own K H L d x v F →
    ∃ F', F'.Sublist F ∧ ∀ L' : Addr → Prop, (∀ b, L' b → L b) → (∀ b ∈ F, L' b → b ∈ F') → Own K H L' d' x v F'
  | .non, _, _, _, F, _, _, h => by simp only [Own] at *; exact ⟨F, List.Sublist.refl _, fun _ _ _ => h⟩
  | .bl _, _, _, _, F, _, _, h => by simp only [Own] at *; exact ⟨F, List.Sublist.refl _, fun _ _ _ => h⟩
  | .int _, _, _, _, F, _, _, h => by simp only [Own] at *; exact ⟨F, List.Sublist.refl _, fun _ _ _ => h⟩
  | .str _, _, _, _, F, _, _, h => by simp only [Own] at *; exact ⟨F, List.Sublist.refl _, fun _ _ _ => h⟩
  | .tup xs, d, d', v, F, hd, nd, h => by
    simp only [Own] at *
    obtain ⟨a, vs, e, q, l, h⟩ := h
    obtain ⟨F', s, c⟩ := Owns.weak xs (d - 1) (d' - 1) vs F (by omega) nd h
    exact ⟨F', s, fun L' h1 h2 => ⟨a, vs, e, q, l, c L' h1 h2⟩⟩
  | .lst xs, 0, d', v, F, hd, nd, h => by
    have e : d' = 0 := by omega
    subst e
    simp only [Own] at *
    obtain ⟨a, vs, e, q, l, h⟩ := h
    obtain ⟨F', s, c⟩ := Owns.weak xs 0 0 vs F (by omega) nd h
    exact ⟨F', s, fun L' h1 h2 => ⟨a, vs, e, ⟨q.1, fun y => q.2 (h1 _ y)⟩, l, c L' h1 h2⟩⟩
  | .lst xs, d + 1, 0, v, F, hd, nd, h => by
    simp only [Own] at *
    obtain ⟨a, vs, F1, e, q, eF, l, h⟩ := h
    subst eF
    obtain ⟨F', s, c⟩ := Owns.weak xs d 0 vs F1 (by omega) (List.nodup_cons.mp nd).2 h
    refine ⟨[], List.nil_sublist _, fun L' h1 h2 => ⟨a, vs, e, ⟨q, fun y => by have := h2 a (by simp) y; simp at this⟩, l, ?_⟩⟩
    have h2' : ∀ b ∈ F1, L' b → b ∈ F' := fun b hb y => by have := h2 b (by simp [hb]) y; simp at this
    have o := c L' h1 h2'
    have e' := Owns.nil xs vs F' o
    rw [e'] at o
    exact o
  | .lst xs, d + 1, d' + 1, v, F, hd, nd, h => by
    simp only [Own] at *
    obtain ⟨a, vs, F1, e, q, eF, l, h⟩ := h
    subst eF
    have nd' := List.nodup_cons.mp nd
    obtain ⟨F', s, c⟩ := Owns.weak xs d d' vs F1 (by omega) nd'.2 h
    refine ⟨a :: F', s.cons₂ a, fun L' h1 h2 => ⟨a, vs, F', e, q, rfl, l, c L' h1 fun b hb y => ?_⟩⟩
    have := h2 b (by simp [hb]) y
    rcases List.mem_cons.mp this with z | z
    · subst z; exact absurd hb nd'.1
    · exact z
  | .dct _ _, _, _, _, _, _, _, h => by simp only [Own] at h
  | .obj _ _, _, _, _, _, _, _, h => by simp only [Own] at h
  | .clo _ _, _, _, _, _, _, _, h => by simp only [Own] at h
  | .xcp _ _, _, _, _, _, _, _, h => by simp only [Own] at h
  | .scr _, _, _, _, F, _, _, h => by simp only [Own] at *; exact ⟨F, List.Sublist.refl _, fun _ _ _ => h⟩
theorem Owns.weak : ∀ (xs : List TV) (d d' : Nat) (vs : List V) (F : List Addr), d' ≤ d → F.Nodup → Owns K H L d xs vs F →
    ∃ F', F'.Sublist F ∧ ∀ L' : Addr → Prop, (∀ b, L' b → L b) → (∀ b ∈ F, L' b → b ∈ F') → Owns K H L' d' xs vs F'
  | [], _, _, _, F, _, _, h => by simp only [Owns] at *; exact ⟨F, List.Sublist.refl _, fun _ _ _ => h⟩
  | x :: xs, d, d', vs, F, hd, nd, h => by
    simp only [Owns] at *
    obtain ⟨v, r, F1, F2, e1, e2, h1, h2⟩ := h
    subst e2
    obtain ⟨n1, n2, n3⟩ := List.nodup_append.mp nd
    obtain ⟨F1', s1, c1⟩ := Own.weak x d d' v F1 hd n1 h1
    obtain ⟨F2', s2, c2⟩ := Owns.weak xs d d' r F2 hd n2 h2
    refine ⟨F1' ++ F2', s1.append s2, fun L' q1 q2 => ⟨v, r, F1', F2', e1, rfl, c1 L' q1 fun b hb y => ?_, c2 L' q1 fun b hb y => ?_⟩⟩
    · rcases List.mem_append.mp (q2 b (by simp [hb]) y) with z | z
      · exact z
      · exact absurd rfl (n3 b hb b (s2.subset z))
    · rcases List.mem_append.mp (q2 b (by simp [hb]) y) with z | z
      · exact absurd rfl (n3 b (s1.subset z) b hb)
      · exact z
end
mutual
theorem Own.mt : ∀ (x : TV) (d : Nat) (v : V) (F : List Addr), Own K H L d x v F → ∀ b ∈ F, ∃ o, H b = some o ∧ mutO o = true
  | .non, _, _, _, h => by simp only [Own] at h; rw [h.2]; intro b hb; cases hb
  | .bl _, _, _, _, h => by simp only [Own] at h; rw [h.2]; intro b hb; cases hb
  | .int _, _, _, _, h => by simp only [Own] at h; rw [h.2]; intro b hb; cases hb
  | .str _, _, _, _, h => by simp only [Own] at h; rw [h.2]; intro b hb; cases hb
  | .tup xs, d, v, F, h => by
    simp only [Own] at h
    obtain ⟨a, vs, e, q, l, h⟩ := h
    exact Owns.mt xs _ vs F h
  | .lst xs, 0, v, F, h => by
    simp only [Own] at h
    obtain ⟨a, vs, e, q, l, h⟩ := h
    exact Owns.mt xs _ vs F h
  | .lst xs, d + 1, v, F, h => by
    simp only [Own] at h
    obtain ⟨a, vs, F', e, q, eF, l, h⟩ := h
    subst eF
    intro b hb
    rcases List.mem_cons.mp hb with z | z
    · subst z; exact ⟨_, q, rfl⟩
    · exact Owns.mt xs _ vs F' h b z
  | .dct _ _, _, _, _, h => by simp only [Own] at h
  | .obj _ _, _, _, _, h => by simp only [Own] at h
  | .clo _ _, _, _, _, h => by simp only [Own] at h
  | .xcp _ _, _, _, _, h => by simp only [Own] at h
  | .scr _, _, _, _, h => by simp only [Own] at h; rw [h.2]; intro b hb; cases hb
theorem Owns.mt : ∀ (xs : List TV) (d : Nat) (vs : List V) (F : List Addr), Owns K H L d xs vs F → ∀ b ∈ F, ∃ o, H b = some o ∧ mutO o = true
  | [], _, _, _, h => by simp only [Owns] at h; rw [h.2]; intro b hb; cases hb
  | x :: xs, d, vs, F, h => by
    simp only [Owns] at h
    obtain ⟨v, r, F1, F2, e1, e2, h1, h2⟩ := h
    subst e2
    intro b hb
    rcases List.mem_append.mp hb with z | z
    · exact Own.mt x d v F1 h1 b z
    · exact Owns.mt xs d r F2 h2 b z
end
theorem Rps.length : ∀ {xs : List TV} {m : Nat} {vs : List V}, Rps K H L m xs vs → vs.length = xs.length
  | [], _, _, h => by simp only [Rps] at h; rw [h]; rfl
  | x :: xs, m, vs, h => by
    simp only [Rps] at h
    obtain ⟨v, r, e1, h1, h2⟩ := h
    rw [e1, List.length_cons, List.length_cons, Rps.length h2]
theorem Owns.length : ∀ {xs : List TV} {d : Nat} {vs : List V} {F : List Addr}, Owns K H L d xs vs F → vs.length = xs.length
  | [], _, _, _, h => by simp only [Owns] at h; rw [h.1]; rfl
  | x :: xs, d, vs, F, h => by
    simp only [Owns] at h
    obtain ⟨v, r, F1, F2, e1, e2, h1, h2⟩ := h
    rw [e1, List.length_cons, List.length_cons, Owns.length h2]
end
theorem line_eq : sizeLine = line := by rw [sizeLine_eq]; rfl

/-! ### slots -/
def Slot (K : PySem.W.Frag) (H : Hp) (L : Addr → Prop) (d : Nat) (o : Option TV) (s : Option V) (F : List Addr) : Prop :=
  match o with
  | none => F = []
  | some x => ∃ v, s = some v ∧ Own K H L d x v F
def ER (K : PySem.W.Frag) (H : Hp) (L : Addr → Prop) : List Nat → Env → L2.St → List Addr → Prop
  | [], [], [], F => F = []
  | d :: st, o :: ρ, s :: σ, F => ∃ F1 F2, F = F1 ++ F2 ∧ Slot K H L d o s F1 ∧ ER K H L st ρ σ F2
  | _, _, _, _ => False
section
variable {K : PySem.W.Frag} {H H' : Hp} {L L' W : Addr → Prop}
theorem Slot.keep (k : Kp H L W H' L') {d o s F} (hw : ∀ b ∈ F, ¬ W b) (h : Slot K H L d o s F) : Slot K H' L' d o s F := by
  cases o with
  | none => exact h
  | some x => obtain ⟨v, e, q⟩ := h; exact ⟨v, e, Own.keep k x d v F hw q⟩
theorem ER.keep (k : Kp H L W H' L') : ∀ {st : List Nat} {ρ : Env} {σ : L2.St} {F : List Addr}, (∀ b ∈ F, ¬ W b) → ER K H L st ρ σ F → ER K H' L' st ρ σ F
  | [], [], [], _, _, h => h
  | d :: st, o :: ρ, s :: σ, F, hw, h => by
    obtain ⟨F1, F2, e, h1, h2⟩ := h
    subst e
    exact ⟨F1, F2, rfl, h1.keep k fun b hb => hw b (by simp [hb]), ER.keep k (fun b hb => hw b (by simp [hb])) h2⟩
  | [], [], _ :: _, _, _, h => h.elim
  | [], _ :: _, _, _, _, h => by cases h
  | _ :: _, [], _, _, _, h => by cases h
  | _ :: _, _ :: _, [], _, _, h => by cases h
theorem ER.len : ∀ {st : List Nat} {ρ : Env} {σ : L2.St} {F : List Addr}, ER K H L st ρ σ F → st.length = ρ.length ∧ σ.length = ρ.length
  | [], [], [], _, _ => ⟨rfl, rfl⟩
  | d :: st, o :: ρ, s :: σ, F, h => by
    obtain ⟨F1, F2, e, h1, h2⟩ := h
    have := ER.len h2
    simp [this.1, this.2]
  | [], [], _ :: _, _, h => h.elim
  | [], _ :: _, _, _, h => by cases h
  | _ :: _, [], _, _, h => by cases h
  | _ :: _, _ :: _, [], _, h => by cases h
/-- one slot, and what becomes of the rest when it is stored -/
theorem ER.at : ∀ {st : List Nat} {ρ : Env} {σ : L2.St} {F : List Addr} (i : Nat), i < ρ.length → ER K H L st ρ σ F →
    ∃ d o s F1 Fi F2, st[i]? = some d ∧ ρ[i]? = some o ∧ σ[i]? = some s ∧ F = F1 ++ Fi ++ F2 ∧ Slot K H L d o s Fi ∧
      ∀ (H' : Hp) (L' W : Addr → Prop) (d' : Nat) (o' : Option TV) (s' : Option V) (Fi' : List Addr), Kp H L W H' L' → (∀ b ∈ F1 ++ F2, ¬ W b) → Slot K H' L' d' o' s' Fi' →
        ER K H' L' (st.set i d') (ρ.set i o') (σ.set i s') (F1 ++ Fi' ++ F2)
  | d :: st, o :: ρ, s :: σ, F, 0, _, h => by
    obtain ⟨F1, F2, e, h1, h2⟩ := h
    refine ⟨d, o, s, [], F1, F2, rfl, rfl, rfl, by simpa using e, h1, fun H' L' W d' o' s' Fi' k hw q => ⟨Fi', F2, by simp, q, ER.keep k (fun b hb => hw b (by simp [hb])) h2⟩⟩
  | d :: st, o :: ρ, s :: σ, F, i + 1, hi, h => by
    obtain ⟨F1, F2, e, h1, h2⟩ := h
    obtain ⟨d0, o0, s0, G1, Gi, G2, e1, e2, e3, e4, q, c⟩ := ER.at i (by simpa using hi) h2
    refine ⟨d0, o0, s0, F1 ++ G1, Gi, G2, e1, e2, e3, by rw [e, e4]; simp, q, fun H' L' W d' o' s' Fi' k hw z => ?_⟩
    have := c H' L' W d' o' s' Fi' k (fun b hb => hw b (by simp only [List.mem_append] at *; exact hb.elim (fun y => .inl (.inr y)) .inr)) z
    exact ⟨F1, G1 ++ Gi ++ G2 |>.append [] |> fun _ => (G1 ++ Fi' ++ G2), by simp, h1.keep k fun b hb => hw b (by simp [hb]), this⟩
  | [], [], [], _, i, hi, _ => by simp at hi
  | [], [], _ :: _, _, _, _, h => h.elim
  | [], _ :: _, _, _, _, _, h => by cases h
  | _ :: _, [], _, _, _, _, h => by cases h
  | _ :: _, _ :: _, [], _, _, _, h => by cases h
end
/-- pointwise not above -/
def leS : List Nat → List Nat → Bool
  | [], [] => true
  | a :: r, b :: s => decide (a ≤ b) && leS r s
  | _, _ => false
section
variable {K : PySem.W.Frag} {H H' : Hp} {L L' W : Addr → Prop}
theorem ER.weak : ∀ {st st' : List Nat} {ρ : Env} {σ : L2.St} {F : List Addr}, leS st' st = true → F.Nodup → ER K H L st ρ σ F →
    ∃ F', F'.Sublist F ∧ ∀ L' : Addr → Prop, (∀ b, L' b → L b) → (∀ b ∈ F, L' b → b ∈ F') → ER K H L' st' ρ σ F'
  | [], [], [], [], F, _, _, h => ⟨F, List.Sublist.refl _, fun _ _ _ => h⟩
  | d :: st, d' :: st', o :: ρ, s :: σ, F, hl, nd, h => by
    obtain ⟨F1, F2, e, h1, h2⟩ := h
    subst e
    simp only [leS, Bool.and_eq_true, decide_eq_true_eq] at hl
    obtain ⟨n1, n2, n3⟩ := List.nodup_append.mp nd
    obtain ⟨F2', s2, c2⟩ := ER.weak hl.2 n2 h2
    have one : ∃ F1', F1'.Sublist F1 ∧ ∀ L' : Addr → Prop, (∀ b, L' b → L b) → (∀ b ∈ F1, L' b → b ∈ F1') → Slot K H L' d' o s F1' := by
      cases o with
      | none => exact ⟨F1, List.Sublist.refl _, fun _ _ _ => h1⟩
      | some x =>
        obtain ⟨v, e, q⟩ := h1
        obtain ⟨F1', s1, c1⟩ := Own.weak x d d' v F1 hl.1 n1 q
        exact ⟨F1', s1, fun L' z1 z2 => ⟨v, e, c1 L' z1 z2⟩⟩
    obtain ⟨F1', s1, c1⟩ := one
    refine ⟨F1' ++ F2', s1.append s2, fun L' q1 q2 => ⟨F1', F2', rfl, c1 L' q1 fun b hb y => ?_, c2 L' q1 fun b hb y => ?_⟩⟩
    · rcases List.mem_append.mp (q2 b (by simp [hb]) y) with z | z
      · exact z
      · exact absurd rfl (n3 b hb b (s2.subset z))
    · rcases List.mem_append.mp (q2 b (by simp [hb]) y) with z | z
      · exact absurd rfl (n3 b (s1.subset z) b hb)
      · exact z
  | [], _ :: _, _, _, _, hl, _, _ => by simp [leS] at hl
  | _ :: _, [], _, _, _, hl, _, _ => by simp [leS] at hl
  | [], [], _ :: _, _, _, _, _, h => by cases h
  | [], [], [], _ :: _, _, _, _, h => by cases h
  | _ :: _, _ :: _, [], _, _, _, _, h => by cases h
  | _ :: _, _ :: _, _ :: _, [], _, _, _, h => by cases h
theorem ER.mt : ∀ {st : List Nat} {ρ : Env} {σ : L2.St} {F : List Addr}, ER K H L st ρ σ F → ∀ b ∈ F, ∃ o, H b = some o ∧ mutO o = true
  | [], [], [], _, h => by intro b hb; rw [show _ = [] from h] at hb; cases hb
  | d :: st, o :: ρ, s :: σ, F, h => by
    obtain ⟨F1, F2, e, h1, h2⟩ := h
    subst e
    intro b hb
    rcases List.mem_append.mp hb with z | z
    · cases o with
      | none => rw [show F1 = [] from h1] at z; cases z
      | some x => obtain ⟨v, _, q⟩ := h1; exact Own.mt x d v F1 q b z
    · exact ER.mt h2 b z
  | [], [], _ :: _, _, h => h.elim
  | [], _ :: _, _, _, h => by cases h
  | _ :: _, [], _, _, h => by cases h
  | _ :: _, _ :: _, [], _, h => by cases h
end

/-! ### worlds -/
def Lo (F : List Addr) (L0 : Addr → Prop) : Addr → Prop := fun b => b ∈ F ∨ L0 b
theorem Lo.push (F G : List Addr) (L0 : Addr → Prop) : Lo F (Lo G L0) = Lo (F ++ G) L0 := by
  funext b; unfold Lo; simp only [List.mem_append, eq_iff_iff]; constructor
  · rintro (h | h | h)
    · exact .inl (.inl h)
    · exact .inl (.inr h)
    · exact .inr h
  · rintro ((h | h) | h)
    · exact .inl h
    · exact .inr (.inl h)
    · exact .inr (.inr h)
/-- the slots, what they own (F), a value at hand that owns Fv, what others own (L0) -/
structure WO (K : PySem.W.Frag) (H : Hp) (L0 : Addr → Prop) (st : List Nat) (ρ : Env) (σ : L2.St) (F Fv : List Addr) : Prop where
  er : ER K H (Lo (F ++ Fv) L0) st ρ σ F
  nd : (F ++ Fv).Nodup
  dj : ∀ b ∈ F ++ Fv, ¬ L0 b
  l0 : ∀ b, L0 b → ∃ o, H b = some o ∧ mutO o = true
structure Go (nm : Bool) (H : Hp) (F : List Addr) (H' : Hp) (F' : List Addr) : Prop where
  keep : ∀ b o, H b = some o → b ∉ F → H' b = some o
  pure : nm = true → ∀ b o, H b = some o → H' b = some o
  there : ∀ b o, H b = some o → ∃ o', H' b = some o' ∧ (mutO o = true → mutO o' = true)
  fresh : ∀ b ∈ F', b ∈ F ∨ H b = none
theorem Go.refl (nm : Bool) (H : Hp) (F : List Addr) {F' : List Addr} (h : ∀ b ∈ F', b ∈ F) : Go nm H F H F' :=
  ⟨fun _ _ h _ => h, fun _ _ _ h => h, fun b o h => ⟨o, h, id⟩, fun b hb => .inl (h b hb)⟩
theorem Go.none {nm H F H' F' b} (g : Go nm H F H' F') (h : H' b = none) : H b = none := by
  cases e : H b with
  | none => rfl
  | some o => obtain ⟨o', q, _⟩ := g.there b o e; rw [h] at q; cases q
theorem Go.trans {n1 n2 nm H F H1 F1 H2 F2} (a : Go n1 H F H1 F1) (b : Go n2 H1 F1 H2 F2) (h : nm = true → n1 = true ∧ n2 = true) : Go nm H F H2 F2 where
  keep := fun c o q n => b.keep c o (a.keep c o q n) fun z => (a.fresh c z).elim n fun e => by rw [q] at e; cases e
  pure := fun e c o q => b.pure (h e).2 c o (a.pure (h e).1 c o q)
  there := fun c o q => by
    obtain ⟨o1, q1, m1⟩ := a.there c o q
    obtain ⟨o2, q2, m2⟩ := b.there c o1 q1
    exact ⟨o2, q2, fun z => m2 (m1 z)⟩
  fresh := fun c hc => by
    rcases b.fresh c hc with z | z
    · exact a.fresh c z
    · exact .inr (a.none z)
theorem Go.sub {nm H F H' F' G} (a : Go nm H F H' F') (h : ∀ b ∈ G, b ∈ F') : Go nm H F H' G := ⟨a.keep, a.pure, a.there, fun b hb => a.fresh b (h b hb)⟩
theorem Go.sup {nm H F H' F' G} (a : Go nm H F H' F') (h : ∀ b ∈ F, b ∈ G) : Go nm H G H' F' := ⟨fun b o q n => a.keep b o q fun z => n (h b z), a.pure, a.there, fun b hb => (a.fresh b hb).imp (h b) id⟩
theorem Go.weaken {nm nm' H F H' F'} (a : Go nm H F H' F') (h : nm' = true → nm = true) : Go nm' H F H' F' := ⟨a.keep, fun e => a.pure (h e), a.there, a.fresh⟩
/-- a new object -/
theorem Go.new {nm : Bool} {H : Hp} {F F' : List Addr} {p : Addr} {o : HO} (np : H p = .none) (h : ∀ b ∈ F', b ∈ F ∨ b = p) : Go nm H F (upd H p o) F' where
  keep := fun b u q _ => by rw [upd_ne (L2.ne_of_none q np)]; exact q
  pure := fun _ b u q => by rw [upd_ne (L2.ne_of_none q np)]; exact q
  there := fun b u q => ⟨u, by rw [upd_ne (L2.ne_of_none q np)]; exact q, id⟩
  fresh := fun b hb => (h b hb).imp id fun e => by rw [e]; exact np
section
variable {K : PySem.W.Frag} {H H' : Hp} {L0 : Addr → Prop} {st st' : List Nat} {ρ ρ' : Env} {σ : L2.St} {F F' Fv Fw : List Addr}
theorem WO.mt (w : WO K H L0 st ρ σ F Fv) : ∀ b ∈ F, ∃ o, H b = some o ∧ mutO o = true := ER.mt w.er
/-- the value at hand is put aside -/
theorem WO.push (w : WO K H L0 st ρ σ F Fv) (hv : ∀ b ∈ Fv, ∃ o, H b = some o ∧ mutO o = true) : WO K H (Lo Fv L0) st ρ σ F [] where
  er := by rw [List.append_nil, Lo.push]; exact w.er
  nd := by rw [List.append_nil]; exact (List.nodup_append.mp w.nd).1
  dj := fun b hb => by
    rw [List.append_nil] at hb
    rintro (z | z)
    · exact absurd rfl ((List.nodup_append.mp w.nd).2.2 b hb b z)
    · exact w.dj b (by simp [hb]) z
  l0 := fun b => fun z => z.elim (hv b) (w.l0 b)
/-- .. and taken back, with another one -/
theorem WO.pop (w : WO K H (Lo Fv L0) st ρ σ F Fw) (nd : Fv.Nodup) (dj : ∀ b ∈ Fv, ¬ L0 b) : WO K H L0 st ρ σ F (Fv ++ Fw) where
  er := by
    have := w.er
    rw [Lo.push] at this
    have e : Lo (F ++ Fw ++ Fv) L0 = Lo (F ++ (Fv ++ Fw)) L0 := by
      funext b; unfold Lo; simp only [List.mem_append, eq_iff_iff]
      grind
    rw [← e]; exact this
  nd := by
    have n := List.nodup_append.mp w.nd
    have d := w.dj
    refine List.nodup_append.mpr ⟨n.1, List.nodup_append.mpr ⟨nd, n.2.1, fun a ha b hb e => ?_⟩, fun a ha b hb e => ?_⟩
    · subst e; exact d a (by simp [hb]) (.inl ha)
    · subst e
      rcases List.mem_append.mp hb with z | z
      · exact d a (by simp [ha]) (.inl z)
      · exact n.2.2 a ha a z rfl
  dj := fun b hb z => by
    simp only [List.mem_append] at hb
    rcases hb with h | h | h
    · exact w.dj b (by simp [h]) (.inr z)
    · exact dj b h z
    · exact w.dj b (by simp [h]) (.inr z)
  l0 := fun b z => w.l0 b (.inr z)
theorem Kp.same {L L' : Addr → Prop} (h : ∀ b, L' b → L b ∨ H b = .none) : Kp H L (fun _ => False) H L' := ⟨fun _ _ q _ => q, h, fun _ z => z.elim, fun _ z => z.elim⟩
/-- part of the value at hand is let go -/
theorem WO.drop (w : WO K H L0 st ρ σ F Fv) (s : ∀ b ∈ Fw, b ∈ Fv) (nd : Fw.Nodup) : WO K H L0 st ρ σ F Fw where
  er := ER.keep (Kp.same fun b z => .inl (by unfold Lo at *; simp only [List.mem_append] at *; grind)) (fun _ _ z => z) w.er
  nd := by
    have n := List.nodup_append.mp w.nd
    exact List.nodup_append.mpr ⟨n.1, nd, fun a ha b hb => n.2.2 a ha b (s b hb)⟩
  dj := fun b hb => w.dj b (by simp only [List.mem_append] at *; exact hb.imp id (s b))
  l0 := w.l0
theorem WO.drop0 (w : WO K H L0 st ρ σ F Fv) : WO K H L0 st ρ σ F [] := w.drop (by simp) List.nodup_nil
theorem WO.weak (w : WO K H L0 st ρ σ F Fv) (h : leS st' st = true) : ∃ F', F'.Sublist F ∧ WO K H L0 st' ρ σ F' Fv := by
  obtain ⟨F', s, c⟩ := ER.weak h (List.nodup_append.mp w.nd).1 w.er
  have n := List.nodup_append.mp w.nd
  refine ⟨F', s, c _ (fun b z => ?_) (fun b hb z => ?_), List.nodup_append.mpr ⟨n.1.sublist s, n.2.1, fun a ha b hb => n.2.2 a (s.subset ha) b hb⟩, fun b hb => w.dj b ?_, w.l0⟩
  · unfold Lo at *; simp only [List.mem_append] at *; exact z.imp (fun y => y.imp (fun q => s.subset q) id) id
  · unfold Lo at z; simp only [List.mem_append] at z
    rcases z with (z | z) | z
    · exact z
    · exact absurd rfl (n.2.2 b hb b z)
    · exact absurd z (w.dj b (by simp [hb]))
  · simp only [List.mem_append] at *; exact hb.imp (fun q => s.subset q) id
end
end TL
end -- TLRep

section -- TLPrim
/-! TL, part 4: the primitives over the heap. -/
set_option linter.all false
set_option autoImplicit true
set_option maxRecDepth 100000
namespace TL
open PySem PySem.Spec PyProof.Rows
open L2 (V Hp HO Rd SqL SqT upd upd_same upd_ne Vals RelV VK Cx Inv OpR UnR CallR IxR SlR TruR R2)

/-- a new value z, k deep owned, over what stands -/
def NQ (K : PySem.W.Frag) (H : Hp) (L : Addr → Prop) (k : Nat) (z : TV) (Q : VK) : Prop :=
  ∀ w H' Fw, Own K H' (Lo Fw L) k z w Fw → Fw.Nodup → (∀ b o, H b = some o → H' b = some o) → (∀ b ∈ Fw, H b = none) → Q w H'
section
variable {K : PySem.W.Frag} {H : Hp} {L : Addr → Prop} {k : Nat} {Q : VK}
theorem Lo.nil : Lo [] L = L := by funext b; unfold Lo; simp
theorem NQ.here {z : TV} {w : V} (h : NQ K H L k z Q) (o : Own K H L k z w []) : Q w H := h w H [] (by rw [Lo.nil]; exact o) List.nodup_nil (fun _ _ q => q) (fun _ q => nomatch q)
theorem NQ.int {i : Int} (h : NQ K H L k (.int i) Q) : Q (.int i) H := h.here (by simp only [Own, true_and, and_true])
theorem NQ.str {i : Str} (h : NQ K H L k (.str i) Q) : Q (.str i) H := h.here (by simp only [Own, true_and, and_true])
theorem NQ.bl {i : Bool} (h : NQ K H L k (.bl i) Q) : Q (.bl i) H := h.here (by simp only [Own, true_and, and_true])
theorem NQ.non (h : NQ K H L k .non Q) : Q .non H := h.here (by simp only [Own, true_and, and_true])
theorem Kp.newp {p : Addr} {o : HO} (np : H p = none) (F : List Addr) (hF : ∀ b ∈ F, b = p) : Kp H L (fun _ => False) (upd H p o) (Lo F L) :=
  ⟨fun b u q _ => by rw [upd_ne (L2.ne_of_none q np)]; exact q, fun b z => z.elim (fun q => .inr (by rw [hF b q]; exact np)) .inl, fun _ z => z.elim, fun _ z => z.elim⟩
theorem NQ.lst {zs : List TV} {vs : List V} (h : NQ K H L 1 (.lst zs) Q) (r : Rps K H L 0 zs vs) (hl : zs.length ≤ line) : ∀ p, H p = none → Q (.ref p) (upd H p (.lst vs)) := fun p np => by
  refine h _ _ [p] ?_ (by simp) (fun b o q => by rw [upd_ne (L2.ne_of_none q np)]; exact q) (fun b hb => by rw [List.mem_singleton.mp hb]; exact np)
  simp only [Own]
  refine ⟨p, vs, [], rfl, upd_same, rfl, hl, ?_⟩
  exact Owns.keep (Kp.newp np [p] (by simp)) zs 0 vs [] (fun _ _ z => z) (Rps.own zs vs r)
theorem NQ.tup {zs : List TV} {vs : List V} (h : NQ K H L 1 (.tup zs) Q) (r : Rps K H L 0 zs vs) (hl : zs.length ≤ line) : ∀ p, H p = none → Q (.ref p) (upd H p (.tup vs)) := fun p np => by
  refine h _ _ [] ?_ (by simp) (fun b o q => by rw [upd_ne (L2.ne_of_none q np)]; exact q) (fun b hb => nomatch hb)
  simp only [Own]
  refine ⟨p, vs, rfl, .inl (.inl upd_same), hl, ?_⟩
  exact Owns.keep (Kp.newp np [] (by simp)) zs 0 vs [] (fun _ _ z => z) (Rps.own zs vs r)
theorem NQ.same {zs : List TV} {vs : List V} {a : Addr} (h : NQ K H L 1 (.tup zs) Q) (s : SqT K H a vs) (r : Rps K H L 0 zs vs) (hl : zs.length ≤ line) : Q (.ref a) H :=
  h.here (by simp only [Own]; exact ⟨a, vs, rfl, s, hl, Rps.own zs vs r⟩)
theorem Rps.append : ∀ {xs ys : List TV} {m : Nat} {vs ws : List V}, Rps K H L m xs vs → Rps K H L m ys ws → Rps K H L m (xs ++ ys) (vs ++ ws)
  | [], _, _, _, _, h, q => by simp only [Rps] at h; subst h; exact q
  | x :: xs, ys, m, vs, ws, h, q => by
    simp only [Rps] at h
    obtain ⟨v, r, e, h1, h2⟩ := h
    subst e
    exact ⟨v, r ++ ws, rfl, h1, Rps.append h2 q⟩
theorem Rps.nil {m : Nat} : Rps K H L m [] [] := by simp only [Rps]
theorem Rps.cons {m : Nat} {x xs v vs} (h : Rp K H L m x v) (t : Rps K H L m xs vs) : Rps K H L m (x :: xs) (v :: vs) := by simp only [Rps]; exact ⟨v, vs, rfl, h, t⟩
theorem Rps.rep {xs : List TV} {m : Nat} {vs : List V} (h : Rps K H L m xs vs) : ∀ n : Nat, Rps K H L m (List.replicate n xs).flatten (List.replicate n vs).flatten
  | 0 => by simp only [List.replicate_zero, List.flatten_nil]; exact Rps.nil
  | n + 1 => by simp only [List.replicate_succ, List.flatten_cons]; exact h.append (Rps.rep h n)
theorem Rps.take : ∀ {xs : List TV} {m : Nat} {vs : List V} (n : Nat), Rps K H L m xs vs → Rps K H L m (xs.take n) (vs.take n)
  | _, _, _, 0, _ => by simp only [List.take_zero]; exact Rps.nil
  | [], _, _, _ + 1, h => by simp only [Rps] at h; subst h; simp only [List.take_nil]; exact Rps.nil
  | x :: xs, m, vs, n + 1, h => by
    simp only [Rps] at h
    obtain ⟨v, r, e, h1, h2⟩ := h
    subst e
    simp only [List.take_succ_cons]
    exact Rps.cons h1 (Rps.take n h2)
theorem Rps.drop : ∀ {xs : List TV} {m : Nat} {vs : List V} (n : Nat), Rps K H L m xs vs → Rps K H L m (xs.drop n) (vs.drop n)
  | _, _, _, 0, h => by simpa only [List.drop_zero] using h
  | [], _, _, _ + 1, h => by simp only [Rps] at h; subst h; simp only [List.drop_nil]; exact Rps.nil
  | x :: xs, m, vs, n + 1, h => by
    simp only [Rps] at h
    obtain ⟨v, r, e, h1, h2⟩ := h
    subst e
    simp only [List.drop_succ_cons]
    exact Rps.drop n h2
theorem Rps.reverse {m : Nat} : ∀ {xs : List TV} {vs : List V}, Rps K H L m xs vs → Rps K H L m xs.reverse vs.reverse
  | [], vs, h => by simp only [Rps] at h; subst h; exact Rps.nil
  | x :: xs, vs, h => by
    simp only [Rps] at h
    obtain ⟨v, r, e, h1, h2⟩ := h
    subst e
    simp only [List.reverse_cons]
    exact (Rps.reverse h2).append (Rps.cons h1 Rps.nil)
theorem Rps.get : ∀ {xs : List TV} {m : Nat} {vs : List V} {i : Nat} {x : TV}, Rps K H L m xs vs → xs[i]? = some x → ∃ v, vs[i]? = some v ∧ Rp K H L m x v
  | [], _, _, _, _, _, h => by simp at h
  | x :: xs, m, vs, i, y, h, e => by
    simp only [Rps] at h
    obtain ⟨v, r, rfl, h1, h2⟩ := h
    cases i with
    | zero => simp at e; subst e; exact ⟨v, rfl, h1⟩
    | succ i =>
      obtain ⟨w, q, z⟩ := Rps.get (i := i) (x := y) h2 (by simpa using e)
      exact ⟨w, by simpa using q, z⟩
theorem Rps.ints {m : Nat} : ∀ {xs : List TV} {vs : List V} {ns : List Int}, Rps K H L m xs vs → intsOf xs = some ns → vs = ns.map V.int ∧ xs = ns.map TV.int
  | [], vs, ns, h, e => by simp only [Rps] at h; simp only [intsOf, Option.some.injEq] at e; subst h e; exact ⟨rfl, rfl⟩
  | x :: xs, vs, ns, h, e => by
    simp only [Rps] at h
    obtain ⟨v, r, rfl, h1, h2⟩ := h
    cases x <;> simp only [intsOf] at e <;> try (cases e; done)
    rename_i i
    cases q : intsOf xs with
    | none => rw [q] at e; cases e
    | some ms =>
      rw [q] at e; simp only [Option.map_some, Option.some.injEq] at e; subst e
      obtain ⟨e1, e2⟩ := Rps.ints h2 q
      simp only [Rp] at h1
      rw [h1, e1, e2]; exact ⟨rfl, rfl⟩
theorem Rps.bls {m : Nat} : ∀ {xs : List TV} {vs : List V} {ns : List Bool}, Rps K H L m xs vs → blsOf xs = some ns → vs = ns.map V.bl
  | [], vs, ns, h, e => by simp only [Rps] at h; simp only [blsOf, Option.some.injEq] at e; subst h e; rfl
  | x :: xs, vs, ns, h, e => by
    simp only [Rps] at h
    obtain ⟨v, r, rfl, h1, h2⟩ := h
    cases x <;> simp only [blsOf] at e <;> try (cases e; done)
    rename_i i
    cases q : blsOf xs with
    | none => rw [q] at e; cases e
    | some ms =>
      rw [q] at e; simp only [Option.map_some, Option.some.injEq] at e; subst e
      have e1 := Rps.bls h2 q
      simp only [Rp] at h1
      rw [h1, e1]; rfl
theorem Rps.ofInts {m : Nat} : ∀ (ns : List Int), Rps K H L m (ns.map TV.int) (ns.map V.int)
  | [] => Rps.nil
  | n :: ns => Rps.cons (by simp only [Rp]) (Rps.ofInts ns)
end
theorem line_le : line ≤ sizeLine := Nat.le_of_eq line_eq.symm

/-! ### tuple * int -/
section
open Builtin
variable {prog : Program} {w : World} {A : Around} {E : Value → Shared → Prop} {s : Shared}
theorem tuple_mul1 (l : Addr) (items : Array Value) (n : Nat) (dd : Option Addr) (sl : Array (Option Value)) (x : Int) (u : Tok) (c0 : (decide (x < -(2 ^ 63)) || decide (x ≥ 2 ^ 63)) = false) (c1 : (items.isEmpty || x == 1) = true) :
    Meets (Builtin.«tuple.__mul__» ⟨[.ref l, .int x u], []⟩) (fun _ R s => s.heap.get? l = some { cls := .type "tuple", dict := dd, data := .seq items n, slots := sl } ∧ R (.ok (.ret (Value.ref l))) s) :=
  .of_wp fun prog w A R s h => by
    obtain ⟨hp, g, d, tk, os⟩ := s
    obtain ⟨hl, h⟩ := h
    have f1 := AutoSeq1.idx_int
    wp_walk using wpAny_loadPart' hl
    repeat (first
      | (refine wpAny_ite_false (decide_eq_false (by rw [c0]; exact Bool.false_ne_true)) ?_; wp_walk using wpAny_loadPart' hl)
      | (refine wpAny_ite_true (decide_eq_true (by rw [c1])) ?_; wp_walk using wpAny_loadPart' hl))
    exact ⟨_, rfl, h⟩
theorem tuple_mul0 (l : Addr) (items : Array Value) (n : Nat) (dd : Option Addr) (sl : Array (Option Value)) (x : Int) (u : Tok) (c0 : (decide (x < -(2 ^ 63)) || decide (x ≥ 2 ^ 63)) = false) (c1 : (items.isEmpty || x == 1) = false) (c2 : (decide (x ≤ 0) || items.isEmpty) = true) :
    Meets (Builtin.«tuple.__mul__» ⟨[.ref l, .int x u], []⟩) (fun _ R s => s.heap.get? l = some { cls := .type "tuple", dict := dd, data := .seq items n, slots := sl } ∧
      R (.ok (.ret (Value.ref s.heap.objs.size))) { s with heap := s.heap.push { cls := Value.type "tuple", data := Data.seq #[] }, toks := s.toks }) :=
  .of_wp fun prog w A R s h => by
    obtain ⟨hp, g, d, tk, os⟩ := s
    obtain ⟨hl, h⟩ := h
    have f1 := AutoSeq1.idx_int
    wp_walk using wpAny_loadPart' hl
    repeat (first
      | (refine wpAny_ite_false (decide_eq_false (by rw [c0]; exact Bool.false_ne_true)) ?_; wp_walk using wpAny_loadPart' hl)
      | (refine wpAny_ite_false (decide_eq_false (by rw [c1]; exact Bool.false_ne_true)) ?_; wp_walk using wpAny_loadPart' hl)
      | (refine wpAny_ite_true (decide_eq_true (by rw [c2])) ?_; wp_walk using wpAny_loadPart' hl))
    exact ⟨_, rfl, h⟩
end

theorem line_v : line = 16777216 := rfl
section
variable {X : Cx}
/-- tuple * int, any of them -/
def rRepA (K : PySem.W.Frag) : R2 := fun x y H Q => ∃ l k xs, x = .ref l ∧ y = .int k ∧ SqT K H l xs ∧ -(2 ^ 62) < k ∧ k < 2 ^ 62 ∧ xs.length * k.toNat ≤ sizeLine ∧
  (xs = [] ∨ k = 1 → Q (.ref l) H) ∧ (¬ (xs = [] ∨ k = 1) → ∀ p, H p = none → Q (.ref p) (upd H p (.tup (List.replicate k.toNat xs).flatten)))
theorem op_repA : OpR X (binaryOp .Mult) (rRepA X.K) := by
  intro pins s σ H x y v u Q I rx ry h
  obtain ⟨l, k, xs, rfl, rfl, hT, h1, h2, hz, q1, q2⟩ := h
  cases rx
  obtain ⟨t, rfl⟩ := ry
  obtain ⟨its, r, ⟨⟨cls, dd, data, sl⟩, ho, hc, n, hd⟩, hs⟩ := I.tuple hT
  simp only at hc hd
  subst hc hd
  have hle : its.length = xs.length := r.length.symm
  have hemp : its.toArray.isEmpty = true ↔ xs = [] := by
    constructor
    · intro e
      have : its = [] := by simpa using e
      rw [this] at hle; exact List.eq_nil_of_length_eq_zero hle.symm
    · intro e
      rw [e] at hle
      have : its = [] := List.eq_nil_of_length_eq_zero hle
      rw [this]; rfl
  have c0 : (decide (k < -(2 ^ 63)) || decide (k ≥ 2 ^ 63)) = false := by
    rw [decide_eq_false (by omega), decide_eq_false (by omega)] <;> rfl
  by_cases hc : xs = [] ∨ k = 1
  · have c1 : (its.toArray.isEmpty || k == 1) = true := by
      rcases hc with e | e
      · rw [hemp.mpr e]; rfl
      · rw [e]; simp
    exact wpAny_binaryOp_repeat_ref (T := "tuple") (U := "int") (by decide) ⟨_, ho, rfl⟩ (fun s' => typeIs_int s' k t) L2.noFill_tuple_mul F.fills_int_mul F.slot_int_rmul L2.repeat_tuple F.slot_int_index.lookup
      (call_meets F.slot_int_rmul (typeIs_int s k t) F.entry_int_rmul (F.args_int_rmul_2 _ _) (L2.int_rmul_tuple k t l its.toArray n dd sl)
        ⟨ho, rfl, ⟨_, ho, rfl⟩, call_meets F.slot_tuple_mul ⟨_, ho, rfl⟩ F.entry_tuple_mul (F.args_tuple_mul_2 _ _) (tuple_mul1 l its.toArray n dd sl k t c0 c1) ⟨ho, ⟨.ref l, H, I, rfl, q1 hc⟩⟩⟩)
  · have hx : xs ≠ [] := fun e => hc (.inl e)
    have hk : k ≠ 1 := fun e => hc (.inr e)
    have hi : its.toArray.isEmpty = false := by
      cases e : its.toArray.isEmpty with
      | false => rfl
      | true => exact absurd (hemp.mp e) hx
    have c1 : (its.toArray.isEmpty || k == 1) = false := by
      rw [hi, Bool.false_or]
      exact beq_eq_false_iff_ne.mpr hk
    by_cases hneg : k ≤ 0
    · have c2 : (decide (k ≤ 0) || its.toArray.isEmpty) = true := by rw [decide_eq_true hneg]; rfl
      have e0 : k.toNat = 0 := by omega
      refine wpAny_binaryOp_repeat_ref (T := "tuple") (U := "int") (by decide) ⟨_, ho, rfl⟩ (fun s' => typeIs_int s' k t) L2.noFill_tuple_mul F.fills_int_mul F.slot_int_rmul L2.repeat_tuple F.slot_int_index.lookup
        (call_meets F.slot_int_rmul (typeIs_int s k t) F.entry_int_rmul (F.args_int_rmul_2 _ _) (L2.int_rmul_tuple k t l its.toArray n dd sl)
          ⟨ho, rfl, ⟨_, ho, rfl⟩, call_meets F.slot_tuple_mul ⟨_, ho, rfl⟩ F.entry_tuple_mul (F.args_tuple_mul_2 _ _) (tuple_mul0 l its.toArray n dd sl k t c0 c1 c2) ⟨ho, ?_⟩⟩)
      have q := q2 hc
      rw [e0] at q
      refine ⟨.ref s.heap.objs.size, _, I.laid (t' := s.toks) (o := .tup []) (fun b ob q => Heap.get?_push_of_some _ q) (Nat.le_refl _) ?_, rfl, q _ (I.hok.fresh (Nat.le_refl _))⟩
      exact ⟨Nat.zero_le _, [], .nil, IsTup.new _ _⟩
    · have hle2 : its.length * k.toNat ≤ sizeLine := by rw [hle]; exact hz
      have hm : ((its.toArray.size : Nat) : Int) * k ≤ sizeLine := by
        rw [List.size_toArray]
        have : ((its.length * k.toNat : Nat) : Int) ≤ (sizeLine : Nat) := Int.ofNat_le.mpr hle2
        rw [Int.natCast_mul, Int.toNat_of_nonneg (by omega)] at this
        exact this
      have sv : ((sizeLine : Nat) : Int) = 16777216 := by rw [sizeLine_eq]; rfl
      have flen : (List.replicate k.toNat its).flatten.length ≤ sizeLine := by
        rw [PyProof.Rows.lm_len_rep_flat, Nat.mul_comm]; exact hle2
      have c2 : (decide (k ≤ 0) || its.toArray.isEmpty) = false := by
        rw [hi, Bool.or_false]
        exact decide_eq_false hneg
      have c4 : Builtin.Tuple.tupleTooMany (((its.toArray.size : Nat) : Int) * k) = false := by
        unfold Builtin.Tuple.tupleTooMany
        exact decide_eq_false (by omega)
      refine wpAny_binaryOp_repeat_ref (T := "tuple") (U := "int") (by decide) ⟨_, ho, rfl⟩ (fun s' => typeIs_int s' k t) L2.noFill_tuple_mul F.fills_int_mul F.slot_int_rmul L2.repeat_tuple F.slot_int_index.lookup
        (call_meets F.slot_int_rmul (typeIs_int s k t) F.entry_int_rmul (F.args_int_rmul_2 _ _) (L2.int_rmul_tuple k t l its.toArray n dd sl)
          ⟨ho, rfl, ⟨_, ho, rfl⟩, call_meets F.slot_tuple_mul ⟨_, ho, rfl⟩ F.entry_tuple_mul (F.args_tuple_mul_2 _ _) (L2.tuple_mulW l its.toArray n dd sl k t c0 c1 c2 (by omega) c4 (by rw [L2.size_rep, List.size_toArray]; exact flen)) ⟨ho, ?_⟩⟩)
      rw [L2.size_rep]
      refine ⟨.ref s.heap.objs.size, _, I.laid (t' := s.toks) (o := .tup (List.replicate k.toNat xs).flatten) (fun b ob q => Heap.get?_push_of_some _ q) (Nat.le_refl _) ?_, rfl, q2 hc _ (I.hok.fresh (Nat.le_refl _))⟩
      exact ⟨by rw [PyProof.Rows.lm_len_rep_flat, Nat.mul_comm]; exact hz, _, r.rep k.toNat, IsTup.new _ _⟩

def bopO : Bop → Operator
  | .add => .Add | .sub => .Sub | .mul => .Mult | .mod => .Mod | .fdiv => .FloorDiv | .pow => .Pow | .shl => .LShift | .shr => .RShift | .band => .BitAnd | .bxor => .BitXor
/-- x op y, by trees -/
def rBin (K : PySem.W.Frag) (o : Bop) : R2 := fun v u H Q => ∃ L x y, Rp K H L 1 x v ∧ Rp K H L 1 y u ∧ app (binF o x y) fun z => NQ K H L 1 z Q
theorem op_bin (o : Bop) : OpR X (binaryOp (bopO o)) (rBin X.K o) := by
  intro pins s σ H v u vv uu Q I rv ru h
  obtain ⟨L, x, y, hx, hy, h⟩ := h
  unfold app at h
  split at h
  · rename_i c z e
    obtain ⟨hc, q⟩ := h
    unfold binF at e
    split at e
    · -- add
      unfold addF at e
      split at e
      · cases e; simp only [Rp] at hx hy; subst hx hy
        exact L2.op_add pins s σ H _ _ vv uu Q I rv ru ⟨_, _, rfl, rfl, q.int⟩
      · cases e; simp only [Rp] at hx hy; subst hx hy
        exact L2.op_add_str pins s σ H _ _ vv uu Q I rv ru ⟨_, _, rfl, rfl, Nat.le_trans hc line_le, q.str⟩
      · cases e; simp only [Rp] at hx hy
        obtain ⟨a, vs, rfl, ⟨ha, _⟩, l1, r1⟩ := hx
        obtain ⟨b, ws, rfl, ⟨hb, _⟩, l2, r2⟩ := hy
        refine L2.op_cat pins s σ H _ _ vv uu Q I rv ru ⟨a, b, vs, ws, rfl, rfl, ha, hb, ?_, q.lst (r1.append r2) (by rw [List.length_append]; exact hc)⟩
        rw [r1.length, r2.length]; exact Nat.le_trans hc line_le
      · cases e; simp only [Rp] at hx hy
        rename_i xs ys
        obtain ⟨a, vs, rfl, ha, l1, r1⟩ := hx
        obtain ⟨b, ws, rfl, hb, l2, r2⟩ := hy
        refine L2.op_catA pins s σ H _ _ vv uu Q I rv ru ⟨a, b, vs, ws, rfl, rfl, ha, hb, ?_, fun e => ?_, fun e1 e2 => ?_, fun _ _ => q.tup (r1.append r2) (by rw [List.length_append]; exact hc)⟩
        · rw [r1.length, r2.length]; exact Nat.le_trans hc line_le
        · have : xs = [] := by have := r1.length; rw [e] at this; exact List.eq_nil_of_length_eq_zero this.symm
          subst this
          exact q.same hb r2 l2
        · have : ys = [] := by have := r2.length; rw [e2] at this; exact List.eq_nil_of_length_eq_zero this.symm
          subst this
          rw [List.append_nil] at q
          exact q.same ha r1 l1
      · cases e
    · -- mul
      unfold mulF at e
      split at e
      · cases e; simp only [Rp] at hx hy; subst hx hy
        exact L2.op_mul pins s σ H _ _ vv uu Q I rv ru ⟨_, _, rfl, rfl, hc, q.int⟩
      · cases e; simp only [Rp] at hx hy; subst hy
        obtain ⟨a, vs, rfl, ⟨ha, _⟩, l1, r1⟩ := hx
        refine L2.op_rep pins s σ H _ _ vv uu Q I rv ru ⟨a, _, vs, rfl, rfl, ha, by have := hc.1; omega, by have := hc.2.1; omega, ?_, q.lst (r1.rep _) ?_⟩
        · rw [r1.length]; exact Nat.le_trans hc.2.2 line_le
        · rw [PyProof.Rows.lm_len_rep_flat, Nat.mul_comm]; exact hc.2.2
      · cases e; simp only [Rp] at hx hy; subst hy
        rename_i xs k
        obtain ⟨a, vs, rfl, ha, l1, r1⟩ := hx
        refine op_repA pins s σ H _ _ vv uu Q I rv ru ⟨a, _, vs, rfl, rfl, ha, hc.1, hc.2.1, ?_, fun e => ?_, fun _ => q.tup (r1.rep _) ?_⟩
        · rw [r1.length]; exact Nat.le_trans hc.2.2 line_le
        · have : (List.replicate k.toNat xs).flatten = xs := by
            rcases e with e | e
            · have : xs = [] := by have := r1.length; rw [e] at this; exact List.eq_nil_of_length_eq_zero this.symm
              subst this; simp
            · subst e; simp
          rw [this] at q
          exact q.same ha r1 l1
        · rw [PyProof.Rows.lm_len_rep_flat, Nat.mul_comm]; exact hc.2.2
      · cases e
    · cases e; simp only [Rp] at hx hy; subst hx hy
      exact L2.op_sub pins s σ H _ _ vv uu Q I rv ru ⟨_, _, rfl, rfl, q.int⟩
    · cases e; simp only [Rp] at hx hy; subst hx hy
      exact L2.op_mod pins s σ H _ _ vv uu Q I rv ru ⟨_, _, rfl, rfl, hc, q.int⟩
    · cases e; simp only [Rp] at hx hy; subst hx hy
      exact L2.op_fdiv pins s σ H _ _ vv uu Q I rv ru ⟨_, _, rfl, rfl, hc, q.int⟩
    · cases e; simp only [Rp] at hx hy; subst hx hy
      exact L2.op_pow pins s σ H _ _ vv uu Q I rv ru ⟨_, _, rfl, rfl, hc, q.int⟩
    · cases e; simp only [Rp] at hx hy; subst hx hy
      exact L2.op_shl pins s σ H _ _ vv uu Q I rv ru ⟨_, _, rfl, rfl, hc, q.int⟩
    · cases e; simp only [Rp] at hx hy; subst hx hy
      exact L2.op_shr pins s σ H _ _ vv uu Q I rv ru ⟨_, _, rfl, rfl, hc, q.int⟩
    · cases e; simp only [Rp] at hx hy; subst hx hy
      exact L2.op_and pins s σ H _ _ vv uu Q I rv ru ⟨_, _, rfl, rfl, q.int⟩
    · cases e; simp only [Rp] at hx hy; subst hx hy
      exact L2.op_xor pins s σ H _ _ vv uu Q I rv ru ⟨_, _, rfl, rfl, q.int⟩
    · cases e
  · exact h.elim
end
end TL
end -- TLPrim

section -- TLStep
/-! TL, part 5: slices with a step. -/
set_option linter.all false
set_option autoImplicit true
set_option maxRecDepth 100000
namespace TL
open PySem PySem.Spec PyProof.Rows
open L2 (V Hp HO Rd SqL SqT upd upd_same upd_ne Vals RelV VK Cx Inv OpR UnR CallR IxR SlR TruR R2)
theorem fm_get {α : Type} : ∀ (ys : List α), (List.range ys.length).filterMap (fun (k : Nat) => ys[k]?) = ys
  | [] => rfl
  | y :: ys => by
    rw [List.length_cons, List.range_succ_eq_map, List.filterMap_cons]
    simp only [List.getElem?_cons_zero, List.filterMap_map]
    have := fm_get ys
    congr 1
theorem fm_congr {α β : Type} {f g : α → Option β} : ∀ {l : List α}, (∀ x ∈ l, f x = g x) → l.filterMap f = l.filterMap g
  | [], _ => rfl
  | x :: l, h => by
    rw [List.filterMap_cons, List.filterMap_cons, h x (by simp), fm_congr fun y hy => h y (by simp [hy])]
theorem fm_of {α : Type} {n : Nat} (ys : List α) (g : Nat → Option α) (hn : n = ys.length) (h : ∀ k, k < n → g k = ys[k]?) : (List.range n).filterMap g = ys := by
  subst hn
  exact (fm_congr fun k hk => h k (List.mem_range.mp hk)).trans (fm_get ys)
theorem pick_rev {α : Type} (xs : List α) : ((List.range xs.length).filterMap fun (k : Nat) => xs[(((xs.length : Nat) : Int) - 1 + (k : Int) * (-1)).toNat]?) = xs.reverse := by
  refine fm_of xs.reverse _ (by simp) fun k hk => ?_
  rw [List.getElem?_reverse hk]
  congr 1; omega
theorem evens_get {α : Type} : ∀ (xs : List α) (k : Nat), (evens xs)[k]? = xs[2 * k]?
  | [], k => by simp [evens]
  | [x], 0 => rfl
  | [x], k + 1 => by simp [evens]
  | x :: y :: r, 0 => rfl
  | x :: y :: r, k + 1 => by
    show (x :: evens r)[k + 1]? = (x :: y :: r)[2 * (k + 1)]?
    rw [show 2 * (k + 1) = (2 * k) + 1 + 1 by omega, List.getElem?_cons_succ, List.getElem?_cons_succ, List.getElem?_cons_succ]
    exact evens_get r k
theorem evens_len {α : Type} : ∀ (xs : List α), (evens xs).length = (xs.length + 1) / 2
  | [] => by simp [evens]
  | [x] => by simp [evens]
  | x :: y :: r => by
    show (evens r).length + 1 = (r.length + 1 + 1 + 1) / 2
    rw [evens_len r]; omega
theorem pick_ev {α : Type} (xs : List α) (a : Nat) : ((List.range ((xs.length - a + 1) / 2)).filterMap fun (k : Nat) => xs[((a : Int) + (k : Int) * 2).toNat]?) = evens (xs.drop a) := by
  refine fm_of _ _ (by rw [evens_len, List.length_drop]) fun k hk => ?_
  rw [evens_get, List.getElem?_drop]
  congr 1; omega
section
variable {prog : Program} {w : World} {A : Around} {E : Value → Shared → Prop} {s : Shared}
theorem sliceApplied_step {sl : Addr} {vl vu vs : Value} {lo hi : Option Int} {c : Int} {n : Nat} {Q : Int × Int × Nat → Shared → Prop} (hs : s.heap.IsSliceOf sl vl vu vs) (pl : IsPart vl lo) (pu : IsPart vu hi) (ps : IsPart vs (some c)) (hc : c ≠ 0)
    (h : Q ((Builtin.Slice.sliceAdjust lo hi c (n : Int)).1, c, Builtin.Slice.slicePlaces (Builtin.Slice.sliceAdjust lo hi c (n : Int)).1 (Builtin.Slice.sliceAdjust lo hi c (n : Int)).2 c) s) : wpAny (model prog w) A (Builtin.Slice.sliceApplied (.ref sl) (pure (n : Int))) Q E s := by
  obtain ⟨os, hos, hcs, hds⟩ := id hs
  unfold Builtin.Slice.sliceApplied Builtin.Slice.sliceFields
  refine wpAny_bind (wpAny_bind (wpAny_field hos hds (x := vl) rfl (wpAny_bind (wpAny_field hos hds (x := vu) rfl (wpAny_bind (wpAny_field hos hds (x := vs) rfl (wpAny_pure ?_)))))))
  refine wpAny_bind (HT.slicePart_ ps ?_)
  show wpAny _ _ (if (c == 0) = true then _ else _) _ _ s
  rw [if_neg (by simpa using hc)]
  refine wpAny_bind (HT.slicePart_ pl (wpAny_bind (HT.slicePart_ pu (wpAny_bind (wpAny_pure ?_)))))
  exact wpAny_pure h
theorem getItem_tuple_step {t sl : Addr} {items : Array Value} {vl vu vs : Value} {lo hi : Option Int} {c : Int} {Q : Value → Shared → Prop} (ht : IsTup s.heap t items) (hs : s.heap.IsSliceOf sl vl vu vs) (pl : IsPart vl lo) (pu : IsPart vu hi) (ps : IsPart vs (some c)) (hc : c ≠ 0) (hc1 : c ≠ 1)
    (zs : Array Value) (hz : zs = ((List.range (Builtin.Slice.slicePlaces (Builtin.Slice.sliceAdjust lo hi c (items.size : Int)).1 (Builtin.Slice.sliceAdjust lo hi c (items.size : Int)).2 c)).filterMap fun (k : Nat) => items[((Builtin.Slice.sliceAdjust lo hi c (items.size : Int)).1 + (k : Int) * c).toNat]?).toArray)
    (h : Q (.ref s.heap.objs.size) { s with heap := s.heap.push { cls := .type "tuple", data := .seq zs } })
    (hsz : zs.size ≤ sizeLine) : wpAny (model prog w) A (getItem (.ref t) (.ref sl)) Q E s := by
  have htake : sizeOk (.seq zs) := hsz
  obtain ⟨os, hos, hcs, hds⟩ := id hs
  have hTs : s.TypeIs (.ref sl) "slice" := ⟨os, hos, hcs⟩
  unfold getItem
  try with_reducible refine wpAny_holding ?_
  first | refine wpAny_bind (wpAny_pure ?_) | skip
  refine wpAny_bind (wpAny_sequenceKey ht.typeIs (by decide) ?_)
  refine wpAny_bind (wpAny_callSpecial?_slot (name := Str.ofString "__getitem__") ht.typeIs PyProof.Rows.slot_tuple_getitem
    (wpAny_call_entry PyProof.Rows.slot_tuple_getitem ht.typeIs entry_tuple_getitem ?_ (args_tuple_getitem _ _)))
  show wpAny _ _ (Builtin.Tuple.tupleItemsOf (.ref t) >>= _) _ _ s
  refine wpAny_bind (tupleItemsOf_ ht ?_)
  refine wpAny_bind (wpAny_typeOf hTs ?_)
  rw [if_pos (by decide)]
  refine wpAny_bind (sliceApplied_step hs pl pu ps hc ?_)
  have hno : ¬ (((Builtin.Slice.sliceAdjust lo hi c (items.size : Int)).1 == 0 && c == 1 && (Builtin.Slice.slicePlaces (Builtin.Slice.sliceAdjust lo hi c (items.size : Int)).1 (Builtin.Slice.sliceAdjust lo hi c (items.size : Int)).2 c) == items.size) = true) := by
    intro q
    rw [Bool.and_eq_true, Bool.and_eq_true] at q
    exact hc1 (by simpa using q.1.2)
  show wpAny _ _ (if ((Builtin.Slice.sliceAdjust lo hi c (items.size : Int)).1 == 0 && c == 1 && (Builtin.Slice.slicePlaces (Builtin.Slice.sliceAdjust lo hi c (items.size : Int)).1 (Builtin.Slice.sliceAdjust lo hi c (items.size : Int)).2 c) == items.size) = true then _ else _) _ _ s
  rw [if_neg hno, ← hz]
  first
    | exact wpAny_bind (m := Builtin.Tuple.tupleExact _) (wpAny_newObj_type (wpAny_pure ⟨_, rfl, wpAny_pure h⟩) htake)
    | exact wpAny_bind (m := Builtin.Tuple.tupleExact _) (wpAny_newObj_type (wpAny_bind (wpAny_pure (wpAny_pure ⟨_, rfl, wpAny_pure h⟩))) htake)
    | exact wpAny_bind (wpAny_bind (m := Builtin.Tuple.tupleExact _) (wpAny_newObj_type (wpAny_pure (wpAny_pure ⟨_, rfl, wpAny_pure h⟩)) htake))
    | exact wpAny_bind (wpAny_bind (m := Builtin.Tuple.tupleExact _) (wpAny_newObj_type (wpAny_pure ⟨_, rfl, wpAny_pure h⟩) htake))
theorem adj_rev (n : Nat) : Builtin.Slice.sliceAdjust none none (-1) (n : Int) = (((n : Int) - 1), -1) ∧ Builtin.Slice.slicePlaces ((n : Int) - 1) (-1) (-1) = n := by
  constructor
  · rfl
  · unfold Builtin.Slice.slicePlaces
    simp only [show ¬ ((-1 : Int) > 0) by decide, if_false, Int.neg_neg, Int.ediv_one]
    split <;> omega
theorem adj_ev (n : Nat) (f : Bool) : Builtin.Slice.sliceAdjust (if f then some 1 else none) none 2 (n : Int) = ((if f then min 1 (n : Int) else 0), (n : Int)) ∧ Builtin.Slice.slicePlaces (if f then min 1 (n : Int) else 0) (n : Int) 2 = (n - (if f then 1 else 0) + 1) / 2 := by
  constructor
  · cases f <;> rfl
  · unfold Builtin.Slice.slicePlaces
    simp only [show ((2 : Int) > 0) by decide, if_true]
    cases f
    · simp only [Bool.false_eq_true, if_false]; split <;> omega
    · simp only [if_true]; split <;> omega
end
/-- a[lo::c], by values -/
def SlS (X : Cx) (lo : Option Int) (c : Int) (r : V → Hp → VK → Prop) : Prop :=
  ∀ (pins : List (Addr × Obj)) (s : Shared) (σ : L2.St) (H : Hp) (x : V) (v vl vu vs : Value) (sl : Addr) (Q : VK), Inv X pins σ H s → RelV x v → s.heap.IsSliceOf sl vl vu vs → IsPart vl lo → IsPart vu none → IsPart vs (some c) → r x H Q →
    ∃ T id, typeLookup (.type T) "__getitem__" = pure (some (.builtin id)) ∧ s.TypeIs v T ∧ wpAny (model X.prog X.w) X.A (getItem v (.ref sl)) (L2.EP X pins σ Q) X.xe s
section
variable {X : Cx}
/-- the tree behind a step -/
def stepF (f : Option Bool) (x : TV) : An TV := match f with | none => revF x | some f => step2F f x
def stepL {α : Type} (f : Option Bool) (l : List α) : List α := match f with | none => l.reverse | some f => TL.evens (if f then l.drop 1 else l)
def loOf (f : Option Bool) : Option Int := match f with | some true => some 1 | _ => none
def cOf (f : Option Bool) : Int := match f with | none => -1 | some _ => 2
def rStep (K : PySem.W.Frag) (f : Option Bool) : V → Hp → VK → Prop := fun v H Q => ∃ L x, Rp K H L 1 x v ∧ app (stepF f x) fun z => NQ K H L 1 z Q
theorem vals_get {xs : List V} {us : List Value} (r : Vals xs us) (g : List V → List V) : True := trivial
theorem Vals.evens : ∀ {xs : List V} {us : List Value}, Vals xs us → Vals (TL.evens xs) (TL.evens us)
  | _, _, .nil => .nil
  | _, _, .cons r .nil => .cons r .nil
  | _, _, .cons r (.cons _ t) => .cons r (Vals.evens t)
theorem Rps.evens {K H L m} : ∀ {xs : List TV} {vs : List V}, Rps K H L m xs vs → Rps K H L m (TL.evens xs) (TL.evens vs)
  | [], _, h => by simp only [Rps] at h; subst h; simp only [TL.evens]; exact Rps.nil
  | [x], _, h => by
    simp only [Rps] at h
    obtain ⟨v, r, rfl, h1, rfl⟩ := h
    simp only [TL.evens]; exact Rps.cons h1 Rps.nil
  | x :: y :: xs, _, h => by
    simp only [Rps] at h
    obtain ⟨v, r, rfl, h1, w, r', rfl, h2, h3⟩ := h
    simp only [TL.evens]; exact Rps.cons h1 (Rps.evens h3)
theorem Rps.stepL {K H L m} (f : Option Bool) {xs : List TV} {ws : List V} (hr : Rps K H L m xs ws) : Rps K H L m (TL.stepL f xs) (TL.stepL f ws) := by
  cases f with
  | none => exact Rps.reverse hr
  | some f => cases f with
    | false => exact Rps.evens hr
    | true => exact Rps.evens (Rps.drop 1 hr)
theorem Vals.stepL (f : Option Bool) {ws : List V} {its : List Value} (rv : Vals ws its) : Vals (TL.stepL f ws) (TL.stepL f its) := by
  cases f with
  | none => exact L2.Vals.reverse rv
  | some f => cases f with
    | false => exact Vals.evens rv
    | true => exact Vals.evens (L2.Vals.drop 1 rv)
theorem stepL_len (f : Option Bool) {α : Type} (xs : List α) : (stepL f xs).length ≤ xs.length := by
  cases f with
  | none => simp [stepL]
  | some f => cases f <;> simp only [stepL, Bool.false_eq_true, if_true, if_false, evens_len, List.length_drop] <;> omega
theorem pick2 (its : List Value) (f : Bool) : slicePick its.toArray (loOf (some f)) none (some 2) = (stepL (some f) its).toArray := by
  have e0 : slicePick its.toArray (loOf (some f)) none (some 2) = ((sliceRange (if f then min 1 (its.length : Int) else 0) (its.length : Int) 2).filterMap (its.toArray[·]?)).toArray := by
    unfold slicePick
    congr 1; congr 1
    cases f
    · rfl
    · show sliceRange (max 0 (min 1 (its.length : Int))) _ _ = _
      rw [show max 0 (min 1 (its.length : Int)) = min 1 (its.length : Int) by omega]; rfl
  rw [e0]
  congr 1
  unfold sliceRange
  simp only [show ((2 : Int) > 0) by decide, if_true, List.filterMap_map]
  have cnt : (if (if f = true then min 1 (its.length : Int) else 0) < (its.length : Int) then ((its.length : Int) - (if f = true then min 1 (its.length : Int) else 0) + 2 - 1) / 2 else 0).toNat = (its.length - (if f then 1 else 0) + 1) / 2 := by
    cases f
    · simp only [Bool.false_eq_true, if_false]; split <;> omega
    · simp only [if_true]; split <;> omega
  rw [cnt]
  unfold stepL
  cases f with
  | false =>
    have := pick_ev its 0
    simp only [Bool.false_eq_true, if_false, Nat.sub_zero, List.drop_zero] at *
    rw [← this]
    exact fm_congr fun k _ => by simp [Int.mul_comm]
  | true =>
    cases its with
    | nil => rfl
    | cons a r =>
      have := pick_ev (a :: r) 1
      simp only [if_true] at *
      rw [← this]
      have e1 : min 1 ((a :: r).length : Int) = 1 := by rw [List.length_cons]; omega
      rw [e1]
      exact fm_congr fun k _ => by simp [Int.mul_comm]
theorem sl_step (f : Option Bool) : SlS X (loOf f) (cOf f) (rStep X.K f) := by
  intro pins s σ H x v vl vu vs sl Q I rx hs pl pu ps h
  obtain ⟨L, y, hy, h⟩ := h
  -- the picked lists
  have pick : ∀ its : List Value, ((List.range (Builtin.Slice.slicePlaces (Builtin.Slice.sliceAdjust (loOf f) none (cOf f) (its.toArray.size : Int)).1 (Builtin.Slice.sliceAdjust (loOf f) none (cOf f) (its.toArray.size : Int)).2 (cOf f))).filterMap fun (k : Nat) => its.toArray[((Builtin.Slice.sliceAdjust (loOf f) none (cOf f) (its.toArray.size : Int)).1 + (k : Int) * (cOf f)).toNat]?) =
      (stepL f its) := fun its => by
    rw [List.size_toArray]
    unfold stepL
    cases f with
    | none =>
      simp only [loOf, cOf]
      rw [(adj_rev its.length).1, (adj_rev its.length).2]
      simpa using pick_rev its
    | some f =>
      have e : loOf (some f) = (if f = true then some 1 else none) := by cases f <;> rfl
      rw [e]
      simp only [cOf]
      rw [(adj_ev its.length f).1]
      show ((List.range (Builtin.Slice.slicePlaces (if f = true then min 1 (its.length : Int) else 0) (its.length : Int) 2)).filterMap fun (k : Nat) => its.toArray[((if f = true then min 1 (its.length : Int) else 0) + (k : Int) * 2).toNat]?) = _
      rw [(adj_ev its.length f).2]
      cases f with
      | false => simpa using pick_ev its 0
      | true =>
        simp only [if_true]
        cases its with
        | nil => rfl
        | cons a r =>
          have e1 : min 1 ((a :: r).length : Int) = 1 := by rw [List.length_cons]; omega
          rw [e1]
          simpa using pick_ev (a :: r) 1
  have hc0 : cOf f ≠ 0 := by cases f <;> simp [cOf]
  have hc1 : cOf f ≠ 1 := by cases f <;> simp [cOf]
  unfold app at h
  split at h
  · rename_i c z e
    obtain ⟨_, q⟩ := h
    have tupc : ∀ xs : List TV, y = .tup xs → z = .tup (stepL f xs) →
        ∃ T id, typeLookup (.type T) "__getitem__" = pure (some (.builtin id)) ∧ s.TypeIs v T ∧ wpAny (model X.prog X.w) X.A (getItem v (.ref sl)) (L2.EP X pins σ Q) X.xe s := by
      intro xs e1 e2
      subst e1
      simp only [Rp] at hy
      obtain ⟨a, ws, rfl, hq, hl, hr⟩ := hy
      cases rx
      obtain ⟨its, rv, ht, hz⟩ := I.tuple hq
      refine ⟨"tuple", _, PyProof.Rows.slot_tuple_getitem.lookup, ht.typeIs, ?_⟩
      refine getItem_tuple_step ht hs pl pu ps hc0 hc1 _ (congrArg List.toArray (pick its).symm) ?_ ?_
      · have rs_ := Rps.stepL f hr
        have vs_ := Vals.stepL f rv
        have ln : (stepL f xs).length ≤ line := Nat.le_trans (stepL_len f xs) hl
        have ln2 := rs_.length
        subst e2
        refine ⟨.ref s.heap.objs.size, _, I.laid (t' := s.toks) (o := .tup _) (fun b ob q => Heap.get?_push_of_some _ q) (Nat.le_refl _) ⟨?_, _, vs_, IsTup.new _ _⟩, rfl, q.tup rs_ ln _ (I.hok.fresh (Nat.le_refl _))⟩
        rw [ln2]; exact Nat.le_trans ln line_le
      · rw [List.size_toArray]
        have : its.length ≤ sizeLine := by rw [← rv.length]; exact hz
        exact Nat.le_trans (stepL_len f its) this
    have lstc : ∀ xs : List TV, y = .lst xs → z = .lst (stepL f xs) →
        ∃ T id, typeLookup (.type T) "__getitem__" = pure (some (.builtin id)) ∧ s.TypeIs v T ∧ wpAny (model X.prog X.w) X.A (getItem v (.ref sl)) (L2.EP X pins σ Q) X.xe s := by
      intro xs e1 e2
      subst e1
      simp only [Rp] at hy
      obtain ⟨a, ws, rfl, ⟨hq, _⟩, hl, hr⟩ := hy
      cases rx
      obtain ⟨its, rv, ht, hz⟩ := I.list (L2.SqL.of hq)
      refine ⟨"list", _, PySem.slot_list_getitem.lookup, ht.isList.typeIs, ?_⟩
      have hz' : its.length ≤ sizeLine := by rw [← rv.length]; exact hz
      refine wpAny_getItem_list_slice ht.isList hs pl pu ps (by simpa using hc0) ?_ (by rw [List.size_toArray]; exact hz')
      have pk : slicePick its.toArray (loOf f) none (some (cOf f)) = (stepL f its).toArray := by
        cases f with
        | none => exact PySem.W.krv_pick its.toArray
        | some f => exact pick2 its f
      rw [pk]
      have rs_ := Rps.stepL f hr
      have vs_ := Vals.stepL f rv
      have ln : (stepL f xs).length ≤ line := Nat.le_trans (stepL_len f xs) hl
      have ln2 := rs_.length
      subst e2
      refine ⟨.ref s.heap.objs.size, _, I.laid (t' := s.toks) (o := .lst _) (fun b ob q => Heap.get?_push_of_some _ q) (Nat.le_refl _) ⟨?_, _, 0, vs_, Heap.get?_push_size _ rfl⟩, rfl, q.lst rs_ ln _ (I.hok.fresh (Nat.le_refl _))⟩
      rw [ln2]; exact Nat.le_trans ln line_le
    cases y with
    | tup xs => cases f with
      | none => simp only [stepF, revF, ok, Option.some.injEq, Prod.mk.injEq] at e; exact tupc xs rfl e.2.symm
      | some f => simp only [stepF, step2F, ok, Option.some.injEq, Prod.mk.injEq] at e; exact tupc xs rfl e.2.symm
    | lst xs => cases f with
      | none => simp only [stepF, revF, ok, Option.some.injEq, Prod.mk.injEq] at e; exact lstc xs rfl e.2.symm
      | some f => simp only [stepF, step2F, ok, Option.some.injEq, Prod.mk.injEq] at e; exact lstc xs rfl e.2.symm
    | _ => cases f <;> simp [stepF, revF, step2F] at e
  · exact h.elim
end
end TL
end -- TLStep

section -- TLPrim2
/-! TL, part 6: further primitives over the heap. -/
set_option linter.all false
set_option autoImplicit true
set_option maxRecDepth 100000
namespace TL
open PySem PySem.Spec PyProof.Rows
open L2 (V Hp HO Rd SqL SqT upd upd_same upd_ne Vals RelV VK Cx Inv OpR UnR CallR IxR SlR TruR R2)
section
variable {K : PySem.W.Frag} {H : Hp} {L : Addr → Prop}
mutual
theorem Rp.dp : ∀ (x : TV) (n m : Nat) (v : V), x.flat n = true → Rp K H L m x v → L2.Dp K H v x.dat
  | .non, _, _, _, _, h => by simp only [Rp] at h; subst h; simp only [TV.dat]; exact .non
  | .bl _, _, _, _, _, h => by simp only [Rp] at h; subst h; simp only [TV.dat]; exact .bl _
  | .int _, _, _, _, _, h => by simp only [Rp] at h; subst h; simp only [TV.dat]; exact .int _
  | .str _, _, _, _, _, h => by simp only [Rp] at h; subst h; simp only [TV.dat]; exact .str _
  | .tup xs, 0, _, _, f, _ => by simp [TV.flat] at f
  | .tup xs, n + 1, m, v, f, h => by
    simp only [TV.flat] at f
    simp only [Rp] at h
    obtain ⟨a, vs, rfl, q, l, h⟩ := h
    simp only [TV.dat]
    exact .tup q (Rps.dp xs n _ vs f h)
  | .lst xs, 0, _, _, f, _ => by simp [TV.flat] at f
  | .lst xs, n + 1, m, v, f, h => by
    simp only [TV.flat] at f
    simp only [Rp] at h
    obtain ⟨a, vs, rfl, ⟨q, _⟩, l, h⟩ := h
    simp only [TV.dat]
    exact .lst (L2.SqL.of q) (Rps.dp xs n _ vs f h)
  | .dct _ _, _, _, _, f, _ => by simp [TV.flat] at f
  | .obj _ _, _, _, _, f, _ => by simp [TV.flat] at f
  | .clo _ _, _, _, _, f, _ => by simp [TV.flat] at f
  | .xcp _ _, _, _, _, f, _ => by simp [TV.flat] at f
  | .scr _, _, _, _, f, _ => by simp [TV.flat] at f
theorem Rps.dp : ∀ (xs : List TV) (n m : Nat) (vs : List V), TV.flats n xs = true → Rps K H L m xs vs → L2.DpAll K H vs (TV.dats xs)
  | [], _, _, _, _, h => by simp only [Rps] at h; subst h; simp only [TV.dats]; exact .nil
  | x :: xs, n, m, vs, f, h => by
    simp only [TV.flats, Bool.and_eq_true] at f
    simp only [Rps] at h
    obtain ⟨v, r, rfl, h1, h2⟩ := h
    simp only [TV.dats]
    exact .cons (Rp.dp x n m v f.1 h1) (Rps.dp xs n m r f.2 h2)
end
mutual
theorem flat_lay : ∀ (x : TV) (n : Nat), x.flat n = true → x.dat.canLay0 = true ∧ x.dat.depth ≤ n
  | .non, _, _ => by simp [TV.dat, PyData.canLay0, PyData.depth]
  | .bl _, _, _ => by simp [TV.dat, PyData.canLay0, PyData.depth]
  | .int _, _, _ => by simp [TV.dat, PyData.canLay0, PyData.depth]
  | .str x, n, f => by
    simp only [TV.flat] at f
    simp only [TV.dat, PyData.canLay0, PyData.depth]
    exact ⟨f, Nat.zero_le _⟩
  | .tup xs, 0, f => by simp [TV.flat] at f
  | .tup xs, n + 1, f => by
    simp only [TV.flat] at f
    simp only [TV.dat, PyData.canLay0, PyData.depth]
    have := flats_lay xs n f
    exact ⟨this.1, by omega⟩
  | .lst xs, 0, f => by simp [TV.flat] at f
  | .lst xs, n + 1, f => by
    simp only [TV.flat] at f
    simp only [TV.dat, PyData.canLay0, PyData.depth]
    have := flats_lay xs n f
    exact ⟨this.1, by omega⟩
  | .dct _ _, _, f => by simp [TV.flat] at f
  | .obj _ _, _, f => by simp [TV.flat] at f
  | .clo _ _, _, f => by simp [TV.flat] at f
  | .xcp _ _, _, f => by simp [TV.flat] at f
  | .scr _, _, f => by simp [TV.flat] at f
theorem flats_lay : ∀ (xs : List TV) (n : Nat), TV.flats n xs = true → PyData.canLayAll0 (TV.dats xs) = true ∧ PyData.depthAll (TV.dats xs) ≤ n
  | [], _, _ => by simp [TV.dats, PyData.canLayAll0, PyData.depthAll]
  | x :: xs, n, f => by
    simp only [TV.flats, Bool.and_eq_true] at f
    simp only [TV.dats, PyData.canLayAll0, PyData.depthAll, Bool.and_eq_true]
    have h1 := flat_lay x n f.1
    have h2 := flats_lay xs n f.2
    exact ⟨⟨h1.1, h2.1⟩, by omega⟩
end
theorem flat_shaped {x : TV} (f : x.flat 60 = true) : SeqAt.shaped x.dat = true := by
  have := flat_lay x 60 f
  unfold SeqAt.shaped
  rw [this.1, Bool.true_and]
  exact decide_eq_true (by omega)
theorem flats_shaped {xs : List TV} (f : TV.flats 60 xs = true) : SeqAt.shaped (.list (TV.dats xs)) = true := by
  have := flats_lay xs 60 f
  unfold SeqAt.shaped
  simp only [PyData.canLay0, PyData.depth]
  rw [this.1, Bool.true_and]
  exact decide_eq_true (by omega)
theorem any_dats (xs : List TV) (x : TV) : ((TV.dats xs).any fun z => PyData.eqv z x.dat) = xs.any fun y => eqv y x := by
  induction xs with
  | nil => rfl
  | cons y ys ih => simp only [TV.dats, List.any_cons, ih]; rfl
end
section
variable {X : Cx}
def copO : Cop → CmpOp
  | .eq => .Eq | .ne => .NotEq | .lt => .Lt | .le => .LtE | .gt => .Gt | .ge => .GtE | .is_ => .Is | .isn => .IsNot | .in_ => .In | .nin => .NotIn
theorem non_iff {K H L m} {x : TV} {v : V} (h : Rp K H L m x v) : decide (v = .non) = isNon x := by
  cases x <;> simp only [Rp] at h <;> try (subst h; rfl)
  all_goals first | (obtain ⟨a, vs, rfl, _⟩ := h; rfl) | (obtain ⟨_, a, rfl, _⟩ := h; rfl) | exact h.elim
/-- x in (a tuple) -/
def rInT (K : PySem.W.Frag) (neg : Bool) : R2 := fun x y H Q => ∃ d ds, L2.Dp K H x d ∧ L2.Dp K H y (.tuple ds) ∧ SeqAt.shaped d = true ∧ SeqAt.shaped (.list ds) = true ∧ Q (.bl (if neg then !ds.any fun z => PyData.eqv z d else ds.any fun z => PyData.eqv z d)) H
def rCmp (K : PySem.W.Frag) (o : Cop) : R2 := fun v u H Q => ∃ L m x y, Rp K H L m x v ∧ Rp K H L m y u ∧ app (cmpF o x y) fun z => Q (.bl z) H
theorem op_inT (hu : X.A.units + 65 < cLine) : OpR X (compareOp .In) (rInT X.K false) := by
  intro pins s σ H x y v u Q I rx ry h
  obtain ⟨d, ds, hd, he, sd, se, q⟩ := h
  obtain ⟨as, r1⟩ := L2.Dp.reads I d x v hd rx
  obtain ⟨bs, r2⟩ := L2.Dp.reads I _ y u he ry
  exact SeqAt.in_tuple_reads r2 r1 (SeqAt.canLay_of_shaped se) (SeqAt.canLay_of_shaped sd) (room_in_shaped sd hu) ⟨.bl _, H, I, rfl, q⟩
theorem op_ninT (hu : X.A.units + 65 < cLine) : OpR X (compareOp .NotIn) (rInT X.K true) := by
  intro pins s σ H x y v u Q I rx ry h
  obtain ⟨d, ds, hd, he, sd, se, q⟩ := h
  obtain ⟨as, r1⟩ := L2.Dp.reads I d x v hd rx
  obtain ⟨bs, r2⟩ := L2.Dp.reads I _ y u he ry
  exact SeqAt.notIn_tuple_reads r2 r1 (SeqAt.canLay_of_shaped se) (SeqAt.canLay_of_shaped sd) (room_in_shaped sd hu) ⟨.bl _, H, I, rfl, q⟩
theorem op_cmp (o : Cop) (hu : X.A.units + 65 < cLine) : OpR X (compareOp (copO o)) (rCmp X.K o) := by
  intro pins s σ H v u vv uu Q I rv ru h
  obtain ⟨L, m, x, y, hx, hy, h⟩ := h
  unfold app at h
  split at h
  · rename_i c z e
    obtain ⟨hc, q⟩ := h
    unfold cmpF at e
    split at e
    · cases e
      exact L2.op_eqD (by omega) pins s σ H v u vv uu Q I rv ru ⟨_, _, Rp.dp x 60 m v hc.1 hx, Rp.dp y 60 m u hc.2 hy, flat_shaped hc.1, flat_shaped hc.2, q⟩
    · cases e
      exact L2.op_neD (by omega) pins s σ H v u vv uu Q I rv ru ⟨_, _, Rp.dp x 60 m v hc.1 hx, Rp.dp y 60 m u hc.2 hy, flat_shaped hc.1, flat_shaped hc.2, q⟩
    · cases e; simp only [Rp] at hx hy; subst hx hy
      exact L2.op_lt pins s σ H _ _ vv uu Q I rv ru ⟨_, _, rfl, rfl, q⟩
    · cases e; simp only [Rp] at hx hy; subst hx hy
      exact L2.op_le pins s σ H _ _ vv uu Q I rv ru ⟨_, _, rfl, rfl, q⟩
    · cases e; simp only [Rp] at hx hy; subst hx hy
      exact L2.op_gt pins s σ H _ _ vv uu Q I rv ru ⟨_, _, rfl, rfl, q⟩
    · cases e; simp only [Rp] at hx hy; subst hx hy
      exact L2.op_ge pins s σ H _ _ vv uu Q I rv ru ⟨_, _, rfl, rfl, q⟩
    · cases e; simp only [Rp] at hy; subst hy
      exact L2.op_isN pins s σ H v _ vv uu Q I rv ru ⟨rfl, by rw [non_iff hx]; exact q⟩
    · cases e; simp only [Rp] at hy; subst hy
      exact L2.op_notN pins s σ H v _ vv uu Q I rv ru ⟨rfl, by rw [non_iff hx]; exact q⟩
    · cases e; simp only [Rp] at hx hy; subst hx hy
      exact L2.op_isBl pins s σ H _ _ vv uu Q I rv ru ⟨_, _, rfl, rfl, q⟩
    · cases e; simp only [Rp] at hx hy; subst hx hy
      exact L2.op_notBl pins s σ H _ _ vv uu Q I rv ru ⟨_, _, rfl, rfl, q⟩
    · cases e
      rename_i ys
      have hy' : L2.Dp X.K H u (.list (TV.dats ys)) := by
        have := Rp.dp (.lst ys) 61 m u (by simp only [TV.flat]; exact hc.2) hy
        simpa only [TV.dat] using this
      exact L2.op_inD hu pins s σ H v u vv uu Q I rv ru ⟨_, _, Rp.dp _ 60 m v hc.1 hx, hy', flat_shaped hc.1, flats_shaped hc.2, by rw [any_dats]; exact q⟩
    · cases e
      rename_i ys
      have hy' : L2.Dp X.K H u (.list (TV.dats ys)) := by
        have := Rp.dp (.lst ys) 61 m u (by simp only [TV.flat]; exact hc.2) hy
        simpa only [TV.dat] using this
      exact L2.op_notInD hu pins s σ H v u vv uu Q I rv ru ⟨_, _, Rp.dp _ 60 m v hc.1 hx, hy', flat_shaped hc.1, flats_shaped hc.2, by rw [any_dats]; exact q⟩
    · cases e
      rename_i ys
      have hy' : L2.Dp X.K H u (.tuple (TV.dats ys)) := by
        have := Rp.dp (.tup ys) 61 m u (by simp only [TV.flat]; exact hc.2) hy
        simpa only [TV.dat] using this
      exact op_inT hu pins s σ H v u vv uu Q I rv ru ⟨_, _, Rp.dp _ 60 m v hc.1 hx, hy', flat_shaped hc.1, flats_shaped hc.2, by rw [any_dats]; exact q⟩
    · cases e
      rename_i ys
      have hy' : L2.Dp X.K H u (.tuple (TV.dats ys)) := by
        have := Rp.dp (.tup ys) 61 m u (by simp only [TV.flat]; exact hc.2) hy
        simpa only [TV.dat] using this
      exact op_ninT hu pins s σ H v u vv uu Q I rv ru ⟨_, _, Rp.dp _ 60 m v hc.1 hx, hy', flat_shaped hc.1, flats_shaped hc.2, by rw [any_dats]; exact q⟩
    · cases e
  · exact h.elim
/-! ### truth, isinstance, -, items, slices -/
theorem tru_tv {K H L m} {x : TV} {v : V} {b : Bool} {c : Prop} (h : Rp K H L m x v) (e : truF x = some (c, b)) : L2.TruV K v H b := by
  cases x <;> simp only [truF, ok, Option.some.injEq, Prod.mk.injEq] at e <;> try (cases e; done)
  all_goals (simp only [Rp] at h)
  · subst h; exact e.2.symm
  · subst h; exact e.2.symm
  · subst h; exact e.2.symm
  · obtain ⟨a, vs, rfl, q, l, r⟩ := h
    have := r.length
    refine .inr (.inl ⟨vs, q, ?_⟩)
    rw [← e.2]
    rename_i xs
    cases xs <;> cases vs <;> simp_all
  · obtain ⟨a, vs, rfl, ⟨q, _⟩, l, r⟩ := h
    have := r.length
    refine .inl ⟨vs, L2.SqL.of q, ?_⟩
    rw [← e.2]
    have : ∀ (xs : List TV), vs.length = xs.length → (!xs.isEmpty) = !vs.isEmpty := fun xs e => by clear this; cases xs <;> cases vs <;> first | rfl | (simp at e)
    exact this _ r.length
def tyN : Ty → String
  | .int => "int" | .bool => "bool" | .str => "str" | .tuple => "tuple" | .list => "list" | .dict => "dict" | .cls _ => ""
theorem ty_x {K H L m} {x : TV} {v : V} {b : Bool} {c : Prop} {t : Ty} (h : Rp K H L m x v) (e : tyF x t = some (c, b)) : ∃ n, L2.TyX K H v (.type n) ∧ L2.kitB n (tyN t) = some b := by
  cases t with
  | cls k => cases x <;> simp [tyF] at e
  | _ =>
    cases x <;> simp only [tyF, ok, Option.some.injEq, Prod.mk.injEq] at e <;> try (cases e; done)
    all_goals (simp only [Rp] at h; obtain ⟨_, e⟩ := e; subst e)
    all_goals first
      | (subst h; exact ⟨_, .base .non, by decide +kernel⟩)
      | (subst h; exact ⟨_, .base (.bl _), by decide +kernel⟩)
      | (subst h; exact ⟨_, .base (.int _), by decide +kernel⟩)
      | (subst h; exact ⟨_, .base (.str _), by decide +kernel⟩)
      | (obtain ⟨a, vs, rfl, ⟨q, _⟩, l, r⟩ := h; exact ⟨_, .base (.lst q), by decide +kernel⟩)
      | (obtain ⟨a, vs, rfl, q, l, r⟩ := h
         rcases q with (q | ⟨o, q⟩) | ⟨o, its, n, q, qc, _⟩
         · exact ⟨_, .base (.tup q), by decide +kernel⟩
         · exact ⟨_, .fTuple q, by decide +kernel⟩
         · exact ⟨_, .kTuple q qc, by decide +kernel⟩)
def rNeg (K : PySem.W.Frag) : V → Hp → VK → Prop := fun v H Q => ∃ L m x, Rp K H L m x v ∧ app (negF x) fun z => NQ K H L 9 z Q
theorem un_negT : UnR X (unaryOp .USub) (rNeg X.K) := by
  intro pins s σ H v vv Q I rv h
  obtain ⟨L, m, x, hx, h⟩ := h
  unfold app at h
  split at h
  · rename_i c z e
    obtain ⟨hc, q⟩ := h
    cases x <;> simp only [negF, ok, Option.some.injEq, Prod.mk.injEq] at e <;> try (cases e; done)
    obtain ⟨_, e⟩ := e
    subst e
    simp only [Rp] at hx
    subst hx
    exact L2.un_neg pins s σ H _ vv Q I rv ⟨_, rfl, q.int⟩
  · exact h.elim
theorem atI_eq {K H L m} {xs : List TV} {vs : List V} {i : Int} {x : TV} (h : Rps K H L m xs vs) (e : atI xs i = some x) : ∃ v, L2.atI vs i = some v ∧ Rp K H L m x v := by
  unfold atI at e
  unfold L2.atI L2.ixN
  have hl := h.length
  split at e
  · rename_i h0
    obtain ⟨v, q, z⟩ := Rps.get h e
    have hlt : i.toNat < vs.length := (List.getElem?_eq_some_iff.mp q).1
    rw [if_pos h0, if_pos (by omega)]
    exact ⟨v, q, z⟩
  · rename_i h0
    split at e
    · rename_i h1
      obtain ⟨v, q, z⟩ := Rps.get h e
      rw [if_neg h0, if_pos (by omega)]
      refine ⟨v, ?_, z⟩
      show vs[(i + (vs.length : Int)).toNat]? = some v
      rw [hl]; exact q
    · cases e
def rIdx (K : PySem.W.Frag) (m : Nat) : R2 := fun v u H Q => ∃ L x y m', Rp K H L (m + 1) x v ∧ Rp K H L m' y u ∧ app (idxF x y) fun z => ∀ w, Rp K H L m z w → Q w H
theorem ix_tv (m : Nat) : IxR X (rIdx X.K m) := by
  intro a b pins s σ H v u vv uu Q I rv ru h
  obtain ⟨L, x, y, m', hx, hy, h⟩ := h
  unfold app at h
  split at h
  · rename_i c z e
    obtain ⟨hc, q⟩ := h
    unfold idxF at e
    split at e
    · rename_i xs i
      simp only [Rp] at hx hy
      subst hy
      obtain ⟨a', vs, rfl, hq, l, r⟩ := hx
      cases e1 : atI xs i with
      | none => rw [e1] at e; cases e
      | some w =>
        rw [e1] at e
        cases e
        obtain ⟨w, q1, q2⟩ := atI_eq r e1
        exact L2.ix_tup a b pins s σ H _ _ vv uu Q I rv ru ⟨a', vs, _, w, rfl, rfl, hq, q1, q w q2⟩
    · rename_i xs i
      simp only [Rp] at hx hy
      subst hy
      obtain ⟨a', vs, rfl, ⟨hq, _⟩, l, r⟩ := hx
      cases e1 : atI xs i with
      | none => rw [e1] at e; cases e
      | some w =>
        rw [e1] at e
        cases e
        obtain ⟨w, q1, q2⟩ := atI_eq r e1
        exact L2.ix_list a b pins s σ H _ _ vv uu Q I rv ru ⟨a', vs, _, w, rfl, rfl, L2.SqL.of hq, q1, q w q2⟩
    · cases e
  · exact h.elim
theorem cutIx_eq (n d : Nat) (o : Option Int) : cutIx n d o = HT.sIx n d o := by cases o <;> rfl
theorem cut_len (xs : List TV) (lo hi : Option Int) : (cut xs lo hi).length ≤ xs.length := by
  unfold cut
  rw [List.length_take, List.length_drop]
  omega
theorem Rps.cut {K H L m} {xs : List TV} {vs : List V} (h : Rps K H L m xs vs) (lo hi : Option Int) : Rps K H L m (TL.cut xs lo hi) (L2.cutV vs lo hi) := by
  unfold TL.cut L2.cutV
  rw [cutIx_eq, cutIx_eq, h.length]
  exact Rps.take _ (Rps.drop _ h)
def rCut (K : PySem.W.Frag) : V → Option Int → Option Int → Hp → VK → Prop := fun v lo hi H Q => ∃ L x, Rp K H L 1 x v ∧ app (cutF x lo hi) fun z => NQ K H L 1 z Q
theorem sl_tv : SlR X (rCut X.K) := by
  intro pins s σ H v vv vl vu lo hi sl Q I rv hs pl pu h
  obtain ⟨L, x, hx, h⟩ := h
  unfold app at h
  split at h
  · rename_i c z e
    obtain ⟨hc, q⟩ := h
    cases x with
    | tup xs =>
      simp only [cutF, ok, Option.some.injEq, Prod.mk.injEq] at e
      obtain ⟨_, e⟩ := e
      subst e
      simp only [Rp] at hx
      obtain ⟨a, vs, rfl, hq, l, r⟩ := hx
      refine L2.sl_tupA pins s σ H _ vv vl vu lo hi sl Q I rv hs pl pu ⟨a, vs, rfl, hq, fun e => ?_, fun _ => q.tup (r.cut lo hi) (Nat.le_trans (cut_len xs lo hi) l)⟩
      have : TL.cut xs lo hi = xs := by
        unfold TL.cut
        rw [cutIx_eq, cutIx_eq, ← r.length, e.1, e.2, List.drop_zero, Nat.sub_zero]
        exact List.take_of_length_le (by rw [r.length]; exact Nat.le_refl _)
      rw [this] at q
      exact q.same hq r l
    | lst xs =>
      simp only [cutF, ok, Option.some.injEq, Prod.mk.injEq] at e
      obtain ⟨_, e⟩ := e
      subst e
      simp only [Rp] at hx
      obtain ⟨a, vs, rfl, ⟨hq, _⟩, l, r⟩ := hx
      exact L2.sl_list pins s σ H _ vv vl vu lo hi sl Q I rv hs pl pu ⟨a, vs, rfl, L2.SqL.of hq, q.lst (r.cut lo hi) (Nat.le_trans (cut_len xs lo hi) l)⟩
    | scr ns =>
      simp only [cutF, ok, Option.some.injEq, Prod.mk.injEq] at e
      obtain ⟨_, e⟩ := e
      subst e
      simp only [Rp] at hx
      obtain ⟨a, rfl, hq⟩ := hx.sq
      refine L2.sl_list pins s σ H _ vv vl vu lo hi sl Q I rv hs pl pu ⟨a, _, rfl, hq, q.lst ((Rps.ofInts ns).cut lo hi) (Nat.le_trans (cut_len _ lo hi) ?_)⟩
      rw [List.length_map]; exact hx.1
    | _ => simp [cutF] at e
  · exact h.elim
end
end TL
end -- TLPrim2

section -- TLPrim3
/-! TL, part 7: built-in functions over the heap. -/
set_option linter.all false
set_option autoImplicit true
set_option maxRecDepth 100000
namespace TL
open PySem PySem.Spec PyProof.Rows
open L2 (V Hp HO Rd SqL SqT upd upd_same upd_ne Vals RelV VK Cx Inv OpR UnR CallR IxR SlR TruR R2)
theorem insI_perm (x : Int) : ∀ r : List Int, (insI x r).Perm (x :: r)
  | [] => List.Perm.refl _
  | y :: r => by
    unfold insI
    split
    · exact List.Perm.refl _
    · exact ((insI_perm x r).cons y).trans (List.Perm.swap x y r)
theorem sortI_perm : ∀ r : List Int, (sortI r).Perm r
  | [] => List.Perm.refl _
  | x :: r => (insI_perm x (sortI r)).trans ((sortI_perm r).cons x)
theorem insI_pw (x : Int) : ∀ r : List Int, r.Pairwise (· ≤ ·) → (insI x r).Pairwise (· ≤ ·)
  | [], _ => by simp [insI]
  | y :: r, h => by
    unfold insI
    obtain ⟨h1, h2⟩ := List.pairwise_cons.mp h
    split
    · rename_i hx
      refine List.pairwise_cons.mpr ⟨fun z hz => ?_, h⟩
      rcases List.mem_cons.mp hz with e | e
      · subst e; exact hx
      · exact Int.le_trans hx (h1 z e)
    · rename_i hx
      refine List.pairwise_cons.mpr ⟨fun z hz => ?_, insI_pw x r h2⟩
      rcases List.mem_cons.mp ((insI_perm x r).mem_iff.mp hz) with e | e
      · subst e; omega
      · exact h1 z e
theorem sortI_pw : ∀ r : List Int, (sortI r).Pairwise (· ≤ ·)
  | [] => List.Pairwise.nil
  | x :: r => insI_pw x _ (sortI_pw r)
theorem leastI_spec : ∀ (r : List Int) (x : Int), (leastI x r = x ∨ leastI x r ∈ r) ∧ leastI x r ≤ x ∧ ∀ y ∈ r, leastI x r ≤ y
  | [], x => ⟨.inl rfl, Int.le_refl _, fun _ h => nomatch h⟩
  | z :: r, x => by
    have e : leastI x (z :: r) = leastI (min x z) r := rfl
    obtain ⟨h1, h2, h3⟩ := leastI_spec r (min x z)
    rw [e]
    refine ⟨?_, by omega, fun y hy => ?_⟩
    · rcases h1 with h | h
      · rw [h]
        by_cases c : x ≤ z
        · left; omega
        · right; rw [show min x z = z by omega]; simp
      · right; exact List.mem_cons_of_mem _ h
    · rcases List.mem_cons.mp hy with q | q
      · subst q; omega
      · exact h3 y q
theorem mostI_spec : ∀ (r : List Int) (x : Int), (mostI x r = x ∨ mostI x r ∈ r) ∧ x ≤ mostI x r ∧ ∀ y ∈ r, y ≤ mostI x r
  | [], x => ⟨.inl rfl, Int.le_refl _, fun _ h => nomatch h⟩
  | z :: r, x => by
    have e : mostI x (z :: r) = mostI (max x z) r := rfl
    obtain ⟨h1, h2, h3⟩ := mostI_spec r (max x z)
    rw [e]
    refine ⟨?_, by omega, fun y hy => ?_⟩
    · rcases h1 with h | h
      · rw [h]
        by_cases c : z ≤ x
        · left; omega
        · right; rw [show max x z = z by omega]; simp
      · right; exact List.mem_cons_of_mem _ h
    · rcases List.mem_cons.mp hy with q | q
      · subst q; omega
      · exact h3 y q
def biM : Bi → Nat
  | .list | .tuple => 1
  | _ => 9
def biN : Bi → String
  | .len => "len" | .abs => "abs" | .int => "int" | .str => "str" | .bool => "bool" | .max2 => "max" | .min2 => "min" | .sum => "sum" | .sum2 => "sum" | .all => "all" | .any => "any" | .sorted => "sorted" | .list => "list" | .tuple => "tuple" | .min1 => "min" | .max1 => "max"
def biTy : Bi → Bool
  | .int | .str | .bool | .list | .tuple => true
  | _ => false
def biV (b : Bi) : Value := if biTy b then .type (biN b) else .builtin (biN b)
def biA : Bi → Nat
  | .max2 | .min2 | .sum2 => 2
  | _ => 1
def rBi (K : PySem.W.Frag) (b : Bi) : List V → Hp → VK → Prop := fun vs H Q => ∃ L xs, Rps K H L (biM b) xs vs ∧ app (biF b xs) fun z => NQ K H L 1 z Q
section
variable {X : Cx}
theorem Rps.one {K H L m} {x : TV} {vs : List V} (h : Rps K H L m [x] vs) : ∃ v, vs = [v] ∧ Rp K H L m x v := by
  simp only [Rps] at h
  obtain ⟨v, r, rfl, h1, rfl⟩ := h
  exact ⟨v, rfl, h1⟩
theorem Rps.two {K H L m} {x y : TV} {vs : List V} (h : Rps K H L m [x, y] vs) : ∃ v w, vs = [v, w] ∧ Rp K H L m x v ∧ Rp K H L m y w := by
  simp only [Rps] at h
  obtain ⟨v, r, rfl, h1, w, r', rfl, h2, rfl⟩ := h
  exact ⟨v, w, rfl, h1, h2⟩
theorem cr_bi (b : Bi) (hc : X.calm = true) : CallR X (biV b) (rBi X.K b) := by
  intro pins s σ H vs us Q I r h
  obtain ⟨L, xs, hx, h⟩ := h
  unfold app at h
  split at h
  · rename_i c z e
    obtain ⟨hcc, q⟩ := h
    unfold biF at e
    split at e
    · -- len tuple
      cases e
      obtain ⟨v, rfl, hz⟩ := hx.one
      simp only [Rp] at hz
      obtain ⟨a, ws, rfl, hq, l, rr⟩ := hz
      exact L2.call_len_seq pins s σ H _ us Q I r ⟨a, ws, rfl, .inr hq, by rw [rr.length]; exact q.int⟩
    · cases e
      obtain ⟨v, rfl, hz⟩ := hx.one
      simp only [Rp] at hz
      obtain ⟨a, ws, rfl, ⟨hq, _⟩, l, rr⟩ := hz
      exact L2.call_len_seq pins s σ H _ us Q I r ⟨a, ws, rfl, .inl (L2.SqL.of hq), by rw [rr.length]; exact q.int⟩
    · cases e
      obtain ⟨v, rfl, hz⟩ := hx.one
      simp only [Rp] at hz
      subst hz
      rename_i i
      refine L2.call_abs pins s σ H _ us Q I r ⟨i, rfl, ?_⟩
      have : (if i < 0 then -i else i) = (i.natAbs : Int) := by split <;> omega
      rw [this]; exact q.int
    · cases e
      obtain ⟨v, rfl, hz⟩ := hx.one
      simp only [Rp] at hz
      subst hz
      exact L2.call_int1 pins s σ H _ us Q I r (.inl ⟨_, rfl, q.int⟩)
    · cases e
      obtain ⟨v, rfl, hz⟩ := hx.one
      simp only [Rp] at hz
      subst hz
      exact L2.call_int1 pins s σ H _ us Q I r (.inr ⟨_, rfl, q.int⟩)
    · cases e
      obtain ⟨v, rfl, hz⟩ := hx.one
      simp only [Rp] at hz
      subst hz
      exact L2.call_str_int pins s σ H _ us Q I r ⟨_, rfl, hcc, q.str⟩
    · cases e
      obtain ⟨v, w, rfl, hz, hy⟩ := hx.two
      simp only [Rp] at hz hy
      subst hz hy
      rename_i i j
      refine L2.call_max2 hc pins s σ H _ us Q I r ⟨i, j, rfl, ?_⟩
      have : (if j > i then j else i) = max i j := by split <;> omega
      rw [this]; exact q.int
    · cases e
      obtain ⟨v, w, rfl, hz, hy⟩ := hx.two
      simp only [Rp] at hz hy
      subst hz hy
      rename_i i j
      refine L2.call_min2 hc pins s σ H _ us Q I r ⟨i, j, rfl, ?_⟩
      have : (if j < i then j else i) = min i j := by split <;> omega
      rw [this]; exact q.int
    · -- sum
      rename_i xs
      cases e1 : intsOf xs with
      | none => rw [e1] at e; cases e
      | some ns =>
        rw [e1] at e; cases e
        obtain ⟨v, rfl, hz⟩ := hx.one
        simp only [Rp] at hz
        obtain ⟨a, ws, rfl, ⟨hq, _⟩, l, rr⟩ := hz
        obtain ⟨e2, _⟩ := Rps.ints rr e1
        subst e2
        exact L2.cr_sum hc pins s σ H _ us Q I r ⟨a, ns, rfl, L2.SqL.of hq, q.int⟩
    · rename_i xs
      cases e1 : blsOf xs with
      | none => rw [e1] at e; cases e
      | some ns =>
        rw [e1] at e; cases e
        obtain ⟨v, rfl, hz⟩ := hx.one
        simp only [Rp] at hz
        obtain ⟨a, ws, rfl, ⟨hq, _⟩, l, rr⟩ := hz
        have e2 := Rps.bls rr e1
        subst e2
        exact L2.cr_all hc pins s σ H _ us Q I r ⟨a, ns, rfl, L2.SqL.of hq, q.bl⟩
    · rename_i xs
      cases e1 : blsOf xs with
      | none => rw [e1] at e; cases e
      | some ns =>
        rw [e1] at e; cases e
        obtain ⟨v, rfl, hz⟩ := hx.one
        simp only [Rp] at hz
        obtain ⟨a, ws, rfl, ⟨hq, _⟩, l, rr⟩ := hz
        have e2 := Rps.bls rr e1
        subst e2
        exact L2.cr_any hc pins s σ H _ us Q I r ⟨a, ns, rfl, L2.SqL.of hq, q.bl⟩
    · -- sorted
      rename_i xs
      cases e1 : intsOf xs with
      | none => rw [e1] at e; cases e
      | some ns =>
        rw [e1] at e; cases e
        obtain ⟨v, rfl, hz⟩ := hx.one
        simp only [Rp] at hz
        obtain ⟨a, ws, rfl, ⟨hq, _⟩, l, rr⟩ := hz
        obtain ⟨e2, e3⟩ := Rps.ints rr e1
        subst e2
        refine L2.cr_sortedI pins s σ H _ us Q I r ⟨a, ns, rfl, L2.SqL.of hq, fun ns' p hp hpw np => ?_⟩
        have : ns' = sortI ns := PySem.W.ksm_same (hp.trans (sortI_perm ns).symm) hpw (sortI_pw ns)
        subst this
        refine q.lst (Rps.ofInts _) ?_ p np
        rw [List.length_map, (sortI_perm ns).length_eq]
        rw [e3, List.length_map] at l
        exact l
    · cases e
      obtain ⟨v, rfl, hz⟩ := hx.one
      simp only [Rp] at hz
      obtain ⟨a, ws, rfl, ⟨hq, _⟩, l, rr⟩ := hz
      exact L2.call_list_of pins s σ H _ us Q I r ⟨a, ws, rfl, .inl (L2.SqL.of hq), q.lst rr l⟩
    · cases e
      obtain ⟨v, rfl, hz⟩ := hx.one
      simp only [Rp] at hz
      obtain ⟨a, ws, rfl, hq, l, rr⟩ := hz
      exact L2.call_list_of pins s σ H _ us Q I r ⟨a, ws, rfl, .inr hq, q.lst rr l⟩
    · cases e
      obtain ⟨v, rfl, hz⟩ := hx.one
      simp only [Rp] at hz
      obtain ⟨a, ws, rfl, ⟨hq, _⟩, l, rr⟩ := hz
      exact L2.call_tuple_of pins s σ H _ us Q I r ⟨a, ws, rfl, .inl ⟨L2.SqL.of hq, q.tup rr l⟩⟩
    · cases e
      obtain ⟨v, rfl, hz⟩ := hx.one
      simp only [Rp] at hz
      obtain ⟨a, ws, rfl, hq, l, rr⟩ := hz
      exact L2.call_tuple_of pins s σ H _ us Q I r ⟨a, ws, rfl, .inr ⟨hq, q.same hq rr l⟩⟩
    · rename_i xs
      split at e
      · rename_i n ns e1
        cases e
        obtain ⟨v, rfl, hz⟩ := hx.one
        simp only [Rp] at hz
        obtain ⟨a, ws, rfl, ⟨hq, _⟩, l, rr⟩ := hz
        obtain ⟨e2, e3⟩ := Rps.ints rr e1
        subst e2
        refine L2.cr_min hc pins s σ H _ us Q I r ⟨a, n :: ns, rfl, L2.SqL.of hq, by simp, fun m hm hle => ?_⟩
        obtain ⟨s1, s2, s3⟩ := leastI_spec ns n
        have : m = leastI n ns := by
          have h1 : leastI n ns ≤ m := by
            rcases List.mem_cons.mp hm with e | e
            · subst e; exact s2
            · exact s3 m e
          have h2 : m ≤ leastI n ns := by
            rcases s1 with e | e
            · rw [e]; exact hle n (by simp)
            · exact hle _ (List.mem_cons_of_mem _ e)
          omega
        rw [this]; exact q.int
      · cases e
    · rename_i xs
      split at e
      · rename_i n ns e1
        cases e
        obtain ⟨v, rfl, hz⟩ := hx.one
        simp only [Rp] at hz
        obtain ⟨a, ws, rfl, ⟨hq, _⟩, l, rr⟩ := hz
        obtain ⟨e2, e3⟩ := Rps.ints rr e1
        subst e2
        refine L2.cr_max hc pins s σ H _ us Q I r ⟨a, n :: ns, rfl, L2.SqL.of hq, by simp, fun m hm hle => ?_⟩
        obtain ⟨s1, s2, s3⟩ := mostI_spec ns n
        have : m = mostI n ns := by
          have h1 : m ≤ mostI n ns := by
            rcases List.mem_cons.mp hm with e | e
            · subst e; exact s2
            · exact s3 m e
          have h2 : mostI n ns ≤ m := by
            rcases s1 with e | e
            · rw [e]; exact hle n (by simp)
            · exact hle _ (List.mem_cons_of_mem _ e)
          omega
        rw [this]; exact q.int
      · cases e
    · cases e
  · exact h.elim
end
end TL
end -- TLPrim3

section -- TLIter
/-! TL, part 8: what a for walks. -/
set_option linter.all false
set_option autoImplicit true
set_option maxRecDepth 100000
namespace TL
open PySem PySem.Spec PyProof.Rows
open AutoSeq1 (wpAny_loadPart')
open L2 (V Hp HO Rd SqL SqT upd upd_same upd_ne Vals RelV VK Cx Inv It TI TE TA PI PE PA)

/-! ### enumerate(tuple) -/
theorem meets_enumerate_newT (l : Addr) (items : Array Value) (n : Nat) (dct : Option Addr) (sl : Array (Option Value)) :
    Meets (Builtin.«enumerate.__new__» ⟨[.type "enumerate", .ref l], []⟩) (fun _ R s => s.heap.get? l = some { cls := .type "tuple", dict := dct, data := .seq items n, slots := sl } ∧
      R (.ok (.ret (.ref (s.heap.push { cls := .type "tuple_iterator", data := .fields #[.ref l, .int 0 0] }).objs.size)))
        { s with heap := (s.heap.push { cls := .type "tuple_iterator", data := .fields #[.ref l, .int 0 0] }).push { cls := .type "enumerate", data := .fields #[.none, .bool false, .ref s.heap.objs.size, rawInt 0, .none, .none] } }) :=
  .of_wp fun prog w A R s h => by
    obtain ⟨hp, g, d, tk, os⟩ := s; obtain ⟨hl, h⟩ := h
    have hsub := sub_enumerate
    have hL : Heap.IsTuple (Shared.heap ⟨hp, g, d, tk, os⟩) l items := ⟨_, hl, rfl, n, rfl⟩
    wp_walk using wpAny_loadPart' hl
    refine wpAny_stack_any fun st => wpAny_pure ?_
    split
    · rename_i c _ _ _ _ _
      cases (c == Value.type "enumerate")
      · wp_walk using wpAny_loadPart' hl, wpAny_pyIter_tuple hL
        exact ⟨_, rfl, h⟩
      · wp_walk using wpAny_loadPart' hl, wpAny_pyIter_tuple hL
        exact ⟨_, rfl, h⟩
    · wp_walk using wpAny_loadPart' hl, wpAny_pyIter_tuple hL
      exact ⟨_, rfl, h⟩
theorem call_enumerate_tuple {prog : Program} {w : World} {A : Around} {E : Value → Shared → Prop} {s : Shared} {l : Addr} {items : Array Value} {Q : Value → Shared → Prop} (hL : s.heap.IsTuple l items)
    (h : ∀ h', IsEnum h' (s.heap.objs.size + 1) s.heap.objs.size 0 .none → h'.IsTupleIter s.heap.objs.size l 0 → h'.objs.size = s.heap.objs.size + 2 →
      (∀ b o, s.heap.get? b = some o → h'.get? b = some o) → Q (.ref (s.heap.objs.size + 1)) { s with heap := h' }) :
    wpAny (model prog w) A (call (.type "enumerate") [.ref l]) Q E s := by
  obtain ⟨⟨c, dct, dt, sl⟩, hl, hc, n, hd⟩ := hL
  replace hc : c = .type "tuple" := hc
  replace hd : dt = .seq items n := hd
  subst hc hd
  refine callType_new F.called_enumerate (by decide) (F.typeCall_enumerate_1 _) (F.newCall_enumerate_1 _) (fun obj => F.args_object_init_2 obj _) F.entry_enumerate_new
    (meets_enumerate_newT l items n dct sl) ⟨hl, ?_⟩
  have hz : (s.heap.push { cls := .type "tuple_iterator", data := .fields #[.ref l, .int 0 0] }).objs.size = s.heap.objs.size + 1 := Heap.size_push ..
  show _ ∧ _
  rw [hz]
  have he : IsEnum ((s.heap.push { cls := .type "tuple_iterator", data := .fields #[.ref l, .int 0 0] }).push
      { cls := .type "enumerate", data := .fields #[.none, .bool false, .ref s.heap.objs.size, rawInt 0, .none, .none] }) (s.heap.objs.size + 1) s.heap.objs.size 0 .none := by
    have := Heap.get?_push_size (s.heap.push { cls := .type "tuple_iterator", data := .fields #[.ref l, .int 0 0] })
      (o := { cls := .type "enumerate", data := .fields #[.none, .bool false, .ref s.heap.objs.size, rawInt 0, .none, .none] }) rfl
    rw [hz] at this; exact this
  refine ⟨⟨_, he, rfl⟩, h _ he ⟨_, Heap.get?_push_of_some _ (Heap.get?_push_size _ rfl), rfl, rfl⟩ (by rw [Heap.size_push, hz]) fun b o x => Heap.get?_push_of_some _ (Heap.get?_push_of_some _ x)⟩
theorem pyNext_enumT_end {prog : Program} {w : World} {A : Around} {E : Value → Shared → Prop} {s : Shared} {e it l : Addr} {i : Nat} {items : Array Value} {old : Value} {Q : Option Value → Shared → Prop} (hh : A.handled = none)
    (he : IsEnum s.heap e it i old) (hit : s.heap.IsTupleIter it l i) (hl : s.heap.IsTuple l items) (hx : items[i]? = none)
    (hQ : ∀ h', Heap.ExtBut it s.heap h' → Q none { s with heap := h' }) : wpAny (model prog w) A (pyNext (.ref e)) Q E s := by
  have hT : s.TypeIs (.ref e) "enumerate" := ⟨_, he, rfl⟩
  unfold pyNext
  refine wpAny_bind (wpAny_attempt (wpAny_callSpecial?_slot (name := Str.ofString "__next__") hT F.slot_enumerate_next
    (wpAny_call_entry F.slot_enumerate_next hT F.entry_enumerate_next ?_ (F.args_enumerate_next_1 _))))
  show wpAny _ _ (field (.ref e) 2 >>= _) _ _ _
  refine wpAny_bind (wpAny_field he rfl (x := .ref it) rfl ?_)
  refine wpAny_bind (wpAny_nextOf_tuple_end hh hit hl hx fun h' x he' hx' => ?_)
  obtain ⟨o, ho, hc⟩ := hx'
  refine wpAny_bind (wpAny_isInstance (T := "StopIteration") (b := true) ⟨o, ho, hc⟩ isSubtype_stop ?_)
  exact wpAny_pure (hQ _ he')
def IteT (K : PySem.W.Frag) (a : Addr) : It :=
  ⟨fun i H => ∃ (xs : List V) (x : V), SqT K H a xs ∧ xs[i]? = some x, fun i H v H' => ∃ T x, v = .ref T ∧ H T = none ∧ H' = upd H T (.tup [.int (i : Nat), x]) ∧ ∀ xs, SqT K H a xs → xs[i]? = some x, fun i H => ∃ xs : List V, SqT K H a xs ∧ xs.length ≤ i⟩
theorem turn_enumT {P : Program} {w : World} {K : PySem.W.Frag} {elts : List Expr} {kk : Nat} {tpos : Pos} (a e it : Addr) (hai : a ≠ it) (hae : a ≠ e) :
    L2.Turn P w K (.Tuple elts kk tpos) (IteT K a) [e, it] e (fun i h => (∃ old, IsEnum h e it ((i : Nat) : Int) old) ∧ h.IsTupleIter it a i ∧ e ≠ it) where
  mem := by simp
  obj := fun i h st b hb => by
    obtain ⟨⟨old, he⟩, ⟨o, ho, hc, hd⟩, _⟩ := st
    have e' : b = e ∨ b = it := by simpa using hb
    rcases e' with z | z
    · rw [z]; exact ⟨_, he, fun v q => nomatch q⟩
    · rw [z]; exact ⟨o, ho, fun v q => by rw [hd] at q; cases q⟩
  keep := fun i h h' st k => let ⟨⟨old, he⟩, hi, hne⟩ := st; ⟨⟨old, k e (by simp) _ he⟩, hi.at fun o q => k it (by simp) o q, hne⟩
  item := by
    intro X hP hw hK hc i pins s σ H E I hf st hg
    subst hP hw hK
    obtain ⟨⟨old, he⟩, hit, hne⟩ := st
    obtain ⟨xs, x, hq, hx⟩ := hg
    obtain ⟨its, rv, p, hz⟩ := I.tuple hq
    obtain ⟨u, hu, ru⟩ := rv.get hx
    have hel : e < s.heap.objs.size := Heap.lt_size he
    have hil : it < s.heap.objs.size := by obtain ⟨_, q, _⟩ := hit; exact Heap.lt_size q
    have hlt : i < its.toArray.size := by
      have := (List.getElem?_eq_some_iff.mp hu).1
      simpa using this
    refine wpAny_pyNext_enum_itemD (Draws.tuple (A := X.A.in1) (I.ok.hd hc) it a hai its.toArray) he ⟨hit, p⟩ hlt hne (by simp [hne, hae.symm]) fun y h' tk hy ho st' hT hsz hk => ?_
    have hyu : y = u := by
      have h1 : its.toArray[i]? = some u := by simpa using hu
      rw [h1] at hy; exact (Option.some.inj hy).symm
    subst hyu
    refine ⟨_, rfl, wpAny_letOwnedTupleGo_enum (s := { s with heap := h', toks := tk + 1 }) ho fun h'' he' sb => ?_⟩
    have hT2 : h''.get? s.heap.objs.size = some { cls := .type "tuple", data := .seq #[.int i tk, y] } := (sb.2 _ (Nat.ne_of_gt hel)).trans hT
    have new : L2.ObjOk X.prog X.w (upd H s.heap.objs.size (.tup [.int (i : Nat), x])) h'' s.heap.objs.size (.tup [.int (i : Nat), x]) :=
      ⟨by show 2 ≤ sizeLine; decide, [.int i tk, y], .cons ⟨_, rfl⟩ (.cons ru .nil), ⟨_, hT2, rfl, _, rfl⟩⟩
    have I1 : Inv X pins σ (upd H s.heap.objs.size (.tup [.int (i : Nat), x])) { s with heap := h'', toks := tk + 1 } :=
      I.turnedNew (ch := [e, it]) (fun b ob hb q => (sb.2 b (fun z => hb (by simp [z]))).trans (hk b ob (fun z => hb (by simp [z])) (fun z => hb (by simp [z])) q)) hf (Nat.le_refl _) new
    refine ⟨.ref s.heap.objs.size, _, I1, rfl, ⟨_, x, rfl, I.hok.fresh (Nat.le_refl _), rfl, fun ys hy => by rw [I.tuple_inj hy hq]; exact hx⟩, ⟨⟨y, ?_⟩, st'.1.at fun o q => (sb.2 it (Ne.symm hne)).trans q, hne⟩, fun b hb => ?_⟩
    · have e1 : ((i + 1 : Nat) : Int) = (i : Int) + 1 := by omega
      rw [e1]; exact he'
    · have hb' : b < s.heap.objs.size := by
        have e' : b = e ∨ b = it := by simpa using hb
        rcases e' with z | z
        · rw [z]; exact hel
        · rw [z]; exact hil
      rw [upd_ne (Nat.ne_of_lt hb')]
      exact (hf b hb).1
  done := by
    intro X hP hw hK hc i pins s σ H E I hf st hg
    subst hP hw hK
    obtain ⟨⟨old, he⟩, hit, hne⟩ := st
    obtain ⟨xs, hq, hx⟩ := hg
    obtain ⟨its, rv, p, hz⟩ := I.tuple hq
    obtain ⟨f0, f1, f2, f3, f4, f5⟩ := hf it (by simp)
    have hl := rv.length
    exact pyNext_enumT_end (I.ok.hd hc) he hit p (by simp; omega) fun h' eb => ⟨rfl, I.turned (t' := s.toks) (fun b o hb q => eb b o hb q) f0 f1 f3 f4 f5⟩
  self := fun A i s Q E st h => let ⟨⟨_, he⟩, _⟩ := st; wpAny_pyIter_enum he h

/-! ### the sources of a loop -/
/-- J walks items, as long as R stands; sh: the things walked are shared (else nothing is changed within) -/
structure Src (K : PySem.W.Frag) (sh : Bool) (J : It) (items : List TV) (R : Hp → (Addr → Prop) → Prop) : Prop where
  goes : ∀ i H L, i < items.length → R H L → J.go i H
  stops : ∀ H L, R H L → J.stop items.length H
  yields : ∀ i H L x H', i < items.length → R H L → J.yld i H x H' → ∃ y, items[i]? = some y ∧ Rp K H' L 0 y x ∧ (∀ b o, H b = some o → H' b = some o)
  keep : ∀ H L H' L' W, Kp H L W H' L' → (sh = false → ∀ b, ¬ W b) → R H L → R H' L'
section
variable {K : PySem.W.Frag}
theorem Kp.pure {H L W H' L'} (k : Kp H L W H' L') (h : ∀ b, ¬ W b) : Kp H L (fun _ => False) H' L' := ⟨fun b o q _ => k.keep b o q (h b), k.ls, fun _ z => z.elim, fun _ z => z.elim⟩
/-- a list as it stands at a -/
def LAt (K : PySem.W.Frag) (sh : Bool) (a : Addr) (vs : List V) (xs : List TV) (H : Hp) (L : Addr → Prop) : Prop := H a = some (.lst vs) ∧ (sh = true → ¬ L a) ∧ Rps K H L 0 xs vs
def TAt (K : PySem.W.Frag) (a : Addr) (vs : List V) (xs : List TV) (H : Hp) (L : Addr → Prop) : Prop := SqT K H a vs ∧ Rps K H L 0 xs vs
theorem Rps.keep {H L W H' L'} (k : Kp H L W H' L') {xs : List TV} {vs : List V} (h : Rps K H L 0 xs vs) : Rps K H' L' 0 xs vs :=
  Owns.rp xs vs [] (Owns.keep k xs 0 vs [] (fun _ z => nomatch z) (Rps.own xs vs h))
theorem Rp.keep {H L W H' L'} (k : Kp H L W H' L') {x : TV} {v : V} (h : Rp K H L 0 x v) : Rp K H' L' 0 x v :=
  Own.rp x v [] (Own.keep k x 0 v [] (fun _ z => nomatch z) (Rp.own x v h))
theorem LAt.keep {sh : Bool} {a vs xs} {H L W H' L'} (k : Kp H L W H' L') (hs : sh = false → ∀ b, ¬ W b) (h : LAt K sh a vs xs H L) : LAt K sh a vs xs H' L' := by
  obtain ⟨h1, h2, h3⟩ := h
  cases sh with
  | true => have := k.shL ⟨h1, h2 rfl⟩; exact ⟨this.1, fun _ => this.2, h3.keep k⟩
  | false => exact ⟨k.keep _ _ h1 (hs rfl _), fun z => (by cases z), h3.keep k⟩
theorem TAt.keep {a vs xs} {H L W H' L'} (k : Kp H L W H' L') (h : TAt K a vs xs H L) : TAt K a vs xs H' L' := ⟨k.sqT h.1, h.2.keep k⟩
theorem src_list {sh : Bool} {a : Addr} {vs : List V} {xs : List TV} : Src K sh (L2.Itl K a) xs (LAt K sh a vs xs) where
  goes := fun i H L hi ⟨h1, _, h3⟩ => ⟨vs, vs[i]'(by rw [h3.length]; exact hi), L2.SqL.of h1, by simp [h3.length, hi]⟩
  stops := fun H L ⟨h1, _, h3⟩ => ⟨vs, L2.SqL.of h1, by rw [h3.length]; exact Nat.le_refl _⟩
  yields := fun i H L x H' hi ⟨h1, _, h3⟩ y => by
    obtain ⟨e, y⟩ := y
    subst e
    obtain ⟨v, q, z⟩ := Rps.get (x := xs[i]) (i := i) h3 (by simp [hi])
    have := y vs (L2.SqL.of h1)
    rw [q] at this
    cases this
    exact ⟨xs[i], by simp [hi], z, fun _ _ h => h⟩
  keep := fun H L H' L' W k hs h => h.keep k hs
theorem src_tup {sh : Bool} {a : Addr} {vs : List V} {xs : List TV} : Src K sh (L2.Itt K a) xs (TAt K a vs xs) where
  goes := fun i H L hi ⟨h1, h3⟩ => ⟨vs, vs[i]'(by rw [h3.length]; exact hi), h1, by simp [h3.length, hi]⟩
  stops := fun H L ⟨h1, h3⟩ => ⟨vs, h1, by rw [h3.length]; exact Nat.le_refl _⟩
  yields := fun i H L x H' hi ⟨h1, h3⟩ y => by
    obtain ⟨e, y⟩ := y
    subst e
    obtain ⟨v, q, z⟩ := Rps.get (x := xs[i]) (i := i) h3 (by simp [hi])
    have := y vs h1
    rw [q] at this
    cases this
    exact ⟨xs[i], by simp [hi], z, fun _ _ h => h⟩
  keep := fun H L H' L' W k hs h => h.keep k
theorem rangeL_len (a : Int) (n : Nat) : (rangeL a n).length = n := by simp [rangeL]
theorem src_range {sh : Bool} {lo : Int} {n : Nat} : Src K sh (L2.Itr lo n) (rangeL lo n) (fun _ _ => True) where
  goes := fun i H L hi _ => by rw [rangeL_len] at hi; exact hi
  stops := fun H L _ => by rw [rangeL_len]; exact Nat.le_refl n
  yields := fun i H L x H' hi _ y => by
    rw [rangeL_len] at hi
    obtain ⟨e, y⟩ := y
    subst e
    refine ⟨.int (lo + i), by simp [rangeL, hi], ?_, fun _ _ h => h⟩
    simp only [Rp]; exact y
  keep := fun _ _ _ _ _ _ _ _ => trivial
theorem src_rangeD {sh : Bool} {a : Int} {n : Nat} : Src K sh (L2.Itc a (-1) n) (rangeD a n) (fun _ _ => True) where
  goes := fun i H L hi _ => by simp only [rangeD, List.length_map, List.length_range] at hi; exact hi
  stops := fun H L _ => by simp only [rangeD, List.length_map, List.length_range]; exact Nat.le_refl n
  yields := fun i H L x H' hi _ y => by
    simp only [rangeD, List.length_map, List.length_range] at hi
    obtain ⟨e, y⟩ := y
    subst e
    refine ⟨.int (a - i), by simp [rangeD, hi], ?_, fun _ _ h => h⟩
    simp only [Rp]
    rw [show a - (i : Int) = a + (i : Nat) * (-1) by omega]; exact y
  keep := fun _ _ _ _ _ _ _ _ => trivial
theorem src_rev {sh : Bool} {a : Addr} {vs : List V} {xs : List TV} : Src K sh (L2.Itv K a vs.length) xs.reverse (LAt K sh a vs xs) where
  goes := fun i H L hi ⟨h1, _, h3⟩ => by
    rw [List.length_reverse] at hi
    have hl := h3.length
    exact ⟨by omega, vs, vs[vs.length - 1 - i]'(by omega), L2.SqL.of h1, by simp [show vs.length - 1 - i < vs.length by omega]⟩
  stops := fun H L ⟨h1, _, h3⟩ => by rw [List.length_reverse, ← h3.length]; exact Nat.le_refl _
  yields := fun i H L x H' hi ⟨h1, _, h3⟩ y => by
    rw [List.length_reverse] at hi
    have hl := h3.length
    obtain ⟨e, y⟩ := y
    subst e
    have hj : xs.length - 1 - i < xs.length := by omega
    obtain ⟨v, q, z⟩ := Rps.get (x := xs[xs.length - 1 - i]) (i := xs.length - 1 - i) h3 (by simp [hj])
    have := y vs (L2.SqL.of h1)
    rw [hl, q] at this
    cases this
    exact ⟨xs[xs.length - 1 - i], by rw [List.getElem?_reverse hi]; simp [hj], z, fun _ _ h => h⟩
  keep := fun H L H' L' W k hs h => h.keep k hs
theorem src_revT {sh : Bool} {a : Addr} {vs : List V} {xs : List TV} : Src K sh (RT.ItvT K a vs.length) xs.reverse (TAt K a vs xs) where
  goes := fun i H L hi ⟨h1, h3⟩ => by
    rw [List.length_reverse] at hi
    have hl := h3.length
    exact ⟨by omega, vs, vs[vs.length - 1 - i]'(by omega), h1, by simp [show vs.length - 1 - i < vs.length by omega]⟩
  stops := fun H L ⟨h1, h3⟩ => by rw [List.length_reverse, ← h3.length]; exact Nat.le_refl _
  yields := fun i H L x H' hi ⟨h1, h3⟩ y => by
    rw [List.length_reverse] at hi
    have hl := h3.length
    obtain ⟨e, y⟩ := y
    subst e
    have hj : xs.length - 1 - i < xs.length := by omega
    obtain ⟨v, q, z⟩ := Rps.get (x := xs[xs.length - 1 - i]) (i := xs.length - 1 - i) h3 (by simp [hj])
    have := y vs h1
    rw [hl, q] at this
    cases this
    exact ⟨xs[xs.length - 1 - i], by rw [List.getElem?_reverse hi]; simp [hj], z, fun _ _ h => h⟩
  keep := fun H L H' L' W k hs h => h.keep k
theorem Kp.newT {H : Hp} {L : Addr → Prop} {p : Addr} {o : HO} (np : H p = none) : Kp H L (fun _ => False) (upd H p o) L :=
  ⟨fun b u q _ => by rw [upd_ne (L2.ne_of_none q np)]; exact q, fun b z => .inl z, fun _ z => z.elim, fun _ z => z.elim⟩
theorem pair_new {H : Hp} {L : Addr → Prop} {T : Addr} {x y : V} {a b : TV} (nT : H T = none) (ha : Rp K H L 0 a x) (hb : Rp K H L 0 b y) : Rp K (upd H T (.tup [x, y])) L 0 (.tup [a, b]) (.ref T) := by
  simp only [Rp]
  refine ⟨T, [x, y], rfl, .inl (.inl upd_same), by show 2 ≤ line; decide, ?_⟩
  exact Rps.cons (ha.keep (Kp.newT nT)) (Rps.cons (hb.keep (Kp.newT nT)) Rps.nil)
theorem pairsE_len (xs : List TV) : (pairsE xs).length = xs.length := by simp [pairsE]
theorem pairsE_get {xs : List TV} {i : Nat} (hi : i < xs.length) : (pairsE xs)[i]? = some (.tup [.int (i : Nat), xs[i]]) := by
  simp [pairsE, hi]
theorem src_enum {sh : Bool} {a : Addr} {vs : List V} {xs : List TV} : Src K sh (L2.Ite K a) (pairsE xs) (LAt K sh a vs xs) where
  goes := fun i H L hi ⟨h1, _, h3⟩ => by rw [pairsE_len] at hi; exact ⟨vs, vs[i]'(by rw [h3.length]; exact hi), L2.SqL.of h1, by simp [h3.length, hi]⟩
  stops := fun H L ⟨h1, _, h3⟩ => ⟨vs, L2.SqL.of h1, by rw [pairsE_len, h3.length]; exact Nat.le_refl _⟩
  yields := fun i H L x H' hi ⟨h1, _, h3⟩ y => by
    rw [pairsE_len] at hi
    obtain ⟨T, v, rfl, nT, rfl, y⟩ := y
    obtain ⟨u, q, z⟩ := Rps.get (x := xs[i]) (i := i) h3 (by simp [hi])
    have := y vs (L2.SqL.of h1)
    rw [q] at this
    cases this
    exact ⟨_, pairsE_get hi, pair_new nT (by simp only [Rp]) z, fun b o h => by rw [upd_ne (L2.ne_of_none h nT)]; exact h⟩
  keep := fun H L H' L' W k hs h => h.keep k hs
theorem src_enumT {sh : Bool} {a : Addr} {vs : List V} {xs : List TV} : Src K sh (IteT K a) (pairsE xs) (TAt K a vs xs) where
  goes := fun i H L hi ⟨h1, h3⟩ => by rw [pairsE_len] at hi; exact ⟨vs, vs[i]'(by rw [h3.length]; exact hi), h1, by simp [h3.length, hi]⟩
  stops := fun H L ⟨h1, h3⟩ => ⟨vs, h1, by rw [pairsE_len, h3.length]; exact Nat.le_refl _⟩
  yields := fun i H L x H' hi ⟨h1, h3⟩ y => by
    rw [pairsE_len] at hi
    obtain ⟨T, v, rfl, nT, rfl, y⟩ := y
    obtain ⟨u, q, z⟩ := Rps.get (x := xs[i]) (i := i) h3 (by simp [hi])
    have := y vs h1
    rw [q] at this
    cases this
    exact ⟨_, pairsE_get hi, pair_new nT (by simp only [Rp]) z, fun b o h => by rw [upd_ne (L2.ne_of_none h nT)]; exact h⟩
  keep := fun H L H' L' W k hs h => h.keep k
theorem pairsZ_len (xs ys : List TV) : (pairsZ xs ys).length = min xs.length ys.length := by simp [pairsZ]
theorem pairsZ_get {xs ys : List TV} {i : Nat} (hi : i < xs.length) (hj : i < ys.length) : (pairsZ xs ys)[i]? = some (.tup [xs[i], ys[i]]) := by
  simp [pairsZ, List.getElem?_zipWith, hi, hj]
theorem src_zip {sh : Bool} {a b : Addr} {vs ws : List V} {xs ys : List TV} : Src K sh (L2.Itz K a b) (pairsZ xs ys) (fun H L => LAt K sh a vs xs H L ∧ LAt K sh b ws ys H L) where
  goes := fun i H L hi ⟨⟨h1, _, h3⟩, ⟨g1, _, g3⟩⟩ => by
    rw [pairsZ_len] at hi
    have := h3.length; have := g3.length
    exact ⟨vs, ws, vs[i], ws[i], L2.SqL.of h1, L2.SqL.of g1, by simp [show i < vs.length by omega], by simp [show i < ws.length by omega]⟩
  stops := fun H L ⟨⟨h1, _, h3⟩, ⟨g1, _, g3⟩⟩ => ⟨vs, ws, L2.SqL.of h1, L2.SqL.of g1, by rw [pairsZ_len, h3.length, g3.length]; omega⟩
  yields := fun i H L x H' hi ⟨⟨h1, _, h3⟩, ⟨g1, _, g3⟩⟩ y => by
    rw [pairsZ_len] at hi
    have i1 : i < xs.length := by omega
    have i2 : i < ys.length := by omega
    obtain ⟨T, v, w, rfl, nT, rfl, y1, y2⟩ := y
    obtain ⟨u, q, z⟩ := Rps.get (x := xs[i]) (i := i) h3 (by simp [i1])
    obtain ⟨u2, q2, z2⟩ := Rps.get (x := ys[i]) (i := i) g3 (by simp [i2])
    have e1 := y1 vs (L2.SqL.of h1)
    have e2 := y2 ws (L2.SqL.of g1)
    rw [q] at e1
    rw [q2] at e2
    cases e1; cases e2
    exact ⟨_, pairsZ_get i1 i2, pair_new nT z z2, fun b o h => by rw [upd_ne (L2.ne_of_none h nT)]; exact h⟩
  keep := fun H L H' L' W k hs h => ⟨h.1.keep k hs, h.2.keep k hs⟩
theorem src_zipT {sh : Bool} {a b : Addr} {vs ws : List V} {xs ys : List TV} : Src K sh (RZ.ItzT K a b) (pairsZ xs ys) (fun H L => TAt K a vs xs H L ∧ TAt K b ws ys H L) where
  goes := fun i H L hi ⟨⟨h1, h3⟩, ⟨g1, g3⟩⟩ => by
    rw [pairsZ_len] at hi
    have := h3.length; have := g3.length
    exact ⟨vs, ws, vs[i], ws[i], h1, g1, by simp [show i < vs.length by omega], by simp [show i < ws.length by omega]⟩
  stops := fun H L ⟨⟨h1, h3⟩, ⟨g1, g3⟩⟩ => ⟨vs, ws, h1, g1, by rw [pairsZ_len, h3.length, g3.length]; omega⟩
  yields := fun i H L x H' hi ⟨⟨h1, h3⟩, ⟨g1, g3⟩⟩ y => by
    rw [pairsZ_len] at hi
    have i1 : i < xs.length := by omega
    have i2 : i < ys.length := by omega
    obtain ⟨T, v, w, rfl, nT, rfl, y1, y2⟩ := y
    obtain ⟨u, q, z⟩ := Rps.get (x := xs[i]) (i := i) h3 (by simp [i1])
    obtain ⟨u2, q2, z2⟩ := Rps.get (x := ys[i]) (i := i) g3 (by simp [i2])
    have e1 := y1 vs h1
    have e2 := y2 ws g1
    rw [q] at e1
    rw [q2] at e2
    cases e1; cases e2
    exact ⟨_, pairsZ_get i1 i2, pair_new nT z z2, fun b o h => by rw [upd_ne (L2.ne_of_none h nT)]; exact h⟩
  keep := fun H L H' L' W k hs h => ⟨h.1.keep k, h.2.keep k⟩
end

/-- what is walked, by trees -/
def rIt (K : PySem.W.Frag) (k : ItK) (sh : Bool) : List V → Hp → (It → Hp → Prop) → Prop := fun vs H R =>
  ∃ L xs, Rps K H L (if sh = true then 0 else 1) xs vs ∧ app (itF k xs) fun items => ∀ J P, Src K sh J items P → P H L → R J H
section
variable {X : Cx} {tg : Expr}
open L2 (EP PIE)
theorem lst_at {K : PySem.W.Frag} {H : Hp} {L : Addr → Prop} {sh : Bool} {xs : List TV} {v : V} (h : Rp K H L (if sh = true then 0 else 1) (.lst xs) v) : ∃ a vs, v = .ref a ∧ LAt K sh a vs xs H L := by
  simp only [Rp] at h
  obtain ⟨a, vs, rfl, ⟨h1, h2⟩, _, h3⟩ := h
  refine ⟨a, vs, rfl, h1, fun e => h2 (by rw [e]; rfl), ?_⟩
  cases sh <;> exact h3
theorem tup_at {K : PySem.W.Frag} {H : Hp} {L : Addr → Prop} {sh : Bool} {xs : List TV} {v : V} (h : Rp K H L (if sh = true then 0 else 1) (.tup xs) v) : ∃ a vs, v = .ref a ∧ TAt K a vs xs H L := by
  simp only [Rp] at h
  obtain ⟨a, vs, rfl, h1, _, h3⟩ := h
  refine ⟨a, vs, rfl, h1, ?_⟩
  cases sh <;> exact h3
theorem pi_seq {e : Expr} {te : TE} {sh : Bool} (he : PE X e te) : PI X tg e (fun σ H R => te σ H fun v H1 => rIt X.K .seq sh [v] H1 R) := by
  refine ⟨fun pins s σ H R I h => ?_⟩
  refine L2.thn (he.run pins s σ H _ I h) fun v s1 ⟨x, H1, I1, r1, L, xs, hx, q1⟩ => ?_
  unfold app at q1
  split at q1
  · rename_i c items e1
    obtain ⟨hc, q⟩ := q1
    unfold itF at e1
    split at e1 <;> (try (simp only [ok, Option.some.injEq, Prod.mk.injEq] at e1)) <;> (try (cases e1; done))
    all_goals (first | (rename_i hk; cases hk; done) | skip)
    · rename_i zs _
      obtain ⟨_, e1⟩ := e1
      subst e1
      obtain ⟨v', ev, hz⟩ := hx.one
      cases ev
      obtain ⟨a, vs, rfl, ta⟩ := tup_at hz
      cases r1
      obtain ⟨its, rv, p, hz⟩ := I1.tuple ta.1
      refine wpAny_pyIter_tuple (show s1.heap.IsTuple a its.toArray from p) ?_
      refine ⟨s1.heap.objs.size, [s1.heap.objs.size], _, _, H1, rfl, I1.kept (t' := s1.toks) fun b o e => Heap.get?_push_of_some _ e, L2.turn_tuple a _, ⟨_, Heap.get?_push_size _ rfl, rfl, rfl⟩, fun b hb => ?_, q _ _ src_tup ta⟩
      have e : b = s1.heap.objs.size := by simpa using hb
      subst e
      exact I1.fpOk (Nat.le_refl _) (I1.hok.fresh (Nat.le_refl _))
    · rename_i zs _
      obtain ⟨_, e1⟩ := e1
      subst e1
      obtain ⟨v', ev, hz⟩ := hx.one
      cases ev
      obtain ⟨a, vs, rfl, ta⟩ := lst_at hz
      cases r1
      obtain ⟨its, rv, p, hz⟩ := I1.list (L2.SqL.of ta.1)
      refine wpAny_pyIter_list p.isList ?_
      refine ⟨s1.heap.objs.size, [s1.heap.objs.size], _, _, H1, rfl, I1.kept (t' := s1.toks) fun b o e => Heap.get?_push_of_some _ e, L2.turn_list a _, ⟨_, Heap.get?_push_size _ rfl, rfl, rfl⟩, fun b hb => ?_, q _ _ src_list ta⟩
      have e : b = s1.heap.objs.size := by simpa using hb
      subst e
      exact I1.fpOk (Nat.le_refl _) (I1.hok.fresh (Nat.le_refl _))
  · exact q1.elim
theorem sm62 {i : Int} (h : small62 i) : -(2 ^ 62) ≤ i ∧ i < 2 ^ 62 := h
def ns : Expr → Bool
  | .Starred .. => false
  | _ => true
theorem star_ns {e : Expr} {es : List Expr} {env : L2.Cx → PySem.Env} {X : Cx} (h : ns e = true) : starEach (e :: es) X.env = (false, eval e X.env) :: starEach es X.env := by
  cases e <;> first | rfl | (simp [ns] at h)
theorem any_ns {X : Cx} {pos : Pos} : ∀ {es : List Expr}, es.all ns = true → (backTo pos (starEach es X.env)).any (·.1) = false
  | [], _ => rfl
  | e :: es, h => by
    simp only [List.all_cons, Bool.and_eq_true] at h
    have := any_ns (X := X) (pos := pos) h.2
    rw [star_ns (env := fun X => X.env) h.1]
    simpa [backTo] using this
theorem pi_rng {a : Expr} {es : List Expr} {ta : TA} {sh : Bool} {p pos : Pos} (hg : L2.Gl X "range") (hm : X.mg "range" = none) (ha : PA X (a :: es) ta) (hs : (a :: es).all ns = true) :
    PI X tg (.Call (.Name "range" p) (a :: es) [] pos) (fun σ H R => ta σ H fun vs H1 => rIt X.K .range sh vs H1 R) := by
  simp only [List.all_cons, Bool.and_eq_true] at hs
  refine ⟨fun pins s σ H R I h => ?_⟩
  refine Call_ (L2.ld_blt I hg hm boot_range (PyProof.Rows.callWith_type1 (L2.thn (ha.run pos pins s σ H _ I h) fun us s1 ⟨vs, H1, I1, r1, L, xs, hx, q1⟩ => ?_) (star_ns (env := fun X => X.env) hs.1) (any_ns hs.2)))
  unfold app at q1
  split at q1
  · rename_i c items e1
    obtain ⟨hc, q⟩ := q1
    unfold itF at e1
    split at e1 <;> (try (cases e1; done))
    all_goals (first | (rename_i hk; cases hk; done) | skip)
    · rename_i n _
      cases e1
      obtain ⟨v, rfl, hz⟩ := hx.one
      simp only [Rp] at hz
      subst hz
      obtain ⟨u, rfl, t, rfl⟩ := L2.vals1 r1
      exact call_range_1 (L2.range_it I1 (by omega) (by omega) hc.2.1 hc.2.2 (by have := q _ _ src_range trivial; simpa using this))
    · rename_i i j _
      cases e1
      obtain ⟨v, w, rfl, hz, hy⟩ := hx.two
      simp only [Rp] at hz hy
      subst hz hy
      obtain ⟨u, u', rfl, ⟨t, rfl⟩, t', rfl⟩ := L2.vals2 r1
      exact call_range_2 (L2.range_it I1 hc.2.1.1 hc.2.1.2 hc.2.2.1 hc.2.2.2 (q _ _ src_range trivial))
    · rename_i i j k _
      cases e1
      simp only [Rps] at hx
      obtain ⟨v, r0, rfl, hz, w, r2, rfl, hy, z, r3, rfl, hw, rfl⟩ := hx
      simp only [Rp] at hz hy hw
      subst hz hy hw
      cases r1 with
      | cons r rr =>
        cases rr with
        | cons r' rr =>
          cases rr with
          | cons r'' rr =>
            cases rr
            obtain ⟨t, rfl⟩ := r
            obtain ⟨t', rfl⟩ := r'
            obtain ⟨t'', rfl⟩ := r''
            have ek := hc.1
            subst ek
            obtain ⟨c0, c1, c2, c3⟩ := L2.RgC.neg hc.2.2.1.1 hc.2.2.1.2 hc.2.2.2.1 hc.2.2.2.2
            refine call_range_3 c0 ?_ (.inl (PyProof.noPylong_small c1))
            refine wpAny_pyIter_range (IsRange.new ..) c2 ?_
            have I2 : Inv X pins σ H1 { s1 with heap := s1.heap.push { cls := .type "range", data := .fields #[.int i t, .int j t', .int (-1) t''] } } := I1.kept (t' := s1.toks) fun b o e => Heap.get?_push_of_some _ e
            refine L2.pi_one (tk := s1.toks) I2 _ (L2.turn_rangeC _ i (-1) (i - j).toNat) ?_ (q _ _ src_rangeD trivial)
            have e1 : i + ((0 : Nat) : Int) * (-1) = i := by simp
            have e2 : ((i - j).toNat : Int) - ((0 : Nat) : Int) = Builtin.Range.rangeSize i j (-1) := by rw [c3]; simp
            show IsRangeIter _ _ (i + ((0 : Nat) : Int) * (-1)) (((i - j).toNat : Int) - ((0 : Nat) : Int)) (-1)
            rw [e1, e2]
            exact Heap.get?_push_size _ rfl
  · exact q1.elim
theorem pi_enB {e : Expr} {ta : TA} {sh : Bool} {p pos tpos : Pos} {elts : List Expr} {kk : Nat} (hg : L2.Gl X "enumerate") (hm : X.mg "enumerate" = none) (ha : PA X [e] ta) (hs : ns e = true) :
    PI X (.Tuple elts kk tpos) (.Call (.Name "enumerate" p) [e] [] pos) (fun σ H R => ta σ H fun vs H1 => rIt X.K .enum sh vs H1 R) := by
  refine ⟨fun pins s σ H R I h => ?_⟩
  refine Call_ (L2.ld_blt I hg hm boot_enumerate (PyProof.Rows.callWith_type1 (L2.thn (ha.run pos pins s σ H _ I h) fun us s1 ⟨vs, H1, I1, r1, L, xs, hx, q1⟩ => ?_) (star_ns (env := fun X => X.env) hs) rfl))
  unfold app at q1
  split at q1
  · rename_i c items e1
    obtain ⟨hc, q⟩ := q1
    unfold itF at e1
    split at e1 <;> (try (simp only [ok, Option.some.injEq, Prod.mk.injEq] at e1)) <;> (try (cases e1; done))
    all_goals (first | (rename_i hk; cases hk; done) | skip)
    · obtain ⟨_, e1⟩ := e1
      subst e1
      obtain ⟨v, rfl, hz⟩ := hx.one
      obtain ⟨a, ws, rfl, ta⟩ := tup_at hz
      obtain ⟨u, rfl, ru⟩ := L2.vals1 r1
      cases ru
      obtain ⟨its, rv, p', hz⟩ := I1.tuple ta.1
      have hlt : a < s1.heap.objs.size := p'.lt
      refine call_enumerate_tuple p' fun h' he hit hsz hk => wpAny_pyIter_enum he ?_
      have I2 : Inv X pins σ H1 { s1 with heap := h' } := I1.kept (t' := s1.toks) hk
      refine ⟨s1.heap.objs.size + 1, [s1.heap.objs.size + 1, s1.heap.objs.size], _, _, H1, rfl, I2, turn_enumT a (s1.heap.objs.size + 1) s1.heap.objs.size (Nat.ne_of_lt hlt) (Nat.ne_of_lt (Nat.lt_succ_of_lt hlt)), ⟨⟨.none, he⟩, hit, Nat.succ_ne_self _⟩, fun b hb => ?_, q _ _ src_enumT ta⟩
      have e' : b = s1.heap.objs.size + 1 ∨ b = s1.heap.objs.size := by simpa using hb
      have hle : s1.heap.objs.size ≤ b := by
        rcases e' with z | z
        · rw [z]; exact Nat.le_add_right _ _
        · rw [z]; exact Nat.le_refl _
      exact I1.fpOk hle (I1.hok.fresh hle)
    · obtain ⟨_, e1⟩ := e1
      subst e1
      obtain ⟨v, rfl, hz⟩ := hx.one
      obtain ⟨a, ws, rfl, ta⟩ := lst_at hz
      obtain ⟨u, rfl, ru⟩ := L2.vals1 r1
      cases ru
      obtain ⟨its, rv, p', hz⟩ := I1.list (L2.SqL.of ta.1)
      refine call_enumerate_list p'.isList fun h' he hit hsz hk => wpAny_pyIter_enum he ?_
      have I2 : Inv X pins σ H1 { s1 with heap := h' } := I1.kept (t' := s1.toks) hk
      refine ⟨s1.heap.objs.size + 1, [s1.heap.objs.size + 1, s1.heap.objs.size], _, _, H1, rfl, I2, L2.turn_enum a (s1.heap.objs.size + 1) s1.heap.objs.size, ⟨⟨.none, he⟩, hit, Nat.succ_ne_self _⟩, fun b hb => ?_, q _ _ src_enum ta⟩
      have e' : b = s1.heap.objs.size + 1 ∨ b = s1.heap.objs.size := by simpa using hb
      have hle : s1.heap.objs.size ≤ b := by
        rcases e' with z | z
        · rw [z]; exact Nat.le_add_right _ _
        · rw [z]; exact Nat.le_refl _
      exact I1.fpOk hle (I1.hok.fresh hle)
  · exact q1.elim
theorem pi_zipB {e e2 : Expr} {ta : TA} {sh : Bool} {p pos tpos : Pos} {elts : List Expr} {kk : Nat} (hg : L2.Gl X "zip") (hm : X.mg "zip" = none) (ha : PA X [e, e2] ta) (hs1 : ns e = true) (hs2 : ns e2 = true) :
    PI X (.Tuple elts kk tpos) (.Call (.Name "zip" p) [e, e2] [] pos) (fun σ H R => ta σ H fun vs H1 => rIt X.K .zip sh vs H1 R) := by
  refine ⟨fun pins s σ H R I h => ?_⟩
  refine Call_ (L2.ld_blt I hg hm PyProof.Rows.boot_zip (PyProof.Rows.callWith_type1 (L2.thn (ha.run pos pins s σ H _ I h) fun us s1 ⟨vs, H1, I1, r1, L, xs, hx, q1⟩ => ?_) (star_ns (env := fun X => X.env) hs1) (any_ns (by simp [hs2]))))
  unfold app at q1
  split at q1
  · rename_i c items e1
    obtain ⟨hc, q⟩ := q1
    have fresh5 : ∀ c, c ∈ [s1.heap.objs.size + 4, s1.heap.objs.size + 2, s1.heap.objs.size + 3, s1.heap.objs.size, s1.heap.objs.size + 1] → L2.FpOk X pins H1 c := fun c hcm => by
      have e' : c = s1.heap.objs.size + 4 ∨ c = s1.heap.objs.size + 2 ∨ c = s1.heap.objs.size + 3 ∨ c = s1.heap.objs.size ∨ c = s1.heap.objs.size + 1 := by simpa using hcm
      have hle : s1.heap.objs.size ≤ c := by omega
      exact I1.fpOk hle (I1.hok.fresh hle)
    unfold itF at e1
    split at e1 <;> (try (simp only [ok, Option.some.injEq, Prod.mk.injEq] at e1)) <;> (try (cases e1; done))
    all_goals (first | (rename_i hk; cases hk; done) | skip)
    · obtain ⟨_, e1⟩ := e1
      subst e1
      obtain ⟨v, w, rfl, hz, hy⟩ := hx.two
      obtain ⟨a, vs, rfl, t1⟩ := tup_at hz
      obtain ⟨b, ws, rfl, t2⟩ := tup_at hy
      obtain ⟨u, u', rfl, ru, ru'⟩ := L2.vals2 r1
      cases ru
      cases ru'
      obtain ⟨its, rv, p1, _⟩ := I1.tuple t1.1
      obtain ⟨its2, rv2, p2, _⟩ := I1.tuple t2.1
      obtain ⟨o1, ho1, _⟩ := id p1
      obtain ⟨o2, ho2, _⟩ := id p2
      refine RZ.call_zipT (show s1.heap.IsTuple a its.toArray from p1) (show s1.heap.IsTuple b its2.toArray from p2) fun h' hz hTI hTO h1 h2 hsz hk => wpAny_pyIter_zip hz ?_
      have I2 : Inv X pins σ H1 { s1 with heap := h' } := I1.kept (t' := s1.toks) hk
      exact ⟨s1.heap.objs.size + 4, [s1.heap.objs.size + 4, s1.heap.objs.size + 2, s1.heap.objs.size + 3, s1.heap.objs.size, s1.heap.objs.size + 1], _, _, H1, rfl, I2, RZ.turn_zipT (PySem.W.ktu_apart s1.heap.objs.size a b (Heap.lt_size ho1) (Heap.lt_size ho2)), ⟨hz, hTI, ⟨_, _, hTO⟩, h1, h2⟩, fresh5, q _ _ src_zipT ⟨t1, t2⟩⟩
    · obtain ⟨_, e1⟩ := e1
      subst e1
      obtain ⟨v, w, rfl, hz, hy⟩ := hx.two
      obtain ⟨a, vs, rfl, t1⟩ := lst_at hz
      obtain ⟨b, ws, rfl, t2⟩ := lst_at hy
      obtain ⟨u, u', rfl, ru, ru'⟩ := L2.vals2 r1
      cases ru
      cases ru'
      obtain ⟨its, rv, p1, _⟩ := I1.list (L2.SqL.of t1.1)
      obtain ⟨its2, rv2, p2, _⟩ := I1.list (L2.SqL.of t2.1)
      refine call_zip_2 p1.isList p2.isList fun h' hz hTI hTO h1 h2 hsz hk => wpAny_pyIter_zip hz ?_
      have I2 : Inv X pins σ H1 { s1 with heap := h' } := I1.kept (t' := s1.toks) hk
      exact ⟨s1.heap.objs.size + 4, [s1.heap.objs.size + 4, s1.heap.objs.size + 2, s1.heap.objs.size + 3, s1.heap.objs.size, s1.heap.objs.size + 1], _, _, H1, rfl, I2, L2.turn_zip (PySem.W.ktu_apart s1.heap.objs.size a b p1.lt p2.lt), ⟨hz, hTI, ⟨_, _, hTO⟩, h1, h2⟩, fresh5, q _ _ src_zip ⟨t1, t2⟩⟩
  · exact q1.elim
theorem pi_revB {e : Expr} {ta : TA} {sh : Bool} {p pos : Pos} (hg : L2.Gl X "reversed") (hm : X.mg "reversed" = none) (ha : PA X [e] ta) (hs : ns e = true) :
    PI X tg (.Call (.Name "reversed" p) [e] [] pos) (fun σ H R => ta σ H fun vs H1 => rIt X.K .rev sh vs H1 R) := by
  refine ⟨fun pins s σ H R I h => ?_⟩
  refine Call_ (L2.ld_blt I hg hm PyProof.Rows.boot_reversed (PyProof.Rows.callWith_type1 (L2.thn (ha.run pos pins s σ H _ I h) fun us s1 ⟨vs, H1, I1, r1, L, xs, hx, q1⟩ => ?_) (star_ns (env := fun X => X.env) hs) rfl))
  unfold app at q1
  split at q1
  · rename_i c items e1
    obtain ⟨hc, q⟩ := q1
    unfold itF at e1
    split at e1 <;> (try (simp only [ok, Option.some.injEq, Prod.mk.injEq] at e1)) <;> (try (cases e1; done))
    all_goals (first | (rename_i hk; cases hk; done) | skip)
    · obtain ⟨_, e1⟩ := e1
      subst e1
      obtain ⟨v, rfl, hz⟩ := hx.one
      obtain ⟨a, ws, rfl, t⟩ := tup_at hz
      obtain ⟨u, rfl, ru⟩ := L2.vals1 r1
      cases ru
      obtain ⟨its, rv, p', hz⟩ := I1.tuple t.1
      have hl := rv.length
      have hn := L2.line63
      have e1 : ((its.toArray.size : Nat) : Int) - 1 = (ws.length : Int) - 1 - ((0 : Nat) : Int) := by simp only [List.size_toArray]; omega
      refine RT.call_reversed_tup p' (fun A E Q k => len_tuple p' (by simp only [List.size_toArray] <;> omega) k) (RT.iter_rt (t := a) (i := ((its.toArray.size : Nat) : Int) - 1) ⟨_, Heap.get?_push_size _ rfl, rfl, rfl⟩ ?_)
      refine L2.pi_one (tk := s1.toks + 1 + 1) I1 _ (RT.turn_rt a _ ws.length) ⟨Nat.zero_le _, ?_⟩ (q _ _ src_revT t)
      rw [← e1]
      exact ⟨_, Heap.get?_push_size _ rfl, rfl, rfl⟩
    · obtain ⟨_, e1⟩ := e1
      subst e1
      obtain ⟨v, rfl, hz⟩ := hx.one
      obtain ⟨a, ws, rfl, t⟩ := lst_at hz
      obtain ⟨u, rfl, ru⟩ := L2.vals1 r1
      cases ru
      obtain ⟨its, rv, p', hz⟩ := I1.list (L2.SqL.of t.1)
      have hl := rv.length
      have e1 : ((its.toArray.size : Nat) : Int) - 1 = (ws.length : Int) - 1 - ((0 : Nat) : Int) := by simp only [List.size_toArray]; omega
      refine call_reversed_list p'.isList (wpAny_pyIter_revIter (l := a) (i := ((its.toArray.size : Nat) : Int) - 1) ⟨_, Heap.get?_push_size _ rfl, rfl, rfl⟩ ?_)
      refine L2.pi_one (tk := s1.toks) I1 _ (L2.turn_rev a _ ws.length) ⟨Nat.zero_le _, ?_⟩ (q _ _ src_rev t)
      rw [← e1]
      exact ⟨_, Heap.get?_push_size _ rfl, rfl, rfl⟩
  · exact q1.elim
end
end TL
end -- TLIter

section -- TLChk
/-! TL, part 9: does a compact text agree with a Python text; who owns what. -/
set_option linter.all false
set_option maxRecDepth 100000
namespace TL
open PySem PySem.Spec PyProof.Rows
open L2 (relS blkC)

structure Tab where
  fn : List Str
  gl : List Str
  cl : List Str
  xf : List Str

def isDbg (x : Str) : Bool := x == ("__debug__" : Str) || x == ("__classdict__" : Str) || x == ("__name__" : Str)
def slotB (N : List Str) (sc : Scope) (i : Nat) (x : Str) : Bool :=
  N[i]? == some x && (sc.names.lookup x == some .local || sc.names.lookup x == some .cell || sc.names.lookup x == some .free) && !isDbg x
/-- a slot that is stored: local, or a cell of its own (ce: the names whose cells are the block's own) -/
def storeB (N : List Str) (sc : Scope) (ce : Str → Bool) (i : Nat) (x : Str) : Bool :=
  N[i]? == some x && (sc.names.lookup x == some .local || (sc.names.lookup x == some .cell && ce x)) && !isDbg x
def globB (sc : Scope) (x : Str) : Bool := sc.names.lookup x == some .globalImplicit && !isDbg x
def ownP (N : List Str) (own : List Nat) : List (Str × Nat) := own.map fun i => (N.getD i "", i)
def cellB (scope : Scope) (x : Str) : Bool := scope.names.lookup x == some .cell
mutual
def agTg (N : List Str) (sc : Scope) (ce : Str → Bool) : Tg → Expr → Bool
  | .name i, .Name x _ => storeB N sc ce i x
  | .tup ts, .Tuple es _ _ => agTgs N sc ce ts es && es.all ns
  | _, _ => false
def agTgs (N : List Str) (sc : Scope) (ce : Str → Bool) : List Tg → List Expr → Bool
  | [], [] => true
  | t :: ts, e :: es => agTg N sc ce t e && agTgs N sc ce ts es
  | _, _ => false
end
def isTup : Expr → Bool
  | .Tuple .. => true
  | _ => false
def isSet : Expr → Bool
  | .Set .. => true
  | _ => false
def isCompE : Expr → Bool
  | .ListComp .. | .SetComp .. | .DictComp .. => true
  | _ => false
def lo2 (f : Bool) (lo : Option Expr) : Bool := match f, lo with | false, none => true | true, some (.Constant (.int 1) _ _) => true | _, _ => false
def nSl : Expr → Bool
  | .Slice .. => false
  | _ => true
def notCls : Ty → Bool
  | .cls _ => false
  | _ => true
def isNm : Expr → Bool
  | .Name .. => true
  | _ => false
mutual
def agE (T : Tab) (N : List Str) : Scope → E → Expr → Bool
  | sc, .var i, .Name x _ => slotB N sc i x
  | sc, .io i, .Name x _ => slotB N sc i x
  | _, .int i, .Constant (.int j) _ _ => i == j
  | _, .str x, .Constant (.str y) _ _ => x == y
  | _, .bl b, .Constant (.bool c) _ _ => b == c
  | _, .non, .Constant .none _ _ => true
  | sc, .glob g, .Name x _ => T.gl[g]? == some x && globB sc x
  | sc, .bin o a b, .BinOp l p r _ => p == bopO o && agE T N sc a l && agE T N sc b r
  | sc, .neg a, .UnaryOp .USub x _ => agE T N sc a x
  | sc, .not_ a, .UnaryOp .Not x _ => agE T N sc a x
  | sc, .cmp o a b, .Compare l [p] [r] _ => p == copO o && !isSet r && agE T N sc a l && agE T N sc b r
  | sc, .cmp2 o o' a b c, .Compare l [p, p'] [r, r'] _ => p == copO o && p' == copO o' && !isSet r && !isSet r' && agE T N sc a l && agE T N sc b r && agE T N sc c r'
  | sc, .bop d as, .BoolOp op es _ => (op == if d then .And else .Or) && agEs T N sc as es
  | sc, .ife c a b, .IfExp t x y _ => agE T N sc c t && agE T N sc a x && agE T N sc b y
  | sc, .call f as, .Call (.Name x _) es [] _ => T.fn[f]? == some x && globB sc x && !as.isEmpty && agEs T N sc as es && es.all ns
  | sc, .bi b as, .Call (.Name x _) es [] _ => x == (biN b : Str) && globB sc x && as.length == biA b && agEs T N sc as es && es.all ns
  | sc, .isi a t, .Call (.Name x _) [e, .Name y _] [] _ => x == ("isinstance" : Str) && globB sc x && y == (tyN t : Str) && globB sc y && notCls t && agE T N sc a e && ns e
  | sc, .tup as, .Tuple es _ _ => agEs T N sc as es && es.all ns
  | sc, .lst as, .List es _ => agEs T N sc as es && es.all ns
  | sc, .idx a i, .Subscript e s _ => agE T N sc a e && agE T N sc i s && nSl s
  | sc, .slc a lo hi, .Subscript e (.Slice l h none _) _ => agE T N sc a e && agO T N sc lo l && agO T N sc hi h
  | sc, .rev a, .Subscript e (.Slice none none (some (.UnaryOp .USub (.Constant (.int 1) _ _) _)) _) _ => agE T N sc a e
  | sc, .step2 a f, .Subscript e (.Slice lo none (some (.Constant (.int 2) _ _)) _) _ => agE T N sc a e && lo2 f lo
  | sc, .comp elt tg k as cond own, .ListComp e [⟨t, it, ifs, 0⟩] scope _ =>
      blkC N sc scope (ownP N own) && agIt T N sc k as it t && agTg N (relS scope sc) (cellB scope) tg t && agC T N (relS scope sc) cond ifs && agE T N (relS scope sc) elt e && !isSet it
  | sc, .comp2 elt tg k as tg2 k2 as2 own, .ListComp e [⟨t, it, [], 0⟩, ⟨t2, it2, [], 0⟩] scope _ =>
      blkC N sc scope (ownP N own) && agIt T N sc k as it t && agTg N (relS scope sc) (cellB scope) tg t && agIt T N (relS scope sc) k2 as2 it2 t2 && agTg N (relS scope sc) (cellB scope) tg2 t2 && agE T N (relS scope sc) elt e && !isSet it && !isSet it2
  | sc, .pop i, .Call (.Attribute (.Name x _) m ap) [] [] cp => m == ("pop" : Str) && slotB N sc i x && ap.endLine == cp.line
  | sc, .popAt i a, .Call (.Attribute (.Name x _) m ap) [e] [] cp => m == ("pop" : Str) && slotB N sc i x && agE T N sc a e && ns e && ap.endLine == cp.line
  | sc, .index a b, .Call (.Attribute e m ap) [e2] [] cp => m == ("index" : Str) && agE T N sc a e && agE T N sc b e2 && ns e2 && isNm e && ap.endLine == cp.line
  | sc, .xfld i, .Attribute (.Name x _) _ _ => slotB N sc i x && false
  | _, _, _ => false
def agEs (T : Tab) (N : List Str) : Scope → List E → List Expr → Bool
  | _, [], [] => true
  | sc, a :: as, e :: es => agE T N sc a e && agEs T N sc as es
  | _, _, _ => false
def agO (T : Tab) (N : List Str) : Scope → Option E → Option Expr → Bool
  | _, none, none => true
  | sc, some a, some e => agE T N sc a e
  | _, _, _ => false
def agC (T : Tab) (N : List Str) : Scope → Option E → List Expr → Bool
  | _, none, [] => true
  | sc, some a, [e] => agE T N sc a e
  | _, _, _ => false
def agIt (T : Tab) (N : List Str) : Scope → ItK → List E → Expr → Expr → Bool
  | sc, .seq, [a], e, _ => agE T N sc a e
  | sc, .range, a :: as, .Call (.Name x _) (e :: es) [] _, _ => x == ("range" : Str) && globB sc x && agE T N sc a e && agEs T N sc as es && (e :: es).all ns
  | sc, .enum, [a], .Call (.Name x _) [e] [] _, t => x == ("enumerate" : Str) && globB sc x && agE T N sc a e && ns e && isTup t
  | sc, .zip, [a, b], .Call (.Name x _) [e, e2] [] _, t => x == ("zip" : Str) && globB sc x && agE T N sc a e && agE T N sc b e2 && ns e && ns e2 && isTup t
  | sc, .rev, [a], .Call (.Name x _) [e] [] _, _ => x == ("reversed" : Str) && globB sc x && agE T N sc a e && ns e
  | _, _, _, _, _ => false
end

theorem agE_eqs : True := (fun _ => trivial) @agE.eq_1
/-! ### who owns what -/
mutual
/-- nothing that was there is changed -/
def nmE : E → Bool
  | .bin _ a b => nmE a && nmE b
  | .neg a => nmE a
  | .not_ a => nmE a
  | .cmp _ a b => nmE a && nmE b
  | .cmp2 _ _ a b c => nmE a && nmE b && nmE c
  | .bop _ as => nmEs as
  | .ife c a b => nmE c && nmE a && nmE b
  | .call _ as => nmEs as
  | .bi _ as => nmEs as
  | .isi a _ => nmE a
  | .tup as => nmEs as
  | .lst as => nmEs as
  | .idx a i => nmE a && nmE i
  | .slc a lo hi => nmE a && nmO lo && nmO hi
  | .rev a => nmE a
  | .step2 a _ => nmE a
  | .comp elt _ _ as cond _ => nmE elt && nmEs as && nmO cond
  | .comp2 elt _ _ as _ _ as2 _ => nmE elt && nmEs as && nmEs as2
  | .pop _ | .popAt _ _ | .io _ => false
  | .index a b => nmE a && nmE b
  | _ => true
def nmEs : List E → Bool
  | [] => true
  | a :: as => nmE a && nmEs as
def nmO : Option E → Bool
  | none => true
  | some a => nmE a
end
def minS : List Nat → List Nat → List Nat
  | a :: r, b :: s => min a b :: minS r s
  | _, _ => []
mutual
def tgSlots : Tg → List Nat
  | .name i => [i]
  | .tup ts => tgsSlots ts
def tgsSlots : List Tg → List Nat
  | [] => []
  | t :: ts => tgSlots t ++ tgsSlots ts
end
def zeroS (is : List Nat) (st : List Nat) : List Nat := is.foldr (fun i s => s.set i 0) st
def isIo : E → Option Nat
  | .io i => some i
  | _ => none
def noIo (as : List E) : Bool := as.all fun a => (isIo a).isNone
/-- the arguments that may be changed: where they stand, their slots -/
def ioPos : Nat → List E → List (Nat × Nat)
  | _, [] => []
  | j, a :: as => (match isIo a with | some i => [(j, i)] | none => []) ++ ioPos (j + 1) as
def dpA : List E → List Nat → List Nat
  | [], _ => []
  | a :: as, ds => (match isIo a with | some _ => ds.headD 0 :: dpA as ds.tail | none => 0 :: dpA as ds)
def dps (d : Def) : List Nat := (List.range d.ar).map fun j => (d.io.lookup j).getD 0
def setD (st : List Nat) : List (Nat × Nat) → List Nat
  | [] => st
  | (i, d) :: r => setD (st.set i d) r
def nodupB : List Nat → Bool
  | [] => true
  | a :: r => !r.contains a && nodupB r
/-- the arguments of a call against what the def may change -/
def ioS (d : Def) (as : List E) (st : List Nat) : Option (List Nat) :=
  let l := ((ioPos 0 as).map (·.2)).zip (d.io.map (·.2))
  if (ioPos 0 as).map (·.1) == d.io.map (·.1) && nodupB ((ioPos 0 as).map (·.2)) && l.all (fun p => decide (p.2 ≤ st.getD p.1 0)) && dps d == dpA as (d.io.map (·.2)) && as.length == d.ar
  then some (setD st l) else none
mutual
def stE (D : List Def) : E → Nat → List Nat → Option (Nat × List Nat)
  | .var i, m, st => some (0, st.set i (min (st.getD i 0) m))
  | .io _, _, _ => none
  | .int _, _, st => some (9, st)
  | .str _, _, st => some (9, st)
  | .bl _, _, st => some (9, st)
  | .non, _, st => some (9, st)
  | .glob _, _, st => some (0, st)
  | .bin _ a b, _, st => do
    let (_, s1) ← stE D a (if nmE b then 1 else 0) st
    let (_, s2) ← stE D b 1 s1
    if leS s2 s1 then some (1, s2) else none
  | .neg a, _, st => do
    let (_, s1) ← stE D a 9 st
    some (9, s1)
  | .not_ a, _, st => do
    let (_, s1) ← stE D a 9 st
    some (9, s1)
  | .cmp _ a b, _, st => do
    let (_, s1) ← stE D a (if nmE b then 9 else 0) st
    let (_, s2) ← stE D b 9 s1
    if leS s2 s1 then some (9, s2) else none
  | .cmp2 _ _ a b c, _, st => do
    let (_, s1) ← stE D a (if nmE b then 9 else 0) st
    let (_, s2) ← stE D b (if nmE c then 9 else 0) s1
    let (_, s3) ← stE D c 9 s2
    if leS s2 s1 && leS s3 s2 && leS s3 s1 then some (9, s3) else none
  | .bop _ as, m, st => stV D m as st
  | .ife c a b, m, st => do
    let s1 ← stT D c st
    let (ka, sa) ← stE D a m s1
    let (kb, sb) ← stE D b m s1
    let s2 := minS sa sb
    if leS s2 sa && leS s2 sb && leS s2 s1 then some (min ka kb, s2) else none
  | .call f as, _, st => do
    let d ← D[f]?
    let (_, s1) ← stEs D 0 as st
    let s2 ← ioS d as s1
    if leS s2 s1 then some (d.ret, s2) else none
  | .bi b as, _, st => do
    let (_, s1) ← stEs D (if nmEs as then biM b else 0) as st
    if noIo as then some (1, s1) else none
  | .isi a _, _, st => do
    let (_, s1) ← stE D a 9 st
    some (9, s1)
  | .tup as, _, st => do
    let (ks, s1) ← stEs D 0 as st
    if noIo as then some (1 + ks.foldr min 8, s1) else none
  | .lst as, _, st => do
    let (ks, s1) ← stEs D 0 as st
    if noIo as then some (1 + ks.foldr min 8, s1) else none
  | .idx a i, m, st => do
    let (_, s1) ← stE D a (if nmE i then m + 1 else 0) st
    let (_, s2) ← stE D i 9 s1
    if leS s2 s1 then some (0, s2) else none
  | .slc a lo hi, _, st => do
    let (_, s1) ← stE D a (if nmO lo && nmO hi then 1 else 0) st
    let s2 ← stO D lo s1
    let s3 ← stO D hi s2
    if leS s2 s1 && leS s3 s2 && leS s3 s1 then some (1, s3) else none
  | .rev a, _, st => do
    let (_, s1) ← stE D a 1 st
    some (1, s1)
  | .step2 a _, _, st => do
    let (_, s1) ← stE D a 1 st
    some (1, s1)
  | .comp elt tg _ as cond own, _, st => do
    let pure := nmE elt && nmO cond
    let (_, s1) ← stEs D (if pure then 1 else 0) as st
    let t0 := zeroS own s1
    let c0 ← stC D cond t0
    let (_, e0) ← stE D elt 0 c0
    let t1 := zeroS own (minS t0 (minS c0 e0))
    let c1 ← stC D cond t1
    let (k, e1) ← stE D elt 0 c1
    if leS t1 (zeroS own c1) && leS t1 (zeroS own e1) && leS t1 s1 && (tgSlots tg).all (own.contains ·) && own.all (fun i => decide (i < t1.length)) && noIo as then some (1 + k, t1) else none
  | .comp2 .., _, _ => none
  | .pop i, _, st => if 1 ≤ st.getD i 0 then some (st.getD i 0 - 1, st) else none
  | .popAt i a, _, st => do
    let (_, s1) ← stE D a 9 st
    if 1 ≤ s1.getD i 0 then some (s1.getD i 0 - 1, s1) else none
  | .index a b, _, st => do
    let (_, s1) ← stE D a (if nmE b then 9 else 0) st
    let (_, s2) ← stE D b 9 s1
    if leS s2 s1 && nmE b then some (9, s2) else none
  | .xfld _, _, _ => none
/-- a test -/
def stT (D : List Def) : E → List Nat → Option (List Nat)
  | .not_ a, st => stT D a st
  | .cmp _ a b, st => do
    let (_, s1) ← stE D a (if nmE b then 9 else 0) st
    let (_, s2) ← stE D b 9 s1
    if leS s2 s1 then some s2 else none
  | .cmp2 _ _ a b c, st => do
    let (_, s1) ← stE D a (if nmE b then 9 else 0) st
    let (_, s2) ← stE D b (if nmE c then 9 else 0) s1
    let (_, s3) ← stE D c 9 s2
    if leS s2 s1 && leS s3 s2 && leS s3 s1 then some s3 else none
  | .bop _ as, st => stB D as st
  | .var i, st => some (st.set i (min (st.getD i 0) 9))
  | .call f as, st => do
    let d ← D[f]?
    let (_, s1) ← stEs D 0 as st
    let s2 ← ioS d as s1
    if leS s2 s1 then some s2 else none
  | .bi b as, st => do
    let (_, s1) ← stEs D (if nmEs as then biM b else 0) as st
    if noIo as then some s1 else none
  | .isi a _, st => do
    let (_, s1) ← stE D a 9 st
    some s1
  | .idx a i, st => do
    let (_, s1) ← stE D a (if nmE i then 10 else 0) st
    let (_, s2) ← stE D i 9 s1
    if leS s2 s1 then some s2 else none
  | .bl _, st => some st
  | _, _ => none
/-- values one behind another: what stands behind any of them -/
def stV (D : List Def) : Nat → List E → List Nat → Option (Nat × List Nat)
  | _, [], _ => none
  | m, [a], st => stE D a m st
  | m, a :: b :: r, st => do
    let (k1, s1) ← stE D a m st
    let (k2, s2) ← stV D m (b :: r) s1
    if leS s2 s1 then some (min k1 k2, s2) else none
/-- tests one behind another: what stands behind any of them -/
def stB (D : List Def) : List E → List Nat → Option (List Nat)
  | [], _ => none
  | [a], st => stT D a st
  | a :: b :: r, st => do
    let s1 ← stT D a st
    let s2 ← stB D (b :: r) s1
    if leS s2 s1 then some s2 else none
def stEs (D : List Def) : Nat → List E → List Nat → Option (List Nat × List Nat)
  | _, [], st => some ([], st)
  | m, a :: as, st => do
    let (k, s1) ← (match isIo a with | some _ => some (0, st) | none => stE D a m st)
    let (ks, s2) ← stEs D m as s1
    if leS s2 s1 && (m == 0 || nmEs as) then some (k :: ks, s2) else none
def stO (D : List Def) : Option E → List Nat → Option (List Nat)
  | none, st => some st
  | some a, st => do
    let (_, s1) ← stE D a 9 st
    some s1
def stC (D : List Def) : Option E → List Nat → Option (List Nat)
  | none, st => some st
  | some a, st => stT D a st
end
end TL
end -- TLChk

section -- TLSnd
/-! TL, part 10: the readings. -/
set_option linter.all false
set_option autoImplicit true
set_option maxRecDepth 100000
namespace TL
open PySem PySem.Spec PyProof.Rows
open L2 (V Hp HO Rd SqL SqT upd upd_same upd_ne Vals RelV VK XK Cx Inv OpR UnR CallR IxR SlR TruR R2 TE TT TA PE PT PW PA PO WX Takes relS)

/-- an exception: its class, its own field -/
def XR (K : PySem.W.Frag) (mg : Str → Option Value) (T : Tab) (H : Hp) (L : Addr → Prop) (e : Xc) (cls : Value) (dd : Option Addr) : Prop :=
  ∃ x C, T.cl[e.cls]? = some x ∧ mg x = some (.ref C) ∧ cls = .ref C ∧
    (e.args = [] ∨ ∃ y a nm v, e.args = [y] ∧ dd = some a ∧ T.xf[e.cls]? = some nm ∧ H a = some (.xd [(nm, v)]) ∧ Rp K H L 0 y v)
/-- a value at hand: shared from depth m on (k = 0), or owned k deep -/
def RR (K : PySem.W.Frag) (H : Hp) (L : Addr → Prop) (m k : Nat) (x : TV) (v : V) (F : List Addr) : Prop :=
  if k = 0 then F = [] ∧ Rp K H L m x v else Own K H L k x v F
section
variable {K : PySem.W.Frag} {mg : Str → Option Value} {T : Tab} {H H1 H2 H' : Hp} {L0 : Addr → Prop} {st s1 s2 st' : List Nat} {ρ ρ1 ρ2 ρ' : Env} {σ : L2.St} {F F1 F2 F' Fv Fw : List Addr} {m k : Nat} {x : TV} {v : V} {nm n1 n2 : Bool} {Q : VK}
theorem RR.rp (h : RR K H (Lo (F ++ Fv) L0) m k x v Fv) (w : WO K H L0 st ρ σ F Fv) : Rp K H (Lo F L0) m x v := by
  unfold RR at h
  split at h
  · obtain ⟨e, h⟩ := h
    subst e
    rwa [List.append_nil] at h
  · have n := List.nodup_append.mp w.nd
    obtain ⟨F', s, c⟩ := Own.weak x k 0 v Fv (Nat.zero_le _) n.2.1 h
    refine Rp.mono x 0 m v (Nat.zero_le _) (Own.rp x v F' (c _ (fun b z => ?_) (fun b hb z => ?_)))
    · unfold Lo at *; simp only [List.mem_append]; exact z.imp .inl id
    · rcases z with z | z
      · exact absurd rfl (n.2.2 b z b hb)
      · exact absurd z (w.dj b (by simp [hb]))
theorem RR.own (h : RR K H (Lo (F ++ Fv) L0) 0 k x v Fv) : Own K H (Lo (F ++ Fv) L0) k x v Fv := by
  unfold RR at h
  split at h
  · rename_i e
    obtain ⟨e', h⟩ := h
    subst e'
    rw [e]
    exact Rp.own x v h
  · exact h
theorem RR.of (h : Own K H (Lo (F ++ Fv) L0) k x v Fv) : RR K H (Lo (F ++ Fv) L0) m k x v Fv := by
  unfold RR
  split
  · rename_i e
    subst e
    have e' := Own.nil x v Fv h
    subst e'
    exact ⟨rfl, Rp.mono x 0 m v (Nat.zero_le _) (Own.rp x v [] h)⟩
  · exact h
theorem Go.kp (g : Go nm H F H' F') (mt : ∀ b ∈ F, ∃ o, H b = some o ∧ mutO o = true) : Kp H (Lo F L0) (· ∈ F) H' (Lo F' L0) :=
  ⟨fun b o q n => g.keep b o q n, fun b z => z.elim (fun q => (g.fresh b q).imp .inl id) fun q => .inl (.inr q), fun b z => .inl z, fun b z o q => by obtain ⟨o', q', m'⟩ := mt b z; rw [q] at q'; cases q'; exact m'⟩
theorem Go.kp0 (g : Go nm H F H' F') (h : nm = true) : Kp H (Lo F L0) (fun _ => False) H' (Lo F' L0) :=
  ⟨fun b o q _ => g.pure h b o q, fun b z => z.elim (fun q => (g.fresh b q).imp .inl id) fun q => .inl (.inr q), fun b z => z.elim, fun b z => z.elim⟩
/-- a value that was met ahead stays what it was -/
theorem Rp.pass (h : Rp K H1 (Lo F1 L0) m x v) (g : Go nm H1 F1 H2 F2) (w : WO K H1 L0 s1 ρ1 σ F1 Fv) (hm : nm = true ∨ m = 0) : Rp K H2 (Lo F2 L0) m x v := by
  rcases hm with e | e
  · exact Rp.keep0 (g.kp0 e) x m v h
  · subst e
    exact Rp.keep (g.kp w.mt) h
theorem Rp.less {L L' : Addr → Prop} (h : Rp K H L m x v) (s : ∀ b, L' b → L b) : Rp K H L' m x v := Rp.keep0 (Kp.same fun b z => .inl (s b z)) x m v h
theorem WO.go (w : WO K H L0 st ρ σ F []) (kp : ∀ b o, H b = some o → H' b = some o) (nd : Fw.Nodup) (fr : ∀ b ∈ Fw, H b = none) : WO K H' L0 st ρ σ F Fw where
  er := ER.keep (W := fun _ => False) ⟨fun b o q _ => kp b o q, fun b z => by
      unfold Lo at *; simp only [List.mem_append, List.append_nil] at *
      rcases z with (z | z) | z
      · exact .inl (.inl z)
      · exact .inr (fr b z)
      · exact .inl (.inr z), fun _ z => z.elim, fun _ z => z.elim⟩ (fun _ _ z => z) w.er
  nd := by
    have n := w.nd
    rw [List.append_nil] at n
    refine List.nodup_append.mpr ⟨n, nd, fun a ha b hb e => ?_⟩
    subst e
    obtain ⟨o, q, _⟩ := w.mt a ha
    rw [fr a hb] at q; cases q
  dj := fun b hb z => by
    rcases List.mem_append.mp hb with q | q
    · exact w.dj b (by simp [q]) z
    · obtain ⟨o, e, _⟩ := w.l0 b z
      rw [fr b q] at e; cases e
  l0 := fun b z => by obtain ⟨o, q, m⟩ := w.l0 b z; exact ⟨o, kp b o q, m⟩
theorem Go.go (g : Go nm H F H1 F1) (kp : ∀ b o, H1 b = some o → H' b = some o) (fr : ∀ b ∈ Fw, H1 b = Option.none) : Go nm H F H' (F1 ++ Fw) where
  keep := fun b o q n => kp b o (g.keep b o q n)
  pure := fun e b o q => kp b o (g.pure e b o q)
  there := fun b o q => by obtain ⟨o', q', m⟩ := g.there b o q; exact ⟨o', kp b o' q', m⟩
  fresh := fun b hb => by
    rcases List.mem_append.mp hb with q | q
    · exact g.fresh b q
    · exact .inr (g.none (fr b q))
/-- the last step: a new value -/
theorem fin (w : WO K H1 L0 s1 ρ1 σ F1 []) (g : Go n1 H F H1 F1) (hn : nm = true → n1 = true)
    (h : ∀ v H' F' Fv, WO K H' L0 s1 ρ1 σ F' Fv → RR K H' (Lo (F' ++ Fv) L0) m k x v Fv → Go nm H F H' (F' ++ Fv) → Q v H') : NQ K H1 (Lo F1 L0) k x Q := by
  intro v H' Fw o nd kp fr
  refine h v H' F1 Fw (w.go kp nd fr) (RR.of ?_) ((g.go kp fr).weaken hn)
  have e : Lo Fw (Lo F1 L0) = Lo (F1 ++ Fw) L0 := by
    funext b; unfold Lo; simp only [List.mem_append, eq_iff_iff]; grind
  rw [← e]; exact o
/-- .. a value that stands already -/
theorem fin0 (w : WO K H1 L0 s1 ρ1 σ F1 []) (g : Go n1 H F H1 F1) (hn : nm = true → n1 = true)
    (h : ∀ v H' F' Fv, WO K H' L0 s1 ρ1 σ F' Fv → RR K H' (Lo (F' ++ Fv) L0) m 0 x v Fv → Go nm H F H' (F' ++ Fv) → Q v H') (r : Rp K H1 (Lo F1 L0) m x v) : Q v H1 := by
  refine h v H1 F1 [] w ?_ (by rw [List.append_nil]; exact g.weaken hn)
  unfold RR
  rw [if_pos rfl, List.append_nil]
  exact ⟨rfl, r⟩
end

/-! ### what a def promises -/
def IoEnd (K : PySem.W.Frag) (H : Hp) (L : Addr → Prop) : List (Nat × Nat) → List TV → List V → List Addr → Prop
  | [], os, _, F => os = [] ∧ F = []
  | (j, d) :: r, os, vs, F => ∃ o os' v F1 F2, os = o :: os' ∧ vs[j]? = some v ∧ F = F1 ++ F2 ∧ Own K H L d o v F1 ∧ IoEnd K H L r os' vs F2
def spF (K : PySem.W.Frag) (mg : Str → Option Value) (T : Tab) (C : Calls) (f : Nat) (d : Def) : L2.Sp := fun vs H Q E =>
  vs.length = d.ar ∧ ∃ xs F L0, WO K H L0 (dps d) (xs.map some) (vs.map some) F [] ∧
    C f xs (fun r os => ∀ v H' F' Fv, IoEnd K H' (Lo (F' ++ Fv) L0) d.io os vs F' → Own K H' (Lo (F' ++ Fv) L0) d.ret r v Fv → (F' ++ Fv).Nodup → (∀ b ∈ F' ++ Fv, ¬ L0 b) → Go d.io.isEmpty H F H' (F' ++ Fv) → Q v H')
      (fun e os => ∀ cls dd H' F', IoEnd K H' (Lo F' L0) d.io os vs F' → F'.Nodup → (∀ b ∈ F', ¬ L0 b) → Go false H F H' F' → XR K mg T H' (Lo F' L0) e cls dd → E cls dd H')

def biNames : List Str := ["len", "abs", "int", "str", "bool", "max", "min", "sum", "all", "any", "sorted", "list", "tuple", "isinstance", "range", "enumerate", "zip", "reversed", "dict"]
/-- the module: built-ins, constants, defs, classes -/
structure MOk (T : Tab) (Pr : Prog) (n : Nat) (X : Cx) : Prop where
  bi : ∀ x ∈ biNames, X.mg x = none
  gl : ∀ g x, T.gl[g]? = some x → ∃ u v, X.mg x = some u ∧ RelV v u ∧ ∀ H L, Rp X.K H L 0 (Pr.globs.getD g .non) v
  fn : ∀ f d x, Pr.defs[f]? = some d → T.fn[f]? = some x → ∃ a fd ps, X.mg x = some (.ref a) ∧ PySem.W.keepIn X.K (.ref a) = true ∧ ps.length = d.ar ∧ L2.Binds X.K fd ps [] ∧
    L2.FnOk X.prog X.w X.K X.mg X.base (L2.CX X.prog X.w) n a fd ps (spF X.K X.mg T (Pr.call n) f d)
structure XOk (T : Tab) (Pr : Prog) (n : Nat) (N : List Str) (sc : Scope) (ce : Str → Bool) (X : Cx) : Prop where
  hN : X.N = N
  nd : N.Nodup
  hsc : X.env.scope = sc
  calm : X.calm = true
  room : L2.Room n X.A
  fnc : ∀ x, ce x = true → X.fn x = true
  mod : MOk T Pr n X
section
variable {T : Tab} {Pr : Prog} {n : Nat} {N : List Str} {sc : Scope} {ce : Str → Bool} {X : Cx}
theorem XOk.hu (o : XOk T Pr n N sc ce X) : X.A.units + 65 < cLine := by have := o.room.un; omega
theorem isDbg_ne {x : Str} (h : (!isDbg x) = true) : (x == ("__debug__" : Str)) = false ∧ (x == ("__classdict__" : Str)) = false ∧ x ≠ ("__name__" : Str) := by
  unfold isDbg at h
  simp only [Bool.not_eq_true', Bool.or_eq_false_iff] at h
  exact ⟨h.1.1, h.1.2, by simpa using h.2⟩
theorem XOk.slot (o : XOk T Pr n N sc ce X) {i : Nat} {x : Str} {pos : Pos} (h : slotB N sc i x = true) : PE X (.Name x pos) (L2.tVar i) := by
  unfold slotB at h
  simp only [Bool.and_eq_true, Bool.or_eq_true, beq_iff_eq] at h
  obtain ⟨⟨h1, h2⟩, h3⟩ := h
  obtain ⟨d1, d2, d3⟩ := isDbg_ne h3
  refine L2.pe_var (by rw [o.hN]; exact h1) ?_ d1 d2
  unfold L2.Vis
  rw [o.hsc]
  rcases h2 with (h | h) | h
  · exact .inl h
  · exact .inr (.inl h)
  · exact .inr (.inr h)
theorem XOk.glob (o : XOk T Pr n N sc ce X) {x : Str} (h : globB sc x = true) : L2.Gl X x ∧ (x == ("__debug__" : Str)) = false ∧ x ≠ ("__name__" : Str) := by
  unfold globB at h
  simp only [Bool.and_eq_true, beq_iff_eq] at h
  obtain ⟨d1, d2, d3⟩ := isDbg_ne h.2
  refine ⟨?_, d1, d3⟩
  unfold L2.Gl PySem.Env.kindOf
  rw [o.hsc]
  exact h.1
end

/-! ### expressions' readings -/
section
variable (Pr : Prog) (T : Tab) (n : Nat) (X : Cx)
def GG (Pr : Prog) : Nat → TV := fun g => Pr.globs.getD g .non
def xK (W : WX) (L0 : Addr → Prop) (st' : List Nat) (σ : L2.St) (H : Hp) (F : List Addr) : Xc → Env → Prop := fun e ρ' =>
  ∀ cls d H' F', WO X.K H' L0 st' ρ' σ F' [] → XR X.K X.mg T H' (Lo F' L0) e cls d → Go false H F H' F' → W cls d σ H'
def vK (nm : Bool) (m k : Nat) (L0 : Addr → Prop) (st' : List Nat) (σ : L2.St) (H : Hp) (F : List Addr) (Q : VK) : TV → Env → Prop := fun x ρ' =>
  ∀ v H' F' Fv, WO X.K H' L0 st' ρ' σ F' Fv → RR X.K H' (Lo (F' ++ Fv) L0) m k x v Fv → Go nm H F H' (F' ++ Fv) → Q v H'
def bK (nm : Bool) (L0 : Addr → Prop) (st' : List Nat) (σ : L2.St) (H : Hp) (F : List Addr) (Q : Bool → Hp → Prop) : Bool → Env → Prop := fun x ρ' =>
  ∀ H' F', WO X.K H' L0 st' ρ' σ F' [] → Go nm H F H' F' → Q x H'
def tE (c : E) (m : Nat) (st : List Nat) (k : Nat) (st' : List Nat) (W : WX) : TE := fun σ H Q => ∃ ρ F L0, WO X.K H L0 st ρ σ F [] ∧
  wpE (Pr.call n) (GG Pr) c ρ (vK X (nmE c) m k L0 st' σ H F Q) (xK T X W L0 st' σ H F)
def tT (c : E) (st : List Nat) (st' : List Nat) (W : WX) : TT := fun σ H Q => ∃ ρ F L0, WO X.K H L0 st ρ σ F [] ∧
  wpT (Pr.call n) (GG Pr) c ρ (bK X (nmE c) L0 st' σ H F Q) (xK T X W L0 st' σ H F)
end
section
variable {T : Tab} {X : Cx} {W : WX} {L0 : Addr → Prop} {st s1 s2 : List Nat} {σ : L2.St} {H H1 : Hp} {F F1 : List Addr} {e : Xc} {ρ : Env} {nm : Bool}
theorem XR.less {K mg L L'} {cls dd} (h : XR K mg T H L e cls dd) (s : ∀ b, L' b → L b) : XR K mg T H L' e cls dd := by
  obtain ⟨x, C, h1, h2, h3, h4⟩ := h
  refine ⟨x, C, h1, h2, h3, h4.imp id fun ⟨y, a, nm, v, q1, q2, q3, q4, q5⟩ => ⟨y, a, nm, v, q1, q2, q3, q4, q5.less s⟩⟩
theorem Lo.sub {F F' : List Addr} (s : F'.Sublist F) : ∀ b, Lo F' L0 b → Lo F L0 b := fun b z => z.imp (fun q => s.subset q) id
theorem xK.weak (h : xK T X W L0 s2 σ H F e ρ) (hl : leS s2 s1 = true) : xK T X W L0 s1 σ H F e ρ := fun cls d H' F' w xr g => by
  obtain ⟨F'', sb, w'⟩ := w.weak hl
  exact h cls d H' F'' w' (xr.less (Lo.sub sb)) (g.sub fun b hb => sb.subset hb)
theorem xK.go (h : xK T X W L0 st σ H F e ρ) (g : Go nm H F H1 F1) : xK T X W L0 st σ H1 F1 e ρ := fun cls d H' F' w xr g' => h cls d H' F' w xr (g.trans g' (by simp))
end
end TL
end -- TLSnd

section -- TLSndE
/-! TL, part 11: each expression's reading is right, part by part. -/
set_option linter.all false
set_option autoImplicit true
set_option maxRecDepth 100000
namespace TL
open PySem PySem.Spec PyProof.Rows
open L2 (V Hp HO Rd SqL SqT upd upd_same upd_ne Vals RelV VK XK Cx Inv OpR UnR CallR IxR SlR TruR R2 TE TT TA PE PT PW PA PO WX Takes relS)
theorem PE.imp {X : Cx} {e : Expr} {t t' : TE} (h : PE X e t) (q : ∀ σ H Q, t' σ H Q → t σ H Q) : PE X e t' := ⟨fun pins s σ H Q I r => h.run pins s σ H Q I (q σ H Q r)⟩
theorem PT.imp {X : Cx} {e : Expr} {t t' : TT} (h : PT X e t) (q : ∀ σ H Q, t' σ H Q → t σ H Q) : PT X e t' := ⟨fun pins s σ H Q I r => h.run pins s σ H Q I (q σ H Q r)⟩
theorem PW.imp {X : Cx} {e : Expr} {t t' : TT} (h : PW X e t) (q : ∀ σ H Q, t' σ H Q → t σ H Q) : PW X e t' := ⟨fun w pins s σ H Q I r => h.run w pins s σ H Q I (q σ H Q r)⟩
theorem PO.imp {X : Cx} {e : Option Expr} {t t' : L2.TO} (h : PO X e t) (q : ∀ σ H Q, t' σ H Q → t σ H Q) : PO X e t' := ⟨fun pins s σ H Q I r => h.run pins s σ H Q I (q σ H Q r)⟩
section
variable {K : PySem.W.Frag} {H : Hp} {L : Addr → Prop}
mutual
theorem Own.rpm : ∀ (x : TV) (d m : Nat) (v : V) (F : List Addr), d ≤ m → Own K H L d x v F → Rp K H L m x v
  | .non, _, _, _, _, _, h => by simp only [Rp, Own] at *; exact h.1
  | .bl _, _, _, _, _, _, h => by simp only [Rp, Own] at *; exact h.1
  | .int _, _, _, _, _, _, h => by simp only [Rp, Own] at *; exact h.1
  | .str _, _, _, _, _, _, h => by simp only [Rp, Own] at *; exact h.1
  | .tup xs, d, m, v, F, hd, h => by
    simp only [Rp, Own] at *
    obtain ⟨a, vs, e, q, l, h⟩ := h
    exact ⟨a, vs, e, q, l, Owns.rpm xs _ _ vs F (by omega) h⟩
  | .lst xs, 0, m, v, F, hd, h => by
    simp only [Rp, Own] at *
    obtain ⟨a, vs, e, q, l, h⟩ := h
    exact ⟨a, vs, e, ⟨q.1, fun _ => q.2⟩, l, Owns.rpm xs _ _ vs F (by omega) h⟩
  | .lst xs, d + 1, m, v, F, hd, h => by
    simp only [Rp, Own] at *
    obtain ⟨a, vs, F', e, q, eF, l, h⟩ := h
    exact ⟨a, vs, e, ⟨q, fun z => by omega⟩, l, Owns.rpm xs _ _ vs F' (by omega) h⟩
  | .dct _ _, _, _, _, _, _, h => by simp only [Own] at h
  | .obj _ _, _, _, _, _, _, h => by simp only [Own] at h
  | .clo _ _, _, _, _, _, _, h => by simp only [Own] at h
  | .xcp _ _, _, _, _, _, _, h => by simp only [Own] at h
  | .scr _, _, _, _, _, _, h => by simp only [Rp, Own] at *; exact h.1
theorem Owns.rpm : ∀ (xs : List TV) (d m : Nat) (vs : List V) (F : List Addr), d ≤ m → Owns K H L d xs vs F → Rps K H L m xs vs
  | [], _, _, _, _, _, h => by simp only [Rps, Owns] at *; exact h.1
  | x :: xs, d, m, vs, F, hd, h => by
    simp only [Rps, Owns] at *
    obtain ⟨v, r, F1, F2, e1, e2, h1, h2⟩ := h
    exact ⟨v, r, e1, Own.rpm x d m v F1 hd h1, Owns.rpm xs d m r F2 hd h2⟩
end
end
theorem leS_refl : ∀ st : List Nat, leS st st = true
  | [] => rfl
  | a :: r => by simp [leS, leS_refl r]
theorem leS_set : ∀ (st : List Nat) (i m : Nat), m ≤ st.getD i 0 → leS (st.set i m) st = true
  | [], _, _, _ => rfl
  | a :: r, 0, m, h => by simp [leS, leS_refl r] at *; exact h
  | a :: r, i + 1, m, h => by simp [leS] at *; exact leS_set r i m (by simpa using h)
section
variable {T : Tab} {Pr : Prog} {n : Nat} {X : Cx} {W : WX} {m k k1 k2 : Nat} {st st' s1 s2 s3 : List Nat} {e e1 e2 : Expr} {a b c : E}
theorem c_lit {x : TV} {v : V} (he : PE X e (L2.tC v)) (hw : ∀ (C : Calls) G ρ K XX, wpE C G c ρ K XX = K x ρ) (hv : ∀ H L, Own X.K H L 9 x v []) : PE X e (tE Pr T n X c m st 9 st W) := by
  refine PE.imp he fun σ H Q h => ?_
  obtain ⟨ρ, F, L0, w, h⟩ := h
  rw [hw] at h
  exact h v H F [] w (RR.of (hv _ _)) (Go.refl _ _ _ fun b hb => by simpa using hb)
theorem c_glob (he : PE X e (L2.tC v)) (hw : ∀ (C : Calls) G ρ K XX, wpE C G c ρ K XX = K (G g) ρ) (hv : ∀ H L, Rp X.K H L 0 (GG Pr g) v) : PE X e (tE Pr T n X c m st 0 st W) := by
  refine PE.imp he fun σ H Q h => ?_
  obtain ⟨ρ, F, L0, w, h⟩ := h
  rw [hw] at h
  exact h v H F [] w (RR.of (Rp.own _ _ (hv _ _))) (Go.refl _ _ _ fun b hb => by simpa using hb)
theorem getV_some {ρ : Env} {i : Nat} {K : TV → Prop} (h : getV ρ i K) : ∃ x, ρ[i]? = some (some x) ∧ K x := by
  unfold getV at h
  split at h
  · rename_i x e; exact ⟨x, e, h⟩
  · exact h.elim
theorem c_var {i : Nat} (he : PE X e (L2.tVar i)) : PE X e (tE Pr T n X (.var i) m st 0 (st.set i (min (st.getD i 0) m)) W) := by
  refine PE.imp he fun σ H Q h => ?_
  obtain ⟨ρ, F, L0, w, h⟩ := h
  simp only [wpE] at h
  obtain ⟨x, ex, h⟩ := getV_some h
  have hi : i < ρ.length := (List.getElem?_eq_some_iff.mp ex).1
  obtain ⟨F', sb, w'⟩ := w.weak (st' := st.set i (min (st.getD i 0) m)) (leS_set st i _ (Nat.min_le_left _ _))
  obtain ⟨d, o, s, G1, Gi, G2, e1, e2, e3, e4, sl, _⟩ := ER.at i hi w'.er
  rw [ex] at e2
  cases e2
  obtain ⟨v, es, ow⟩ := sl
  subst es
  have hst : i < st.length := by
    have := (List.getElem?_eq_some_iff.mp e1).1
    simpa using this
  rw [List.getElem?_set_self hst] at e1
  have hd : d ≤ m := by
    have := Option.some.inj e1
    omega
  refine ⟨v, e3, h v H F' [] w' ?_ (Go.refl _ _ _ fun b hb => sb.subset (by simpa using hb))⟩
  unfold RR
  rw [if_pos rfl]
  exact ⟨rfl, Own.rpm x d m v Gi hd ow⟩
variable (hC : MonoC (Pr.call n))
include hC
theorem c_bin {o : Bop} {pos : Pos} (ha : PE X e1 (tE Pr T n X a (if nmE b then 1 else 0) st k1 s1 W)) (hb : PE X e2 (tE Pr T n X b 1 s1 k2 s2 W)) (hl : leS s2 s1 = true) :
    PE X (.BinOp e1 (bopO o) e2 pos) (tE Pr T n X (.bin o a b) m st 1 s2 W) := by
  refine PE.imp (L2.pe_op (op_bin o) ha hb) fun σ H Q h => ?_
  obtain ⟨ρ, F, L0, w, h⟩ := h
  simp only [wpE] at h
  refine ⟨ρ, F, L0, w, wpE_mono hC a ρ (fun x ρ1 h v H1 F1 Fv w1 r1 g1 => ?_) (fun ex ρ1 h => h.weak hl) h⟩
  have r1' := r1.rp w1
  have w1' := w1.drop0
  have g1' : Go (nmE a) H F H1 F1 := g1.sub fun b hb => by simp [hb]
  refine ⟨ρ1, F1, L0, w1', wpE_mono hC b ρ1 (fun y ρ2 h u H2 F2 Fu w2 r2 g2 => ?_) (fun ex ρ1 h => h.go g1') h⟩
  have r2' := r2.rp w2
  have w2' := w2.drop0
  have g2' : Go (nmE b) H1 F1 H2 F2 := g2.sub fun b hb => by simp [hb]
  have r1'' : Rp X.K H2 (Lo F2 L0) 1 x v := Rp.mono x _ 1 v (by split <;> omega) (r1'.pass g2' w1' (by
    by_cases hn : nmE b = true
    · exact .inl hn
    · exact .inr (by rw [if_neg hn])))
  exact ⟨Lo F2 L0, x, y, r1'', r2', app_mono (fun z hz => fin w2' (g1'.trans g2' (nm := nmE (.bin o a b)) (by simp [nmE])) id hz) h⟩
theorem c_neg {pos : Pos} (ha : PE X e1 (tE Pr T n X a 9 st k1 s1 W)) : PE X (.UnaryOp .USub e1 pos) (tE Pr T n X (.neg a) m st 9 s1 W) := by
  refine PE.imp (L2.pe_un un_negT ha) fun σ H Q h => ?_
  obtain ⟨ρ, F, L0, w, h⟩ := h
  simp only [wpE] at h
  refine ⟨ρ, F, L0, w, wpE_mono hC a ρ (fun x ρ1 h v H1 F1 Fv w1 r1 g1 => ?_) (fun ex ρ1 h => h) h⟩
  have g1' : Go (nmE a) H F H1 F1 := g1.sub fun b hb => by simp [hb]
  exact ⟨Lo F1 L0, 9, x, r1.rp w1, app_mono (fun z hz => fin w1.drop0 g1' (by simp [nmE]) hz) h⟩
theorem c_cmp {o : Cop} {pos : Pos} (hu : X.A.units + 65 < cLine) (hm : behindInMarks (copO o) e2 = false) (ha : PE X e1 (tE Pr T n X a (if nmE b then 9 else 0) st k1 s1 W)) (hb : PE X e2 (tE Pr T n X b 9 s1 k2 s2 W)) (hl : leS s2 s1 = true) :
    PE X (.Compare e1 [copO o] [e2] pos) (tE Pr T n X (.cmp o a b) m st 9 s2 W) := by
  refine PE.imp (L2.pe_cmpR (op_cmp o hu) ha hb hm) fun σ H Q h => ?_
  obtain ⟨ρ, F, L0, w, h⟩ := h
  simp only [wpE] at h
  refine ⟨ρ, F, L0, w, wpE_mono hC a ρ (fun x ρ1 h v H1 F1 Fv w1 r1 g1 => ?_) (fun ex ρ1 h => h.weak hl) h⟩
  have r1' := r1.rp w1
  have w1' := w1.drop0
  have g1' : Go (nmE a) H F H1 F1 := g1.sub fun b hb => by simp [hb]
  refine ⟨ρ1, F1, L0, w1', wpE_mono hC b ρ1 (fun y ρ2 h u H2 F2 Fu w2 r2 g2 => ?_) (fun ex ρ1 h => h.go g1') h⟩
  have g2' : Go (nmE b) H1 F1 H2 F2 := g2.sub fun b hb => by simp [hb]
  have r1'' : Rp X.K H2 (Lo F2 L0) 9 x v := Rp.mono x _ 9 v (by split <;> omega) (r1'.pass g2' w1' (by
    by_cases hn : nmE b = true
    · exact .inl hn
    · exact .inr (by rw [if_neg hn])))
  exact ⟨Lo F2 L0, 9, x, y, r1'', r2.rp w2, app_mono (fun z hz => NQ.bl (fin (k := 9) w2.drop0 (g1'.trans g2' (nm := nmE (.cmp o a b)) (by simp [nmE])) id hz)) h⟩
theorem c_cmpT {o : Cop} {pos : Pos} (hu : X.A.units + 65 < cLine) (hm : behindInMarks (copO o) e2 = false) (ha : PE X e1 (tE Pr T n X a (if nmE b then 9 else 0) st k1 s1 W)) (hb : PE X e2 (tE Pr T n X b 9 s1 k2 s2 W)) (hl : leS s2 s1 = true) :
    PT X (.Compare e1 [copO o] [e2] pos) (tT Pr T n X (.cmp o a b) st s2 W) := by
  refine PT.imp (L2.pt_cmpR (op_cmp o hu) ha hb hm) fun σ H Q h => ?_
  obtain ⟨ρ, F, L0, w, h⟩ := h
  simp only [wpT] at h
  refine ⟨ρ, F, L0, w, wpE_mono hC a ρ (fun x ρ1 h v H1 F1 Fv w1 r1 g1 => ?_) (fun ex ρ1 h => h.weak hl) h⟩
  have r1' := r1.rp w1
  have w1' := w1.drop0
  have g1' : Go (nmE a) H F H1 F1 := g1.sub fun b hb => by simp [hb]
  refine ⟨ρ1, F1, L0, w1', wpE_mono hC b ρ1 (fun y ρ2 h u H2 F2 Fu w2 r2 g2 => ?_) (fun ex ρ1 h => h.go g1') h⟩
  have g2' : Go (nmE b) H1 F1 H2 F2 := g2.sub fun b hb => by simp [hb]
  have r1'' : Rp X.K H2 (Lo F2 L0) 9 x v := Rp.mono x _ 9 v (by split <;> omega) (r1'.pass g2' w1' (by
    by_cases hn : nmE b = true
    · exact .inl hn
    · exact .inr (by rw [if_neg hn])))
  exact ⟨Lo F2 L0, 9, x, y, r1'', r2.rp w2, app_mono (fun z hz => ⟨z, rfl, hz H2 F2 w2.drop0 ((g1'.trans g2' (nm := nmE (.cmp o a b)) (by simp [nmE])))⟩) h⟩
theorem c_cmp2 {o p : Cop} {e3 : Expr} {k3 : Nat} {pos : Pos} (hu : X.A.units + 65 < cLine) (hm : behindInMarks (copO o) e2 = false) (hm3 : behindInMarks (copO p) e3 = false) (ha : PE X e1 (tE Pr T n X a (if nmE b then 9 else 0) st k1 s1 W)) (hb : PE X e2 (tE Pr T n X b (if nmE c then 9 else 0) s1 k2 s2 W)) (hc : PE X e3 (tE Pr T n X c 9 s2 k3 s3 W))
    (hl : leS s2 s1 = true) (hl2 : leS s3 s2 = true) (hl3 : leS s3 s1 = true) : PE X (.Compare e1 [copO o, copO p] [e2, e3] pos) (tE Pr T n X (.cmp2 o p a b c) m st 9 s3 W) := by
  refine PE.imp (L2.pe_chain (op_cmp o hu) (op_cmp p hu) ha hb hc (hm := by unfold lastMarks; exact hm3)) fun σ H Q h => ?_
  obtain ⟨ρ, F, L0, w, h⟩ := h
  simp only [wpE] at h
  refine ⟨ρ, F, L0, w, wpE_mono hC a ρ (fun x ρ1 h v H1 F1 Fv w1 r1 g1 => ?_) (fun ex ρ1 h => h.weak hl3) h⟩
  have r1' := r1.rp w1
  have w1' := w1.drop0
  have g1' : Go (nmE a) H F H1 F1 := g1.sub fun b hb => by simp [hb]
  refine ⟨ρ1, F1, L0, w1', wpE_mono hC b ρ1 (fun y ρ2 h u H2 F2 Fu w2 r2 g2 => ?_) (fun ex ρ1 h => (h.weak hl2).go g1') h⟩
  have g2' : Go (nmE b) H1 F1 H2 F2 := g2.sub fun b hb => by simp [hb]
  have w2' := w2.drop0
  have r2' := r2.rp w2
  have r1'' : Rp X.K H2 (Lo F2 L0) 9 x v := Rp.mono x _ 9 v (by split <;> omega) (r1'.pass g2' w1' (by
    by_cases hn : nmE b = true
    · exact .inl hn
    · exact .inr (by rw [if_neg hn])))
  refine ⟨Lo F2 L0, 9, x, y, r1'', Rp.mono y _ 9 u (by split <;> omega) r2', app_mono (fun z hz => ⟨z, rfl, ?_⟩) h⟩
  cases z with
  | false =>
    simp only [Bool.false_eq_true, if_false] at hz ⊢
    obtain ⟨F3, sb, w3⟩ := w2'.weak hl2
    exact NQ.bl (fin (k := 9) w3 ((g1'.trans g2' (nm := nmE (.cmp2 o p a b c)) (by simp [nmE]; intros; simp [*])).sub fun b hb => sb.subset hb) id hz)
  | true =>
    simp only [if_true] at hz ⊢
    refine ⟨ρ2, F2, L0, w2', wpE_mono hC c ρ2 (fun z3 ρ3 h u3 H3 F3 Fw w3 r3 g3 => ?_) (fun ex ρ1 h => (h.go g1').go g2') hz⟩
    have g3' : Go (nmE c) H2 F2 H3 F3 := g3.sub fun b hb => by simp [hb]
    have r2'' : Rp X.K H3 (Lo F3 L0) 9 y u := Rp.mono y _ 9 u (by split <;> omega) (r2'.pass g3' w2' (by
      by_cases hn : nmE c = true
      · exact .inl hn
      · exact .inr (by rw [if_neg hn])))
    exact ⟨Lo F3 L0, 9, y, z3, r2'', r3.rp w3, app_mono (fun z hz => NQ.bl (fin (k := 9) w3.drop0 (((g1'.trans g2' (nm := nmE a && nmE b) (by simp)).trans g3' (nm := nmE (.cmp2 o p a b c)) (by simp [nmE]))) id hz)) h⟩
theorem c_idx {pos : Pos} (ha : PE X e1 (tE Pr T n X a (if nmE b then m + 1 else 0) st k1 s1 W)) (hb : PE X e2 (tE Pr T n X b 9 s1 k2 s2 W)) (hl : leS s2 s1 = true) (hs : L2.PlainIx e2) :
    PE X (.Subscript e1 e2 pos) (tE Pr T n X (.idx a b) m st 0 s2 W) := by
  refine PE.imp (L2.pe_ix (ix_tv m) ha hb hs) fun σ H Q h => ?_
  obtain ⟨ρ, F, L0, w, h⟩ := h
  simp only [wpE] at h
  refine ⟨ρ, F, L0, w, wpE_mono hC a ρ (fun x ρ1 h v H1 F1 Fv w1 r1 g1 => ?_) (fun ex ρ1 h => h.weak hl) h⟩
  have r1' := r1.rp w1
  have w1' := w1.drop0
  have g1' : Go (nmE a) H F H1 F1 := g1.sub fun b hb => by simp [hb]
  refine ⟨ρ1, F1, L0, w1', wpE_mono hC b ρ1 (fun y ρ2 h u H2 F2 Fu w2 r2 g2 => ?_) (fun ex ρ1 h => h.go g1') h⟩
  have g2' : Go (nmE b) H1 F1 H2 F2 := g2.sub fun b hb => by simp [hb]
  have r1'' : Rp X.K H2 (Lo F2 L0) (m + 1) x v := Rp.mono x _ (m + 1) v (by split <;> omega) (r1'.pass g2' w1' (by
    by_cases hn : nmE b = true
    · exact .inl hn
    · exact .inr (by rw [if_neg hn])))
  exact ⟨Lo F2 L0, x, y, 9, r1'', r2.rp w2, app_mono (fun z hz w' rw' => fin0 w2.drop0 (g1'.trans g2' (nm := nmE (.idx a b)) (by simp [nmE])) id hz rw') h⟩
end
end TL
end -- TLSndE

section -- TLSndF
/-! TL, part 12: argument lists, displays, built-ins. -/
set_option linter.all false
set_option autoImplicit true
set_option maxRecDepth 100000
namespace TL
open PySem PySem.Spec PyProof.Rows
open L2 (V Hp HO Rd SqL SqT upd upd_same upd_ne Vals RelV VK XK Cx Inv OpR UnR CallR IxR SlR TruR R2 TE TT TA PE PT PW PA PO WX Takes relS)
theorem PA.imp {X : Cx} {e : List Expr} {t t' : TA} (h : PA X e t) (q : ∀ σ H Q, t' σ H Q → t σ H Q) : PA X e t' := ⟨fun pos pins s σ H Q I r => h.run pos pins s σ H Q I (q σ H Q r)⟩
section
variable {K : PySem.W.Frag} {H H1 H' : Hp} {L L' W L0 : Addr → Prop} {m k : Nat} {x : TV} {v : V} {F F' F1 Fv : List Addr} {nm : Bool}
theorem Go.kpw (g : Go nm H F H' F') (hl : ∀ b ∈ F, L b) (mt : ∀ b ∈ F, ∃ o, H b = some o ∧ mutO o = true) (ls : ∀ b, L' b → L b ∨ H b = Option.none) : Kp H L (fun b => nm = false ∧ b ∈ F) H' L' :=
  ⟨fun b o q n => by
    cases h : nm with
    | true => exact g.pure h b o q
    | false => exact g.keep b o q fun z => n ⟨h, z⟩, ls, fun b z => hl b z.2, fun b z o q => by obtain ⟨o', q', m'⟩ := mt b z.2; rw [q] at q'; cases q'; exact m'⟩
theorem RR.keep (h : RR K H L m k x v Fv) (kp : Kp H L W H' L') (hw : ∀ b ∈ Fv, ¬ W b) (hm : (∀ b, ¬ W b) ∨ m = 0) : RR K H' L' m k x v Fv := by
  unfold RR at *
  split at h
  · rename_i e
    rw [if_pos e]
    refine ⟨h.1, ?_⟩
    rcases hm with z | z
    · exact Rp.keep0 (kp.pure z) x m v h.2
    · subst z; exact Rp.keep kp h.2
  · rename_i e
    rw [if_neg e]
    exact Own.keep kp x k v Fv hw h
theorem RR.mt (h : RR K H L m k x v Fv) : ∀ b ∈ Fv, ∃ o, H b = some o ∧ mutO o = true := by
  unfold RR at h
  split at h
  · rw [h.1]; intro b hb; cases hb
  · exact Own.mt x k v Fv h
theorem RR.ls {Fw : List Addr} (h : RR K H (Lo F L0) m k x v Fv) (e : ∀ b, b ∈ Fw ↔ b ∈ F) : RR K H (Lo Fw L0) m k x v Fv := by
  have : Lo Fw L0 = Lo F L0 := by funext b; unfold Lo; rw [e b]
  rw [this]; exact h
/-- argument values -/
def AR (K : PySem.W.Frag) (H : Hp) (L : Addr → Prop) (m : Nat) (σ : L2.St) : List E → List Nat → List TV → List V → List Addr → Prop
  | [], ks, xs, vs, F => ks = [] ∧ xs = [] ∧ vs = [] ∧ F = []
  | a :: as, ks, xs, vs, F => ∃ k ks' x xs' v vs' F1 F2, ks = k :: ks' ∧ xs = x :: xs' ∧ vs = v :: vs' ∧ F = F1 ++ F2 ∧
      (match isIo a with | some i => F1 = [] ∧ σ[i]? = some (some v) | none => RR K H L m k x v F1) ∧ AR K H L m σ as ks' xs' vs' F2
end
section
variable {T : Tab} {Pr : Prog} {n : Nat} {X : Cx} {W : WX} {m k k1 k2 : Nat} {ks : List Nat} {st st' s1 s2 s3 : List Nat} {e e1 e2 : Expr} {es : List Expr} {a b c : E} {as : List E}
def vsK (X : Cx) (nm : Bool) (m : Nat) (as : List E) (ks : List Nat) (L0 : Addr → Prop) (st' : List Nat) (σ : L2.St) (H : Hp) (F : List Addr) (Q : List V → Hp → Prop) : List TV → Env → Prop := fun xs ρ' =>
  ∀ vs H' F' Fv, WO X.K H' L0 st' ρ' σ F' Fv → AR X.K H' (Lo (F' ++ Fv) L0) m σ as ks xs vs Fv → Go nm H F H' (F' ++ Fv) → Q vs H'
def tEs (Pr : Prog) (T : Tab) (n : Nat) (X : Cx) (as : List E) (m : Nat) (st : List Nat) (ks : List Nat) (st' : List Nat) (W : WX) : TA := fun σ H Q => ∃ ρ F L0, WO X.K H L0 st ρ σ F [] ∧
  wpEs (Pr.call n) (GG Pr) as ρ (vsK X (nmEs as) m as ks L0 st' σ H F Q) (xK T X W L0 st' σ H F)
theorem xK.push {Fv : List Addr} {e : Xc} {ρ : Env} (h : xK T X W L0 st σ H F e ρ) (nd : Fv.Nodup) (dj : ∀ b ∈ Fv, ¬ L0 b) : xK T X W (Lo Fv L0) st σ H F e ρ := fun cls d H' F' w xr g =>
  h cls d H' F' (w.pop nd dj).drop0 (xr.less fun b z => by unfold Lo at *; grind) g
theorem c_nil : PA X [] (tEs Pr T n X [] m st [] st W) := by
  refine PA.imp L2.pa_nil fun σ H Q h => ?_
  obtain ⟨ρ, F, L0, w, h⟩ := h
  simp only [wpEs] at h
  exact h [] H F [] w ⟨rfl, rfl, rfl, rfl⟩ (Go.refl _ _ _ fun b hb => by simpa using hb)
variable (hC : MonoC (Pr.call n))
include hC
theorem c_cons (hi : isIo a = none) (ha : PE X e (tE Pr T n X a m st k s1 W)) (hr : PA X es (tEs Pr T n X as m s1 ks s2 W)) (hl : leS s2 s1 = true) (hm : m = 0 ∨ nmEs as = true) (hs : ns e = true) :
    PA X (e :: es) (tEs Pr T n X (a :: as) m st (k :: ks) s2 W) := by
  refine PA.imp (L2.pa_cons ha hr (star_ns (env := fun X => X.env) hs)) fun σ H Q h => ?_
  obtain ⟨ρ, F, L0, w, h⟩ := h
  simp only [wpEs] at h
  refine ⟨ρ, F, L0, w, wpE_mono hC a ρ (fun x ρ1 h v H1 F1 Fv w1 r1 g1 => ?_) (fun ex ρ1 h => h.weak hl) h⟩
  have g1' : Go (nmE a) H F H1 F1 := g1.sub fun b hb => by simp [hb]
  have n1 := List.nodup_append.mp w1.nd
  have dj1 : ∀ b ∈ Fv, ¬ L0 b := fun b hb => w1.dj b (by simp [hb])
  refine ⟨ρ1, F1, Lo Fv L0, w1.push r1.mt, wpEs_mono hC as ρ1 (fun xs ρ2 h vs H2 F2 Fw w2 r2 g2 => ?_) (fun ex ρ2 h => xK.push (h.go g1') n1.2.1 dj1) h⟩
  have g2' : Go (nmEs as) H1 F1 H2 F2 := g2.sub fun b hb => by simp [hb]
  have kp : Kp H1 (Lo (F1 ++ Fv) L0) (fun b => nmEs as = false ∧ b ∈ F1) H2 (Lo (F2 ++ Fw ++ Fv) L0) := g2.kpw (fun b hb => .inl (by simp [hb])) w1.mt fun b z => by
    rcases z with z | z
    · rcases List.mem_append.mp z with z | z
      · exact (g2.fresh b z).imp (fun q => .inl (by simp [q])) id
      · exact .inl (.inl (by simp [z]))
    · exact .inl (.inr z)
  refine h (v :: vs) H2 F2 (Fv ++ Fw) (w2.pop n1.2.1 dj1) ⟨k, ks, x, xs, v, vs, Fv, Fw, rfl, rfl, rfl, rfl, ?_, ?_⟩ ?_
  · rw [hi]
    refine RR.ls (F := F2 ++ Fw ++ Fv) (r1.keep kp (fun b hb z => absurd rfl (n1.2.2 b z.2 b hb)) ?_) fun b => by simp only [List.mem_append]; grind
    rcases hm with z | z
    · exact .inr z
    · exact .inl fun b q => by rw [z] at q; cases q.1
  · have e : Lo (F2 ++ Fw) (Lo Fv L0) = Lo (F2 ++ (Fv ++ Fw)) L0 := by funext b; unfold Lo; simp only [List.mem_append, eq_iff_iff]; grind
    rw [← e]; exact r2
  · have g := g1'.trans g2 (nm := nmEs (a :: as)) (by simp [nmEs])
    refine { g with fresh := fun b hb => ?_ }
    simp only [List.mem_append] at hb
    rcases hb with z | z | z
    · exact g.fresh b (by simp [z])
    · exact g1.fresh b (by simp [z])
    · exact g.fresh b (by simp [z])
theorem c_consIo {i : Nat} (ha : PE X e (L2.tVar i)) (hr : PA X es (tEs Pr T n X as m st ks s2 W)) (hs : ns e = true) :
    PA X (e :: es) (tEs Pr T n X (.io i :: as) m st (0 :: ks) s2 W) := by
  refine PA.imp (L2.pa_cons ha hr (star_ns (env := fun X => X.env) hs)) fun σ H Q h => ?_
  obtain ⟨ρ, F, L0, w, h⟩ := h
  simp only [wpEs, wpE] at h
  obtain ⟨x, ex, h⟩ := getV_some h
  have hi : i < ρ.length := (List.getElem?_eq_some_iff.mp ex).1
  obtain ⟨d, o, s, G1, Gi, G2, e1, e2, e3, e4, sl, _⟩ := ER.at i hi w.er
  rw [ex] at e2
  cases e2
  obtain ⟨v, es, ow⟩ := sl
  subst es
  refine ⟨v, e3, ρ, F, L0, w, wpEs_mono hC as ρ (fun xs ρ2 h vs H2 F2 Fw w2 r2 g2 => ?_) (fun ex ρ2 h => h) h⟩
  refine h (v :: vs) H2 F2 Fw w2 ⟨0, ks, _, xs, v, vs, [], Fw, rfl, rfl, rfl, rfl, ?_, r2⟩ (g2.weaken fun z => by simp [nmEs, nmE] at z)
  exact ⟨rfl, e3⟩
omit hC
/-- all of them shared -/
theorem AR.rps {K : PySem.W.Frag} {H : Hp} {L0 : Addr → Prop} {st : List Nat} {ρ : Env} {σ : L2.St} {F : List Addr} {m : Nat} : ∀ {as : List E} {ks : List Nat} {xs : List TV} {vs : List V} {Fv Fw : List Addr}, noIo as = true → (∀ b ∈ Fv, b ∈ Fw) → Fv.Nodup →
    AR K H (Lo (F ++ Fw) L0) m σ as ks xs vs Fv → WO K H L0 st ρ σ F Fw → Rps K H (Lo F L0) m xs vs
  | [], _, _, _, _, _, _, _, _, h, w => by obtain ⟨_, rfl, rfl, _⟩ := h; simp only [Rps]
  | a :: as, _, _, _, _, Fw, hn, hs, nd, h, w => by
    obtain ⟨k, ks, x, xs, v, vs, F1, F2, rfl, rfl, rfl, rfl, h1, h2⟩ := h
    simp only [noIo, List.all_cons, Bool.and_eq_true, Option.isNone_iff_eq_none] at hn
    rw [hn.1] at h1
    have n := List.nodup_append.mp nd
    have h1' : RR K H (Lo (F ++ F1) L0) m k x v F1 := by
      refine RR.keep (W := fun _ => False) h1 (Kp.same fun b z => .inl ?_) (fun _ _ z => z) (.inl fun _ z => z)
      unfold Lo at *
      simp only [List.mem_append] at *
      rcases z with (z | z) | z
      · exact .inl (.inl z)
      · exact .inl (.inr (hs b (.inl z)))
      · exact .inr z
    exact .cons (h1'.rp (w.drop (fun b hb => hs b (by simp [hb])) n.1)) (AR.rps (as := as) (by simpa [noIo] using hn.2) (fun b hb => hs b (by simp [hb])) n.2.1 h2 w)
theorem foldmin_le : ∀ (ks : List Nat) (c : Nat), ks.foldr min c ≤ c ∧ ∀ k ∈ ks, ks.foldr min c ≤ k
  | [], c => ⟨Nat.le_refl _, fun k h => nomatch h⟩
  | a :: r, c => by
    obtain ⟨h1, h2⟩ := foldmin_le r c
    simp only [List.foldr_cons]
    refine ⟨by omega, fun k hk => ?_⟩
    rcases List.mem_cons.mp hk with z | z
    · omega
    · have := h2 k z; omega
theorem Own.shr {K : PySem.W.Frag} {H : Hp} {L L' : Addr → Prop} {x d v F} (h : Own K H L d x v F) (s : ∀ b, L' b → L b) : Own K H L' d x v F := Own.keep (W := fun _ => False) (Kp.same fun b z => .inl (s b z)) x d v F (fun _ _ z => z) h
/-- all of them owned, d deep -/
theorem AR.owns {K : PySem.W.Frag} {H : Hp} {L : Addr → Prop} {σ : L2.St} {d : Nat} : ∀ {as : List E} {ks : List Nat} {xs : List TV} {vs : List V} {Fv : List Addr}, noIo as = true → (∀ k ∈ ks, d ≤ k) → Fv.Nodup → AR K H L 0 σ as ks xs vs Fv →
    ∃ F', F'.Sublist Fv ∧ ∀ L' : Addr → Prop, (∀ b, L' b → L b) → (∀ b ∈ Fv, L' b → b ∈ F') → Owns K H L' d xs vs F'
  | [], _, _, _, _, _, _, _, h => by obtain ⟨_, rfl, rfl, rfl⟩ := h; exact ⟨[], List.Sublist.refl _, fun _ _ _ => by simp only [Owns, and_self]⟩
  | a :: as, _, _, _, _, hn, hd, nd, h => by
    obtain ⟨k, ks, x, xs, v, vs, F1, F2, rfl, rfl, rfl, rfl, h1, h2⟩ := h
    simp only [noIo, List.all_cons, Bool.and_eq_true, Option.isNone_iff_eq_none] at hn
    rw [hn.1] at h1
    obtain ⟨n1, n2, n3⟩ := List.nodup_append.mp nd
    have ho : Own K H L k x v F1 := by
      have h1' : RR K H L 0 k x v F1 := h1
      unfold RR at h1'
      split at h1'
      · rename_i e; subst e; obtain ⟨rfl, h2'⟩ := h1'; exact Rp.own x v h2'
      · exact h1'
    obtain ⟨F1', s1, c1⟩ := Own.weak x k d v F1 (hd k (by simp)) n1 ho
    obtain ⟨F2', s2, c2⟩ := AR.owns (as := as) (by simpa [noIo] using hn.2) (fun k hk => hd k (by simp [hk])) n2 h2
    refine ⟨F1' ++ F2', s1.append s2, fun L' hl hf => ?_⟩
    simp only [Owns]
    refine ⟨v, vs, F1', F2', rfl, rfl, c1 L' hl fun b hb z => ?_, c2 L' hl fun b hb z => ?_⟩
    · rcases List.mem_append.mp (hf b (by simp [hb]) z) with q | q
      · exact q
      · exact absurd rfl (n3 b hb b (s2.subset q))
    · rcases List.mem_append.mp (hf b (by simp [hb]) z) with q | q
      · exact absurd rfl (n3 b (s1.subset q) b hb)
      · exact q
theorem AR.len {K : PySem.W.Frag} {H : Hp} {L : Addr → Prop} {σ : L2.St} {m : Nat} : ∀ {as : List E} {ks : List Nat} {xs : List TV} {vs : List V} {Fv : List Addr}, AR K H L m σ as ks xs vs Fv → vs.length = xs.length ∧ as.length = xs.length
  | [], _, _, _, _, h => by obtain ⟨_, rfl, rfl, rfl⟩ := h; exact ⟨rfl, rfl⟩
  | a :: as, _, _, _, _, h => by
    obtain ⟨k, ks, x, xs, v, vs, F1, F2, rfl, rfl, rfl, rfl, h1, h2⟩ := h
    have := h2.len
    exact ⟨by simp [this.1], by simp [this.2]⟩
include hC
theorem c_pure {k' M' : Nat} {c : E} (hc : nmE c = nmEs as) {f : List TV → An TV} (hw : ∀ ρ K XX, wpE (Pr.call n) (GG Pr) c ρ K XX = wpEs (Pr.call n) (GG Pr) as ρ (fun xs ρ1 => app (f xs) fun z => K z ρ1) XX) {M : Nat} (hn : noIo as = true)
    (he : PE X e (L2.tCB (fun vs H Q => ∃ L xs, Rps X.K H L M xs vs ∧ app (f xs) fun z => NQ X.K H L k' z Q) (tEs Pr T n X as M' st ks s1 W))) (hM : M' ≤ M) :
    PE X e (tE Pr T n X c m st k' s1 W) := by
  refine PE.imp he fun σ H Q h => ?_
  obtain ⟨ρ, F, L0, w, h⟩ := h
  rw [hw] at h
  refine ⟨ρ, F, L0, w, wpEs_mono hC as ρ (fun xs ρ1 h vs H1 F1 Fv w1 r1 g1 => ?_) (fun ex ρ1 h => h) h⟩
  have g1' : Go (nmEs as) H F H1 F1 := g1.sub fun b hb => by simp [hb]
  exact ⟨Lo F1 L0, xs, Rps.mono xs _ M vs hM (AR.rps hn (fun _ h => h) (List.nodup_append.mp w1.nd).2.1 r1 w1), app_mono (fun z hz => fin w1.drop0 g1' (by rw [hc]; exact id) hz) h⟩
theorem c_bi {B : Bi} {x : Str} {p pos : Pos} (hg : L2.Gl X x) (hx : x = (biN B : Str)) (hm : X.mg (biN B) = none) (hc : X.calm = true) (hn : noIo as = true)
    (ha : PA X (e :: es) (tEs Pr T n X as (if nmEs as then biM B else 0) st ks s1 W)) (hs : (e :: es).all ns = true) :
    PE X (.Call (.Name x p) (e :: es) [] pos) (tE Pr T n X (.bi B as) m st 1 s1 W) := by
  subst hx
  simp only [List.all_cons, Bool.and_eq_true] at hs
  have hR : L2.CallR X (biV B) (rBi X.K B) := cr_bi B hc
  refine c_pure hC (ks := ks) (by simp [nmE]) (f := biF B) (M := biM B) (M' := if nmEs as then biM B else 0) (fun ρ K XX => by simp only [wpE]) hn ?_ (by split <;> omega)
  unfold biV at hR
  cases hb : biTy B with
  | true =>
    rw [hb, if_pos rfl] at hR
    exact L2.pe_callTy (T := biN B) hR hg hm (by cases B <;> first | (exact absurd hb (by decide)) | decide +kernel) ha (by cases B <;> decide) (by cases B <;> decide) (star_ns (env := fun X => X.env) hs.1) (any_ns hs.2)
  | false =>
    rw [hb, if_neg (by decide)] at hR
    exact L2.pe_callB (id := biN B) hR hg hm (by cases B <;> first | (exact absurd hb (by decide)) | decide +kernel) ha (by cases B <;> decide) (by cases B <;> decide) (star_ns (env := fun X => X.env) hs.1) (any_ns hs.2)
omit hC in
theorem lay_new {H H1 : Hp} {L0 : Addr → Prop} {ρ : Env} {σ : L2.St} {F F1 Fv : List Addr} {Fw : List Addr → List Addr} {Q : Prop} {ks : List Nat} {xs : List TV} {vs : List V} {d : Nat} {o : HO} {p : Addr} {nm n1 : Bool} (hn : noIo as = true) (hd : ∀ k ∈ ks, d ≤ k) (w1 : WO X.K H1 L0 st ρ σ F1 Fv) (r1 : AR X.K H1 (Lo (F1 ++ Fv) L0) 0 σ as ks xs vs Fv)
    (g1 : Go n1 H F H1 (F1 ++ Fv)) (hnm : nm = true → n1 = true) (np : H1 p = none) (hl : ∀ F', Fw F' = F' ∨ Fw F' = p :: F')
    (h : ∀ F', Owns X.K (upd H1 p o) (Lo (F1 ++ Fw F') L0) d xs vs F' → WO X.K (upd H1 p o) L0 st ρ σ F1 (Fw F') → Go nm H F (upd H1 p o) (F1 ++ Fw F') → Q) : Q := by
  have nd := List.nodup_append.mp w1.nd
  obtain ⟨F', sb, c⟩ := AR.owns (d := d) hn hd nd.2.1 r1
  have ndF : F'.Nodup := nd.2.1.sublist sb
  have mt : ∀ b ∈ F', ∃ o, H1 b = some o ∧ mutO o = true := Owns.mt xs d vs F' (c (fun _ => False) (fun _ z => z.elim) fun _ _ z => z.elim)
  have pn : p ∉ F' := fun z => by obtain ⟨o, e, _⟩ := mt p z; rw [np] at e; cases e
  have hm : ∀ b, b ∈ Fw F' → b = p ∨ b ∈ F' := fun b z => by
    rcases hl F' with e | e <;> rw [e] at z
    · exact .inr z
    · exact List.mem_cons.mp z
  have dj : ∀ b ∈ F', ¬ L0 b := fun b hb => w1.dj b (by simp [sb.subset hb])
  have kp : ∀ b u, H1 b = some u → upd H1 p o b = some u := fun b u q => by rw [upd_ne (L2.ne_of_none q np)]; exact q
  have w2 : WO X.K (upd H1 p o) L0 st ρ σ F1 (F' ++ [p]) := (((w1.drop (fun b hb => sb.subset hb) ndF).push mt).go kp (by simp) (fun b hb => by rw [List.mem_singleton.mp hb]; exact np)).pop ndF dj
  refine h F' ?_ (w2.drop (fun b hb => ?_) ?_) ?_
  · refine Owns.keep (W := fun _ => False) (L := Lo (F1 ++ F') L0) ⟨fun b u q _ => kp b u q, fun b z => ?_, fun _ z => z.elim, fun _ z => z.elim⟩ xs d vs F' (fun _ _ z => z) (c _ (fun b z => ?_) fun b hb z => ?_)
    · unfold Lo at *
      simp only [List.mem_append] at *
      rcases z with (z | z) | z
      · exact .inl (.inl (.inl z))
      · rcases hm b z with e | e
        · exact .inr (e ▸ np)
        · exact .inl (.inl (.inr e))
      · exact .inl (.inr z)
    · unfold Lo at *
      simp only [List.mem_append] at *
      exact z.imp (fun y => y.imp id fun q => sb.subset q) id
    · unfold Lo at z
      simp only [List.mem_append] at z
      rcases z with (z | z) | z
      · exact absurd rfl (nd.2.2 b z b hb)
      · exact z
      · exact absurd z (w1.dj b (by simp [hb]))
  · rcases hm b hb with e | e
    · simp [e]
    · simp [e]
  · rcases hl F' with e | e <;> rw [e]
    · exact ndF
    · exact List.nodup_cons.mpr ⟨pn, ndF⟩
  · refine (g1.sub (G := F1 ++ F') fun b hb => ?_).trans (Go.new (nm := true) np fun b hb => ?_) (fun e => ⟨hnm e, rfl⟩)
    · simp only [List.mem_append] at *
      exact hb.imp id fun q => sb.subset q
    · simp only [List.mem_append] at *
      rcases hb with z | z
      · exact .inl (.inl z)
      · rcases hm b z with e | e
        · exact .inr e
        · exact .inl (.inr e)
theorem c_tup {x1 : _} {pos : Pos} (hn : noIo as = true) (ha : PA X es (tEs Pr T n X as 0 st ks s1 W)) : PE X (.Tuple es x1 pos) (tE Pr T n X (.tup as) m st (1 + ks.foldr min 8) s1 W) := by
  refine PE.imp (L2.pe_tup ha) fun σ H Q h => ?_
  obtain ⟨ρ, F, L0, w, h⟩ := h
  simp only [wpE] at h
  refine ⟨ρ, F, L0, w, wpEs_mono hC as ρ (fun xs ρ1 h vs H1 F1 Fv w1 r1 g1 => ?_) (fun ex ρ1 h => h) h⟩
  obtain ⟨hl, h⟩ := h
  refine ⟨by rw [r1.len.1]; exact Nat.le_trans hl line_le, fun p np => ?_⟩
  refine lay_new (Fw := fun F => F) hn (foldmin_le ks 8).2 w1 r1 g1 (nm := nmE (.tup as)) (by simp [nmE]) np (fun _ => .inl rfl) fun F' ow w2 g2 => h (.ref p) _ F1 F' w2 (RR.of ?_) g2
  simp only [Own]
  exact ⟨p, vs, rfl, .inl (.inl upd_same), hl, by rw [Nat.add_sub_cancel_left]; exact ow⟩
theorem c_lst {pos : Pos} (hn : noIo as = true) (ha : PA X es (tEs Pr T n X as 0 st ks s1 W)) : PE X (.List es pos) (tE Pr T n X (.lst as) m st (1 + ks.foldr min 8) s1 W) := by
  refine PE.imp (L2.pe_lst ha) fun σ H Q h => ?_
  obtain ⟨ρ, F, L0, w, h⟩ := h
  simp only [wpE] at h
  refine ⟨ρ, F, L0, w, wpEs_mono hC as ρ (fun xs ρ1 h vs H1 F1 Fv w1 r1 g1 => ?_) (fun ex ρ1 h => h) h⟩
  obtain ⟨hl, h⟩ := h
  refine ⟨by rw [r1.len.1]; exact Nat.le_trans hl line_le, fun p np => ?_⟩
  refine lay_new (Fw := fun F => p :: F) hn (foldmin_le ks 8).2 w1 r1 g1 (nm := nmE (.lst as)) (by simp [nmE]) np (fun _ => .inr rfl) fun F' ow w2 g2 => h (.ref p) _ F1 (p :: F') w2 (RR.of ?_) g2
  rw [Nat.add_comm]
  simp only [Own]
  exact ⟨p, vs, F', rfl, upd_same, rfl, hl, ow⟩
end
end TL
end -- TLSndF

section -- TLSndG
/-! TL, part 13: calls. -/
set_option linter.all false
set_option autoImplicit true
set_option maxRecDepth 100000
namespace TL
open PySem PySem.Spec PyProof.Rows
open L2 (V Hp HO Rd SqL SqT upd upd_same upd_ne Vals RelV VK XK Cx Inv OpR UnR CallR IxR SlR TruR R2 TE TT TA PE PT PW PA PO WX Takes relS)
section
variable {K : PySem.W.Frag} {H H' : Hp} {L L' L0 : Addr → Prop} {σ : L2.St}
/-- slots taken out: what they own, what is left; what comes back -/
def Pcs (K : PySem.W.Frag) (H : Hp) (L : Addr → Prop) (ρ : Env) (σ : L2.St) : List (Nat × Nat) → List Addr → Prop
  | [], F => F = []
  | (i, d) :: r, F => ∃ x v F1 F2, ρ[i]? = some (some x) ∧ σ[i]? = some (some v) ∧ F = F1 ++ F2 ∧ Own K H L d x v F1 ∧ Pcs K H L ρ σ r F2
def Bck (K : PySem.W.Frag) (H : Hp) (L : Addr → Prop) (σ : L2.St) : List (Nat × Nat) → List TV → List Addr → Prop
  | [], os, F => os = [] ∧ F = []
  | (i, d) :: r, os, F => ∃ o os' v F1 F2, os = o :: os' ∧ σ[i]? = some (some v) ∧ F = F1 ++ F2 ∧ Own K H L d o v F1 ∧ Bck K H L σ r os' F2
def setO (ρ : Env) : List (Nat × Nat) → List TV → Env
  | (i, _) :: r, o :: os => setO (ρ.set i (some o)) r os
  | _, _ => ρ
theorem setO_comm {i : Nat} {z : Option TV} : ∀ {l : List (Nat × Nat)} {os : List TV} {ρ : Env}, i ∉ l.map (·.1) → (setO ρ l os).set i z = setO (ρ.set i z) l os
  | [], _, _, _ => rfl
  | (j, d) :: r, [], _, _ => rfl
  | (j, d) :: r, o :: os, ρ, h => by
    simp only [setO]
    simp only [List.map_cons, List.mem_cons, not_or] at h
    rw [setO_comm h.2, List.set_comm _ _ (Ne.symm h.1)]
theorem setD_comm {i z : Nat} : ∀ {l : List (Nat × Nat)} {st : List Nat}, i ∉ l.map (·.1) → (setD st l).set i z = setD (st.set i z) l
  | [], _, _ => rfl
  | (j, d) :: r, st, h => by
    simp only [setD]
    simp only [List.map_cons, List.mem_cons, not_or] at h
    rw [setD_comm h.2, List.set_comm _ _ (Ne.symm h.1)]
theorem Pcs.set {i : Nat} {y : Option TV} {z : Option V} {ρ : Env} {σ : L2.St} : ∀ {l : List (Nat × Nat)} {F : List Addr}, i ∉ l.map (·.1) → Pcs K H L (ρ.set i y) (σ.set i z) l F → Pcs K H L ρ σ l F
  | [], _, _, h => h
  | (j, d) :: r, F, hi, h => by
    simp only [List.map_cons, List.mem_cons, not_or] at hi
    obtain ⟨x, v, F1, F2, e1, e2, e3, o, h⟩ := h
    rw [List.getElem?_set_ne hi.1] at e1
    rw [List.getElem?_set_ne hi.1] at e2
    exact ⟨x, v, F1, F2, e1, e2, e3, o, Pcs.set hi.2 h⟩
theorem Bck.set {i : Nat} {z : Option V} {σ : L2.St} : ∀ {l : List (Nat × Nat)} {os : List TV} {F : List Addr}, i ∉ l.map (·.1) → Bck K H L σ l os F → Bck K H L (σ.set i z) l os F
  | [], _, _, _, h => h
  | (j, d) :: r, os, F, hi, h => by
    simp only [List.map_cons, List.mem_cons, not_or] at hi
    obtain ⟨o, os', v, F1, F2, e1, e2, e3, ow, h⟩ := h
    exact ⟨o, os', v, F1, F2, e1, by rw [List.getElem?_set_ne hi.1]; exact e2, e3, ow, Bck.set hi.2 h⟩
theorem Pcs.shr {L' : Addr → Prop} {ρ : Env} (s : ∀ b, L' b → L b) : ∀ {l : List (Nat × Nat)} {F : List Addr}, Pcs K H L ρ σ l F → Pcs K H L' ρ σ l F
  | [], _, h => h
  | (j, d) :: r, F, h => by
    obtain ⟨x, v, F1, F2, e1, e2, e3, o, h⟩ := h
    exact ⟨x, v, F1, F2, e1, e2, e3, o.shr s, Pcs.shr s h⟩
theorem nodupB_iff : ∀ {l : List Nat}, nodupB l = true → l.Nodup
  | [], _ => List.nodup_nil
  | a :: r, h => by
    simp only [nodupB, Bool.and_eq_true, Bool.not_eq_true', List.contains_eq_mem, decide_eq_false_iff_not] at h
    exact List.nodup_cons.mpr ⟨h.1, nodupB_iff h.2⟩
theorem take_er : ∀ (l : List (Nat × Nat)) (L : Addr → Prop) (st : List Nat) (ρ : Env) (σ : L2.St) (F : List Addr), (l.map (·.1)).Nodup → F.Nodup → (∀ b ∈ F, L b) → ER K H L st ρ σ F → (∀ p ∈ l, p.2 ≤ st.getD p.1 0 ∧ ∃ x, ρ[p.1]? = some (some x)) →
    ∃ Fa Fr, (∀ b, b ∈ Fa ∨ b ∈ Fr → b ∈ F) ∧ (Fa ++ Fr).Nodup ∧ (∀ L' : Addr → Prop, (∀ b, L' b → L b) → (∀ b ∈ F, L' b → b ∈ Fa ∨ b ∈ Fr) → Pcs K H L' ρ σ l Fa) ∧
      ∀ (H' : Hp) (L1 L' W : Addr → Prop) (os : List TV) (Fo : List Addr), (∀ b, L1 b → L b) → (∀ b ∈ F, L1 b → b ∈ Fa ∨ b ∈ Fr) → Kp H L1 W H' L' → (∀ b ∈ Fr, ¬ W b) → Bck K H' L' σ l os Fo → (Fo ++ Fr).Nodup →
        ∃ F', (∀ b, b ∈ F' ↔ b ∈ Fo ∨ b ∈ Fr) ∧ F'.Nodup ∧ ER K H' L' (setD st l) (setO ρ l os) σ F'
  | [], L, st, ρ, σ, F, hnd, nd, hL, h, _ => by
    refine ⟨[], F, fun b z => z.elim (fun q => nomatch q) id, by simpa using nd, fun _ _ _ => rfl, fun H' L1 L' W os Fo h1 h2 kp hw bk n => ?_⟩
    obtain ⟨rfl, rfl⟩ := bk
    refine ⟨F, fun b => by simp, nd, ?_⟩
    have h' : ER K H L1 st ρ σ F := ER.keep (W := fun _ => False) (Kp.same fun b z => .inl (h1 b z)) (fun _ _ z => z) h
    exact ER.keep kp hw h'
  | (i, d) :: r, L, st, ρ, σ, F, hnd, nd, hL, h, hp => by
    simp only [List.map_cons, List.nodup_cons] at hnd
    obtain ⟨hd, x, ex⟩ := hp (i, d) (by simp)
    have hi : i < ρ.length := (List.getElem?_eq_some_iff.mp ex).1
    obtain ⟨d0, o, s, G1, Gi, G2, e1, e2, e3, e4, sl, c⟩ := ER.at i hi h
    rw [ex] at e2
    cases e2
    obtain ⟨v, es, ow⟩ := sl
    subst es e4
    have hd0 : d ≤ d0 := by simp only [List.getD_eq_getElem?_getD, e1, Option.getD_some] at hd; exact hd
    have nA := List.nodup_append.mp nd
    have nB := List.nodup_append.mp nA.1
    obtain ⟨Gd, sb, cd⟩ := Own.weak x d0 d v Gi hd0 nB.2.1 ow
    -- what is left
    have nG : (G1 ++ G2).Nodup := List.nodup_append.mpr ⟨nB.1, nA.2.1, fun a ha b hb => nA.2.2 a (by simp [ha]) b hb⟩
    have hR := c H L (fun _ => False) 0 none none [] (Kp.same fun b z => .inl z) (fun _ _ z => z) rfl
    rw [List.append_nil] at hR
    obtain ⟨Fa, Fr, s1, n1, p1, b1⟩ := take_er r L (st.set i 0) (ρ.set i none) (σ.set i none) (G1 ++ G2) hnd.2 nG
      (fun b hb => hL b (by simp only [List.mem_append] at *; grind)) hR (fun p hp' => by
        have hne : i ≠ p.1 := fun z => hnd.1 (z ▸ List.mem_map_of_mem hp')
        obtain ⟨q1, q2⟩ := hp p (by simp [hp'])
        refine ⟨?_, ?_⟩
        · rw [List.getD_eq_getElem?_getD, List.getElem?_set_ne hne, ← List.getD_eq_getElem?_getD]; exact q1
        · rw [List.getElem?_set_ne hne]; exact q2)
    have dis : ∀ b ∈ Gd, b ∉ Fa ∧ b ∉ Fr := fun b hb => by
      have hbi := sb.subset hb
      refine ⟨fun z => ?_, fun z => ?_⟩
      · rcases List.mem_append.mp (s1 b (.inl z)) with q | q
        · exact nB.2.2 b q b hbi rfl
        · exact nA.2.2 b (by simp [hbi]) b q rfl
      · rcases List.mem_append.mp (s1 b (.inr z)) with q | q
        · exact nB.2.2 b q b hbi rfl
        · exact nA.2.2 b (by simp [hbi]) b q rfl
    refine ⟨Gd ++ Fa, Fr, fun b hb => ?_, ?_, fun L' hl hf => ?_, fun H' L1 L' W os Fo hl hf kp hw bk hn => ?_⟩
    · simp only [List.mem_append] at *
      rcases hb with (z | z) | z
      · exact .inl (.inr (sb.subset z))
      · have := s1 b (.inl z); grind
      · have := s1 b (.inr z); grind
    · rw [List.append_assoc]
      exact List.nodup_append.mpr ⟨nB.2.1.sublist sb, n1, fun a ha b hb e => by
        subst e
        rcases List.mem_append.mp hb with z | z
        · exact (dis a ha).1 z
        · exact (dis a ha).2 z⟩
    · refine ⟨x, v, Gd, Fa, ex, e3, rfl, cd L' hl fun b hb z => ?_, Pcs.set (y := none) (z := none) hnd.1 ?_⟩
      · have := hf b (by simp [hb]) z
        simp only [List.mem_append] at this
        rcases this with (q | q) | q
        · exact q
        · rcases List.mem_append.mp (s1 b (.inl q)) with q' | q'
          · exact absurd rfl (nB.2.2 b q' b hb)
          · exact absurd rfl (nA.2.2 b (by simp [hb]) b q')
        · rcases List.mem_append.mp (s1 b (.inr q)) with q' | q'
          · exact absurd rfl (nB.2.2 b q' b hb)
          · exact absurd rfl (nA.2.2 b (by simp [hb]) b q')
      · refine p1 L' hl fun b hb z => ?_
        have := hf b (by simp only [List.mem_append] at *; grind) z
        simp only [List.mem_append] at this
        rcases this with (q | q) | q
        · have hbi := sb.subset q
          rcases List.mem_append.mp hb with q' | q'
          · exact absurd rfl (nB.2.2 b q' b hbi)
          · exact absurd rfl (nA.2.2 b (by simp [hbi]) b q')
        · exact .inl q
        · exact .inr q
    · obtain ⟨o, os', v', Fo1, Fo2, rfl, ev, rfl, oo, hb⟩ := bk
      rw [e3] at ev
      cases ev
      rw [List.append_assoc] at hn
      have hn' := List.nodup_append.mp hn
      obtain ⟨F', mF, nF, er⟩ := b1 H' L1 L' W os' Fo2 hl (fun b hb z => by
        have := hf b (by simp only [List.mem_append] at *; grind) z
        simp only [List.mem_append] at this
        rcases this with (q | q) | q
        · have hbi := sb.subset q
          rcases List.mem_append.mp hb with q' | q'
          · exact absurd rfl (nB.2.2 b q' b hbi)
          · exact absurd rfl (nA.2.2 b (by simp [hbi]) b q')
        · exact .inl q
        · exact .inr q) kp hw (Bck.set hnd.1 hb) hn'.2.1
      have hi2 : i < (setO (ρ.set i none) r os').length := by
        have := er.len
        have hs := List.getElem?_eq_some_iff.mp e3
        rw [← this.2, List.length_set]; exact hs.1
      obtain ⟨d2, o2, s2, A1, Ai, A2, q1, q2, q3, q4, sl2, c2⟩ := ER.at i hi2 er
      rw [List.getElem?_set_self (by have hs := List.getElem?_eq_some_iff.mp e3; exact hs.1)] at q3
      cases q3
      have hAi : Ai = [] := by
        cases o2 with
        | none => exact sl2
        | some y => obtain ⟨_, e, _⟩ := sl2; cases e
      subst hAi q4
      have fin := c2 H' L' (fun _ => False) d (some o) (some v) Fo1 (Kp.same fun b z => .inl z) (fun _ _ z => z) ⟨v, rfl, oo⟩
      rw [setD_comm hnd.1, setO_comm hnd.1, List.set_set, List.set_set, List.set_set, show σ.set i (some v) = σ from by
        have hs := List.getElem?_eq_some_iff.mp e3
        rw [← hs.2]; exact List.set_getElem_self _] at fin
      simp only [List.append_nil] at mF nF
      have nF' := List.nodup_append.mp nF
      refine ⟨A1 ++ Fo1 ++ A2, fun b => ?_, ?_, fin⟩
      · have := mF b
        simp only [List.mem_append] at *
        grind
      · have key : ∀ b ∈ Fo1, b ∉ A1 ∧ b ∉ A2 := fun b hb => by
          have h1 := hn'.2.2 b hb
          refine ⟨fun z => ?_, fun z => ?_⟩
          · exact h1 b (List.mem_append.mpr ((mF b).mp (by simp [z]))) rfl
          · exact h1 b (List.mem_append.mpr ((mF b).mp (by simp [z]))) rfl
        refine List.nodup_append.mpr ⟨List.nodup_append.mpr ⟨nF'.1, hn'.1, fun a ha b hb e => (key b hb).1 (e ▸ ha)⟩, nF'.2.1, fun a ha b hb e => ?_⟩
        subst e
        rcases List.mem_append.mp ha with z | z
        · exact nF'.2.2 a z a hb rfl
        · exact (key a z).2 hb
end
end TL
end -- TLSndG

section -- TLSndH
/-! TL, part 14: calls, joined. -/
set_option linter.all false
set_option autoImplicit true
set_option maxRecDepth 100000
namespace TL
open PySem PySem.Spec PyProof.Rows
open L2 (V Hp HO Rd SqL SqT upd upd_same upd_ne Vals RelV VK XK Cx Inv OpR UnR CallR IxR SlR TruR R2 TE TT TA PE PT PW PA PO WX Takes relS)
/-- the arguments, the changed ones read -/
def FI (ρ : Env) : List E → List TV → List TV → Prop
  | [], xs, ys => xs = [] ∧ ys = []
  | a :: as, xs, ys => ∃ x xs' y ys', xs = x :: xs' ∧ ys = y :: ys' ∧ (match isIo a with | some i => ρ[i]? = some (some y) | none => y = x) ∧ FI ρ as xs' ys'
theorem fillIo_fi : ∀ (as : List E) (xs : List TV) (ρ : Env) (K : List TV → Prop), fillIo as xs ρ K → ∃ ys, FI ρ as xs ys ∧ K ys
  | [], [], ρ, K, h => ⟨[], ⟨rfl, rfl⟩, by simpa only [fillIo] using h⟩
  | [], _ :: _, _, _, q => by simp only [fillIo] at q
  | [a], [], _, _, q => by cases a <;> simp only [fillIo] at q
  | a :: _ :: _, [], _, _, q => by cases a <;> simp only [fillIo] at q
  | a :: as, x :: xs, ρ, K, h => by
    cases a
    case io i =>
      simp only [fillIo] at h
      obtain ⟨y, ey, h⟩ := getV_some h
      obtain ⟨ys, f, h⟩ := fillIo_fi as xs ρ _ h
      exact ⟨y :: ys, ⟨x, xs, y, ys, rfl, rfl, ey, f⟩, h⟩
    all_goals
      simp only [fillIo] at h
      obtain ⟨ys, f, h⟩ := fillIo_fi as xs ρ _ h
      exact ⟨x :: ys, ⟨x, xs, x, ys, rfl, rfl, rfl, f⟩, h⟩
theorem backIo_setO : ∀ (as : List E) (j : Nat) (ds : List Nat) (os : List TV) (ρ : Env), ds.length = (ioPos j as).length → backIo as os ρ = setO ρ (((ioPos j as).map (·.2)).zip ds) os
  | [], j, ds, os, ρ, h => by cases os <;> simp [backIo, ioPos, setO]
  | a :: as, j, ds, os, ρ, h => by
    cases a
    case io i =>
      simp only [ioPos, isIo, List.singleton_append, List.length_cons] at h
      cases ds with
      | nil => simp at h
      | cons d ds =>
        cases os with
        | nil => simp [backIo, ioPos, isIo, setO]
        | cons o os =>
          simp only [backIo, ioPos, isIo, List.singleton_append, List.map_cons, List.zip_cons_cons, setO]
          exact backIo_setO as (j + 1) ds os _ (by simpa using h)
    all_goals
      simp only [ioPos, isIo, List.nil_append] at h
      cases os with
      | nil =>
        simp only [backIo, ioPos, isIo, List.nil_append]
        exact backIo_setO as (j + 1) ds [] _ h
      | cons o os =>
        simp only [backIo, ioPos, isIo, List.nil_append]
        exact backIo_setO as (j + 1) ds (o :: os) _ h
theorem nmEs_io : ∀ (as : List E) (j : Nat), nmEs as = true → ioPos j as = []
  | [], _, _ => rfl
  | a :: as, j, h => by
    simp only [nmEs, Bool.and_eq_true] at h
    have := nmEs_io as (j + 1) h.2
    cases a
    case io i => simp [nmE] at h
    all_goals simp [ioPos, isIo, this]
section
variable {K : PySem.W.Frag} {H H' : Hp} {L L' L0 : Addr → Prop} {σ : L2.St}
theorem AR.drop {st : List Nat} {ρ : Env} {σ : L2.St} {F : List Addr} {m : Nat} : ∀ {as : List E} {ks : List Nat} {xs : List TV} {vs : List V} {Fv Fw : List Addr}, (∀ b ∈ Fv, b ∈ Fw) → Fv.Nodup →
    AR K H (Lo (F ++ Fw) L0) m σ as ks xs vs Fv → WO K H L0 st ρ σ F Fw → AR K H (Lo F L0) m σ as (ks.map fun _ => 0) xs vs []
  | [], _, _, _, _, _, _, _, h, w => by obtain ⟨rfl, rfl, rfl, _⟩ := h; exact ⟨rfl, rfl, rfl, rfl⟩
  | a :: as, _, _, _, _, Fw, hs, nd, h, w => by
    obtain ⟨k, ks, x, xs, v, vs, F1, F2, rfl, rfl, rfl, rfl, h1, h2⟩ := h
    have n := List.nodup_append.mp nd
    refine ⟨0, ks.map fun _ => 0, x, xs, v, vs, [], [], rfl, rfl, rfl, rfl, ?_, AR.drop (fun b hb => hs b (by simp [hb])) n.2.1 h2 w⟩
    cases hi : isIo a with
    | some i => rw [hi] at h1; exact ⟨rfl, h1.2⟩
    | none =>
      rw [hi] at h1
      have h1' : RR K H (Lo (F ++ F1) L0) m k x v F1 := by
        refine RR.keep (W := fun _ => False) h1 (Kp.same fun b z => .inl ?_) (fun _ _ z => z) (.inl fun _ z => z)
        unfold Lo at *
        simp only [List.mem_append] at *
        rcases z with (z | z) | z
        · exact .inl (.inl z)
        · exact .inl (.inr (hs b (.inl z)))
        · exact .inr z
      show RR K H (Lo F L0) m 0 x v []
      unfold RR
      rw [if_pos rfl]
      exact ⟨rfl, h1'.rp (w.drop (fun b hb => hs b (by simp [hb])) n.1)⟩
theorem AR.pos {as : List E} : ∀ {ks : List Nat} {xs : List TV} {vs : List V} {Fv : List Addr} {m : Nat} (j : Nat), AR K H L m σ as ks xs vs Fv → ∀ q ∈ ioPos j as, j ≤ q.1 ∧ ∃ v, vs[q.1 - j]? = some v ∧ σ[q.2]? = some (some v) := by
  induction as with
  | nil => intro ks xs vs Fv m j h q hq; simp [ioPos] at hq
  | cons a as ih =>
    intro ks xs vs Fv m j h q hq
    obtain ⟨k, ks, x, xs, v, vs, F1, F2, rfl, rfl, rfl, rfl, h1, h2⟩ := h
    simp only [ioPos, List.mem_append] at hq
    rcases hq with hq | hq
    · cases hi : isIo a with
      | none => rw [hi] at hq; simp at hq
      | some i =>
        rw [hi] at hq h1
        simp only [List.mem_singleton] at hq
        subst hq
        exact ⟨Nat.le_refl _, v, by simp, h1.2⟩
    · obtain ⟨g1, w, g2, g3⟩ := ih (j + 1) h2 q hq
      refine ⟨by omega, w, ?_, g3⟩
      rw [show q.1 - j = (q.1 - (j + 1)) + 1 by omega]
      simpa using g2
theorem io_bck {vs : List V} : ∀ (ps io : List (Nat × Nat)) (os : List TV) (F : List Addr), ps.map (·.1) = io.map (·.1) → (∀ q ∈ ps, ∃ v, vs[q.1]? = some v ∧ σ[q.2]? = some (some v)) → IoEnd K H L io os vs F → Bck K H L σ ((ps.map (·.2)).zip (io.map (·.2))) os F
  | [], [], os, F, _, _, h => h
  | [], _ :: _, _, _, e, _, _ => by simp at e
  | _ :: _, [], _, _, e, _, _ => by simp at e
  | (j, i) :: ps, (j', d) :: io, os, F, e, hq, h => by
    simp only [List.map_cons, List.cons.injEq] at e
    obtain ⟨rfl, e⟩ := e
    obtain ⟨o, os', v, F1, F2, e1, e2, e3, ow, h⟩ := h
    obtain ⟨w, q1, q2⟩ := hq (j, i) (by simp)
    rw [e2] at q1
    cases q1
    exact ⟨o, os', v, F1, F2, e1, q2, e3, ow, io_bck ps io os' F2 e (fun q z => hq q (by simp [z])) h⟩
theorem mk_er {ρ : Env} : ∀ (as : List E) (j : Nat) (ds : List Nat) (ks : List Nat) (xs ys : List TV) (vs : List V) (Fa : List Addr), ds.length = (ioPos j as).length → AR K H L' 0 σ as ks xs vs [] → (∀ k ∈ ks, k = 0) → (∀ b, L b → L' b) → FI ρ as xs ys →
    Pcs K H L ρ σ (((ioPos j as).map (·.2)).zip ds) Fa → ER K H L (dpA as ds) (ys.map some) (vs.map some) Fa
  | [], j, ds, ks, xs, ys, vs, Fa, hl, h, hk, hs, hf, hp => by
    obtain ⟨rfl, rfl, rfl, _⟩ := h
    obtain ⟨_, rfl⟩ := hf
    simp only [ioPos, List.map_nil, List.zip_nil_left, Pcs] at hp
    subst hp
    simp only [dpA, List.map_nil, ER]
  | a :: as, j, ds, ks, xs, ys, vs, Fa, hl, h, hk, hs, hf, hp => by
    obtain ⟨k, ks, x, xs, v, vs, F1, F2, rfl, rfl, rfl, eF, h1, h2⟩ := h
    obtain ⟨rfl, rfl⟩ : F1 = [] ∧ F2 = [] := by simpa using eF.symm
    obtain ⟨x', xs', y, ys, ex, rfl, hy, hf⟩ := hf
    cases ex
    cases hi : isIo a with
    | some i =>
      rw [hi] at h1 hy
      simp only [ioPos, hi, List.singleton_append, List.length_cons] at hl
      cases ds with
      | nil => simp at hl
      | cons d ds =>
        simp only [ioPos, hi, List.singleton_append, List.map_cons, List.zip_cons_cons] at hp
        obtain ⟨x2, v2, G1, G2, e1, e2, e3, ow, hp⟩ := hp
        simp only at hy
        rw [hy] at e1
        rw [h1.2] at e2
        cases e1
        cases e2
        simp only [dpA, hi, List.headD_cons, List.tail_cons, List.map_cons]
        exact ⟨G1, G2, e3, ⟨v, rfl, ow⟩, mk_er as (j + 1) ds ks xs ys vs G2 (by simpa using hl) h2 (fun k z => hk k (by simp [z])) hs hf hp⟩
    | none =>
      rw [hi] at h1 hy
      simp only at hy
      subst hy
      simp only [ioPos, hi, List.nil_append] at hl hp
      simp only [dpA, hi, List.map_cons]
      refine ⟨[], Fa, rfl, ⟨v, rfl, ?_⟩, mk_er as (j + 1) ds ks xs ys vs Fa hl h2 (fun k z => hk k (by simp [z])) hs hf hp⟩
      have h1' : RR K H L' 0 k y v [] := h1
      rw [hk k (by simp)] at h1'
      unfold RR at h1'
      rw [if_pos rfl] at h1'
      exact Rp.own y v (h1'.2.less hs)
end
theorem ER.lens {K : PySem.W.Frag} {H : Hp} {L : Addr → Prop} {st ρ σ F} (h : ER K H L st ρ σ F) : True := trivial
section
variable {T : Tab} {Pr : Prog} {n : Nat} {X : Cx} {W : WX} {m k k1 k2 : Nat} {ks : List Nat} {st st' s1 s2 s3 : List Nat} {e e1 e2 : Expr} {es : List Expr} {a b c : E} {as : List E} {d : Def} {f : Nat}
theorem FI.bound {ρ : Env} : ∀ {as : List E} {xs ys : List TV} (j : Nat), FI ρ as xs ys → ∀ q ∈ ioPos j as, ∃ x, ρ[q.2]? = some (some x)
  | [], _, _, j, _, q, hq => by simp [ioPos] at hq
  | a :: as, _, _, j, h, q, hq => by
    obtain ⟨x, xs, y, ys, rfl, rfl, h1, h2⟩ := h
    simp only [ioPos, List.mem_append] at hq
    rcases hq with hq | hq
    · cases hi : isIo a with
      | none => rw [hi] at hq; simp at hq
      | some i =>
        rw [hi] at hq h1
        simp only [List.mem_singleton] at hq
        subst hq
        exact ⟨y, h1⟩
    · exact FI.bound (j + 1) h2 q hq
/-- from the caller's world to the callee's and back -/
theorem call_wo {H1 : Hp} {L0 : Addr → Prop} {ρ1 : Env} {σ : L2.St} {F1 Fv : List Addr} {xs ys : List TV} {vs : List V} (hio : ioS d as s1 = some s2) (w1 : WO X.K H1 L0 s1 ρ1 σ F1 Fv) (r1 : AR X.K H1 (Lo (F1 ++ Fv) L0) 0 σ as ks xs vs Fv) (fi : FI ρ1 as xs ys) :
    ∃ Fa Fr, (∀ b, b ∈ Fa ∨ b ∈ Fr → b ∈ F1) ∧ WO X.K H1 (Lo Fr L0) (dps d) (ys.map some) (vs.map some) Fa [] ∧
      ∀ nm H' os Fo Fw, IoEnd X.K H' (Lo (Fo ++ Fw) (Lo Fr L0)) d.io os vs Fo → (Fo ++ Fw).Nodup → (∀ b ∈ Fo ++ Fw, ¬ Lo Fr L0 b) → Go nm H1 Fa H' (Fo ++ Fw) →
        ∃ F', (∀ b, b ∈ F' ↔ b ∈ Fo ∨ b ∈ Fr) ∧ WO X.K H' L0 s2 (backIo as os ρ1) σ F' Fw := by
  unfold ioS at hio
  simp only at hio
  split at hio
  · rename_i c
    cases hio
    simp only [Bool.and_eq_true, beq_iff_eq, List.all_eq_true, decide_eq_true_eq] at c
    obtain ⟨⟨⟨⟨c1, c2⟩, c3⟩, c4⟩, c5⟩ := c
    have hlen : (d.io.map (·.2)).length = (ioPos 0 as).length := by rw [List.length_map]; have := congrArg List.length c1; simpa using this.symm
    have hz : ((((ioPos 0 as).map (·.2)).zip (d.io.map (·.2))).map (·.1)) = (ioPos 0 as).map (·.2) := by rw [List.map_fst_zip]; simp only [List.length_map] at *; omega
    have w0 := w1.drop0
    have nF1 : F1.Nodup := (List.nodup_append.mp w1.nd).1
    have er : ER X.K H1 (Lo F1 L0) s1 ρ1 σ F1 := by have := w0.er; rwa [List.append_nil] at this
    obtain ⟨Fa, Fr, sF, nA, hp, hb⟩ := take_er _ (Lo F1 L0) s1 ρ1 σ F1 (by rw [hz]; exact nodupB_iff c2) nF1 (fun b z => .inl z) er (fun p hp => by
      refine ⟨c3 p hp, ?_⟩
      have : p.1 ∈ (ioPos 0 as).map (·.2) := by rw [← hz]; exact List.mem_map_of_mem hp
      obtain ⟨q, hq, e⟩ := List.mem_map.mp this
      rw [← e]
      exact fi.bound 0 q hq)
    have nA' := List.nodup_append.mp nA
    have dj0 : ∀ b ∈ F1, ¬ L0 b := fun b hb => w0.dj b (by simp [hb])
    have ls : ∀ b, Lo Fa (Lo Fr L0) b → Lo F1 L0 b := fun b z => by
      rcases z with z | z | z
      · exact .inl (sF b (.inl z))
      · exact .inl (sF b (.inr z))
      · exact .inr z
    have lf : ∀ b ∈ F1, Lo Fa (Lo Fr L0) b → b ∈ Fa ∨ b ∈ Fr := fun b hb z => by
      rcases z with z | z | z
      · exact .inl z
      · exact .inr z
      · exact absurd z (dj0 b hb)
    have ar := r1.drop (fun _ h => h) (List.nodup_append.mp w1.nd).2.1 w1
    refine ⟨Fa, Fr, sF, ⟨?_, ?_, fun b hb z => ?_, fun b z => ?_⟩, fun nm H' os Fo Fw io nd' dj' g => ?_⟩
    · rw [c4, List.append_nil]
      exact mk_er as 0 _ _ xs ys vs Fa hlen ar (by simp) ls fi (hp _ ls lf)
    · rw [List.append_nil]; exact nA'.1
    · rw [List.append_nil] at hb
      rcases z with z | z
      · exact nA'.2.2 b hb b z rfl
      · exact dj0 b (sF b (.inl hb)) z
    · rcases z with z | z
      · exact w0.mt b (sF b (.inr z))
      · exact w0.l0 b z
    · have bk := io_bck (σ := σ) (ioPos 0 as) d.io os Fo c1 (fun q hq => by obtain ⟨_, v, q1, q2⟩ := ar.pos 0 q hq; exact ⟨v, by simpa using q1, q2⟩) io
      have kp : Kp H1 (Lo Fa (Lo Fr L0)) (· ∈ Fa) H' (Lo (Fo ++ Fw) (Lo Fr L0)) := ⟨fun b o q z => g.keep b o q z, fun b z => z.elim (fun q => (g.fresh b q).imp .inl id) fun q => .inl (.inr q), fun b z => .inl z, fun b z o q => by obtain ⟨o', q', m'⟩ := w0.mt b (sF b (.inl z)); rw [q] at q'; cases q'; exact m'⟩
      have nd2 := List.nodup_append.mp nd'
      obtain ⟨F', mF, nF, er'⟩ := hb H' _ _ _ os Fo ls lf kp (fun b z q => nA'.2.2 b q b z rfl) bk (List.nodup_append.mpr ⟨nd2.1, nA'.2.1, fun a ha b hb e => dj' a (by simp [ha]) (.inl (e ▸ hb))⟩)
      refine ⟨F', mF, ⟨?_, ?_, fun b hb z => ?_, fun b z => ?_⟩⟩
      · rw [backIo_setO as 0 (d.io.map (·.2)) os ρ1 hlen]
        have e : Lo (Fo ++ Fw) (Lo Fr L0) = Lo (F' ++ Fw) L0 := by
          funext b; unfold Lo; simp only [List.mem_append, eq_iff_iff, mF b]; grind
        rw [← e]
        exact er'
      · refine List.nodup_append.mpr ⟨nF, nd2.2.1, fun a ha b hb e => ?_⟩
        subst e
        rcases (mF a).mp ha with z | z
        · exact nd2.2.2 a z a hb rfl
        · exact dj' a (by simp [hb]) (.inl z)
      · simp only [List.mem_append, mF b] at hb
        rcases hb with (q | q) | q
        · exact dj' b (by simp [q]) (.inr z)
        · exact dj0 b (sF b (.inr q)) z
        · exact dj' b (by simp [q]) (.inr z)
      · obtain ⟨o, q, mo⟩ := w0.l0 b z
        obtain ⟨o', q', m'⟩ := g.there b o q
        exact ⟨o', q', m' mo⟩
  · cases hio
theorem c_call (hC : MonoC (Pr.call n)) (mod : MOk T Pr n X) (hr : L2.Room n X.A) (tk : Takes X W) (hd : Pr.defs[f]? = some d) {x : Str} {p pos : Pos} (hx : T.fn[f]? = some x) (hg : L2.Gl X x ∧ (x == ("__debug__" : Str)) = false ∧ x ≠ ("__name__" : Str))
    (hio : ioS d as s1 = some s2) (hl : leS s2 s1 = true) (ha : PA X (e :: es) (tEs Pr T n X as 0 st ks s1 W)) (hs : (e :: es).all ns = true) :
    PE X (.Call (.Name x p) (e :: es) [] pos) (tE Pr T n X (.call f as) m st d.ret s2 W) := by
  simp only [List.all_cons, Bool.and_eq_true] at hs
  obtain ⟨ad, fd, ps, hm, hk, hpl, hb, F⟩ := mod.fn f d x hd hx
  refine PE.imp (L2.pe_callS F hr hg.1 hm hk hb (fun σ => L2.passAt tk σ) ha hg.2.1 (star_ns (env := fun X => X.env) hs.1) (any_ns hs.2)) fun σ H Q h => ?_
  obtain ⟨ρ, F0, L0, w, h⟩ := h
  simp only [wpE] at h
  refine ⟨ρ, F0, L0, w, wpEs_mono hC as ρ (fun xs ρ1 h vs H1 F1 Fv w1 r1 g1 => ?_) (fun ex ρ1 h => h.weak hl) h⟩
  obtain ⟨ys, fi, h⟩ := fillIo_fi as xs ρ1 _ h
  obtain ⟨Fa, Fr, sF, wc, back⟩ := call_wo hio w1 r1 fi
  have har : as.length = d.ar := by
    unfold ioS at hio
    simp only at hio
    split at hio
    · rename_i c
      simp only [Bool.and_eq_true, beq_iff_eq] at c
      exact c.2
    · cases hio
  have hnm : nmE (.call f as) = true → d.io.isEmpty = true := fun z => by
    simp only [nmE] at z
    have e := nmEs_io as 0 z
    unfold ioS at hio
    simp only at hio
    split at hio
    · rename_i c
      simp only [Bool.and_eq_true, beq_iff_eq] at c
      have := c.1.1.1.1
      rw [e] at this
      cases hh : d.io with
      | nil => rfl
      | cons => rw [hh] at this; simp at this
    · cases hio
  have gadd : ∀ nm n2 H' Fo Fw F', (nm = true → nmEs as = true ∧ n2 = true) → Go n2 H1 Fa H' (Fo ++ Fw) → (∀ b, b ∈ F' ↔ b ∈ Fo ∨ b ∈ Fr) → Go nm H F0 H' (F' ++ Fw) := fun nm n2 H' Fo Fw F' hn g mF => by
    have g' := (g1.sub (G := Fa) fun b hb => by simp [sF b (.inl hb)]).trans g hn
    refine { g' with fresh := fun b hb => ?_ }
    simp only [List.mem_append, mF b] at hb
    rcases hb with (q | q) | q
    · exact g'.fresh b (by simp [q])
    · exact g1.fresh b (by simp [sF b (.inr q)])
    · exact g'.fresh b (by simp [q])
  refine ⟨by rw [r1.len.1, ← r1.len.2]; exact har, ys, Fa, Lo Fr L0, wc, hC f ys (fun r os h v H' Fo Fw io ow nd dj g => ?_) (fun ex os h cls dd H' Fo io nd dj g xr => ?_) h⟩
  · obtain ⟨F', mF, w'⟩ := back _ H' os Fo Fw io nd dj g
    refine h v H' F' Fw w' (RR.of ?_) (gadd _ _ H' Fo Fw F' (fun z => ⟨by simpa [nmE] using z, hnm z⟩) g mF)
    have e : Lo (Fo ++ Fw) (Lo Fr L0) = Lo (F' ++ Fw) L0 := by
      funext b; unfold Lo; simp only [List.mem_append, eq_iff_iff, mF b]; grind
    rw [← e]; exact ow
  · obtain ⟨F', mF, w'⟩ := back false H' os Fo [] (by simpa using io) (by simpa using nd) (by simpa using dj) (by simpa using g)
    have g' := gadd false false H' Fo [] F' (fun z => nomatch z) (by simpa using g) mF
    refine h cls dd H' F' w' (xr.less fun b z => ?_) (by simpa using g')
    unfold Lo at *
    rw [mF b] at z
    grind
end
end TL
end -- TLSndH

section -- TLSndI
/-! TL, part 15: tests, and, or, isinstance, slices, pop. -/
set_option linter.all false
set_option autoImplicit true
set_option maxRecDepth 100000
namespace TL
open PySem PySem.Spec PyProof.Rows
open L2 (V Hp HO Rd SqL SqT upd upd_same upd_ne Vals RelV VK XK Cx Inv OpR UnR CallR IxR SlR TruR R2 TE TT TA PE PT PW PA PO WX Takes relS thn EP TP)
section
variable {X : Cx} {e e1 e2 : Expr} {ta tb : TE} {pos : Pos} {rest : List Expr}
theorem pe_notG (ha : PE X e ta) : PE X (.UnaryOp .Not e pos) (fun σ H Q => ta σ H fun x H1 => ∃ c, L2.TruV X.K x H1 c ∧ Q (.bl (!c)) H1) := by
  refine ⟨fun pins s σ H Q I h => ?_⟩
  refine UnaryOp_ (thn (ha.run pins s σ H _ I h) fun v s1 ⟨x, H1, I1, r1, c, t, q1⟩ => ?_)
  exact not_of (thn (L2.tru_ok pins s1 σ H1 x v (fun b H2 => Q (.bl (!b)) H2) I1 r1 ⟨c, t, q1⟩) fun b s2 ⟨H2, I2, q2⟩ => ⟨.bl (!b), H2, I2, rfl, q2⟩)
theorem pe_andG (ha : PE X e1 ta) (hb : PE X (.BoolOp .And (e2 :: rest) pos) tb) : PE X (.BoolOp .And (e1 :: e2 :: rest) pos) (fun σ H Q => ta σ H fun x H1 => ∃ c, L2.TruV X.K x H1 c ∧ if c = true then tb σ H1 Q else Q x H1) := by
  refine ⟨fun pins s σ H Q I h => ?_⟩
  refine BoolOp_and (thn (ha.run pins s σ H _ I h) fun v s1 ⟨x, H1, I1, r1, c, t, q1⟩ => ?_)
  refine thn (L2.tru_ok pins s1 σ H1 x v (fun b H2 => if b = true then tb σ H2 Q else Q x H2) I1 r1 ⟨c, t, q1⟩) fun b s2 ⟨H2, I2, q2⟩ => ?_
  cases b with
  | true => exact hb.run pins s2 σ H2 Q I2 q2
  | false => exact ⟨x, H2, I2, r1, q2⟩
theorem pe_orG (ha : PE X e1 ta) (hb : PE X (.BoolOp .Or (e2 :: rest) pos) tb) : PE X (.BoolOp .Or (e1 :: e2 :: rest) pos) (fun σ H Q => ta σ H fun x H1 => ∃ c, L2.TruV X.K x H1 c ∧ if c = true then Q x H1 else tb σ H1 Q) := by
  refine ⟨fun pins s σ H Q I h => ?_⟩
  refine BoolOp_or (thn (ha.run pins s σ H _ I h) fun v s1 ⟨x, H1, I1, r1, c, t, q1⟩ => ?_)
  refine thn (L2.tru_ok pins s1 σ H1 x v (fun b H2 => if b = true then Q x H2 else tb σ H2 Q) I1 r1 ⟨c, t, q1⟩) fun b s2 ⟨H2, I2, q2⟩ => ?_
  cases b with
  | false => exact hb.run pins s2 σ H2 Q I2 q2
  | true => exact ⟨x, H2, I2, r1, q2⟩
/-- a[lo::c] -/
theorem pe_step {lo : Option Expr} {c : Expr} {p3 : Pos} {l : Option Int} {k : Int} {r : V → Hp → L2.VK → Prop} (hr : SlS X l k r) (he : PE X e ta) (hl : PO X lo (fun _ H Q => Q l H)) (hc : PE X c (L2.tC (.int k))) :
    PE X (.Subscript e (.Slice lo none (some c) p3) pos) (fun σ H Q => ta σ H fun x H1 => r x H1 Q) := by
  refine ⟨fun pins s σ H Q I h => ?_⟩
  refine Subscript_ (thn (he.run pins s σ H _ I h) fun v s1 ⟨x, H1, I1, r1, q1⟩ => ?_)
  refine wpAny_Slice (thn (hl.run pins s1 σ H1 (fun o H2 => o = l ∧ H2 = H1) I1 ⟨rfl, rfl⟩) fun vl s2 ⟨l', H2, I2, pl, el, e2⟩ => ?_)
  subst el e2
  refine thn (L2.po_none.run pins s2 σ H2 (fun o H3 => o = none ∧ H3 = H2) I2 ⟨rfl, rfl⟩) fun vu s3 ⟨u, H3, I3, pu, eu, e3⟩ => ?_
  subst eu e3
  refine thn ((L2.po_some hc).run pins s3 σ H3 (fun o H4 => o = some k ∧ H4 = H3) I3 ⟨k, rfl, rfl, rfl⟩) fun vs s4 ⟨o, H4, I4, ps, eo, e4⟩ => ?_
  subst eo e4
  have I5 : Inv X pins σ H4 { s4 with heap := s4.heap.push { cls := .type "slice", data := .fields #[vl, vu, vs] } } := I4.kept (t' := s4.toks) fun b ob q => Heap.get?_push_of_some _ q
  obtain ⟨T, id, hT, ht, hg⟩ := hr pins _ σ H4 x v vl vu vs s4.heap.objs.size Q I5 r1 (Heap.IsSliceOf.new ..) pl pu ps q1
  show wpAny (model X.prog X.w) X.A (subscriptTail e (.Slice lo none (some c) p3) v (.ref s4.heap.objs.size)) (EP X pins σ Q) X.xe { s4 with heap := s4.heap.push { cls := .type "slice", data := .fields #[vl, vu, vs] } }
  exact tail_any (ops := [v, .ref s4.heap.objs.size]) ht hT hg (by with_unfolding_all rfl)
end
section
variable {T : Tab} {Pr : Prog} {n : Nat} {X : Cx} {W : WX} {m k k1 k2 : Nat} {ks : List Nat} {st st' s1 s2 s3 : List Nat} {e e1 e2 e3 : Expr} {es : List Expr} {a b c : E} {as : List E} {pos : Pos}
theorem app_tru {K H L m} {x : TV} {v : V} {R : Bool → Prop} (h : Rp K H L m x v) (q : app (truF x) R) : ∃ b, L2.TruV K v H b ∧ R b := by
  unfold app at q
  split at q
  · rename_i c b e; exact ⟨b, tru_tv h e, q.2⟩
  · exact q.elim
theorem RR.weak {K : PySem.W.Frag} {H : Hp} {L0 : Addr → Prop} {st : List Nat} {ρ : Env} {σ : L2.St} {F Fv : List Addr} {x : TV} {v : V} {k' : Nat} (h : RR K H (Lo (F ++ Fv) L0) m k x v Fv) (hk : k' ≤ k) (w : WO K H L0 st ρ σ F Fv) :
    ∃ Fw, Fw.Sublist Fv ∧ WO K H L0 st ρ σ F Fw ∧ RR K H (Lo (F ++ Fw) L0) m k' x v Fw := by
  have nd := List.nodup_append.mp w.nd
  by_cases h0 : k = 0
  · subst h0
    obtain rfl : k' = 0 := by omega
    exact ⟨Fv, List.Sublist.refl _, w, h⟩
  · unfold RR at h
    rw [if_neg h0] at h
    obtain ⟨F', sb, c⟩ := Own.weak x k k' v Fv hk nd.2.1 h
    have w' := w.drop (fun b hb => sb.subset hb) (nd.2.1.sublist sb)
    refine ⟨F', sb, w', RR.of (c _ (fun b z => ?_) fun b hb z => ?_)⟩
    · unfold Lo at *
      simp only [List.mem_append] at *
      exact z.imp (fun y => y.imp id fun q => sb.subset q) id
    · unfold Lo at z
      simp only [List.mem_append] at z
      rcases z with (z | z) | z
      · exact absurd rfl (nd.2.2 b z b hb)
      · exact z
      · exact absurd z (w.dj b (by simp [hb]))
theorem xK.id {L0 : Addr → Prop} {σ : L2.St} {H : Hp} {F : List Addr} {e : Xc} {ρ : Env} (h : xK T X W L0 st σ H F e ρ) : xK T X W L0 st σ H F e ρ := h
/-- a value's reading, weakened -/
theorem vK.weak {nm nm' : Bool} {L0 : Addr → Prop} {σ : L2.St} {H : Hp} {F : List Addr} {Q : VK} {x : TV} {ρ : Env} (h : vK X nm m k L0 st' σ H F Q x ρ) (hl : leS st' s1 = true) (hk : k ≤ k1) (hn : nm = true → nm' = true) : vK X nm' m k1 L0 s1 σ H F Q x ρ := fun v H' F' Fv w r g => by
  obtain ⟨Fw, sb, w1, r1⟩ := r.weak hk w
  obtain ⟨F'', sb2, w2⟩ := w1.weak hl
  refine h v H' F'' Fw w2 (RR.keep (W := fun _ => False) r1 (Kp.same fun b z => .inl ?_) (fun _ _ z => z) (.inl fun _ z => z)) ((g.sub fun b hb => ?_).weaken hn)
  · unfold Lo at *
    simp only [List.mem_append] at *
    exact z.imp (fun y => y.imp (fun q => sb2.subset q) _root_.id) _root_.id
  · simp only [List.mem_append] at *
    exact hb.imp (fun q => sb2.subset q) fun q => sb.subset q
theorem vK.go {nm nm' n1 : Bool} {L0 : Addr → Prop} {σ : L2.St} {H H1 : Hp} {F F1 : List Addr} {Q : VK} {x : TV} {ρ : Env} (h : vK X nm m k L0 st' σ H F Q x ρ) (g : Go n1 H F H1 F1) (hn : nm = true → n1 = true ∧ nm' = true) : vK X nm' m k L0 st' σ H1 F1 Q x ρ := fun v H' F' Fv w r g' =>
  h v H' F' Fv w r (g.trans g' hn)
theorem bK.weak {nm nm' : Bool} {L0 : Addr → Prop} {σ : L2.St} {H : Hp} {F : List Addr} {Q : Bool → Hp → Prop} {x : Bool} {ρ : Env} (h : bK X nm L0 st' σ H F Q x ρ) (hl : leS st' s1 = true) (hn : nm = true → nm' = true) : bK X nm' L0 s1 σ H F Q x ρ := fun H' F' w g => by
  obtain ⟨F'', sb2, w2⟩ := w.weak hl
  exact h H' F'' w2 ((g.sub fun b hb => sb2.subset hb).weaken hn)
theorem bK.go {nm nm' n1 : Bool} {L0 : Addr → Prop} {σ : L2.St} {H H1 : Hp} {F F1 : List Addr} {Q : Bool → Hp → Prop} {x : Bool} {ρ : Env} (h : bK X nm L0 st' σ H F Q x ρ) (g : Go n1 H F H1 F1) (hn : nm = true → n1 = true ∧ nm' = true) : bK X nm' L0 st' σ H1 F1 Q x ρ := fun H' F' w g' =>
  h H' F' w (g.trans g' hn)
variable (hC : MonoC (Pr.call n))
include hC
theorem c_not (ha : PE X e (tE Pr T n X a 9 st k1 s1 W)) : PE X (.UnaryOp .Not e pos) (tE Pr T n X (.not_ a) m st 9 s1 W) := by
  refine PE.imp (pe_notG ha) fun σ H Q h => ?_
  obtain ⟨ρ, F, L0, w, h⟩ := h
  simp only [wpE] at h
  refine ⟨ρ, F, L0, w, wpE_mono hC a ρ (fun x ρ1 h v H1 F1 Fv w1 r1 g1 => ?_) (fun ex ρ1 h => h) h⟩
  have g1' : Go (nmE a) H F H1 F1 := g1.sub fun b hb => by simp [hb]
  obtain ⟨b, t, q⟩ := app_tru (r1.rp w1) h
  exact ⟨b, t, NQ.bl (fin (k := 9) w1.drop0 g1' (by simp [nmE]) q)⟩
theorem c_notT (ha : PT X e (tT Pr T n X a st s1 W)) : PT X (.UnaryOp .Not e pos) (tT Pr T n X (.not_ a) st s1 W) := by
  refine PT.imp (L2.pt_not ha) fun σ H Q h => ?_
  obtain ⟨ρ, F, L0, w, h⟩ := h
  simp only [wpT] at h
  exact ⟨ρ, F, L0, w, wpT_mono hC a ρ (fun x ρ1 h H1 F1 w1 g1 => h H1 F1 w1 (by simpa [nmE] using g1)) (fun ex ρ1 h => h) h⟩
/-- a test that is a value's truth -/
theorem c_val (hw : ∀ ρ K XX, wpT (Pr.call n) (GG Pr) c ρ K XX → wpE (Pr.call n) (GG Pr) c ρ (fun x ρ1 => app (truF x) fun b => K b ρ1) XX) (he : ∀ whole, isTrue e X.env whole = (do let v ← whole; standAt e.pos; holding [v] (truthy v)))
    (ha : PE X e (tE Pr T n X c 9 st k1 s1 W)) : PT X e (tT Pr T n X c st s1 W) := by
  refine PT.imp (L2.pt_truth ha he) fun σ H Q h => ?_
  obtain ⟨ρ, F, L0, w, h⟩ := h
  refine ⟨ρ, F, L0, w, wpE_mono hC c ρ (fun x ρ1 h v H1 F1 Fv w1 r1 g1 => ?_) (fun ex ρ1 h => h) (hw _ _ _ h)⟩
  obtain ⟨b, t, q⟩ := app_tru (r1.rp w1) h
  exact ⟨b, t, q H1 F1 w1.drop0 (g1.sub fun b hb => by simp [hb])⟩
theorem c_ife (hc : PT X e (tT Pr T n X c st s1 W)) {sa sb : List Nat} (ha : PE X e1 (tE Pr T n X a m s1 k1 sa W)) (hb : PE X e2 (tE Pr T n X b m s1 k2 sb W)) (h1 : leS s2 sa = true) (h2 : leS s2 sb = true) (h3 : leS s2 s1 = true) :
    PE X (.IfExp e e1 e2 pos) (tE Pr T n X (.ife c a b) m st (min k1 k2) s2 W) := by
  refine PE.imp (L2.pe_ifExp hc ha hb) fun σ H Q h => ?_
  obtain ⟨ρ, F, L0, w, h⟩ := h
  simp only [wpE] at h
  refine ⟨ρ, F, L0, w, wpT_mono hC c ρ (fun x ρ1 h H1 F1 w1 g1 => ?_) (fun ex ρ1 h => h.weak h3) h⟩
  cases x with
  | true =>
    simp only [if_true] at h ⊢
    exact ⟨ρ1, F1, L0, w1, wpE_mono hC a ρ1 (fun x ρ2 h => (h.weak h1 (Nat.min_le_left _ _) id).go g1 fun z => by simp [nmE] at z; simp [z]) (fun ex ρ2 h => (h.go g1).weak h1) h⟩
  | false =>
    simp only [Bool.false_eq_true, if_false] at h ⊢
    exact ⟨ρ1, F1, L0, w1, wpE_mono hC b ρ1 (fun x ρ2 h => (h.weak h2 (Nat.min_le_right _ _) id).go g1 fun z => by simp [nmE] at z; simp [z]) (fun ex ρ2 h => (h.go g1).weak h2) h⟩
theorem c_cmp2T {o p : Cop} {k3 : Nat} (hu : X.A.units + 65 < cLine) (hm : behindInMarks (copO o) e2 = false) (hm3 : behindInMarks (copO p) e3 = false) (ha : PE X e1 (tE Pr T n X a (if nmE b then 9 else 0) st k1 s1 W)) (hb : PE X e2 (tE Pr T n X b (if nmE c then 9 else 0) s1 k2 s2 W)) (hc : PE X e3 (tE Pr T n X c 9 s2 k3 s3 W))
    (hl : leS s2 s1 = true) (hl2 : leS s3 s2 = true) (hl3 : leS s3 s1 = true) : PT X (.Compare e1 [copO o, copO p] [e2, e3] pos) (tT Pr T n X (.cmp2 o p a b c) st s3 W) := by
  refine PT.imp (L2.pt_chain (op_cmp o hu) (op_cmp p hu) ha hb hc (hm := by unfold lastMarks; exact hm3)) fun σ H Q h => ?_
  obtain ⟨ρ, F, L0, w, h⟩ := h
  simp only [wpT] at h
  refine ⟨ρ, F, L0, w, wpE_mono hC a ρ (fun x ρ1 h v H1 F1 Fv w1 r1 g1 => ?_) (fun ex ρ1 h => h.weak hl3) h⟩
  have r1' := r1.rp w1
  have w1' := w1.drop0
  have g1' : Go (nmE a) H F H1 F1 := g1.sub fun b hb => by simp [hb]
  refine ⟨ρ1, F1, L0, w1', wpE_mono hC b ρ1 (fun y ρ2 h u H2 F2 Fu w2 r2 g2 => ?_) (fun ex ρ1 h => (h.weak hl2).go g1') h⟩
  have g2' : Go (nmE b) H1 F1 H2 F2 := g2.sub fun b hb => by simp [hb]
  have w2' := w2.drop0
  have r2' := r2.rp w2
  have r1'' : Rp X.K H2 (Lo F2 L0) 9 x v := Rp.mono x _ 9 v (by split <;> omega) (r1'.pass g2' w1' (by
    by_cases hn : nmE b = true
    · exact .inl hn
    · exact .inr (by rw [if_neg hn])))
  refine ⟨Lo F2 L0, 9, x, y, r1'', Rp.mono y _ 9 u (by split <;> omega) r2', app_mono (fun z hz => ⟨z, rfl, ?_⟩) h⟩
  cases z with
  | false =>
    simp only [Bool.false_eq_true, if_false] at hz ⊢
    obtain ⟨F3, sb, w3⟩ := w2'.weak hl2
    exact ⟨false, rfl, hz H2 F3 w3 ((g1'.trans g2' (nm := nmE (.cmp2 o p a b c)) (by simp [nmE]; intros; simp [*])).sub fun b hb => sb.subset hb)⟩
  | true =>
    simp only [if_true] at hz ⊢
    refine ⟨ρ2, F2, L0, w2', wpE_mono hC c ρ2 (fun z3 ρ3 h u3 H3 F3 Fw w3 r3 g3 => ?_) (fun ex ρ1 h => (h.go g1').go g2') hz⟩
    have g3' : Go (nmE c) H2 F2 H3 F3 := g3.sub fun b hb => by simp [hb]
    have r2'' : Rp X.K H3 (Lo F3 L0) 9 y u := Rp.mono y _ 9 u (by split <;> omega) (r2'.pass g3' w2' (by
      by_cases hn : nmE c = true
      · exact .inl hn
      · exact .inr (by rw [if_neg hn])))
    exact ⟨Lo F3 L0, 9, y, z3, r2'', r3.rp w3, app_mono (fun z hz => ⟨z, rfl, hz H3 F3 w3.drop0 (((g1'.trans g2' (nm := nmE a && nmE b) (by simp)).trans g3' (nm := nmE (.cmp2 o p a b c)) (by simp [nmE])))⟩) h⟩
theorem tT.mono {σ : L2.St} {H : Hp} {Q Q' : Bool → Hp → Prop} (h : tT Pr T n X a st s1 W σ H Q) (q : ∀ c H1, Q c H1 → Q' c H1) : tT Pr T n X a st s1 W σ H Q' := by
  obtain ⟨ρ, F, L0, w, h⟩ := h
  exact ⟨ρ, F, L0, w, wpT_mono hC a ρ (fun x ρ1 h H1 F1 w1 g1 => q _ _ (h H1 F1 w1 g1)) (fun ex ρ1 h => h) h⟩
theorem tE.mono {σ : L2.St} {H : Hp} {Q Q' : VK} (h : tE Pr T n X a m st k s1 W σ H Q) (q : ∀ c H1, Q c H1 → Q' c H1) : tE Pr T n X a m st k s1 W σ H Q' := by
  obtain ⟨ρ, F, L0, w, h⟩ := h
  exact ⟨ρ, F, L0, w, wpE_mono hC a ρ (fun x ρ1 h v H1 F1 Fv w1 r1 g1 => q _ _ (h v H1 F1 Fv w1 r1 g1)) (fun ex ρ1 h => h) h⟩
def opOf (d : Bool) : BoolOp := if d then .And else .Or
/-- and, or: tests -/
def tB (Pr : Prog) (T : Tab) (n : Nat) (X : Cx) (d : Bool) (as : List E) (st st' : List Nat) (W : WX) : TT := fun σ H Q => ∃ ρ F L0, WO X.K H L0 st ρ σ F [] ∧
  wpB (Pr.call n) (GG Pr) d as ρ (bK X (nmEs as) L0 st' σ H F Q) (xK T X W L0 st' σ H F)
theorem c_b1 {d : Bool} (ha : PT X e (tT Pr T n X a st s1 W)) : PW X (.BoolOp (opOf d) [e] pos) (tB Pr T n X d [a] st s1 W) := by
  cases d with
  | true =>
    refine PW.imp (L2.pw_and1 ha) fun σ H Q h => ?_
    obtain ⟨ρ, F, L0, w, h⟩ := h
    simp only [wpB, nmEs, Bool.and_true] at h
    exact ⟨ρ, F, L0, w, h⟩
  | false =>
    refine PW.imp (L2.pw_or1 ha) fun σ H Q h => ?_
    obtain ⟨ρ, F, L0, w, h⟩ := h
    simp only [wpB, nmEs, Bool.and_true] at h
    exact ⟨ρ, F, L0, w, h⟩
theorem c_b2 {d : Bool} {r : List E} (ha : PT X e (tT Pr T n X a st s1 W)) (hb : PW X (.BoolOp (opOf d) (e2 :: es) pos) (tB Pr T n X d (b :: r) s1 s2 W)) (hl : leS s2 s1 = true) : PW X (.BoolOp (opOf d) (e :: e2 :: es) pos) (tB Pr T n X d (a :: b :: r) st s2 W) := by
  have main : ∀ {σ : L2.St} {H : Hp} {Q : Bool → Hp → Prop}, tB Pr T n X d (a :: b :: r) st s2 W σ H Q → tT Pr T n X a st s1 W σ H fun c H1 => if c = d then tB Pr T n X d (b :: r) s1 s2 W σ H1 Q else Q c H1 := fun {σ H Q} h => by
    obtain ⟨ρ, F, L0, w, h⟩ := h
    simp only [wpB] at h
    refine ⟨ρ, F, L0, w, wpT_mono hC a ρ (fun x ρ1 h H1 F1 w1 g1 => ?_) (fun ex ρ1 h => h.weak hl) h⟩
    split at h
    · rename_i c
      rw [if_pos c]
      exact ⟨ρ1, F1, L0, w1, wpB_mono hC d (b :: r) ρ1 (fun x ρ2 h => bK.go h g1 fun z => by simp only [nmEs, Bool.and_eq_true] at z ⊢; exact z) (fun ex ρ2 h => h.go g1) h⟩
    · rename_i c
      rw [if_neg c]
      exact (h.weak (nm' := nmE a) hl fun z => by simp only [nmEs, Bool.and_eq_true] at z; exact z.1) H1 F1 w1 g1
  cases d with
  | true =>
    refine PW.imp (L2.pw_and ha hb) fun σ H Q h => tT.mono hC (main h) fun c H1 z => ?_
    cases c <;> simpa using z
  | false =>
    refine PW.imp (L2.pw_or ha hb) fun σ H Q h => tT.mono hC (main h) fun c H1 z => ?_
    cases c <;> simpa using z
/-- and, or: values -/
def tV (Pr : Prog) (T : Tab) (n : Nat) (X : Cx) (d : Bool) (as : List E) (m : Nat) (st : List Nat) (k : Nat) (st' : List Nat) (W : WX) : TE := fun σ H Q => ∃ ρ F L0, WO X.K H L0 st ρ σ F [] ∧
  wpV (Pr.call n) (GG Pr) d as ρ (vK X (nmEs as) m k L0 st' σ H F Q) (xK T X W L0 st' σ H F)
theorem c_v1 {d : Bool} {op : BoolOp} (ha : PE X e (tE Pr T n X a m st k s1 W)) : PE X (.BoolOp op [e] pos) (tV Pr T n X d [a] m st k s1 W) := by
  refine PE.imp (L2.pe_one ha) fun σ H Q h => ?_
  obtain ⟨ρ, F, L0, w, h⟩ := h
  simp only [wpV, nmEs, Bool.and_true] at h
  exact ⟨ρ, F, L0, w, h⟩
theorem c_v2 {d : Bool} {r : List E} (ha : PE X e (tE Pr T n X a m st k1 s1 W)) (hb : PE X (.BoolOp (opOf d) (e2 :: es) pos) (tV Pr T n X d (b :: r) m s1 k2 s2 W)) (hl : leS s2 s1 = true) :
    PE X (.BoolOp (opOf d) (e :: e2 :: es) pos) (tV Pr T n X d (a :: b :: r) m st (min k1 k2) s2 W) := by
  have main : ∀ {σ : L2.St} {H : Hp} {Q : VK}, tV Pr T n X d (a :: b :: r) m st (min k1 k2) s2 W σ H Q → tE Pr T n X a m st k1 s1 W σ H fun x H1 => ∃ c, L2.TruV X.K x H1 c ∧ if c = d then tV Pr T n X d (b :: r) m s1 k2 s2 W σ H1 Q else Q x H1 := fun {σ H Q} h => by
    obtain ⟨ρ, F, L0, w, h⟩ := h
    simp only [wpV] at h
    refine ⟨ρ, F, L0, w, wpE_mono hC a ρ (fun x ρ1 h v H1 F1 Fv w1 r1 g1 => ?_) (fun ex ρ1 h => h.weak hl) h⟩
    have g1' : Go (nmE a) H F H1 F1 := g1.sub fun b hb => by simp [hb]
    obtain ⟨c, t, h⟩ := app_tru (r1.rp w1) h
    refine ⟨c, t, ?_⟩
    split at h
    · rename_i c
      rw [if_pos c]
      exact ⟨ρ1, F1, L0, w1.drop0, wpV_mono hC d (b :: r) ρ1 (fun x ρ2 h => vK.go (nm' := nmEs (b :: r)) (h.weak (nm' := nmEs (a :: b :: r)) (leS_refl _) (Nat.min_le_right _ _) id) g1' fun z => by simp only [nmEs, Bool.and_eq_true] at z ⊢; exact z) (fun ex ρ2 h => h.go g1') h⟩
    · rename_i c
      rw [if_neg c]
      exact (h.weak (nm' := nmE a) (s1 := s1) hl (Nat.min_le_left _ _) fun z => by simp only [nmEs, Bool.and_eq_true] at z; exact z.1) v H1 F1 Fv w1 r1 g1
  cases d with
  | true =>
    refine PE.imp (pe_andG ha hb) fun σ H Q h => tE.mono hC (main h) fun x H1 ⟨c, t, z⟩ => ⟨c, t, ?_⟩
    cases c <;> simpa using z
  | false =>
    refine PE.imp (pe_orG ha hb) fun σ H Q h => tE.mono hC (main h) fun x H1 ⟨c, t, z⟩ => ⟨c, t, ?_⟩
    cases c <;> simpa using z
theorem c_isi {t : Ty} {x : Str} {p p2 : Pos} (hg : L2.Gl X x) (hx : x = ("isinstance" : Str)) (hm : X.mg "isinstance" = none) {y : Str} (hg2 : L2.Gl X y) (hy : y = (tyN t : Str)) (hm2 : X.mg (tyN t) = none) (ht : ∀ c, t ≠ .cls c)
    (ha : PE X e (tE Pr T n X a 9 st k1 s1 W)) (hs : ns e = true) : PE X (.Call (.Name x p) [e, .Name y p2] [] pos) (tE Pr T n X (.isi a t) m st 9 s1 W) := by
  subst hx hy
  have hT : PE X (.Name (tyN t : Str) p2) (L2.tC (.ty (tyN t))) := L2.pe_bltn hg2 hm2 (u := .type (tyN t)) (by cases t <;> first | (exact absurd rfl (ht _)) | decide +kernel) rfl (by cases t <;> first | (exact absurd rfl (ht _)) | decide) (by cases t <;> first | (exact absurd rfl (ht _)) | decide)
  refine PE.imp (L2.pe_callB (id := "isinstance") L2.call_isi hg hm (by decide +kernel) (L2.pa_cons ha (L2.pa_cons hT L2.pa_nil) (star_ns (env := fun X => X.env) hs)) (by decide) (by decide) (star_ns (env := fun X => X.env) hs)) fun σ H Q h => ?_
  obtain ⟨ρ, F, L0, w, h⟩ := h
  simp only [wpE] at h
  refine ⟨ρ, F, L0, w, wpE_mono hC a ρ (fun x ρ1 h v H1 F1 Fv w1 r1 g1 => ?_) (fun ex ρ1 h => h) h⟩
  have g1' : Go (nmE a) H F H1 F1 := g1.sub fun b hb => by simp [hb]
  have r := r1.rp w1
  unfold app at h
  split at h
  · rename_i c b e'
    obtain ⟨N, ty, kb⟩ := ty_x r e'
    exact ⟨v, _, _, _, b, rfl, .ty (tyN t), ty, L2.kit_ty kb, NQ.bl (fin (k := 9) w1.drop0 g1' (by simp [nmE]) h.2)⟩
  · exact h.elim
theorem c_rev {p1 p2 p3 : Pos} {kk : Nat} (ha : PE X e (tE Pr T n X a 1 st k1 s1 W)) : PE X (.Subscript e (.Slice none none (some (.UnaryOp .USub (.Constant (.int 1) kk p1) p2)) p3) pos) (tE Pr T n X (.rev a) m st 1 s1 W) := by
  have hc : PE X (.UnaryOp .USub (.Constant (.int 1) kk p1) p2) (L2.tC (.int (-1))) := PE.imp (L2.pe_un L2.un_neg L2.pe_int) fun σ H Q h => ⟨1, rfl, h⟩
  refine PE.imp (pe_step (sl_step none) ha (lo := none) (l := none) (PO.imp L2.po_none fun σ H Q h => h) hc) fun σ H Q h => ?_
  obtain ⟨ρ, F, L0, w, h⟩ := h
  simp only [wpE] at h
  refine ⟨ρ, F, L0, w, wpE_mono hC a ρ (fun x ρ1 h v H1 F1 Fv w1 r1 g1 => ?_) (fun ex ρ1 h => h) h⟩
  have g1' : Go (nmE a) H F H1 F1 := g1.sub fun b hb => by simp [hb]
  exact ⟨Lo F1 L0, x, r1.rp w1, app_mono (fun z hz => fin w1.drop0 g1' (by simp [nmE]) hz) h⟩
theorem c_step2 {f : Bool} {lo : Option Expr} {p1 p3 : Pos} {kk : Nat} (hl : PO X lo (fun _ H Q => Q (loOf (some f)) H)) (ha : PE X e (tE Pr T n X a 1 st k1 s1 W)) : PE X (.Subscript e (.Slice lo none (some (.Constant (.int 2) kk p1)) p3) pos) (tE Pr T n X (.step2 a f) m st 1 s1 W) := by
  refine PE.imp (pe_step (sl_step (some f)) ha hl L2.pe_int) fun σ H Q h => ?_
  obtain ⟨ρ, F, L0, w, h⟩ := h
  simp only [wpE] at h
  refine ⟨ρ, F, L0, w, wpE_mono hC a ρ (fun x ρ1 h v H1 F1 Fv w1 r1 g1 => ?_) (fun ex ρ1 h => h) h⟩
  have g1' : Go (nmE a) H F H1 F1 := g1.sub fun b hb => by simp [hb]
  exact ⟨Lo F1 L0, x, r1.rp w1, app_mono (fun z hz => fin w1.drop0 g1' (by simp [nmE]) hz) h⟩
/-- an end of a slice -/
def oK (X : Cx) (nm : Bool) (L0 : Addr → Prop) (st' : List Nat) (σ : L2.St) (H : Hp) (F : List Addr) (Q : Option Int → Hp → Prop) : Option Int → Env → Prop := fun x ρ' => ∀ H' F', WO X.K H' L0 st' ρ' σ F' [] → Go nm H F H' F' → Q x H'
def tO (Pr : Prog) (T : Tab) (n : Nat) (X : Cx) (o : Option E) (st st' : List Nat) (W : WX) : L2.TO := fun σ H Q => ∃ ρ F L0, WO X.K H L0 st ρ σ F [] ∧ wpO (Pr.call n) (GG Pr) o ρ (oK X (nmO o) L0 st' σ H F Q) (xK T X W L0 st' σ H F)
omit hC in
theorem c_o0 : PO X none (tO Pr T n X none st st W) := PO.imp L2.po_none fun σ H Q h => by
  obtain ⟨ρ, F, L0, w, h⟩ := h
  simp only [wpO] at h
  exact h H F w (Go.refl _ _ _ fun b hb => hb)
theorem c_o1 (ha : PE X e (tE Pr T n X a 9 st k1 s1 W)) : PO X (some e) (tO Pr T n X (some a) st s1 W) := PO.imp (L2.po_some ha) fun σ H Q h => by
  obtain ⟨ρ, F, L0, w, h⟩ := h
  simp only [wpO] at h
  refine ⟨ρ, F, L0, w, wpE_mono hC a ρ (fun x ρ1 h v H1 F1 Fv w1 r1 g1 => ?_) (fun ex ρ1 h => h) h⟩
  have r := r1.rp w1
  split at h
  · simp only [Rp] at r
    exact ⟨_, r, h H1 F1 w1.drop0 (g1.sub fun b hb => by simp [hb])⟩
  · exact h.elim
theorem c_slc {lo hi : Option Expr} {lo' hi' : Option E} {p2 : Pos} (ha : PE X e (tE Pr T n X a (if nmO lo' && nmO hi' then 1 else 0) st k1 s1 W)) (h1 : PO X lo (tO Pr T n X lo' s1 s2 W)) (h2 : PO X hi (tO Pr T n X hi' s2 s3 W))
    (hl : leS s2 s1 = true) (hl2 : leS s3 s2 = true) (hl3 : leS s3 s1 = true) : PE X (.Subscript e (.Slice lo hi none p2) pos) (tE Pr T n X (.slc a lo' hi') m st 1 s3 W) := by
  refine PE.imp (L2.pe_slice sl_tv ha h1 h2) fun σ H Q h => ?_
  obtain ⟨ρ, F, L0, w, h⟩ := h
  simp only [wpE] at h
  refine ⟨ρ, F, L0, w, wpE_mono hC a ρ (fun x ρ1 h v H1 F1 Fv w1 r1 g1 => ?_) (fun ex ρ1 h => h.weak hl3) h⟩
  have r1' := r1.rp w1
  have w1' := w1.drop0
  have g1' : Go (nmE a) H F H1 F1 := g1.sub fun b hb => by simp [hb]
  refine ⟨ρ1, F1, L0, w1', wpO_mono hC lo' ρ1 (fun y ρ2 h H2 F2 w2 g2 => ?_) (fun ex ρ1 h => (h.weak hl2).go g1') h⟩
  refine ⟨ρ2, F2, L0, w2, wpO_mono hC hi' ρ2 (fun z ρ3 h H3 F3 w3 g3 => ?_) (fun ex ρ1 h => (h.go g1').go g2) h⟩
  have r3 : Rp X.K H3 (Lo F3 L0) 1 x v := by
    by_cases hn : (nmO lo' && nmO hi') = true
    · rw [if_pos hn] at r1'
      rw [Bool.and_eq_true] at hn
      exact (r1'.pass g2 w1' (.inl hn.1)).pass g3 w2 (.inl hn.2)
    · rw [if_neg hn] at r1'
      exact Rp.mono x 0 1 v (by omega) ((r1'.pass g2 w1' (.inr rfl)).pass g3 w2 (.inr rfl))
  exact ⟨Lo F3 L0, x, r3, app_mono (fun z hz => fin w3 ((g1'.trans g2 (nm := nmE a && nmO lo') (by simp)).trans g3 (nm := nmE (.slc a lo' hi')) (by simp [nmE])) id hz) h⟩
end
end TL
end -- TLSndI

section -- TLSndJ
/-! TL, part 16: a slot is stored, what a slot holds is changed. -/
set_option linter.all false
set_option autoImplicit true
set_option maxRecDepth 100000
namespace TL
open PySem PySem.Spec PyProof.Rows
open L2 (V Hp HO Rd SqL SqT upd upd_same upd_ne Vals RelV VK XK Cx Inv OpR UnR CallR IxR SlR TruR R2 TE TT TA PE PT PW PA PO WX Takes relS thn EP TP)
section
variable {K : PySem.W.Frag} {H : Hp} {L0 : Addr → Prop} {st : List Nat} {ρ : Env} {σ : L2.St} {F Fv : List Addr} {i : Nat} {x : TV}
theorem set_same {σ : L2.St} {s : Option V} (h : σ[i]? = some s) : σ.set i s = σ := by
  have hs := List.getElem?_eq_some_iff.mp h
  rw [← hs.2]; exact List.set_getElem_self _
theorem WO.mut (w : WO K H L0 st ρ σ F []) (ex : ρ[i]? = some (some x)) : ∃ d v F1 Fi F2, st[i]? = some d ∧ σ[i]? = some (some v) ∧ F = F1 ++ Fi ++ F2 ∧ Own K H (Lo F L0) d x v Fi ∧
    ∀ H' d' x' Fi' Fv, (∀ b o, H b = some o → b ∉ Fi → H' b = some o) → (∀ b o, H b = some o → ∃ o', H' b = some o' ∧ (mutO o = true → mutO o' = true)) → (∀ b ∈ Fi' ++ Fv, b ∈ Fi ∨ H b = none) → (Fi' ++ Fv).Nodup →
      Own K H' (Lo (F1 ++ Fi' ++ F2 ++ Fv) L0) d' x' v Fi' → WO K H' L0 (st.set i d') (ρ.set i (some x')) σ (F1 ++ Fi' ++ F2) Fv ∧ Go false H F H' (F1 ++ Fi' ++ F2 ++ Fv) := by
  have hi : i < ρ.length := (List.getElem?_eq_some_iff.mp ex).1
  obtain ⟨d, o, s, F1, Fi, F2, e1, e2, e3, e4, sl, c⟩ := ER.at i hi w.er
  rw [ex] at e2
  cases e2
  obtain ⟨v, es, ow⟩ := sl
  subst es e4
  rw [List.append_nil] at ow
  have nd := w.nd
  rw [List.append_nil] at nd
  have nA := List.nodup_append.mp nd
  have nB := List.nodup_append.mp nA.1
  have mt := w.mt
  refine ⟨d, v, F1, Fi, F2, e1, e3, rfl, ow, fun H' d' x' Fi' Fv kp th fr nn ow' => ?_⟩
  have sub : ∀ b, b ∈ F1 ++ Fi' ++ F2 ++ Fv → b ∈ F1 ++ Fi ++ F2 ∨ H b = none := fun b hb => by
    simp only [List.mem_append] at hb
    rcases hb with ((z | z) | z) | z
    · exact .inl (by simp [z])
    · exact (fr b (by simp [z])).imp (fun q => by simp [q]) id
    · exact .inl (by simp [z])
    · exact (fr b (by simp [z])).imp (fun q => by simp [q]) id
  have out : ∀ b ∈ Fi' ++ Fv, b ∉ F1 ∧ b ∉ F2 := fun b hb => by
    rcases fr b hb with z | z
    · exact ⟨fun q => nB.2.2 b q b z rfl, fun q => nA.2.2 b (by simp [z]) b q rfl⟩
    · refine ⟨fun q => ?_, fun q => ?_⟩
      · obtain ⟨o, e, _⟩ := mt b (by simp [q]); rw [z] at e; cases e
      · obtain ⟨o, e, _⟩ := mt b (by simp [q]); rw [z] at e; cases e
  have er := c H' (Lo (F1 ++ Fi' ++ F2 ++ Fv) L0) (· ∈ Fi) d' (some x') (some v) Fi' ⟨fun b o q z => kp b o q z, fun b z => z.elim (fun q => (sub b q).imp (fun r => .inl (by simpa using r)) id) fun q => .inl (.inr q), fun b z => .inl (by simp [z]),
    fun b z o q => by obtain ⟨o', q', m'⟩ := mt b (by simp [z]); rw [q] at q'; cases q'; exact m'⟩ (fun b hb z => by
      rcases List.mem_append.mp hb with q | q
      · exact nB.2.2 b q b z rfl
      · exact nA.2.2 b (by simp [z]) b q rfl) ⟨v, rfl, ow'⟩
  rw [set_same e3] at er
  have nn' := List.nodup_append.mp nn
  refine ⟨⟨er, ?_, fun b hb z => ?_, fun b z => ?_⟩, ⟨fun b o q z => kp b o q fun y => z (by simp [y]), (fun z => nomatch z), th, sub⟩⟩
  · refine List.nodup_append.mpr ⟨List.nodup_append.mpr ⟨List.nodup_append.mpr ⟨nB.1, nn'.1, fun a ha b hb e => (out b (by simp [hb])).1 (e ▸ ha)⟩, nA.2.1, fun a ha b hb e => ?_⟩, nn'.2.1, fun a ha b hb e => ?_⟩
    · subst e
      rcases List.mem_append.mp ha with z | z
      · exact nA.2.2 a (by simp [z]) a hb rfl
      · exact (out a (by simp [z])).2 hb
    · subst e
      simp only [List.mem_append] at ha
      rcases ha with (z | z) | z
      · exact (out a (by simp [hb])).1 z
      · exact nn'.2.2 a z a hb rfl
      · exact (out a (by simp [hb])).2 z
  · rcases sub b hb with q | q
    · exact w.dj b (by simpa using q) z
    · obtain ⟨o, e, _⟩ := w.l0 b z; rw [q] at e; cases e
  · obtain ⟨o, q, mo⟩ := w.l0 b z
    obtain ⟨o', q', m'⟩ := th b o q
    exact ⟨o', q', m' mo⟩
/-- a slot is set to the value at hand -/
theorem WO.store {k : Nat} {v : V} (w : WO K H L0 st ρ σ F Fv) (ow : Own K H (Lo (F ++ Fv) L0) k x v Fv) (hi : i < ρ.length) : ∃ F', (∀ b ∈ F', b ∈ F ++ Fv) ∧ WO K H L0 (st.set i k) (ρ.set i (some x)) (σ.set i (some v)) F' [] := by
  obtain ⟨d, o, s, F1, Fi, F2, e1, e2, e3, e4, sl, c⟩ := ER.at i hi w.er
  subst e4
  have nA := List.nodup_append.mp w.nd
  have nB := List.nodup_append.mp nA.1
  have nC := List.nodup_append.mp nB.1
  have sub : ∀ b ∈ F1 ++ Fv ++ F2, b ∈ F1 ++ Fi ++ F2 ++ Fv := fun b hb => by simp only [List.mem_append] at *; grind
  have kp : Kp H (Lo (F1 ++ Fi ++ F2 ++ Fv) L0) (fun _ => False) H (Lo (F1 ++ Fv ++ F2 ++ []) L0) := Kp.same fun b z => .inl (z.imp (fun q => sub b (by simpa using q)) id)
  refine ⟨F1 ++ Fv ++ F2, sub, ⟨c H _ _ k (some x) (some v) Fv kp (fun _ _ z => z) ⟨v, rfl, ow.keep kp x k v Fv (fun _ _ z => z)⟩, ?_, fun b hb => w.dj b (sub b (by simpa using hb)), w.l0⟩⟩
  rw [List.append_nil]
  refine List.nodup_append.mpr ⟨List.nodup_append.mpr ⟨nC.1, nA.2.1, fun a ha b hb => nA.2.2 a (by simp [ha]) b hb⟩, nB.2.1, fun a ha b hb e => ?_⟩
  subst e
  rcases List.mem_append.mp ha with z | z
  · exact nB.2.2 a (by simp [z]) a hb rfl
  · exact nA.2.2 a (by simp [hb]) a z rfl
/-- a slot is emptied -/
theorem WO.clear (w : WO K H L0 st ρ σ F []) (s' : Option V) (d' : Nat) (hi : i < ρ.length) : ∃ F', (∀ b ∈ F', b ∈ F) ∧ WO K H L0 (st.set i d') (ρ.set i none) (σ.set i s') F' [] := by
  obtain ⟨d, o, s, F1, Fi, F2, e1, e2, e3, e4, sl, c⟩ := ER.at i hi w.er
  subst e4
  have nd := w.nd
  rw [List.append_nil] at nd
  have nB := List.nodup_append.mp nd
  have nC := List.nodup_append.mp nB.1
  have sub : ∀ b ∈ F1 ++ F2, b ∈ F1 ++ Fi ++ F2 := fun b hb => by simp only [List.mem_append] at *; grind
  have kp : Kp H (Lo (F1 ++ Fi ++ F2 ++ []) L0) (fun _ => False) H (Lo (F1 ++ [] ++ F2 ++ []) L0) := Kp.same fun b z => .inl (z.imp (fun q => by have := sub b (by simpa using q); simpa using this) id)
  refine ⟨F1 ++ [] ++ F2, fun b hb => sub b (by simpa using hb), ⟨c H _ _ d' none s' [] kp (fun _ _ z => z) rfl, ?_, fun b hb => w.dj b (by have := sub b (by simpa using hb); simpa using this), w.l0⟩⟩
  simp only [List.append_nil]
  exact List.nodup_append.mpr ⟨nC.1, nB.2.1, fun a ha b hb => nB.2.2 a (by simp [ha]) b hb⟩
end
section
variable {K : PySem.W.Frag} {H H' : Hp} {L : Addr → Prop}
theorem Owns.split : ∀ {xs ys : List TV} {d : Nat} {vs : List V} {F : List Addr}, Owns K H L d (xs ++ ys) vs F → ∃ v1 v2 F1 F2, vs = v1 ++ v2 ∧ F = F1 ++ F2 ∧ v1.length = xs.length ∧ Owns K H L d xs v1 F1 ∧ Owns K H L d ys v2 F2
  | [], ys, d, vs, F, h => ⟨[], vs, [], F, rfl, rfl, rfl, by simp only [Owns, and_self], h⟩
  | x :: xs, ys, d, vs, F, h => by
    simp only [List.cons_append, Owns] at h
    obtain ⟨v, r, F1, F2, rfl, rfl, h1, h2⟩ := h
    obtain ⟨v1, v2, G1, G2, rfl, rfl, hl, g1, g2⟩ := Owns.split h2
    refine ⟨v :: v1, v2, F1 ++ G1, G2, rfl, by simp, by simp [hl], ?_, g2⟩
    simp only [Owns]
    exact ⟨v, v1, F1, G1, rfl, rfl, h1, g1⟩
theorem Owns.join : ∀ {xs ys : List TV} {d : Nat} {v1 v2 : List V} {F1 F2 : List Addr}, Owns K H L d xs v1 F1 → Owns K H L d ys v2 F2 → Owns K H L d (xs ++ ys) (v1 ++ v2) (F1 ++ F2)
  | [], ys, d, v1, v2, F1, F2, h, g => by simp only [Owns] at h; obtain ⟨rfl, rfl⟩ := h; simpa using g
  | x :: xs, ys, d, v1, v2, F1, F2, h, g => by
    simp only [Owns] at h
    obtain ⟨v, r, G1, G2, rfl, rfl, h1, h2⟩ := h
    simp only [List.cons_append, Owns]
    exact ⟨v, r ++ v2, G1, G2 ++ F2, rfl, by simp, h1, Owns.join h2 g⟩
theorem Owns.one {x : TV} {d : Nat} {v : V} {F : List Addr} (h : Own K H L d x v F) : Owns K H L d [x] [v] F := by
  simp only [Owns]
  exact ⟨v, [], F, [], rfl, by simp, h, rfl, rfl⟩
theorem Owns.get1 {x : TV} {d : Nat} {vs : List V} {F : List Addr} (h : Owns K H L d [x] vs F) : ∃ v, vs = [v] ∧ Own K H L d x v F := by
  simp only [Owns] at h
  obtain ⟨v, r, F1, F2, rfl, rfl, h1, rfl, rfl⟩ := h
  exact ⟨v, rfl, by simpa using h1⟩
/-- one object is changed -/
theorem upd_keep {a : Addr} {o u : HO} : ∀ b w, H b = some w → b ∉ a :: G → upd H a o b = some w := fun b w q z => by rw [upd_ne (fun e => z (by simp [e]))]; exact q
theorem upd_there {a : Addr} {o : HO} (ho : mutO o = true) : ∀ b w, H b = some w → ∃ o', upd H a o b = some o' ∧ (mutO w = true → mutO o' = true) := fun b w q => by
  by_cases e : b = a
  · subst e; exact ⟨o, upd_same, fun _ => ho⟩
  · exact ⟨w, by rw [upd_ne e]; exact q, id⟩
end
section
variable {T : Tab} {Pr : Prog} {n : Nat} {X : Cx} {W : WX} {m k k1 k2 : Nat} {ks : List Nat} {st st' s1 s2 s3 : List Nat} {e e1 e2 e3 : Expr} {es : List Expr} {a b c : E} {as : List E} {pos : Pos} {i : Nat}
/-- a list at slot i from which the item j is taken -/
theorem pop_wo {H : Hp} {L0 : Addr → Prop} {ρ : Env} {σ : L2.St} {F : List Addr} {xs : List TV} {y : TV} {j : Nat} (w : WO X.K H L0 st ρ σ F []) (ex : ρ[i]? = some (some (.lst xs))) (hd : 1 ≤ st.getD i 0) (hy : xs[j]? = some y) :
    ∃ a vs v, σ[i]? = some (some (.ref a)) ∧ H a = some (.lst vs) ∧ vs.length = xs.length ∧ vs[j]? = some v ∧ ∃ F' Fv, WO X.K (upd H a (.lst (vs.eraseIdx j))) L0 st (ρ.set i (some (.lst (xs.eraseIdx j)))) σ F' Fv ∧
      Own X.K (upd H a (.lst (vs.eraseIdx j))) (Lo (F' ++ Fv) L0) (st.getD i 0 - 1) y v Fv ∧ Go false H F (upd H a (.lst (vs.eraseIdx j))) (F' ++ Fv) := by
  have nd := w.nd
  obtain ⟨d, v, F1, Fi, F2, e1, e2, rfl, ow, c⟩ := w.mut ex
  have hd' : st.getD i 0 = d := by rw [List.getD_eq_getElem?_getD, e1]; rfl
  rw [hd'] at hd ⊢
  obtain ⟨d, rfl⟩ : ∃ d', d = d' + 1 := ⟨d - 1, by omega⟩
  simp only [Own] at ow
  obtain ⟨a, vs, Fi', rfl, ha, rfl, hl, ow⟩ := ow
  have hj := List.getElem?_eq_some_iff.mp hy
  have hlen := ow.length
  have sx : xs = xs.take j ++ y :: xs.drop (j + 1) := by
    rw [← hj.2]; simp
  have ow0 := ow
  rw [sx] at ow
  obtain ⟨v1, v2, G1, G2, rfl, rfl, l1, o1, o2⟩ := Owns.split ow
  simp only [Owns] at o2
  obtain ⟨vy, v3, G3, G4, rfl, rfl, oy, o3⟩ := o2
  have hjl : v1.length = j := by rw [l1, List.length_take]; have := hj.1; omega
  rw [List.append_nil] at nd
  have nA := List.nodup_append.mp nd
  have nB := List.nodup_append.mp nA.1
  have nI := nB.2.1
  simp only [List.nodup_cons, List.mem_append, not_or] at nI
  have ers : (v1 ++ vy :: v3).eraseIdx j = v1 ++ v3 := by rw [← hjl, List.eraseIdx_append_of_length_le (Nat.le_refl _)]; simp
  have exs : xs.eraseIdx j = xs.take j ++ xs.drop (j + 1) := List.eraseIdx_eq_take_drop_succ ..
  refine ⟨a, v1 ++ vy :: v3, vy, e2, ha, hlen, by rw [← hjl]; simp, ?_⟩
  rw [ers, exs]
  have nn := List.nodup_append.mp nI.2
  have n3 := List.nodup_append.mp nn.2.1
  have kpW : ∀ L' : Addr → Prop, (∀ b, L' b → Lo (F1 ++ (a :: (G1 ++ (G3 ++ G4))) ++ F2) L0 b) → Kp H (Lo (F1 ++ (a :: (G1 ++ (G3 ++ G4))) ++ F2) L0) (· = a) (upd H a (.lst (v1 ++ v3))) L' := fun L' s =>
    ⟨fun b o q z => by rw [upd_ne z]; exact q, fun b z => .inl (s b z), fun b z => .inl (by simp [z]), fun b z o q => by rw [z, ha] at q; cases q; rfl⟩
  have subL : ∀ b, Lo (F1 ++ (a :: (G1 ++ G4)) ++ F2 ++ G3) L0 b → Lo (F1 ++ (a :: (G1 ++ (G3 ++ G4))) ++ F2) L0 b := fun b z => z.imp (fun q => by simp only [List.mem_append, List.mem_cons] at *; grind) id
  obtain ⟨w', g⟩ := c (upd H a (.lst (v1 ++ v3))) (d + 1) (.lst (xs.take j ++ xs.drop (j + 1))) (a :: (G1 ++ G4)) G3 (fun b o q z => by rw [upd_ne (fun e => z (by simp [e]))]; exact q) (upd_there rfl) (fun b hb => .inl (by simp only [List.mem_append, List.mem_cons] at *; grind))
    (by
      simp only [List.cons_append, List.nodup_cons, List.mem_append, not_or]
      refine ⟨⟨⟨nI.1.1, nI.1.2.2⟩, nI.1.2.1⟩, List.nodup_append.mpr ⟨List.nodup_append.mpr ⟨nn.1, n3.2.1, fun x hx y hy => nn.2.2 x hx y (by simp [hy])⟩, n3.1, fun x hx y hy e => ?_⟩⟩
      subst e
      rcases List.mem_append.mp hx with z | z
      · exact nn.2.2 x z x (by simp [hy]) rfl
      · exact n3.2.2 x hy x z rfl)
    (by
      simp only [Own]
      refine ⟨a, v1 ++ v3, G1 ++ G4, rfl, upd_same, rfl, ?_, Owns.join ?_ ?_⟩
      · rw [← exs]; exact Nat.le_trans (List.length_eraseIdx_le ..) hl
      · exact Owns.keep (kpW _ subL) _ d v1 G1 (fun b hb z => nI.1.1 (z ▸ hb)) o1
      · exact Owns.keep (kpW _ subL) _ d v3 G4 (fun b hb z => nI.1.2.2 (z ▸ hb)) o3)
  have hss : st.set i (d + 1) = st := by
    have hs := List.getElem?_eq_some_iff.mp e1
    rw [← hs.2]; exact List.set_getElem_self _
  rw [hss] at w'
  exact ⟨_, G3, w', Own.keep (kpW _ subL) y d vy G3 (fun b hb z => nI.1.2.1 (z ▸ hb)) oy, g⟩
theorem tyL {K H a xs} (h : H a = some (.lst xs)) : L2.tyV K "list" (.ref a) H := by
  exact .inl ⟨rfl, xs, L2.SqL.of h⟩
theorem c_pop {ho : PE X e (L2.tVar i)} {ap cp : Pos} (hb : ∀ w, attributeBase e "pop" X.env w = w) (hl : (ap.endLine == cp.line) = true) (hd : 1 ≤ st.getD i 0) : PE X (.Call (.Attribute e "pop" ap) [] [] cp) (tE Pr T n X (.pop i) m st (st.getD i 0 - 1) st W) := by
  refine PE.imp (L2.pe_bm0 PySem.F.plainAttrs_list PySem.F.slot_list_pop PySem.F.type_list_pop L2.mt_pop ho (hb _) hl) fun σ H Q h => ?_
  obtain ⟨ρ, F, L0, w, h⟩ := h
  simp only [wpE] at h
  obtain ⟨x, ex, h⟩ := getV_some h
  split at h
  · rename_i xs
    split at h
    · rename_i y ey
      have hy : xs[xs.length - 1]? = some y := by rw [← List.getLast?_eq_getElem?]; exact ey
      obtain ⟨a, vs, v, q1, q2, q3, q4, F', Fv, w', ow, g⟩ := pop_wo w ex hd hy
      have e1 : vs.eraseIdx (xs.length - 1) = vs.dropLast := by rw [← q3]; exact PyProof.Rows.Copied.eraseIdx_last ..
      have e2 : xs.eraseIdx (xs.length - 1) = xs.dropLast := PyProof.Rows.Copied.eraseIdx_last ..
      rw [e1, e2] at w'
      rw [e1] at ow g
      exact ⟨.ref a, q1, tyL q2, a, vs, v, rfl, rfl, q2, by rw [q3]; exact q4, h v _ F' Fv w' (RR.of ow) g⟩
    · exact h.elim
  · exact h.elim
theorem few1 {cp : Pos} {e : Expr} (h : ns e = true) : ((backTo cp (starEach [e] X.env)).all (fun x => !x.1) && (backToKw cp (keywordEach [] X.env)).all (fun x => x.1.isSome)
      && decide ([e].length + ([] : List Keyword).length + (if ([] : List Keyword).isEmpty then 0 else 1) < 30)) = true := by
  rw [star_ns (env := fun X => X.env) h]; rfl
variable (hC : MonoC (Pr.call n))
include hC
omit hC in
theorem lst_slot {H : Hp} {L0 : Addr → Prop} {ρ : Env} {σ : L2.St} {F : List Addr} {xs : List TV} (w : WO X.K H L0 st ρ σ F []) (ex : ρ[i]? = some (some (.lst xs))) : ∃ a vs, σ[i]? = some (some (.ref a)) ∧ H a = some (.lst vs) := by
  obtain ⟨d, v, F1, Fi, F2, e1, e2, _, ow, _⟩ := w.mut ex
  cases d with
  | zero => simp only [Own] at ow; obtain ⟨a, vs, rfl, h, _⟩ := ow; exact ⟨a, vs, e2, h.1⟩
  | succ d => simp only [Own] at ow; obtain ⟨a, vs, F', rfl, h, _⟩ := ow; exact ⟨a, vs, e2, h⟩
theorem c_popAt (ho : PE X e (L2.tVar i)) {ap cp : Pos} (hb : ∀ w, attributeBase e "pop" X.env w = w) (hl : (ap.endLine == cp.line) = true) (ha : PE X e1 (tE Pr T n X a 9 st k1 s1 W)) (hs : ns e1 = true) (hd : 1 ≤ s1.getD i 0) :
    PE X (.Call (.Attribute e "pop" ap) [e1] [] cp) (tE Pr T n X (.popAt i a) m st (s1.getD i 0 - 1) s1 W) := by
  refine PE.imp (L2.pe_bm PySem.F.plainAttrs_list PySem.F.slot_list_pop PySem.F.type_list_pop L2.mt_popAt ho (L2.pa_cons ha L2.pa_nil (star_ns (env := fun X => X.env) hs)) (hb _) (few1 hs) hl (star_ns (env := fun X => X.env) hs)) fun σ H Q h => ?_
  obtain ⟨ρ, F, L0, w, h⟩ := h
  simp only [wpE] at h
  obtain ⟨x, ex, h⟩ := getV_some h
  split at h
  · obtain ⟨a0, vs0, q0, q00⟩ := lst_slot w ex
    refine ⟨.ref a0, q0, tyL q00, ρ, F, L0, w, wpE_mono hC a ρ (fun x ρ1 h v H1 F1 Fv w1 r1 g1 => ?_) (fun ex ρ1 h => h) h⟩
    have g1' : Go (nmE a) H F H1 F1 := g1.sub fun b hb => by simp [hb]
    have r := r1.rp w1
    obtain ⟨x', ex', h⟩ := getV_some h
    split at h
    · rename_i xs j _
      obtain ⟨⟨j0, jl⟩, h⟩ := h
      split at h
      · rename_i y hy
        obtain ⟨a', vs, vy, q1, q2, q3, q4, F', Fw, w', ow, g⟩ := pop_wo w1.drop0 ex' hd hy
        rw [q0] at q1
        cases q1
        simp only [Rp] at r
        have hj := (List.getElem?_eq_some_iff.mp hy).1
        have hline : line = 16777216 := rfl
        refine ⟨a0, vs, j, j.toNat, vy, rfl, by rw [r], q2, by omega, by omega, ?_, q4, h vy _ F' Fw w' (RR.of ow) (g1'.trans g fun z => by simp [nmE] at z)⟩
        rw [q3]
        unfold seqIndex?
        simp only
        first | (rw [if_pos (by omega)]) | (rw [if_neg (by omega), if_pos (by omega)]) | (simp; omega)
      · exact h.elim
    · exact h.elim
  · exact h.elim
omit hC in
theorem fi_spec {f : TV → Bool} : ∀ {xs : List TV} {j : Nat}, xs.findIdx? f = some j → ∃ z, xs[j]? = some z ∧ f z = true ∧ ∀ m z', m < j → xs[m]? = some z' → f z' = false
  | [], _, h => by simp at h
  | x :: xs, j, h => by
    rw [List.findIdx?_cons] at h
    split at h
    · rename_i c
      cases h
      exact ⟨x, rfl, c, fun m z' hm => by omega⟩
    · rename_i c
      cases e : xs.findIdx? f with
      | none => rw [e] at h; cases h
      | some j' =>
        rw [e] at h
        cases h
        obtain ⟨z, h1, h2, h3⟩ := fi_spec e
        refine ⟨z, by simpa using h1, h2, fun m z' hm hz => ?_⟩
        cases m with
        | zero => cases hz; simpa using c
        | succ m => exact h3 m z' (by have : m + 1 < j' + 1 := hm; omega) (by simpa using hz)
omit hC in
theorem dats_get : ∀ {xs : List TV} {j : Nat} {z : PyData}, (TV.dats xs)[j]? = some z → ∃ y, xs[j]? = some y ∧ z = y.dat
  | [], j, z, h => by simp [TV.dats] at h
  | x :: xs, 0, z, h => by simp [TV.dats] at h; exact ⟨x, rfl, h.symm⟩
  | x :: xs, j + 1, z, h => by simp only [TV.dats, List.getElem?_cons_succ] at h ⊢; exact dats_get h
omit hC in
theorem dats_of : ∀ {xs : List TV} {j : Nat} {y : TV}, xs[j]? = some y → (TV.dats xs)[j]? = some y.dat
  | [], j, z, h => by simp at h
  | x :: xs, 0, z, h => by simp at h; subst h; simp [TV.dats]
  | x :: xs, j + 1, z, h => by simp only [TV.dats, List.getElem?_cons_succ] at h ⊢; exact dats_of h
omit hC in
theorem flat_up : ∀ {y : TV}, y.flat 0 = true → y.flat 60 = true
  | .non, h | .bl _, h | .int _, h | .str _, h => h
  | .tup _, h | .lst _, h => by simp [TV.flat] at h
  | .dct _ _, h | .obj _ _, h | .clo _ _, h | .xcp _ _, h | .scr _, h => by simp [TV.flat] at h
omit hC in
theorem flats_up : ∀ {xs : List TV}, TV.flats 0 xs = true → TV.flats 60 xs = true
  | [], _ => rfl
  | x :: xs, h => by
    simp only [TV.flats, Bool.and_eq_true] at *
    exact ⟨flat_up h.1, flats_up h.2⟩
theorem c_index {ap cp : Pos} (hu : X.A.units + 65 < cLine) (hb : ∀ w, attributeBase e "index" X.env w = w) (hl : (ap.endLine == cp.line) = true) (ha : PE X e (tE Pr T n X a (if nmE b then 9 else 0) st k1 s1 W)) (hb2 : PE X e1 (tE Pr T n X b 9 s1 k2 s2 W)) (hs : ns e1 = true) (hls : leS s2 s1 = true) (hnb : nmE b = true) :
    PE X (.Call (.Attribute e "index" ap) [e1] [] cp) (tE Pr T n X (.index a b) m st 9 s2 W) := by
  refine PE.imp (L2.pe_bm PySem.F.plainAttrs_list PySem.F.slot_list_index PySem.F.type_list_index (L2.mt_indexD hu) ha (L2.pa_cons hb2 L2.pa_nil (star_ns (env := fun X => X.env) hs)) (hb _) (few1 hs) hl (star_ns (env := fun X => X.env) hs)) fun σ H Q h => ?_
  obtain ⟨ρ, F, L0, w, h⟩ := h
  simp only [wpE] at h
  refine ⟨ρ, F, L0, w, wpE_mono hC a ρ (fun x ρ1 h v H1 F1 Fv w1 r1 g1 => ?_) (fun ex ρ1 h => h.weak hls) h⟩
  have r1' := r1.rp w1
  have w1' := w1.drop0
  have g1' : Go (nmE a) H F H1 F1 := g1.sub fun b hb => by simp [hb]
  rw [if_pos hnb] at r1'
  split at h
  · rename_i xs
    have r0 := r1'
    simp only [Rp] at r0
    obtain ⟨l, vs, rfl, ⟨hl, _⟩, _, rs⟩ := r0
    refine ⟨tyL hl, ρ1, F1, L0, w1', wpE_mono hC b ρ1 (fun y ρ2 h u H2 F2 Fu w2 r2 g2 => ?_) (fun ex ρ1 h => h.go g1') h⟩
    have g2' : Go (nmE b) H1 F1 H2 F2 := g2.sub fun b hb => by simp [hb]
    have r2' := r2.rp w2
    have r1'' : Rp X.K H2 (Lo F2 L0) 9 (.lst xs) (.ref l) := r1'.pass g2' w1' (.inl hnb)
    unfold app at h
    split at h
    · rename_i c z e'
      unfold indexF at e'
      simp only at e'
      cases ei : xs.findIdx? fun z => eqv z y with
      | none => rw [ei] at e'; cases e'
      | some j =>
        rw [ei] at e'
        cases e'
        obtain ⟨⟨fy, fx⟩, q⟩ := h
        obtain ⟨zz, h1, h2, h3⟩ := fi_spec ei
        have ff : (TV.lst xs).flat 1 = true := by simp only [TV.flat]; exact fx
        have hd := Rp.dp (.lst xs) 1 9 (.ref l) ff r1''
        simp only [TV.dat] at hd
        have e60 : TV.flats 60 xs = true ∧ y.flat 60 = true := ⟨flats_up fx, flat_up fy⟩
        refine ⟨l, u, y.dat, TV.dats xs, j, zz.dat, rfl, rfl, hd, Rp.dp y 0 9 u fy r2', flats_shaped e60.1, flat_shaped e60.2, dats_of h1, h2, fun m z' hm hz => ?_, NQ.int (fin (k := 9) w2.drop0 (g1'.trans g2' (nm := nmE (.index a b)) (by simp [nmE])) id q)⟩
        obtain ⟨y', hy', rfl⟩ := dats_get hz
        exact h3 m y' hm hy'
    · exact h.elim
  · exact h.elim
end
end TL
end -- TLSndJ

section -- TLSndK
/-! TL, part 17: targets; what is walked. -/
set_option linter.all false
set_option autoImplicit true
set_option maxRecDepth 100000
namespace TL
open PySem PySem.Spec PyProof.Rows
open L2 (V Hp HO Rd SqL SqT upd upd_same upd_ne Vals RelV VK XK Cx Inv OpR UnR CallR IxR SlR TruR R2 TE TT TA PE PT PW PA PO PG PGs PI TG TGs TI WX Takes relS thn EP TP)
theorem PG.imp {X : Cx} {e : Expr} {t t' : TG} (h : PG X e t) (q : ∀ v σ H Q, t' v σ H Q → t v σ H Q) : PG X e t' := ⟨fun pins s σ H v u Q I r z => h.run pins s σ H v u Q I r (q v σ H Q z)⟩
theorem PGs.imp {X : Cx} {e : List Expr} {t t' : TGs} (h : PGs X e t) (q : ∀ v σ H Q, t' v σ H Q → t v σ H Q) : PGs X e t' := ⟨fun pins s σ H v u Q I r z => h.run pins s σ H v u Q I r (q v σ H Q z)⟩
theorem PI.imp {X : Cx} {tg e : Expr} {t t' : TI} (h : PI X tg e t) (q : ∀ σ H Q, t' σ H Q → t σ H Q) : PI X tg e t' := ⟨fun pins s σ H Q I r => h.run pins s σ H Q I (q σ H Q r)⟩
theorem zero1 {i : Nat} : ∀ (r : List Nat) (st : List Nat), zeroS r (st.set i 0) = (zeroS r st).set i 0
  | [], st => rfl
  | j :: r, st => by
    show (zeroS r (st.set i 0)).set j 0 = ((zeroS r st).set j 0).set i 0
    rw [zero1 r st]
    by_cases h : i = j
    · subst h; rfl
    · rw [List.set_comm _ _ h]
theorem zero_app : ∀ (a b : List Nat) (st : List Nat), zeroS (a ++ b) st = zeroS b (zeroS a st)
  | [], b, st => rfl
  | i :: a, b, st => by
    show (zeroS (a ++ b) st).set i 0 = zeroS b ((zeroS a st).set i 0)
    rw [zero_app a b st, zero1]
theorem wipe_get {σ : L2.St} {k : Nat} : ∀ {vs : List Nat}, (L2.wipe σ vs)[k]? = if k ∈ vs then (if k < σ.length then some none else none) else σ[k]?
  | [] => by simp [L2.wipe]
  | j :: r => by
    unfold L2.wipe
    by_cases e : j = k
    · subst e
      rw [if_pos (by simp)]
      by_cases h : j < σ.length
      · rw [if_pos h, List.getElem?_set_self (by rw [L2.wipe_length]; exact h)]
      · rw [if_neg h, List.getElem?_eq_none (by rw [List.length_set, L2.wipe_length]; omega)]
    · rw [List.getElem?_set_ne e, wipe_get (vs := r)]
      have : (k ∈ j :: r) ↔ k ∈ r := by simp [Ne.symm e]
      simp only [this]
theorem wipe_set {σ : L2.St} {i : Nat} {v : Option V} {vs : List Nat} (h : i ∈ vs) : L2.wipe (σ.set i v) vs = L2.wipe σ vs := by
  apply List.ext_getElem?
  intro k
  rw [wipe_get, wipe_get, List.length_set]
  by_cases hk : k ∈ vs
  · rw [if_pos hk, if_pos hk]
  · rw [if_neg hk, if_neg hk, List.getElem?_set_ne (fun e : i = k => hk (e ▸ h))]
theorem ewipe_get {ρ : Env} {k : Nat} : ∀ {vs : List Nat}, (wipe ρ vs)[k]? = if k ∈ vs then (if k < ρ.length then some none else none) else ρ[k]?
  | [] => by simp [wipe]
  | j :: r => by
    have hl : ∀ r : List Nat, (wipe ρ r).length = ρ.length := fun r => by induction r with | nil => rfl | cons _ _ ih => simp [wipe, ih]
    unfold wipe
    by_cases e : j = k
    · subst e
      rw [if_pos (by simp)]
      by_cases h : j < ρ.length
      · rw [if_pos h, List.getElem?_set_self (by rw [hl]; exact h)]
      · rw [if_neg h, List.getElem?_eq_none (by rw [List.length_set, hl]; omega)]
    · rw [List.getElem?_set_ne e, ewipe_get (vs := r)]
      have : (k ∈ j :: r) ↔ k ∈ r := by simp [Ne.symm e]
      simp only [this]
theorem ewipe_len {ρ : Env} : ∀ r : List Nat, (wipe ρ r).length = ρ.length := fun r => by induction r with | nil => rfl | cons _ _ ih => simp [wipe, ih]
theorem restore_len {ρ0 ρ : Env} : ∀ r : List Nat, (restore ρ0 ρ r).length = ρ.length := fun r => by induction r with | nil => rfl | cons _ _ ih => simp [restore, ih]
theorem restore_get {ρ0 ρ : Env} {k : Nat} : ∀ {vs : List Nat}, (restore ρ0 ρ vs)[k]? = if k ∈ vs then (if k < ρ.length then some (ρ0[k]?.getD none) else none) else ρ[k]?
  | [] => by simp [restore]
  | j :: r => by
    unfold restore
    by_cases e : j = k
    · subst e
      rw [if_pos (by simp)]
      by_cases h : j < ρ.length
      · rw [if_pos h, List.getElem?_set_self (by rw [restore_len]; exact h)]
      · rw [if_neg h, List.getElem?_eq_none (by rw [List.length_set, restore_len]; omega)]
    · rw [List.getElem?_set_ne e, restore_get (vs := r)]
      have : (k ∈ j :: r) ↔ k ∈ r := by simp [Ne.symm e]
      simp only [this]
theorem wipe_restore {ρ0 ρ : Env} {vs : List Nat} : wipe (restore ρ0 ρ vs) vs = wipe ρ vs := by
  apply List.ext_getElem?
  intro k
  rw [ewipe_get, ewipe_get, restore_len]
  by_cases hk : k ∈ vs
  · rw [if_pos hk, if_pos hk]
  · rw [if_neg hk, if_neg hk, restore_get, if_neg hk]
theorem restore_restore {ρ0 ρ : Env} {vs : List Nat} : restore ρ0 (restore ρ0 ρ vs) vs = restore ρ0 ρ vs := by
  apply List.ext_getElem?
  intro k
  rw [restore_get, restore_len]
  by_cases hk : k ∈ vs
  · rw [if_pos hk, restore_get, if_pos hk]
  · rw [if_neg hk]
theorem restore_self {ρ : Env} {vs : List Nat} : restore ρ ρ vs = ρ := by
  apply List.ext_getElem?
  intro k
  rw [restore_get]
  by_cases hk : k ∈ vs
  · rw [if_pos hk]
    by_cases h : k < ρ.length
    · rw [if_pos h]; simp [h]
    · rw [if_neg h, List.getElem?_eq_none (by omega)]
  · rw [if_neg hk]
theorem restore_wipe {ρ0 ρ : Env} {vs : List Nat} : restore ρ0 (wipe ρ vs) vs = restore ρ0 ρ vs := by
  apply List.ext_getElem?
  intro k
  rw [restore_get, restore_get, ewipe_len, ewipe_get]
  by_cases hk : k ∈ vs
  · rw [if_pos hk, if_pos hk]
  · rw [if_neg hk, if_neg hk, if_neg hk]
section
variable {T : Tab} {Pr : Prog} {n : Nat} {X : Cx} {N : List Str} {sc : Scope} {ce : Str → Bool}
/-- a target: the value v, the tree y -/
def gT (X : Cx) (slots : List Nat) (b : TV → Env → (Env → Prop) → Prop) : TG := fun v σ H Q => ∃ ρ F L0 y st, WO X.K H L0 st ρ σ F [] ∧ Rp X.K H (Lo F L0) 0 y v ∧ (slots.all fun i => decide (i < st.length)) = true ∧
  b y ρ fun ρ' => ∀ σ' F', WO X.K H L0 (zeroS slots st) ρ' σ' F' [] → (∀ b ∈ F', b ∈ F) → (∀ vs : List Nat, (∀ i ∈ slots, i ∈ vs) → L2.wipe σ' vs = L2.wipe σ vs) → Q σ' H
def gTs (X : Cx) (slots : List Nat) (b : List TV → Env → (Env → Prop) → Prop) : TGs := fun vs σ H Q => ∃ ρ F L0 ys st, WO X.K H L0 st ρ σ F [] ∧ Rps X.K H (Lo F L0) 0 ys vs ∧ (slots.all fun i => decide (i < st.length)) = true ∧
  b ys ρ fun ρ' => ∀ σ' F', WO X.K H L0 (zeroS slots st) ρ' σ' F' [] → (∀ b ∈ F', b ∈ F) → (∀ vs : List Nat, (∀ i ∈ slots, i ∈ vs) → L2.wipe σ' vs = L2.wipe σ vs) → Q σ' H
theorem zeroS_len : ∀ (r st : List Nat), (zeroS r st).length = st.length
  | [], st => rfl
  | i :: r, st => by show ((zeroS r st).set i 0).length = _; rw [List.length_set, zeroS_len r st]
theorem ns_assign {X : Cx} {es : List Expr} (h : es.all ns = true) : (assignEach es X.env).findIdx? (·.1) = none ∧ (assignEach es X.env).length = es.length ∧ ∀ e r, es = e :: r → (assignEach (e :: r) X.env).map (·.2) = assign e X.env :: (assignEach r X.env).map (·.2) := by
  induction es with
  | nil => exact ⟨rfl, rfl, fun e r h => nomatch h⟩
  | cons e es ih =>
    simp only [List.all_cons, Bool.and_eq_true] at h
    obtain ⟨i1, i2, _⟩ := ih h.2
    have he : assignEach (e :: es) X.env = (false, assign e X.env) :: assignEach es X.env := by
      cases e <;> first | rfl | (exact absurd h.1 (by simp [ns]))
    rw [he]
    refine ⟨by simp [List.findIdx?_cons, i1], by simp [i2], fun e' r hh => ?_⟩
    cases hh
    rw [he]
    rfl
mutual
theorem bindTg_ex : ∀ (t : Tg) (x : TV) (ρ : Env) {K : Env → Prop}, bindTg t x ρ K → ∃ ρ', K ρ'
  | .name i, x, ρ, K, h => by simp only [bindTg] at h; exact ⟨_, h⟩
  | .tup ts, x, ρ, K, h => by
    simp only [bindTg] at h
    split at h
    · exact bindTgs_ex ts _ ρ h
    · exact bindTgs_ex ts _ ρ h
    · exact h.elim
theorem bindTgs_ex : ∀ (ts : List Tg) (xs : List TV) (ρ : Env) {K : Env → Prop}, bindTgs ts xs ρ K → ∃ ρ', K ρ'
  | [], [], ρ, K, h => by simp only [bindTgs] at h; exact ⟨_, h⟩
  | t :: ts, x :: xs, ρ, K, h => by
    simp only [bindTgs] at h
    obtain ⟨ρ', h⟩ := bindTg_ex t x ρ h
    exact bindTgs_ex ts xs ρ' h
  | [], _ :: _, _, _, h => by simp only [bindTgs] at h
  | _ :: _, [], _, _, h => by simp only [bindTgs] at h
end
theorem agTg_ns {t : Tg} {e : Expr} (h : agTg N sc ce t e = true) : ns e = true := by
  cases t <;> cases e <;> simp only [agTg] at h <;> first | rfl | exact absurd h (by decide)
mutual
theorem g_tg (o : XOk T Pr n N sc ce X) : ∀ (t : Tg) (e : Expr), agTg N sc ce t e = true → PG X e (gT X (tgSlots t) (bindTg t))
  | .name i, e, h => by
    cases e <;> simp only [agTg] at h <;> try (exact absurd h (by decide))
    rename_i x pos
    unfold storeB at h
    simp only [Bool.and_eq_true, Bool.or_eq_true, beq_iff_eq] at h
    obtain ⟨⟨h1, h2⟩, h3⟩ := h
    have hf : X.fn x = true ∨ X.env.scope.names.lookup x = some .local := by
      rcases h2 with z | z
      · right; rw [o.hsc]; exact z
      · left; exact o.fnc x z.2
    have hx : L2.Loc X.env.scope x := by
      unfold L2.Loc
      rw [o.hsc]
      rcases h2 with z | z
      · exact .inl z
      · exact .inr z.1
    refine PG.imp (L2.pg_name (by rw [o.hN]; exact o.nd) (by rw [o.hN]; exact h1) hx hf) fun v σ H Q q => ?_
    obtain ⟨ρ, F, L0, y, st, w, r, hs, b⟩ := q
    simp only [bindTg] at b
    simp only [tgSlots, List.all_cons, List.all_nil, Bool.and_true, decide_eq_true_eq] at hs
    have hi : i < ρ.length := by rw [← w.er.len.1]; exact hs
    obtain ⟨F', sb, w'⟩ := w.store (k := 0) (x := y) (v := v) (by rw [List.append_nil]; exact Rp.own y v r) hi
    exact b _ F' w' (fun b hb => by simpa using sb b hb) fun vs hv => wipe_set (hv i (by simp [tgSlots]))
  | .tup ts, e, h => by
    cases e <;> simp only [agTg] at h <;> try (exact absurd h (by decide))
    rename_i es x1 pos
    simp only [Bool.and_eq_true] at h
    have hh := ns_assign (X := X) h.2
    have P := g_tgs o ts es h.1
    refine ⟨fun pins s σ H v u Q I rv q => ?_⟩
    obtain ⟨ρ, F, L0, y, st, w, r, hs, b⟩ := q
    simp only [bindTg] at b
    split at b
    · rename_i xs
      simp only [Rp] at r
      obtain ⟨a, vs, rfl, hq, hl, rs⟩ := r
      have len : vs.length = es.length := by rw [rs.length]; exact tgs_len ts es xs ρ h.1 b
      exact (L2.pg_tup o.calm P hh.2.1 hh.1).run pins s σ H _ u Q I rv ⟨a, vs, rfl, hq, len, ρ, F, L0, xs, st, w, rs, by simpa [tgSlots] using hs, by simpa [tgSlots] using b⟩
    · rename_i xs
      simp only [Rp] at r
      obtain ⟨a, vs, rfl, hq, hl, rs⟩ := r
      have len : vs.length = es.length := by rw [rs.length]; exact tgs_len ts es xs ρ h.1 b
      exact (L2.pg_lst o.calm P hh.2.1 hh.1).run pins s σ H _ u Q I rv ⟨a, vs, rfl, L2.SqL.of hq.1, len, ρ, F, L0, xs, st, w, rs, by simpa [tgSlots] using hs, by simpa [tgSlots] using b⟩
    · exact b.elim
theorem g_tgs (o : XOk T Pr n N sc ce X) : ∀ (ts : List Tg) (es : List Expr), agTgs N sc ce ts es = true → PGs X es (gTs X (tgsSlots ts) (bindTgs ts))
  | [], es, h => by
    cases es <;> simp only [agTgs] at h <;> try (exact absurd h (by decide))
    refine PGs.imp L2.pgs_nil fun vs σ H Q q => ?_
    obtain ⟨ρ, F, L0, ys, st, w, r, hs, b⟩ := q
    cases ys with
    | nil =>
      simp only [bindTgs] at b
      simp only [Rps] at r
      exact ⟨r, b σ F w (fun b hb => hb) fun _ _ => rfl⟩
    | cons => simp only [bindTgs] at b
  | t :: ts, es, h => by
    cases es with
    | nil => simp only [agTgs] at h; exact absurd h (by decide)
    | cons e es =>
      simp only [agTgs, Bool.and_eq_true] at h
      have hs : (assignEach (e :: es) X.env).map (·.2) = assign e X.env :: (assignEach es X.env).map (·.2) := by
        have := agTg_ns h.1
        cases e <;> first | rfl | exact absurd this (by simp [ns])
      refine PGs.imp (L2.pgs_cons (g_tg o t e h.1) (g_tgs o ts es h.2) hs) fun vs σ H Q q => ?_
      obtain ⟨ρ, F, L0, ys, st, w, r, hsl, b⟩ := q
      cases ys with
      | nil => simp only [bindTgs] at b
      | cons y ys =>
        simp only [bindTgs] at b
        simp only [Rps] at r
        obtain ⟨v, r', rfl, ry, rs⟩ := r
        simp only [tgsSlots, List.all_append, Bool.and_eq_true] at hsl
        refine ⟨v, r', rfl, ρ, F, L0, y, st, w, ry, hsl.1, bindTg_mono (fun ρ' b σ' F' w' sb hw => ?_) t y ρ b⟩
        refine ⟨ρ', F', L0, ys, zeroS (tgSlots t) st, w', Rps.keep0 (Kp.same fun b z => .inl (z.imp (sb b) id)) ys 0 r' rs, ?_, bindTgs_mono (fun ρ'' b σ'' F'' w'' sb' hw' => ?_) ts ys ρ' b⟩
        · rw [zeroS_len]; exact hsl.2
        · refine b σ'' F'' ?_ (fun b hb => sb b (sb' b hb)) fun vs hv => ?_
          · rw [show tgsSlots (t :: ts) = tgSlots t ++ tgsSlots ts from rfl, zero_app]; exact w''
          · rw [hw' vs (fun i hi => hv i (by simp [tgsSlots, hi])), hw vs (fun i hi => hv i (by simp [tgsSlots, hi]))]
theorem tgs_len : ∀ (ts : List Tg) (es : List Expr) (xs : List TV) (ρ : Env) {K : Env → Prop}, agTgs N sc ce ts es = true → bindTgs ts xs ρ K → xs.length = es.length
  | [], es, xs, ρ, _, h, b => by
    cases es <;> cases xs <;> simp only [agTgs, bindTgs] at h b <;> first | rfl | exact b.elim | exact absurd h (by decide)
  | t :: ts, es, xs, ρ, K, h, b => by
    cases es <;> cases xs <;> simp only [agTgs, bindTgs] at h b <;> first | exact b.elim | exact absurd h (by decide) | skip
    rename_i e es x xs
    simp only [Bool.and_eq_true] at h
    obtain ⟨ρ', b⟩ := bindTg_ex t x ρ b
    rw [List.length_cons, List.length_cons, tgs_len ts es xs ρ' h.2 b]
end
end
end TL
end -- TLSndK

section -- TLSndL
/-! TL, part 18: list comprehensions. -/
set_option linter.all false
set_option autoImplicit true
set_option maxRecDepth 100000
namespace TL
open PySem PySem.Spec PyProof.Rows
open L2 (V Hp HO Rd SqL SqT upd upd_same upd_ne Vals RelV VK XK Cx Inv OpR UnR CallR IxR SlR TruR R2 TE TT TA PE PT PW PA PO PG PGs PI TG TGs TI WX Takes relS thn EP TP PTs)
theorem PTs.imp {X : Cx} {e : List Expr} {t t' : TT} (h : PTs X e t) (q : ∀ σ H Q, t' σ H Q → t σ H Q) : PTs X e t' := ⟨fun pins s σ H Q I r => h.run pins s σ H Q I (q σ H Q r)⟩
section
variable {K : PySem.W.Frag} {H H1 H' : Hp} {L0 : Addr → Prop} {st t1 : List Nat} {ρ ρ1 ρ2 : Env} {σ : L2.St} {F F1 F2 Fv Fw : List Addr} {own : List Nat} {nm : Bool}
theorem WO.wipe (w : WO K H L0 st ρ σ F []) : ∀ {own : List Nat}, (∀ i ∈ own, i < st.length) → ∃ F', (∀ b ∈ F', b ∈ F) ∧ WO K H L0 (zeroS own st) (wipe ρ own) (L2.wipe σ own) F' []
  | [], _ => ⟨F, fun _ h => h, w⟩
  | i :: r, hi => by
    obtain ⟨F', s, w'⟩ := WO.wipe w (own := r) fun j hj => hi j (by simp [hj])
    obtain ⟨F'', s', w''⟩ := w'.clear (i := i) none 0 (by rw [ewipe_len, ← w.er.len.1]; exact hi i (by simp))
    exact ⟨F'', fun b hb => s b (s' b hb), w''⟩
theorem zero_get {r : List Nat} {st : List Nat} {i : Nat} (hi : i ∈ r) (hl : i < st.length) : (zeroS r st)[i]? = some 0 := by
  induction r with
  | nil => cases hi
  | cons j r ih =>
    show ((zeroS r st).set j 0)[i]? = some 0
    by_cases e : j = i
    · subst e; exact List.getElem?_set_self (by rw [zeroS_len]; exact hl)
    · rw [List.getElem?_set_ne e]
      exact ih (by simpa [Ne.symm e] using hi)
theorem zero_same : ∀ {r : List Nat} {st : List Nat}, (∀ i ∈ r, st[i]? = some 0) → zeroS r st = st
  | [], _, _ => rfl
  | j :: r, st, h => by
    show (zeroS r st).set j 0 = st
    rw [zero_same fun i hi => h i (by simp [hi])]
    have hs := List.getElem?_eq_some_iff.mp (h j (by simp))
    have := List.set_getElem_self (as := st) hs.1
    rwa [hs.2] at this
def restoreS (σ0 : L2.St) (σ : L2.St) : List Nat → L2.St
  | [] => σ
  | i :: r => (restoreS σ0 σ r).set i (σ0[i]?.getD none)
theorem restoreS_len {σ0 σ : L2.St} : ∀ r : List Nat, (restoreS σ0 σ r).length = σ.length := fun r => by induction r with | nil => rfl | cons _ _ ih => simp [restoreS, ih]
theorem restoreS_get {σ0 σ : L2.St} {k : Nat} : ∀ {vs : List Nat}, (restoreS σ0 σ vs)[k]? = if k ∈ vs then (if k < σ.length then some (σ0[k]?.getD none) else none) else σ[k]?
  | [] => by simp [restoreS]
  | j :: r => by
    unfold restoreS
    by_cases e : j = k
    · subst e
      rw [if_pos (by simp)]
      by_cases h : j < σ.length
      · rw [if_pos h, List.getElem?_set_self (by rw [restoreS_len]; exact h)]
      · rw [if_neg h, List.getElem?_eq_none (by rw [List.length_set, restoreS_len]; omega)]
    · rw [List.getElem?_set_ne e, restoreS_get (vs := r)]
      have : (k ∈ j :: r) ↔ k ∈ r := by simp [Ne.symm e]
      simp only [this]
theorem restoreS_self {vs : List Nat} : restoreS σ (L2.wipe σ vs) vs = σ := by
  apply List.ext_getElem?
  intro k
  rw [restoreS_get, wipe_get, L2.wipe_length]
  by_cases hk : k ∈ vs
  · rw [if_pos hk]
    by_cases h : k < σ.length
    · rw [if_pos h]; simp [h]
    · rw [if_neg h, List.getElem?_eq_none (by omega)]
  · rw [if_neg hk, if_neg hk]
/-- the block's own names as they were ahead of it -/
theorem WO.mix {σ2 : L2.St} (w1 : WO K H1 L0 t1 ρ1 σ F1 []) (g : Go nm H1 F1 H' (F2 ++ Fv)) (w2 : WO K H' L0 t1 ρ2 σ2 F2 Fv) : ∀ {own : List Nat}, (∀ i ∈ own, t1[i]? = some 0) → WO K H' L0 t1 (restore ρ1 ρ2 own) (restoreS σ σ2 own) F2 Fv
  | [], _ => w2
  | i :: r, hz => by
    have w := WO.mix w1 g w2 (own := r) fun j hj => hz j (by simp [hj])
    have h0 := hz i (by simp)
    have hi : i < t1.length := (List.getElem?_eq_some_iff.mp h0).1
    obtain ⟨d, o, s, G1, Gi, G2, e1, e2, e3, rfl, sl, c⟩ := ER.at i (by rw [← w.er.len.1]; exact hi) w.er
    rw [h0] at e1
    cases e1
    have hGi : Gi = [] := by
      cases o with
      | none => exact sl
      | some x => obtain ⟨v, _, ow⟩ := sl; exact Own.nil x v Gi ow
    subst hGi
    obtain ⟨d', o', s', J1, Ji, J2, f1, f2, f3, f4, sl', _⟩ := ER.at i (by rw [← w1.er.len.1]; exact hi) w1.er
    rw [h0] at f1
    cases f1
    have kp : Kp H1 (Lo (F1 ++ []) L0) (fun b => nm = false ∧ b ∈ F1) H' (Lo (G1 ++ [] ++ G2 ++ Fv) L0) := g.kpw (fun b hb => .inl (by simp [hb])) w1.mt fun b z => z.elim (fun q => (g.fresh b q).imp (fun y => .inl (by simp [y])) id) fun q => .inl (.inr q)
    have fin := c H' (Lo (G1 ++ [] ++ G2 ++ Fv) L0) (fun _ => False) 0 (ρ1[i]?.getD none) (σ[i]?.getD none) [] (Kp.same fun b z => .inl z) (fun _ _ z => z) (by
      rw [f2, f3]
      show Slot K H' _ 0 o' s' []
      cases o' with
      | none => exact rfl
      | some x =>
        obtain ⟨v, es, ow⟩ := sl'
        have hJ : Ji = [] := Own.nil x v Ji ow
        subst hJ
        exact ⟨v, es, Own.keep kp x 0 v [] (fun _ z => nomatch z) ow⟩)
    have ht : t1.set i 0 = t1 := by
      have hs := List.getElem?_eq_some_iff.mp h0
      have := List.set_getElem_self (as := t1) hs.1
      rwa [hs.2] at this
    rw [ht] at fin
    exact ⟨fin, w.nd, w.dj, w.l0⟩
/-- something that others own is changed -/
theorem WO.upd {a : Addr} {o : HO} (w : WO K H L0 st ρ σ F []) (ha : L0 a) (ho : mutO o = true) : WO K (upd H a o) L0 st ρ σ F [] where
  er := ER.keep (W := (· = a)) ⟨fun b u q z => by rw [upd_ne z]; exact q, fun b z => .inl z, fun b z => .inr (z ▸ ha), fun b z u q => by obtain ⟨u', q', m⟩ := w.l0 a ha; rw [z, q'] at q; cases q; exact m⟩ (fun b hb z => w.dj b (by simpa using hb) (z ▸ ha)) w.er
  nd := w.nd
  dj := w.dj
  l0 := fun b z => by
    by_cases e : b = a
    · subst e; exact ⟨o, upd_same, ho⟩
    · rw [upd_ne e]; exact w.l0 b z
theorem Go.updN {a : Addr} {o : HO} (g : Go nm H F H' F2) (ha : H a = Option.none) (h : ∀ b ∈ Fw, b ∈ F2 ∨ b = a) (ho : mutO o = true) : Go nm H F (L2.upd H' a o) Fw where
  keep := fun b u q n => by rw [upd_ne (fun e => by rw [e, ha] at q; cases q)]; exact g.keep b u q n
  pure := fun e b u q => by rw [upd_ne (fun e => by rw [e, ha] at q; cases q)]; exact g.pure e b u q
  there := fun b u q => by rw [upd_ne (fun e => by rw [e, ha] at q; cases q)]; exact g.there b u q
  fresh := fun b hb => (h b hb).elim (g.fresh b) fun e => .inr (e ▸ ha)
theorem Go.add (g : Go nm H F H' F2) (h : ∀ b ∈ Fw, b ∈ F ∨ H b = Option.none) : Go nm H F H' (F2 ++ Fw) := { g with fresh := fun b hb => (List.mem_append.mp hb).elim (g.fresh b) (h b) }
theorem Go.ext {nm : Bool} (kp : ∀ b o, H b = some o → H' b = some o) : Go nm H F H' F :=
  ⟨fun b o q _ => kp b o q, fun _ b o q => kp b o q, fun b o q => ⟨o, kp b o q, id⟩, fun b hb => .inl hb⟩
end
section
variable {T : Tab} {Pr : Prog} {n : Nat} {X : Cx} {W : WX} {m k k1 k2 : Nat} {ks : List Nat} {st st' s1 s2 s3 t1 c1 e1 : List Nat} {e it tg : Expr} {es : List Expr} {a b c elt : E} {as : List E} {pos : Pos} {i : Nat} {ik : ItK} {sh : Bool}
def iK (X : Cx) (sh nm : Bool) (L0 : Addr → Prop) (st' : List Nat) (σ : L2.St) (H : Hp) (F : List Addr) (R : L2.It → Hp → Prop) : List TV → Env → Prop := fun items ρ' =>
  ∀ J P H' F', WO X.K H' L0 st' ρ' σ F' [] → Src X.K sh J items P → P H' (Lo F' L0) → items.length ≤ line → Go nm H F H' F' → R J H'
/-- what is walked -/
def tI (Pr : Prog) (T : Tab) (n : Nat) (X : Cx) (ik : ItK) (as : List E) (st s1 : List Nat) (sh : Bool) (W : WX) : TI := fun σ H R => ∃ ρ F L0, WO X.K H L0 st ρ σ F [] ∧
  wpEs (Pr.call n) (GG Pr) as ρ (fun vs ρ1 => app (itF ik vs) fun items => iK X sh (nmEs as) L0 s1 σ H F R items ρ1) (xK T X W L0 s1 σ H F)
theorem Rps.lens {K H L m} {x : TV} {xs : List TV} {vs : List V} (h : Rps K H L m (x :: xs) vs) : ∃ v r, vs = v :: r ∧ Rp K H L m x v ∧ Rps K H L m xs r := by simpa only [Rps] using h
theorem itF_len {K H L m} {xs items : List TV} {vs : List V} {c : Prop} (h : Rps K H L m xs vs) (e : itF ik xs = some (c, items)) (hc : c) : items.length ≤ line := by
  unfold itF at e
  split at e <;> (try (simp only [ok, Option.some.injEq, Prod.mk.injEq] at e)) <;> (try (cases e; done)) <;> (try (obtain ⟨ec, e⟩ := e; subst e))
  all_goals first
    | (obtain ⟨v, r, _, h1, h2⟩ := h.lens; simp only [Rp] at h1; obtain ⟨a, vs', _, _, l, _⟩ := h1; first | exact l | (rw [pairsE_len]; exact l) | (rw [List.length_reverse]; exact l) | (rw [pairsZ_len]; omega))
    | (subst ec; rw [rangeL_len]; have := hc.1; omega)
    | (subst ec; simp only [rangeD, List.length_map, List.length_range]; have := hc.2.1; omega)
theorem c_itA (hC : MonoC (Pr.call n)) (hn : noIo as = true) (hI : PI X tg it (fun σ H R => tEs Pr T n X as (if sh = true then 0 else 1) st ks s1 W σ H fun vs H1 => rIt X.K ik sh vs H1 R)) : PI X tg it (tI Pr T n X ik as st s1 sh W) := by
  refine PI.imp hI fun σ H R h => ?_
  obtain ⟨ρ, F, L0, w, h⟩ := h
  refine ⟨ρ, F, L0, w, wpEs_mono hC as ρ (fun xs ρ1 h vs H1 F1 Fv w1 r1 g1 => ?_) (fun ex ρ1 h => h) h⟩
  have r := AR.rps hn (fun _ h => h) (List.nodup_append.mp w1.nd).2.1 r1 w1
  refine ⟨Lo F1 L0, xs, r, ?_⟩
  unfold app at h ⊢
  split at h
  · rename_i c items e
    try rw [e]
    exact ⟨h.1, fun J P src p => h.2 J P H1 F1 w1.drop0 src p (itF_len r e h.1) (g1.sub fun b hb => by simp [hb])⟩
  · exact h.elim
theorem c_itS (hC : MonoC (Pr.call n)) (hn : isIo a = none) (ha : PE X it (tE Pr T n X a (if sh = true then 0 else 1) st k s1 W)) : PI X tg it (tI Pr T n X .seq [a] st s1 sh W) := by
  refine PI.imp (pi_seq (sh := sh) ha) fun σ H R h => ?_
  obtain ⟨ρ, F, L0, w, h⟩ := h
  simp only [wpEs] at h
  refine ⟨ρ, F, L0, w, wpE_mono hC a ρ (fun x ρ1 h v H1 F1 Fv w1 r1 g1 => ?_) (fun ex ρ1 h => h) h⟩
  have r : Rps X.K H1 (Lo F1 L0) (if sh = true then 0 else 1) [x] [v] := .cons (r1.rp w1) Rps.nil
  refine ⟨Lo F1 L0, [x], r, ?_⟩
  unfold app at h ⊢
  split at h
  · rename_i c items e
    try rw [e]
    exact ⟨h.1, fun J P src p => h.2 J P H1 F1 w1.drop0 src p (itF_len r e h.1) (by
      have := g1.sub (G := F1) fun b hb => by simp [hb]
      simpa [nmEs] using this)⟩
  · exact h.elim
/-- a condition -/
def tC (Pr : Prog) (T : Tab) (n : Nat) (X : Cx) (o : Option E) (st st' : List Nat) (W : WX) : TT := fun σ H Q => ∃ ρ F L0, WO X.K H L0 st ρ σ F [] ∧ wpC (Pr.call n) (GG Pr) o ρ (bK X (nmO o) L0 st' σ H F Q) (xK T X W L0 st' σ H F)
theorem c_c0 : PTs X [] (tC Pr T n X none st st W) := PTs.imp L2.pts_nil fun σ H Q h => by
  obtain ⟨ρ, F, L0, w, h⟩ := h
  simp only [wpC] at h
  exact h H F w (Go.refl _ _ _ fun b hb => hb)
theorem c_c1 (ha : PT X e (tT Pr T n X a st s1 W)) : PTs X [e] (tC Pr T n X (some a) st s1 W) := PTs.imp (L2.pts_one ha) fun σ H Q h => by
  obtain ⟨ρ, F, L0, w, h⟩ := h
  simp only [wpC] at h
  exact ⟨ρ, F, L0, w, h⟩
def W0 : WX := fun _ _ _ _ => False
/-- how things stand behind i turns -/
structure CI (K : PySem.W.Frag) (f : TV → Env → List TV → (List TV → Env → Prop) → Prop) (items : List TV) (Kf : List TV → Env → Prop) (L0 : Addr → Prop) (t1 : List Nat) (ρ1 : Env) (σ : L2.St) (own : List Nat) (ke : Nat) (nm : Bool) (H1 : Hp) (F1 : List Addr) (D : Addr) (i : Nat) (H : Hp) (ρ2 : Env) (acc : List TV) (vs : List V) (F2 Fa : List Addr) : Prop where
  lp : loopC f (items.drop i) ρ2 acc Kf
  rs : restore ρ1 ρ2 own = ρ2
  wo : WO K H (Lo (D :: Fa) L0) t1 (wipe ρ2 own) (L2.wipe σ own) F2 []
  hD : H D = some (.lst vs)
  ow : Owns K H (Lo (F2 ++ D :: Fa) L0) ke acc vs Fa
  nd : (D :: Fa).Nodup
  dj : ∀ b ∈ D :: Fa, ¬ L0 b
  go : Go nm H1 F1 H (F2 ++ D :: Fa)
  le : acc.length ≤ i
theorem lo_cons {F2 Fa : List Addr} {D : Addr} {L0 : Addr → Prop} : Lo F2 (Lo (D :: Fa) L0) = Lo (F2 ++ D :: Fa) L0 := Lo.push ..
theorem loc_eq {F2 Fa Fv : List Addr} {D : Addr} {L0 : Addr → Prop} : Lo Fv (Lo (D :: Fa) L0) = Lo (D :: (Fa ++ Fv)) L0 := by
  funext b; unfold Lo; simp only [List.mem_cons, List.mem_append, eq_iff_iff]; grind
/-- an element is there -/
theorem ci_push {K : PySem.W.Frag} {f items Kf} {L0 : Addr → Prop} {ρ1 ρ2 ρ5 : Env} {σ σ2 : L2.St} {own : List Nat} {ke : Nat} {nm n2 : Bool} {H1 H H4 : Hp} {F1 F2 F5 Fa Fv : List Addr} {D : Addr} {acc : List TV} {vs : List V} {z : TV} {v : V}
    (ci : CI K f items Kf L0 t1 ρ1 σ own ke nm H1 F1 D i H ρ2 acc vs F2 Fa) (hn : H1 D = none) (hl1 : leS t1 (zeroS own e1) = true) (hown : ∀ i ∈ own, i < e1.length) (w5 : WO K H4 (Lo (D :: Fa) L0) e1 ρ5 σ2 F5 Fv) (r5 : RR K H4 (Lo (F5 ++ Fv) (Lo (D :: Fa) L0)) 0 ke z v Fv)
    (g : Go n2 H F2 H4 (F5 ++ Fv)) (hnm : nm = true → n2 = true) (hw : L2.wipe σ2 own = L2.wipe σ own) (lp : loopC f (items.drop (i + 1)) (restore ρ1 ρ5 own) (acc ++ [z]) Kf) :
    ∃ F2' Fa', CI K f items Kf L0 t1 ρ1 σ own ke nm H1 F1 D (i + 1) (upd H4 D (.lst (vs ++ [v]))) (restore ρ1 ρ5 own) (acc ++ [z]) (vs ++ [v]) F2' Fa' := by
  have n5 := List.nodup_append.mp w5.nd
  have mt5 := r5.mt
  have wp := w5.push mt5
  obtain ⟨F6, s6, w6⟩ := wp.wipe hown
  obtain ⟨F7, s7, w7⟩ := w6.weak hl1
  rw [hw, loc_eq (F2 := F5)] at w7
  have w8 := w7.upd (a := D) (o := .lst (vs ++ [v])) (.inl (by simp)) rfl
  have sF : ∀ b ∈ F7, b ∈ F5 := fun b hb => s6 b (s7.subset hb)
  have DF2 : D ∉ F2 := fun z => ci.wo.dj D (by simp [z]) (.inl (by simp))
  have dv : ∀ b ∈ Fv, b ∉ D :: Fa ∧ ¬ L0 b := fun b hb => ⟨fun z => w5.dj b (by simp [hb]) (.inl z), fun z => w5.dj b (by simp [hb]) (.inr z)⟩
  have nd' : (D :: (Fa ++ Fv)).Nodup := by
    have nd := List.nodup_cons.mp ci.nd
    refine List.nodup_cons.mpr ⟨fun z => ?_, List.nodup_append.mpr ⟨nd.2, n5.2.1, fun a ha b hb e => (dv b hb).1 (by simp [← e, ha])⟩⟩
    rcases List.mem_append.mp z with q | q
    · exact nd.1 q
    · exact (dv D q).1 (by simp)
  have gt : Go nm H1 F1 (upd H4 D (.lst (vs ++ [v]))) (F7 ++ D :: (Fa ++ Fv)) := by
    have g1 : Go nm H1 F1 H4 (F5 ++ Fv) := (ci.go.sub (G := F2) fun b hb => by simp [hb]).trans g fun e => ⟨e, hnm e⟩
    have g2 : Go nm H1 F1 H4 (F5 ++ Fv ++ Fa) := g1.add fun b hb => ci.go.fresh b (by simp [hb])
    refine g2.updN hn (fun b hb => ?_) rfl
    simp only [List.mem_append, List.mem_cons] at hb ⊢
    rcases hb with q | q | q | q
    · exact .inl (.inl (.inl (sF b q)))
    · exact .inr q
    · exact .inl (.inr q)
    · exact .inl (.inl (.inr q))
  refine ⟨F7, Fa ++ Fv, ⟨lp, restore_restore, by rw [wipe_restore]; exact w8, upd_same, ?_, nd', fun b hb z => ?_, gt, ?_⟩⟩
  · -- what the elements own
    have kp1 : Kp H (Lo (F2 ++ D :: Fa) L0) (· ∈ F2) H4 (Lo (F5 ++ Fv ++ D :: Fa) L0) := ⟨fun b o q z => g.keep b o q z, fun b y => by
        rcases y with y | y
        · rcases List.mem_append.mp y with y | y
          · exact (g.fresh b y).imp (fun q => .inl (by simp [q])) id
          · exact .inl (.inl (List.mem_append.mpr (.inr y)))
        · exact .inl (.inr y), fun b y => .inl (by simp [y]), fun b y o q => by obtain ⟨o', q', m'⟩ := ci.wo.mt b y; rw [q] at q'; cases q'; exact m'⟩
    have kp2 : Kp H4 (Lo (F5 ++ Fv ++ D :: Fa) L0) (· = D) (upd H4 D (.lst (vs ++ [v]))) (Lo (F7 ++ D :: (Fa ++ Fv)) L0) := ⟨fun b u q y => by rw [upd_ne y]; exact q, fun b y => .inl (by
        unfold Lo at *
        simp only [List.mem_append, List.mem_cons] at *
        rcases y with (y | y | y | y) | y
        · exact .inl (.inl (.inl (sF b y)))
        · exact .inl (.inr (.inl y))
        · exact .inl (.inr (.inr y))
        · exact .inl (.inl (.inr y))
        · exact .inr y), fun b y => .inl (by simp [y]), fun b y u q => by
          have hD4 : H4 D = some (.lst vs) := g.keep D _ ci.hD DF2
          rw [y, hD4] at q; cases q; rfl⟩
    have hFaF2 : ∀ b ∈ Fa, b ∉ F2 := fun b hb z => ci.wo.dj b (by simp [z]) (.inl (by simp [hb]))
    refine Owns.join (Owns.keep kp2 acc ke vs Fa (fun b hb z => (List.nodup_cons.mp ci.nd).1 (z ▸ hb)) (Owns.keep kp1 acc ke vs Fa (fun b hb => hFaF2 b hb) ci.ow)) (Owns.one (Own.keep kp2 z ke v Fv (fun b hb y => (dv b hb).1 (by simp [y])) ?_))
    have ro : Own K H4 (Lo (F5 ++ Fv) (Lo (D :: Fa) L0)) ke z v Fv := by
      unfold RR at r5
      split at r5
      · rename_i e; obtain ⟨e', r⟩ := r5; subst e'; rw [e]; exact Rp.own z v r
      · exact r5
    rw [lo_cons] at ro
    exact ro
  · simp only [List.mem_cons, List.mem_append] at hb
    rcases hb with q | q | q
    · exact ci.dj b (by simp [q]) z
    · exact ci.dj b (by simp [q]) z
    · exact (dv b q).2 z
  · have := ci.le; simp; omega
/-- no element -/
theorem ci_skip {K : PySem.W.Frag} {f items Kf} {L0 : Addr → Prop} {ρ1 ρ2 ρ5 : Env} {σ σ2 : L2.St} {own : List Nat} {ke : Nat} {nm n2 : Bool} {H1 H H4 : Hp} {F1 F2 F5 Fa : List Addr} {D : Addr} {acc : List TV} {vs : List V}
    (ci : CI K f items Kf L0 t1 ρ1 σ own ke nm H1 F1 D i H ρ2 acc vs F2 Fa) (hn : H1 D = none) (hl1 : leS t1 (zeroS own e1) = true) (hown : ∀ i ∈ own, i < e1.length) (w5 : WO K H4 (Lo (D :: Fa) L0) e1 ρ5 σ2 F5 [])
    (g : Go n2 H F2 H4 F5) (hnm : nm = true → n2 = true) (hw : L2.wipe σ2 own = L2.wipe σ own) (lp : loopC f (items.drop (i + 1)) (restore ρ1 ρ5 own) acc Kf) :
    ∃ F2' Fa', CI K f items Kf L0 t1 ρ1 σ own ke nm H1 F1 D (i + 1) H4 (restore ρ1 ρ5 own) acc vs F2' Fa' := by
  obtain ⟨F6, s6, w6⟩ := w5.wipe hown
  obtain ⟨F7, s7, w7⟩ := w6.weak hl1
  rw [hw] at w7
  have sF : ∀ b ∈ F7, b ∈ F5 := fun b hb => s6 b (s7.subset hb)
  have DF2 : D ∉ F2 := fun z => ci.wo.dj D (by simp [z]) (.inl (by simp))
  have hFaF2 : ∀ b ∈ Fa, b ∉ F2 := fun b hb z => ci.wo.dj b (by simp [z]) (.inl (by simp [hb]))
  have kp1 : Kp H (Lo (F2 ++ D :: Fa) L0) (· ∈ F2) H4 (Lo (F7 ++ D :: Fa) L0) := ⟨fun b o q z => g.keep b o q z, fun b y => by
      rcases y with y | y
      · rcases List.mem_append.mp y with y | y
        · exact (g.fresh b (sF b y)).imp (fun q => .inl (by simp [q])) id
        · exact .inl (.inl (List.mem_append.mpr (.inr y)))
      · exact .inl (.inr y), fun b y => .inl (by simp [y]), fun b y o q => by obtain ⟨o', q', m'⟩ := ci.wo.mt b y; rw [q] at q'; cases q'; exact m'⟩
  have g1 : Go nm H1 F1 H4 F5 := (ci.go.sub (G := F2) fun b hb => by simp [hb]).trans g fun e => ⟨e, hnm e⟩
  refine ⟨F7, Fa, ⟨lp, restore_restore, by rw [wipe_restore]; exact w7, g.keep D _ ci.hD DF2, Owns.keep kp1 acc ke vs Fa (fun b hb => hFaF2 b hb) ci.ow, ci.nd, ci.dj, { g1 with fresh := fun b hb => ?_ }, by have := ci.le; omega⟩⟩
  rcases List.mem_append.mp hb with q | q
  · exact g1.fresh b (sF b q)
  · exact ci.go.fresh b (List.mem_append.mpr (.inr q))
theorem ownP_snd {N : List Str} {own : List Nat} : (ownP N own).map (·.2) = own := by unfold ownP; rw [List.map_map]; exact List.map_id' own
theorem c_compI (hC : MonoC (Pr.call n)) {t : Tg} {cond : Option E} {own : List Nat} {ke : Nat} {x0 : List Nat} (h0 : t1 = zeroS own x0) (hl1 : leS t1 (zeroS own c1) = true) (hl2 : leS t1 (zeroS own e1) = true) (hl3 : leS t1 s1 = true) (htg : ∀ i ∈ tgSlots t, i ∈ own) (hown : ∀ i ∈ own, i < t1.length) {σ : L2.St} {H : Hp} {Q : VK}
    (h : tE Pr T n X (.comp elt t ik as cond own) m st (1 + ke) t1 W σ H Q) : L2.tLc (tI Pr T n X ik as st s1 (!(nmE elt && nmO cond)) W) (gT X (tgSlots t) (bindTg t)) (tC Pr T n X cond t1 c1 W0) (tE Pr T n X elt 0 c1 ke e1 W0) own σ H Q := by
  have lenS : ∀ {a b : List Nat}, leS a b = true → a.length = b.length := by
    intro a
    induction a with
    | nil => intro b h; cases b <;> simp [leS] at h ⊢
    | cons x a ih => intro b h; cases b <;> simp [leS] at h ⊢; exact ih h.2
  have hz : ∀ i ∈ own, t1[i]? = some 0 := fun i hi => by
    have := hown i hi
    rw [h0] at this ⊢
    rw [zeroS_len] at this
    exact zero_get hi this
  have hown1 : ∀ i ∈ own, i < c1.length := fun i hi => by have := hown i hi; rw [lenS hl1, zeroS_len] at this; exact this
  have hown2 : ∀ i ∈ own, i < e1.length := fun i hi => by have := hown i hi; rw [lenS hl2, zeroS_len] at this; exact this
  obtain ⟨ρ, F, L0, w, h⟩ := h
  simp only [wpE] at h
  refine ⟨ρ, F, L0, w, wpEs_mono hC as ρ (fun xs ρ1 h => app_mono (fun items h J P H1 F1' w1' src p hlen g1 D nD => ?_) h) (fun ex ρ1 h => h.weak hl3) h⟩
  obtain ⟨F1, sb1, w1⟩ := w1'.weak hl3
  have g1' : Go (nmEs as) H F H1 F1 := g1.sub fun b hb => sb1.subset hb
  have p1 : P H1 (Lo F1 L0) := src.keep H1 (Lo F1' L0) H1 (Lo F1 L0) (fun _ => False) (Kp.same fun b z => .inl (z.imp (fun q => sb1.subset q) id)) (fun _ _ z => z) p
  obtain ⟨F2, s2, w2⟩ := w1.wipe hown
  rw [zero_same hz] at w2
  have w3 := w2.go (Fw := [D]) (H' := upd H1 D (.lst [])) (fun b o q => by rw [upd_ne (L2.ne_of_none q nD)]; exact q) (by simp) (fun b hb => by rw [List.mem_singleton.mp hb]; exact nD)
  have w4 := w3.push (fun b hb => by rw [List.mem_singleton.mp hb]; exact ⟨_, upd_same, rfl⟩)
  generalize hf : (fun (x : TV) (ρ2 : Env) (acc : List TV) (next : List TV → Env → Prop) => bindTg t x (wipe ρ2 own) fun ρ3 => wpC (Pr.call n) (GG Pr) cond ρ3 (fun b ρ4 =>
        if b = true then wpE (Pr.call n) (GG Pr) elt ρ4 (fun y ρ5 => next (acc ++ [y]) (restore ρ1 ρ5 own)) (fun _ _ => False) else next acc (restore ρ1 ρ4 own)) (fun _ _ => False)) = f at h
  generalize hK : (fun (acc : List TV) (ρ' : Env) => vK X (nmE (.comp elt t ik as cond own)) m (1 + ke) L0 t1 σ H F Q (.lst acc) ρ') = Kf at h
  have c0 : CI X.K f items Kf L0 t1 ρ1 σ own ke (nmE elt && nmO cond) H1 F1 D 0 (upd H1 D (.lst [])) ρ1 [] [] F2 [] :=
    ⟨by simpa using h, restore_self, w4, upd_same, by simp only [Owns, and_self], by simp, fun b hb => w3.dj b (by simp at hb; simp [hb]), Go.new nD fun b hb => by
      simp only [List.mem_append, List.mem_singleton] at hb
      exact hb.imp (s2 b) id, Nat.le_refl _⟩
  refine ⟨fun i m H => m = items.length - i ∧ i ≤ items.length ∧ ∃ ρ2 acc vs F2 Fa, CI X.K f items Kf L0 t1 ρ1 σ own ke (nmE elt && nmO cond) H1 F1 D i H ρ2 acc vs F2 Fa, ⟨items.length, by simp, Nat.zero_le _, ρ1, [], [], F2, [], c0⟩, ?_⟩
  rintro i m Hi ⟨rfl, hi, ρ2, acc, vs, F3, Fa, ci⟩
  have kpS : Kp H1 (Lo F1 L0) (fun b => (nmE elt && nmO cond) = false ∧ b ∈ F1) Hi (Lo (F3 ++ D :: Fa) L0) := ci.go.kpw (fun b hb => .inl hb) w1.mt fun b z => z.elim (fun q => (ci.go.fresh b q).imp .inl id) fun q => .inl (.inr q)
  have pi := src.keep _ _ _ _ _ kpS (fun e b z => by rw [Bool.not_eq_false'] at e; rw [e] at z; cases z.1) p1
  by_cases hlt : i < items.length
  · refine .inr ⟨src.goes i Hi _ hlt pi, fun H' => ∃ ρ2 acc vs F2 Fa, CI X.K f items Kf L0 t1 ρ1 σ own ke (nmE elt && nmO cond) H1 F1 D (i + 1) H' ρ2 acc vs F2 Fa, fun H' nx => ⟨items.length - (i + 1), by omega, rfl, hlt, nx⟩, fun x H' y => ?_⟩
    obtain ⟨y, ey, ry, kp⟩ := src.yields i Hi _ x H' hlt pi y
    have hdrop : items.drop i = y :: items.drop (i + 1) := by
      rw [List.drop_eq_getElem_cons hlt]
      have := (List.getElem?_eq_some_iff.mp ey).2
      rw [this]
    have lp := ci.lp
    rw [hdrop] at lp
    simp only [loopC] at lp
    rw [← hf] at lp
    simp only at lp
    have w' : WO X.K H' (Lo (D :: Fa) L0) t1 (wipe ρ2 own) (L2.wipe σ own) F3 [] := ci.wo.go kp List.nodup_nil fun b hb => nomatch hb
    refine ⟨wipe ρ2 own, F3, Lo (D :: Fa) L0, y, t1, w', by rw [lo_cons]; exact ry, List.all_eq_true.mpr fun i hi => by simpa using hown i (htg i hi), bindTg_mono (fun ρ3 h σ2 F4 w4 sb hw => ?_) t y _ lp⟩
    have hwo : L2.wipe σ2 own = L2.wipe σ own := by rw [hw own htg]; apply List.ext_getElem?; intro k; rw [wipe_get, wipe_get, L2.wipe_length]; split <;> rfl
    rw [zero_same fun i hi => hz i (htg i hi)] at w4
    refine ⟨hwo, ρ3, F4, Lo (D :: Fa) L0, w4, wpC_mono hC cond ρ3 (fun b ρ4 h H3 F5 w5 g5 => ?_) (fun ex ρ5 h => h.elim) h⟩
    have ge : Go (nmO cond) Hi F3 H3 F5 := ((Go.ext (nm := true) kp).sub sb).trans g5 fun e => ⟨rfl, e⟩
    cases b with
    | false =>
      simp only [Bool.false_eq_true, if_false] at h ⊢
      rw [hf] at h
      obtain ⟨F6, Fa', ci'⟩ := ci_skip ci nD hl1 hown1 w5 ge (fun e => by rw [Bool.and_eq_true] at e; exact e.2) hwo h
      exact ⟨_, _, _, _, _, ci'⟩
    | true =>
      simp only [if_true] at h ⊢
      refine ⟨ρ4, F5, Lo (D :: Fa) L0, w5, wpE_mono hC elt ρ4 (fun z ρ5 h v H4 F6 Fv w6 r6 g6 => ?_) (fun ex ρ5 h => h.elim) h⟩
      rw [hf] at h
      have ge2 : Go (nmE elt && nmO cond) Hi F3 H4 (F6 ++ Fv) := ge.trans g6 fun e => by rw [Bool.and_eq_true] at e; exact ⟨e.2, e.1⟩
      have DF3 : D ∉ F3 := fun z => ci.wo.dj D (by simp [z]) (.inl (by simp))
      obtain ⟨F7, Fa', ci'⟩ := ci_push ci nD hl2 hown2 w6 r6 ge2 id hwo h
      have hvl : vs.length = acc.length := ci.ow.length
      exact ⟨vs, ge2.keep D _ ci.hD DF3, by have := ci.le; rw [line_eq]; omega, _, _, _, _, _, ci'⟩
  · obtain rfl : i = items.length := by omega
    refine .inl ⟨src.stops _ _ pi, ?_⟩
    have lp := ci.lp
    rw [List.drop_length] at lp
    simp only [loopC] at lp
    rw [← hK] at lp
    have nd := ci.nd
    have wp : WO X.K Hi L0 t1 (wipe ρ2 own) (L2.wipe σ own) F3 (D :: Fa) := by
      have := ci.wo.pop nd ci.dj
      rwa [List.append_nil] at this
    have wm := WO.mix w1 ci.go wp hz
    rw [restore_wipe, ci.rs, restoreS_self] at wm
    refine lp (.ref D) Hi F3 (D :: Fa) wm (RR.of ?_) ((g1'.trans ci.go (nm := nmE (.comp elt t ik as cond own)) fun e => ?_))
    · rw [Nat.add_comm]
      simp only [Own]
      exact ⟨D, vs, Fa, rfl, ci.hD, rfl, Nat.le_trans ci.le hlen, ci.ow⟩
    · simp only [nmE, Bool.and_eq_true] at e ⊢
      exact ⟨e.1.2, e.1.1, e.2⟩
theorem c_comp (hC : MonoC (Pr.call n)) {N : List Str} {sc scope : Scope} {ce : Str → Bool} (o : XOk T Pr n N sc ce X) {t : Tg} {cond : Option E} {own : List Nat} {ke : Nat} {ifs : List Expr} {x0 : List Nat}
    (hblk : L2.blkC N sc scope (ownP N own) = true) (hI : PI X tg it (tI Pr T n X ik as st s1 (!(nmE elt && nmO cond)) W))
    (hg : ∀ (s : Shared) (H : Hp) (C : Addr) (cl : List (Str × Addr)) (fp : List Addr), PG (X.blk s H scope (compEnvC scope cl C X.env) fp) tg (gT X (tgSlots t) (bindTg t)))
    (ht : ∀ (s : Shared) (H : Hp) (C : Addr) (cl : List (Str × Addr)) (fp : List Addr), PTs (X.blk s H scope (compEnvC scope cl C X.env) fp) ifs (tC Pr T n X cond t1 c1 W0))
    (he : ∀ (s : Shared) (H : Hp) (C : Addr) (cl : List (Str × Addr)) (fp : List Addr), PE (X.blk s H scope (compEnvC scope cl C X.env) fp) e (tE Pr T n X elt 0 c1 ke e1 W0)) (hs : ∀ x, foldedSetIterable it X.env x = pure x)
    (h0 : t1 = zeroS own x0) (hl1 : leS t1 (zeroS own c1) = true) (hl2 : leS t1 (zeroS own e1) = true) (hl3 : leS t1 s1 = true) (htg : ∀ i ∈ tgSlots t, i ∈ own) (hown : ∀ i ∈ own, i < t1.length) :
    PE X (.ListComp e [⟨tg, it, ifs, 0⟩] scope pos) (tE Pr T n X (.comp elt t ik as cond own) m st (1 + ke) t1 W) := by
  refine PE.imp (L2.pe_lc o.calm (by rw [o.hN]; exact o.nd) hI (L2.blkOk_by (by rw [o.hN, o.hsc]; exact hblk)) hg ht he hs) fun σ H Q h => ?_
  rw [ownP_snd]
  exact c_compI hC h0 hl1 hl2 hl3 htg hown h
end
end TL
end -- TLSndL

section -- TLSndM
/-! TL, part 19: what it takes that a compact text agrees. -/
set_option linter.all false
set_option autoImplicit true
set_option maxRecDepth 100000
set_option maxHeartbeats 1000000
namespace TL
open PySem PySem.Spec PyProof.Rows
section
variable {T : Tab} {N : List Str} {sc : Scope}
theorem inv_var {i : Nat} {e : Expr} (h : agE T N sc (.var i) e = true) : ∃ x p, e = .Name x p ∧ slotB N sc i x = true := by
  cases e <;> try (simp only [agE, Bool.false_eq_true] at h; done)
  exact ⟨_, _, rfl, by simpa only [agE] using h⟩
theorem inv_io {i : Nat} {e : Expr} (h : agE T N sc (.io i) e = true) : ∃ x p, e = .Name x p ∧ slotB N sc i x = true := by
  cases e <;> try (simp only [agE, Bool.false_eq_true] at h; done)
  exact ⟨_, _, rfl, by simpa only [agE] using h⟩
theorem inv_int {i : Int} {e : Expr} (h : agE T N sc (.int i) e = true) : ∃ k p, e = .Constant (.int i) k p := by
  cases e <;> try (simp only [agE, Bool.false_eq_true] at h; done)
  rename_i v k p
  cases v <;> try (simp only [agE, Bool.false_eq_true] at h; done)
  simp only [agE, Bool.and_eq_true, beq_iff_eq, Bool.not_eq_true', Bool.or_eq_true] at h
  subst h
  exact ⟨_, _, rfl⟩
theorem inv_str {x : Str} {e : Expr} (h : agE T N sc (.str x) e = true) : ∃ k p, e = .Constant (.str x) k p := by
  cases e <;> try (simp only [agE, Bool.false_eq_true] at h; done)
  rename_i v k p
  cases v <;> try (simp only [agE, Bool.false_eq_true] at h; done)
  simp only [agE, Bool.and_eq_true, beq_iff_eq, Bool.not_eq_true', Bool.or_eq_true] at h
  subst h
  exact ⟨_, _, rfl⟩
theorem inv_bl {b : Bool} {e : Expr} (h : agE T N sc (.bl b) e = true) : ∃ k p, e = .Constant (.bool b) k p := by
  cases e <;> try (simp only [agE, Bool.false_eq_true] at h; done)
  rename_i v k p
  cases v <;> try (simp only [agE, Bool.false_eq_true] at h; done)
  simp only [agE, Bool.and_eq_true, beq_iff_eq, Bool.not_eq_true', Bool.or_eq_true] at h
  subst h
  exact ⟨_, _, rfl⟩
theorem inv_non  {e : Expr} (h : agE T N sc (.non) e = true) : ∃ k p, e = .Constant .none k p := by
  cases e <;> try (simp only [agE, Bool.false_eq_true] at h; done)
  rename_i v k p
  cases v <;> try (simp only [agE, Bool.false_eq_true] at h; done)
  exact ⟨_, _, rfl⟩
theorem inv_glob {g : Nat} {e : Expr} (h : agE T N sc (.glob g) e = true) : ∃ x p, e = .Name x p ∧ T.gl[g]? = some x ∧ globB sc x = true := by
  cases e <;> try (simp only [agE, Bool.false_eq_true] at h; done)
  simp only [agE, Bool.and_eq_true, beq_iff_eq, Bool.not_eq_true', Bool.or_eq_true] at h
  exact ⟨_, _, rfl, h⟩
theorem inv_bin {o : Bop} {a b : E} {e : Expr} (h : agE T N sc (.bin o a b) e = true) : ∃ l r p, e = .BinOp l (bopO o) r p ∧ agE T N sc a l = true ∧ agE T N sc b r = true := by
  cases e <;> try (simp only [agE, Bool.false_eq_true] at h; done)
  simp only [agE, Bool.and_eq_true, beq_iff_eq, Bool.not_eq_true', Bool.or_eq_true] at h
  obtain ⟨⟨rfl, h1⟩, h2⟩ := h
  exact ⟨_, _, _, rfl, h1, h2⟩
theorem inv_neg {a : E} {e : Expr} (h : agE T N sc (.neg a) e = true) : ∃ x p, e = .UnaryOp .USub x p ∧ agE T N sc a x = true := by
  cases e <;> try (simp only [agE, Bool.false_eq_true] at h; done)
  rename_i o x p
  cases o <;> try (simp only [agE, Bool.false_eq_true] at h; done)
  exact ⟨_, _, rfl, by simpa only [agE] using h⟩
theorem inv_not {a : E} {e : Expr} (h : agE T N sc (.not_ a) e = true) : ∃ x p, e = .UnaryOp .Not x p ∧ agE T N sc a x = true := by
  cases e <;> try (simp only [agE, Bool.false_eq_true] at h; done)
  rename_i o x p
  cases o <;> try (simp only [agE, Bool.false_eq_true] at h; done)
  exact ⟨_, _, rfl, by simpa only [agE] using h⟩
theorem inv_cmp {o : Cop} {a b : E} {e : Expr} (h : agE T N sc (.cmp o a b) e = true) : ∃ l r p, e = .Compare l [copO o] [r] p ∧ isSet r = false ∧ agE T N sc a l = true ∧ agE T N sc b r = true := by
  cases e <;> try (simp only [agE, Bool.false_eq_true] at h; done)
  rename_i l os rs p
  rcases os with _ | ⟨o1, _ | ⟨o2, os⟩⟩ <;> try (simp only [agE, Bool.false_eq_true] at h; done)
  rcases rs with _ | ⟨r1, _ | ⟨r2, rs⟩⟩ <;> try (simp only [agE, Bool.false_eq_true] at h; done)
  simp only [agE, Bool.and_eq_true, beq_iff_eq, Bool.not_eq_true', Bool.or_eq_true] at h
  obtain ⟨⟨⟨rfl, h1⟩, h2⟩, h3⟩ := h
  exact ⟨_, _, _, rfl, h1, h2, h3⟩
theorem inv_cmp2 {o o' : Cop} {a b c : E} {e : Expr} (h : agE T N sc (.cmp2 o o' a b c) e = true) : ∃ l r r' p, e = .Compare l [copO o, copO o'] [r, r'] p ∧ isSet r = false ∧ isSet r' = false ∧ agE T N sc a l = true ∧ agE T N sc b r = true ∧ agE T N sc c r' = true := by
  cases e <;> try (simp only [agE, Bool.false_eq_true] at h; done)
  rename_i l os rs p
  rcases os with _ | ⟨o1, _ | ⟨o2, _ | ⟨o3, os⟩⟩⟩ <;> try (simp only [agE, Bool.false_eq_true] at h; done)
  rcases rs with _ | ⟨r1, _ | ⟨r2, _ | ⟨r3, rs⟩⟩⟩ <;> try (simp only [agE, Bool.false_eq_true] at h; done)
  simp only [agE, Bool.and_eq_true, beq_iff_eq, Bool.not_eq_true', Bool.or_eq_true] at h
  obtain ⟨⟨⟨⟨⟨⟨rfl, rfl⟩, h1⟩, h2⟩, h3⟩, h4⟩, h5⟩ := h
  exact ⟨_, _, _, _, rfl, h1, h2, h3, h4, h5⟩
theorem inv_bop {d : Bool} {as : List E} {e : Expr} (h : agE T N sc (.bop d as) e = true) : ∃ es p, e = .BoolOp (opOf d) es p ∧ agEs T N sc as es = true := by
  cases e <;> try (simp only [agE, Bool.false_eq_true] at h; done)
  simp only [agE, Bool.and_eq_true] at h
  rename_i op es p
  obtain ⟨h1, h2⟩ := h
  refine ⟨es, p, ?_, h2⟩
  cases d <;> cases op <;> first | rfl | exact absurd h1 (by decide)
theorem inv_ife {c a b : E} {e : Expr} (h : agE T N sc (.ife c a b) e = true) : ∃ t x y p, e = .IfExp t x y p ∧ agE T N sc c t = true ∧ agE T N sc a x = true ∧ agE T N sc b y = true := by
  cases e <;> try (simp only [agE, Bool.false_eq_true] at h; done)
  simp only [agE, Bool.and_eq_true, beq_iff_eq, Bool.not_eq_true', Bool.or_eq_true] at h
  exact ⟨_, _, _, _, rfl, h.1.1, h.1.2, h.2⟩
theorem inv_call {f : Nat} {as : List E} {e : Expr} (h : agE T N sc (.call f as) e = true) : ∃ x p es q, e = .Call (.Name x p) es [] q ∧ T.fn[f]? = some x ∧ globB sc x = true ∧ as.isEmpty = false ∧ agEs T N sc as es = true ∧ es.all ns = true := by
  cases e <;> try (simp only [agE, Bool.false_eq_true] at h; done)
  rename_i f es kws pos
  cases f <;> try (simp only [agE, Bool.false_eq_true] at h; done)
  cases kws <;> try (simp only [agE, Bool.false_eq_true] at h; done)
  simp only [agE, Bool.and_eq_true, beq_iff_eq, Bool.not_eq_true', Bool.or_eq_true] at h
  exact ⟨_, _, _, _, rfl, h.1.1.1.1, h.1.1.1.2, h.1.1.2, h.1.2, h.2⟩
theorem inv_bi {b : Bi} {as : List E} {e : Expr} (h : agE T N sc (.bi b as) e = true) : ∃ p es q, e = .Call (.Name (biN b : Str) p) es [] q ∧ globB sc (biN b : Str) = true ∧ as.length = biA b ∧ agEs T N sc as es = true ∧ es.all ns = true := by
  cases e <;> try (simp only [agE, Bool.false_eq_true] at h; done)
  rename_i f es kws pos
  cases f <;> try (simp only [agE, Bool.false_eq_true] at h; done)
  cases kws <;> try (simp only [agE, Bool.false_eq_true] at h; done)
  simp only [agE, Bool.and_eq_true, beq_iff_eq, Bool.not_eq_true', Bool.or_eq_true] at h
  obtain ⟨⟨⟨⟨rfl, h1⟩, h2⟩, h3⟩, h4⟩ := h
  exact ⟨_, _, _, rfl, h1, h2, h3, h4⟩
theorem inv_isi {a : E} {t : Ty} {e : Expr} (h : agE T N sc (.isi a t) e = true) : ∃ p x p2 q, e = .Call (.Name ("isinstance" : Str) p) [x, .Name (tyN t : Str) p2] [] q ∧ globB sc ("isinstance" : Str) = true ∧ globB sc (tyN t : Str) = true ∧ (∀ c, t ≠ .cls c) ∧ agE T N sc a x = true ∧ ns x = true := by
  cases e <;> try (simp only [agE, Bool.false_eq_true] at h; done)
  rename_i f es kws pos
  cases f <;> try (simp only [agE, Bool.false_eq_true] at h; done)
  cases kws <;> try (simp only [agE, Bool.false_eq_true] at h; done)
  rcases es with _ | ⟨r1, _ | ⟨r2, _ | ⟨r3, rs⟩⟩⟩ <;> try (simp only [agE, Bool.false_eq_true] at h; done)
  cases r2 <;> try (simp only [agE, Bool.false_eq_true] at h; done)
  simp only [agE, Bool.and_eq_true, beq_iff_eq] at h
  obtain ⟨⟨⟨⟨⟨⟨rfl, h1⟩, rfl⟩, h2⟩, h3⟩, h4⟩, h5⟩ := h
  exact ⟨_, _, _, _, rfl, h1, h2, fun c z => by subst z; simp [notCls] at h3, h4, h5⟩
theorem inv_tup {as : List E} {e : Expr} (h : agE T N sc (.tup as) e = true) : ∃ es k p, e = .Tuple es k p ∧ agEs T N sc as es = true ∧ es.all ns = true := by
  cases e <;> try (simp only [agE, Bool.false_eq_true] at h; done)
  simp only [agE, Bool.and_eq_true, beq_iff_eq, Bool.not_eq_true', Bool.or_eq_true] at h
  exact ⟨_, _, _, rfl, h⟩
theorem inv_lst {as : List E} {e : Expr} (h : agE T N sc (.lst as) e = true) : ∃ es p, e = .List es p ∧ agEs T N sc as es = true ∧ es.all ns = true := by
  cases e <;> try (simp only [agE, Bool.false_eq_true] at h; done)
  simp only [agE, Bool.and_eq_true, beq_iff_eq, Bool.not_eq_true', Bool.or_eq_true] at h
  exact ⟨_, _, rfl, h⟩
theorem inv_idx {a i : E} {e : Expr} (h : agE T N sc (.idx a i) e = true) : ∃ x s p, e = .Subscript x s p ∧ agE T N sc a x = true ∧ agE T N sc i s = true ∧ nSl s = true := by
  cases e <;> try (simp only [agE, Bool.false_eq_true] at h; done)
  simp only [agE, Bool.and_eq_true] at h
  exact ⟨_, _, _, rfl, h.1.1, h.1.2, h.2⟩
theorem inv_slc {a : E} {lo hi : Option E} {e : Expr} (h : agE T N sc (.slc a lo hi) e = true) : ∃ x l u p2 p, e = .Subscript x (.Slice l u none p2) p ∧ agE T N sc a x = true ∧ agO T N sc lo l = true ∧ agO T N sc hi u = true := by
  cases e <;> try (simp only [agE, Bool.false_eq_true] at h; done)
  rename_i x s p
  cases s <;> try (simp only [agE, Bool.false_eq_true] at h; done)
  rename_i lo hi stp p2
  cases stp <;> try (simp only [agE, Bool.false_eq_true] at h; done)
  simp only [agE, Bool.and_eq_true, beq_iff_eq, Bool.not_eq_true', Bool.or_eq_true] at h
  exact ⟨_, _, _, _, _, rfl, h.1.1, h.1.2, h.2⟩
theorem inv_rev {a : E} {e : Expr} (h : agE T N sc (.rev a) e = true) : ∃ x k p1 p2 p3 p, e = .Subscript x (.Slice none none (some (.UnaryOp .USub (.Constant (.int 1) k p1) p2)) p3) p ∧ agE T N sc a x = true := by
  unfold agE at h
  split at h <;> first | exact absurd h Bool.false_ne_true | skip
  all_goals (rename_i hc; cases hc)
  exact ⟨_, _, _, _, _, _, rfl, h⟩
theorem inv_step2 {a : E} {f : Bool} {e : Expr} (h : agE T N sc (.step2 a f) e = true) : ∃ x lo k p1 p3 p, e = .Subscript x (.Slice lo none (some (.Constant (.int 2) k p1)) p3) p ∧ agE T N sc a x = true ∧ lo2 f lo = true := by
  cases e <;> try (simp only [agE, Bool.false_eq_true] at h; done)
  rename_i x s p
  cases s <;> try (simp only [agE, Bool.false_eq_true] at h; done)
  rename_i lo hi stp p2
  cases hi <;> try (simp only [agE, Bool.false_eq_true] at h; done)
  rcases stp with _ | c <;> try (simp only [agE, Bool.false_eq_true] at h; done)
  cases c <;> try (simp only [agE, Bool.false_eq_true] at h; done)
  rename_i v k p1
  cases v <;> try (simp only [agE, Bool.false_eq_true] at h; done)
  rename_i j
  by_cases hj : j = 2
  · subst hj
    simp only [agE, Bool.and_eq_true] at h
    exact ⟨_, _, _, _, _, _, rfl, h.1, h.2⟩
  · exfalso
    unfold agE at h
    split at h <;> simp_all
theorem inv_comp {elt : E} {tg : Tg} {k : ItK} {as : List E} {cond : Option E} {own : List Nat} {e : Expr} (h : agE T N sc (.comp elt tg k as cond own) e = true) : ∃ x t it ifs scope p, e = .ListComp x [⟨t, it, ifs, 0⟩] scope p ∧ L2.blkC N sc scope (ownP N own) = true ∧ agIt T N sc k as it t = true ∧ agTg N (L2.relS scope sc) (cellB scope) tg t = true ∧ agC T N (L2.relS scope sc) cond ifs = true ∧ agE T N (L2.relS scope sc) elt x = true ∧ isSet it = false := by
  unfold agE at h
  split at h <;> first | exact absurd h Bool.false_ne_true | skip
  all_goals (rename_i hc; cases hc)
  simp only [Bool.and_eq_true, Bool.not_eq_true'] at h
  exact ⟨_, _, _, _, _, _, rfl, h.1.1.1.1.1, h.1.1.1.1.2, h.1.1.1.2, h.1.1.2, h.1.2, h.2⟩
theorem inv_pop {i : Nat} {e : Expr} (h : agE T N sc (.pop i) e = true) : ∃ x p ap cp, e = .Call (.Attribute (.Name x p) ("pop" : Str) ap) [] [] cp ∧ slotB N sc i x = true ∧ (ap.endLine == cp.line) = true := by
  cases e <;> try (simp only [agE, Bool.false_eq_true] at h; done)
  rename_i f es kws pos
  cases f <;> try (simp only [agE, Bool.false_eq_true] at h; done)
  cases kws <;> try (simp only [agE, Bool.false_eq_true] at h; done)
  rename_i o m ap
  cases o <;> try (simp only [agE, Bool.false_eq_true] at h; done)
  cases es <;> try (simp only [agE, Bool.false_eq_true] at h; done)
  simp only [agE, Bool.and_eq_true, beq_iff_eq] at h
  obtain ⟨⟨rfl, h1⟩, h2⟩ := h
  exact ⟨_, _, _, _, rfl, h1, by simpa using h2⟩
theorem inv_popAt {i : Nat} {a : E} {e : Expr} (h : agE T N sc (.popAt i a) e = true) : ∃ x p ap cp r, e = .Call (.Attribute (.Name x p) ("pop" : Str) ap) [r] [] cp ∧ slotB N sc i x = true ∧ agE T N sc a r = true ∧ ns r = true ∧ (ap.endLine == cp.line) = true := by
  cases e <;> try (simp only [agE, Bool.false_eq_true] at h; done)
  rename_i f es kws pos
  cases f <;> try (simp only [agE, Bool.false_eq_true] at h; done)
  cases kws <;> try (simp only [agE, Bool.false_eq_true] at h; done)
  rename_i o m ap
  cases o <;> try (simp only [agE, Bool.false_eq_true] at h; done)
  rcases es with _ | ⟨r1, _ | ⟨r2, rs⟩⟩ <;> try (simp only [agE, Bool.false_eq_true] at h; done)
  simp only [agE, Bool.and_eq_true, beq_iff_eq] at h
  obtain ⟨⟨⟨⟨rfl, h1⟩, h2⟩, h3⟩, h4⟩ := h
  exact ⟨_, _, _, _, _, rfl, h1, h2, h3, by simpa using h4⟩
theorem inv_index {a b : E} {e : Expr} (h : agE T N sc (.index a b) e = true) : ∃ x ap cp r, e = .Call (.Attribute x ("index" : Str) ap) [r] [] cp ∧ agE T N sc a x = true ∧ agE T N sc b r = true ∧ ns r = true ∧ isNm x = true ∧ (ap.endLine == cp.line) = true := by
  cases e <;> try (simp only [agE, Bool.false_eq_true] at h; done)
  rename_i f es kws pos
  cases f <;> try (simp only [agE, Bool.false_eq_true] at h; done)
  cases kws <;> try (simp only [agE, Bool.false_eq_true] at h; done)
  rename_i o m ap
  rcases es with _ | ⟨r1, _ | ⟨r2, rs⟩⟩ <;> try (simp only [agE, Bool.false_eq_true] at h; done)
  simp only [agE, Bool.and_eq_true, beq_iff_eq] at h
  obtain ⟨⟨⟨⟨⟨rfl, h1⟩, h2⟩, h3⟩, h4⟩, h5⟩ := h
  exact ⟨_, _, _, _, rfl, h1, h2, h3, h4, by simpa using h5⟩
end
end TL
end -- TLSndM

section -- TLSndN
/-! TL, part 20: an expression that agrees and is in order reads as told. -/
set_option linter.all false
set_option autoImplicit true
set_option maxRecDepth 100000
set_option maxHeartbeats 1000000
namespace TL
open PySem PySem.Spec PyProof.Rows
open L2 (V Hp HO Rd SqL SqT upd upd_same upd_ne Vals RelV VK XK Cx Inv OpR UnR CallR IxR SlR TruR R2 TE TT TA PE PT PW PA PO PG PGs PI TG TGs TI WX Takes relS thn EP TP PTs)
theorem marks_ns {o : CmpOp} {e : Expr} (h : isSet e = false) : behindInMarks o e = false := by
  cases e <;> first | (simp [isSet] at h; done) | (unfold behindInMarks; simp; done) | (simp [behindInMarks])
theorem folded_ns {X : Cx} {e : Expr} (h : isSet e = false) : ∀ x, foldedSetIterable e X.env x = pure x := by
  intro x
  cases e <;> first | (simp [isSet] at h; done) | rfl
theorem base_nm {e : Expr} {a : Str} {env : PySem.Env} (h : isNm e = true) : ∀ w, attributeBase e a env w = w := by
  intro w
  cases e <;> first | (simp [isNm] at h; done) | rfl
theorem plain_ns {e : Expr} (h : nSl e = true) : L2.PlainIx e := by
  cases e <;> first | (simp [nSl] at h; done) | (intro _ _; rfl) | exact fun _ => rfl
theorem isIo_some {a : E} {i : Nat} (h : isIo a = some i) : a = .io i := by
  cases a <;> simp [isIo] at h
  rw [h]
theorem XOk.blk {T : Tab} {Pr : Prog} {n : Nat} {N : List Str} {sc scope : Scope} {ce : Str → Bool} {X : Cx} (o : XOk T Pr n N sc ce X) (s : Shared) (H : Hp) (C : Addr) (cl : List (Str × Addr)) (fp : List Addr) : XOk T Pr n N (L2.relS scope sc) (cellB scope) (X.blk s H scope (compEnvC scope cl C X.env) fp) where
  hN := o.hN
  nd := o.nd
  hsc := by rw [← o.hsc]; rfl
  calm := o.calm
  room := o.room
  fnc := fun x h => h
  mod := ⟨o.mod.bi, o.mod.gl, o.mod.fn⟩
theorem is_val {e : Expr} {X : Cx} (h : match e with | .UnaryOp .Not _ _ | .BoolOp .. | .IfExp .. | .Compare .. => False | _ => True) : ∀ whole, isTrue e X.env whole = (do let v ← whole; standAt e.pos; holding [v] (truthy v)) := by
  intro whole
  cases e <;> first | rfl | (exact h.elim) | skip
  rename_i o x p
  cases o <;> first | rfl | exact h.elim
theorem agEs_cons {T : Tab} {N : List Str} {sc : Scope} {as : List E} {es : List Expr} (h : agEs T N sc as es = true) (h2 : as.isEmpty = false) : ∃ e es', es = e :: es' := by
  cases as with
  | nil => cases h2
  | cons a as => cases es with
    | nil => simp only [agEs] at h; cases h
    | cons e es => exact ⟨e, es, rfl⟩
section
variable {T : Tab} {Pr : Prog} {n : Nat} {N : List Str}
theorem sIt (hC : MonoC (Pr.call n)) (ik : ItK) (as : List E) {it tg : Expr} {sc : Scope} {ce : Str → Bool} {X : Cx} {W : WX} {sh : Bool} {ks : List Nat} {st st' : List Nat} (o : XOk T Pr n N sc ce X)
    (hE : ∀ (a : E) (e : Expr) (k : Nat) (s1 : List Nat), as.head? = some a → agE T N sc a e = true → stE Pr.defs a (if sh = true then 0 else 1) st = some (k, s1) → PE X e (tE Pr T n X a (if sh = true then 0 else 1) st k s1 W))
    (hEs : ∀ es : List Expr, agEs T N sc as es = true → es.all ns = true → PA X es (tEs Pr T n X as (if sh = true then 0 else 1) st ks st' W))
    (hn : noIo as = true) (h : agIt T N sc ik as it tg = true) (hst : stEs Pr.defs (if sh = true then 0 else 1) as st = some (ks, st')) : PI X tg it (tI Pr T n X ik as st st' sh W) := by
    cases ik with
    | seq =>
      rcases as with _ | ⟨a, _ | ⟨b, as⟩⟩ <;> simp only [agIt, Bool.false_eq_true] at h
      have hi : isIo a = none := by simpa [noIo] using hn
      simp only [stEs, Option.bind_eq_bind, Option.bind_eq_some_iff, hi] at hst
      obtain ⟨⟨k1, s1⟩, ha, ⟨ks', s2⟩, hb, hst⟩ := hst
      cases hb
      simp only at hst ha
      rw [if_pos (by rw [leS_refl]; simp [nmEs])] at hst
      cases hst
      exact c_itS hC hi (hE a _ _ _ rfl h ha)
    | range =>
      rcases as with _ | ⟨a, as⟩
      · simp [agIt] at h
      · cases it <;> try (simp only [agIt, Bool.false_eq_true] at h; done)
        rename_i f es kws pos
        cases f <;> try (simp only [agIt, Bool.false_eq_true] at h; done)
        rcases es with _ | ⟨e, es⟩ <;> try (simp only [agIt, Bool.false_eq_true] at h; done)
        rcases kws with _ | ⟨kw, kws⟩
        rotate_left
        · exact absurd h (by unfold agIt; simp)
        rename_i x p
        simp only [agIt, Bool.and_eq_true, beq_iff_eq] at h
        obtain ⟨⟨⟨⟨rfl, hg⟩, h1⟩, h2⟩, hns⟩ := h
        exact c_itA hC hn (pi_rng (o.glob hg).1 (o.mod.bi _ (by decide)) (hEs _ (by simp only [agEs, h1, h2, Bool.and_self]) hns) hns)
    | enum =>
      rcases as with _ | ⟨a, _ | ⟨b, as⟩⟩ <;> try (simp only [agIt, Bool.false_eq_true] at h; done)
      cases it <;> try (simp only [agIt, Bool.false_eq_true] at h; done)
      rename_i f es kws pos
      cases f <;> try (simp only [agIt, Bool.false_eq_true] at h; done)
      rcases es with _ | ⟨e, _ | ⟨e2, es⟩⟩ <;> try (simp only [agIt, Bool.false_eq_true] at h; done)
      rcases kws with _ | ⟨kw, kws⟩
      rotate_left
      · exact absurd h (by unfold agIt; simp)
      rename_i x p
      simp only [agIt, Bool.and_eq_true, beq_iff_eq] at h
      obtain ⟨⟨⟨⟨rfl, hg⟩, h1⟩, hns⟩, ht⟩ := h
      cases tg <;> try (simp [isTup] at ht; done)
      exact c_itA hC hn (pi_enB (o.glob hg).1 (o.mod.bi _ (by decide)) (hEs _ (by simp only [agEs, h1, Bool.and_self]) (by simp [hns])) hns)
    | zip =>
      rcases as with _ | ⟨a, _ | ⟨b, _ | ⟨c, as⟩⟩⟩ <;> try (simp only [agIt, Bool.false_eq_true] at h; done)
      cases it <;> try (simp only [agIt, Bool.false_eq_true] at h; done)
      rename_i f es kws pos
      cases f <;> try (simp only [agIt, Bool.false_eq_true] at h; done)
      rcases es with _ | ⟨e, _ | ⟨e2, _ | ⟨e3, es⟩⟩⟩ <;> try (simp only [agIt, Bool.false_eq_true] at h; done)
      rcases kws with _ | ⟨kw, kws⟩
      rotate_left
      · exact absurd h (by unfold agIt; simp)
      rename_i x p
      simp only [agIt, Bool.and_eq_true, beq_iff_eq] at h
      obtain ⟨⟨⟨⟨⟨⟨rfl, hg⟩, h1⟩, h2⟩, hns⟩, hns2⟩, ht⟩ := h
      cases tg <;> try (simp [isTup] at ht; done)
      exact c_itA hC hn (pi_zipB (o.glob hg).1 (o.mod.bi _ (by decide)) (hEs _ (by simp only [agEs, h1, h2, Bool.and_self]) (by simp [hns, hns2])) hns hns2)
    | rev =>
      rcases as with _ | ⟨a, _ | ⟨b, as⟩⟩ <;> try (simp only [agIt, Bool.false_eq_true] at h; done)
      cases it <;> try (simp only [agIt, Bool.false_eq_true] at h; done)
      rename_i f es kws pos
      cases f <;> try (simp only [agIt, Bool.false_eq_true] at h; done)
      rcases es with _ | ⟨e, _ | ⟨e2, es⟩⟩ <;> try (simp only [agIt, Bool.false_eq_true] at h; done)
      rcases kws with _ | ⟨kw, kws⟩
      rotate_left
      · exact absurd h (by unfold agIt; simp)
      rename_i x p
      simp only [agIt, Bool.and_eq_true, beq_iff_eq] at h
      obtain ⟨⟨⟨rfl, hg⟩, h1⟩, hns⟩ := h
      exact c_itA hC hn (pi_revB (o.glob hg).1 (o.mod.bi _ (by decide)) (hEs _ (by simp only [agEs, h1, Bool.and_self]) (by simp [hns])) hns)
mutual
theorem sE (hC : MonoC (Pr.call n)) : ∀ (c : E) {e : Expr} {sc : Scope} {ce : Str → Bool} {X : Cx} {W : WX} {m k : Nat} {st st' : List Nat}, XOk T Pr n N sc ce X → Takes X W → agE T N sc c e = true → stE Pr.defs c m st = some (k, st') → PE X e (tE Pr T n X c m st k st' W)
  | .var i, e, sc, ce, X, W, m, k, st, st', o, tk, h, hst => by
    obtain ⟨x, p, rfl, hs⟩ := inv_var h
    simp only [stE, Option.some.injEq, Prod.mk.injEq] at hst
    obtain ⟨rfl, rfl⟩ := hst
    exact c_var (o.slot hs)
  | .io i, e, sc, ce, X, W, m, k, st, st', o, tk, h, hst => by simp only [stE] at hst; cases hst
  | .int i, e, sc, ce, X, W, m, k, st, st', o, tk, h, hst => by
    obtain ⟨_, _, rfl⟩ := inv_int h
    simp only [stE, Option.some.injEq, Prod.mk.injEq] at hst
    obtain ⟨rfl, rfl⟩ := hst
    exact c_lit (x := .int i) L2.pe_int (fun C G ρ K XX => by simp only [wpE]) fun H L => by simp only [Own, and_self]
  | .str i, e, sc, ce, X, W, m, k, st, st', o, tk, h, hst => by
    obtain ⟨_, _, rfl⟩ := inv_str h
    simp only [stE, Option.some.injEq, Prod.mk.injEq] at hst
    obtain ⟨rfl, rfl⟩ := hst
    exact c_lit (x := .str i) L2.pe_str (fun C G ρ K XX => by simp only [wpE]) fun H L => by simp only [Own, and_self]
  | .bl i, e, sc, ce, X, W, m, k, st, st', o, tk, h, hst => by
    obtain ⟨_, _, rfl⟩ := inv_bl h
    simp only [stE, Option.some.injEq, Prod.mk.injEq] at hst
    obtain ⟨rfl, rfl⟩ := hst
    exact c_lit (x := .bl i) L2.pe_bl (fun C G ρ K XX => by simp only [wpE]) fun H L => by simp only [Own, and_self]
  | .non, e, sc, ce, X, W, m, k, st, st', o, tk, h, hst => by
    obtain ⟨_, _, rfl⟩ := inv_non h
    simp only [stE, Option.some.injEq, Prod.mk.injEq] at hst
    obtain ⟨rfl, rfl⟩ := hst
    exact c_lit (x := .non) L2.pe_non (fun C G ρ K XX => by simp only [wpE]) fun H L => by simp only [Own, and_self]
  | .glob g, e, sc, ce, X, W, m, k, st, st', o, tk, h, hst => by
    obtain ⟨x, p, rfl, hx, hg⟩ := inv_glob h
    simp only [stE, Option.some.injEq, Prod.mk.injEq] at hst
    obtain ⟨rfl, rfl⟩ := hst
    obtain ⟨u, v, hm, rv, hv⟩ := o.mod.gl g x hx
    obtain ⟨q1, q2, q3⟩ := o.glob hg
    exact c_glob (L2.pe_glob q1 hm rv q2) (fun C G ρ K XX => by simp only [wpE]) hv
  | .bin p a b, e, sc, ce, X, W, m, k, st, st', o, tk, h, hst => by
    obtain ⟨l, r, q, rfl, h1, h2⟩ := inv_bin h
    simp only [stE, Option.bind_eq_bind, Option.bind_eq_some_iff] at hst
    obtain ⟨⟨k1, s1⟩, ha, ⟨k2, s2⟩, hb, hst⟩ := hst
    simp only at hst ha hb
    split at hst
    · cases hst
      exact c_bin hC (sE hC a o tk h1 ha) (sE hC b o tk h2 hb) (by assumption)
    · cases hst
  | .neg a, e, sc, ce, X, W, m, k, st, st', o, tk, h, hst => by
    obtain ⟨x, q, rfl, h1⟩ := inv_neg h
    simp only [stE, Option.bind_eq_bind, Option.bind_eq_some_iff] at hst
    obtain ⟨⟨k1, s1⟩, ha, hst⟩ := hst
    cases hst
    exact c_neg hC (sE hC a o tk h1 ha)
  | .not_ a, e, sc, ce, X, W, m, k, st, st', o, tk, h, hst => by
    obtain ⟨x, q, rfl, h1⟩ := inv_not h
    simp only [stE, Option.bind_eq_bind, Option.bind_eq_some_iff] at hst
    obtain ⟨⟨k1, s1⟩, ha, hst⟩ := hst
    cases hst
    exact c_not hC (sE hC a o tk h1 ha)
  | .cmp p a b, e, sc, ce, X, W, m, k, st, st', o, tk, h, hst => by
    obtain ⟨l, r, q, rfl, hs, h1, h2⟩ := inv_cmp h
    simp only [stE, Option.bind_eq_bind, Option.bind_eq_some_iff] at hst
    obtain ⟨⟨k1, s1⟩, ha, ⟨k2, s2⟩, hb, hst⟩ := hst
    simp only at hst ha hb
    split at hst
    · cases hst
      exact c_cmp hC o.hu (marks_ns hs) (sE hC a o tk h1 ha) (sE hC b o tk h2 hb) (by assumption)
    · cases hst
  | .cmp2 p p' a b c, e, sc, ce, X, W, m, k, st, st', o, tk, h, hst => by
    obtain ⟨l, r, r', q, rfl, hs, hs', h1, h2, h3⟩ := inv_cmp2 h
    simp only [stE, Option.bind_eq_bind, Option.bind_eq_some_iff] at hst
    obtain ⟨⟨k1, s1⟩, ha, ⟨k2, s2⟩, hb, ⟨k3, s3⟩, hc, hst⟩ := hst
    simp only at hst ha hb hc
    split at hst
    · rename_i hh
      cases hst
      simp only [Bool.and_eq_true] at hh
      exact c_cmp2 hC o.hu (marks_ns hs) (marks_ns hs') (sE hC a o tk h1 ha) (sE hC b o tk h2 hb) (sE hC c o tk h3 hc) hh.1.1 hh.1.2 hh.2
    · cases hst
  | .bop d as, e, sc, ce, X, W, m, k, st, st', o, tk, h, hst => by
    obtain ⟨es, q, rfl, h1⟩ := inv_bop h
    simp only [stE] at hst
    have := sV hC d as (pos := q) o tk h1 hst
    exact PE.imp this fun σ H Q z => by
      obtain ⟨ρ, F, L0, w, z⟩ := z
      simp only [wpE] at z
      exact ⟨ρ, F, L0, w, z⟩
  | .ife c a b, e, sc, ce, X, W, m, k, st, st', o, tk, h, hst => by
    obtain ⟨t, x, y, q, rfl, h1, h2, h3⟩ := inv_ife h
    simp only [stE, Option.bind_eq_bind, Option.bind_eq_some_iff] at hst
    obtain ⟨s1, hc, ⟨ka, sa⟩, ha, ⟨kb, sb⟩, hb, hst⟩ := hst
    simp only at hst ha hb
    split at hst
    · rename_i hh
      cases hst
      simp only [Bool.and_eq_true] at hh
      exact c_ife hC (sT hC c o tk h1 hc) (sE hC a o tk h2 ha) (sE hC b o tk h3 hb) hh.1.1 hh.1.2 hh.2
    · cases hst
  | .call f as, e, sc, ce, X, W, m, k, st, st', o, tk, h, hst => by
    obtain ⟨x, p, es, q, rfl, hf, hg, hne, h1, hns⟩ := inv_call h
    simp only [stE, Option.bind_eq_bind, Option.bind_eq_some_iff] at hst
    obtain ⟨d, hd, ⟨ks, s1⟩, ha, s2, hio, hst⟩ := hst
    simp only at hst ha hio
    split at hst
    · cases hst
      obtain ⟨e, es', rfl⟩ := agEs_cons h1 hne
      exact c_call hC o.mod o.room tk hd hf (o.glob hg) hio (by assumption) (sEs hC as o tk h1 ha hns) hns
    · cases hst
  | .bi b as, e, sc, ce, X, W, m, k, st, st', o, tk, h, hst => by
    obtain ⟨p, es, q, rfl, hg, hl, h1, hns⟩ := inv_bi h
    simp only [stE, Option.bind_eq_bind, Option.bind_eq_some_iff] at hst
    obtain ⟨⟨ks, s1⟩, ha, hst⟩ := hst
    simp only at hst ha
    split at hst
    · cases hst
      obtain ⟨e, es', rfl⟩ := agEs_cons h1 (by cases as with | nil => cases b <;> simp [biA] at hl | cons => rfl)
      exact c_bi hC (o.glob hg).1 rfl (o.mod.bi _ (by cases b <;> decide)) o.calm (by assumption) (sEs hC as o tk h1 ha hns) hns
    · cases hst
  | .isi a t, e, sc, ce, X, W, m, k, st, st', o, tk, h, hst => by
    obtain ⟨p, x, p2, q, rfl, hg, hg2, ht, h1, hns⟩ := inv_isi h
    simp only [stE, Option.bind_eq_bind, Option.bind_eq_some_iff] at hst
    obtain ⟨⟨k1, s1⟩, ha, hst⟩ := hst
    cases hst
    exact c_isi hC (o.glob hg).1 rfl (o.mod.bi _ (by decide)) (o.glob hg2).1 rfl (o.mod.bi _ (by cases t <;> first | decide | exact absurd rfl (ht _))) ht (sE hC a o tk h1 ha) hns
  | .tup as, e, sc, ce, X, W, m, k, st, st', o, tk, h, hst => by
    obtain ⟨es, x1, p, rfl, h1, hns⟩ := inv_tup h
    simp only [stE, Option.bind_eq_bind, Option.bind_eq_some_iff] at hst
    obtain ⟨⟨ks, s1⟩, ha, hst⟩ := hst
    simp only at hst ha
    split at hst
    · cases hst
      exact c_tup hC (by assumption) (sEs hC as o tk h1 ha hns)
    · cases hst
  | .lst as, e, sc, ce, X, W, m, k, st, st', o, tk, h, hst => by
    obtain ⟨es, p, rfl, h1, hns⟩ := inv_lst h
    simp only [stE, Option.bind_eq_bind, Option.bind_eq_some_iff] at hst
    obtain ⟨⟨ks, s1⟩, ha, hst⟩ := hst
    simp only at hst ha
    split at hst
    · cases hst
      exact c_lst hC (by assumption) (sEs hC as o tk h1 ha hns)
    · cases hst
  | .idx a i, e, sc, ce, X, W, m, k, st, st', o, tk, h, hst => by
    obtain ⟨x, s, p, rfl, h1, h2, hp⟩ := inv_idx h
    simp only [stE, Option.bind_eq_bind, Option.bind_eq_some_iff] at hst
    obtain ⟨⟨k1, s1⟩, ha, ⟨k2, s2⟩, hb, hst⟩ := hst
    simp only at hst ha hb
    split at hst
    · cases hst
      exact c_idx hC (sE hC a o tk h1 ha) (sE hC i o tk h2 hb) (by assumption) (plain_ns hp)
    · cases hst
  | .slc a lo hi, e, sc, ce, X, W, m, k, st, st', o, tk, h, hst => by
    obtain ⟨x, l, u, p2, p, rfl, h1, h2, h3⟩ := inv_slc h
    simp only [stE, Option.bind_eq_bind, Option.bind_eq_some_iff] at hst
    obtain ⟨⟨k1, s1⟩, ha, s2, hb, s3, hc, hst⟩ := hst
    simp only at hst ha hb hc
    split at hst
    · rename_i hh
      cases hst
      simp only [Bool.and_eq_true] at hh
      exact c_slc hC (sE hC a o tk h1 (by simpa only [Bool.and_eq_true] using ha)) (sO hC lo o tk h2 hb) (sO hC hi o tk h3 hc) hh.1.1 hh.1.2 hh.2
    · cases hst
  | .rev a, e, sc, ce, X, W, m, k, st, st', o, tk, h, hst => by
    obtain ⟨x, kk, p1, p2, p3, p, rfl, h1⟩ := inv_rev h
    simp only [stE, Option.bind_eq_bind, Option.bind_eq_some_iff] at hst
    obtain ⟨⟨k1, s1⟩, ha, hst⟩ := hst
    cases hst
    exact c_rev hC (sE hC a o tk h1 ha)
  | .step2 a f, e, sc, ce, X, W, m, k, st, st', o, tk, h, hst => by
    obtain ⟨x, lo, kk, p1, p3, p, rfl, h1, h2⟩ := inv_step2 h
    simp only [stE, Option.bind_eq_bind, Option.bind_eq_some_iff] at hst
    obtain ⟨⟨k1, s1⟩, ha, hst⟩ := hst
    cases hst
    refine c_step2 hC ?_ (sE hC a o tk h1 ha)
    unfold lo2 at h2
    split at h2
    · exact PO.imp L2.po_none fun σ H Q h => h
    · exact PO.imp (L2.po_some L2.pe_int) fun σ H Q h => ⟨1, rfl, h⟩
    · cases h2
  | .comp elt tg ik as cond own, e, sc, ce, X, W, m, k, st, st', o, tk, h, hst => by
    obtain ⟨x, t, it, ifs, scope, p, rfl, hb, hi, ht, hc, he, hns⟩ := inv_comp h
    simp only [stE, Option.bind_eq_bind, Option.bind_eq_some_iff] at hst
    obtain ⟨⟨ks, s1⟩, has, c0, hc0, ⟨k0, e0⟩, he0, c1, hc1, ⟨ke, e1⟩, he1, hst⟩ := hst
    simp only at hst has hc0 he0 hc1 he1
    split at hst
    · rename_i hh
      cases hst
      simp only [Bool.and_eq_true, List.all_eq_true, List.contains_eq_mem, decide_eq_true_eq] at hh
      obtain ⟨⟨⟨⟨⟨hl1, hl2⟩, hl3⟩, htg⟩, hown⟩, hno⟩ := hh
      have has' : (if (nmE elt && nmO cond) = true then 1 else 0) = if (!(nmE elt && nmO cond)) = true then 0 else 1 := by cases (nmE elt && nmO cond) <;> rfl
      refine c_comp hC o hb (sIt hC ik as o (fun a e k s1 hh h1 h2 => sHd hC as hh o tk h1 h2) (fun es h1 h2 => sEs hC as o tk h1 (has' ▸ has) h2) hno hi (has' ▸ has)) (fun s H C cl fp => g_tg (o.blk s H C cl fp) tg t ht) (fun s H C cl fp => ?_) (fun s H C cl fp => ?_) (folded_ns hns) rfl hl1 hl2 hl3 htg hown
      · exact sC hC cond (o.blk s H C cl fp) L2.takes_none5 hc hc1
      · exact sE hC elt (o.blk s H C cl fp) L2.takes_none5 he he1
    · cases hst
  | .comp2 .., e, sc, ce, X, W, m, k, st, st', o, tk, h, hst => by simp only [stE] at hst; cases hst
  | .pop i, e, sc, ce, X, W, m, k, st, st', o, tk, h, hst => by
    obtain ⟨x, p, ap, cp, rfl, hs, hl⟩ := inv_pop h
    simp only [stE] at hst
    split at hst
    · cases hst
      exact c_pop (ho := o.slot hs) (base_nm rfl) hl (by assumption)
    · cases hst
  | .popAt i a, e, sc, ce, X, W, m, k, st, st', o, tk, h, hst => by
    obtain ⟨x, p, ap, cp, r, rfl, hs, h1, hns, hl⟩ := inv_popAt h
    simp only [stE, Option.bind_eq_bind, Option.bind_eq_some_iff] at hst
    obtain ⟨⟨k1, s1⟩, ha, hst⟩ := hst
    simp only at hst ha
    split at hst
    · cases hst
      exact c_popAt hC (o.slot hs) (base_nm rfl) hl (sE hC a o tk h1 ha) hns (by assumption)
    · cases hst
  | .index a b, e, sc, ce, X, W, m, k, st, st', o, tk, h, hst => by
    obtain ⟨x, ap, cp, r, rfl, h1, h2, hns, hnm, hl⟩ := inv_index h
    simp only [stE, Option.bind_eq_bind, Option.bind_eq_some_iff] at hst
    obtain ⟨⟨k1, s1⟩, ha, ⟨k2, s2⟩, hb, hst⟩ := hst
    simp only at hst ha hb
    split at hst
    · rename_i hh
      cases hst
      simp only [Bool.and_eq_true] at hh
      exact c_index hC o.hu (base_nm hnm) hl (sE hC a o tk h1 ha) (sE hC b o tk h2 hb) hns hh.1 hh.2
    · cases hst
  | .xfld i, e, sc, ce, X, W, m, k, st, st', o, tk, h, hst => by simp only [stE] at hst; cases hst
theorem sT (hC : MonoC (Pr.call n)) : ∀ (c : E) {e : Expr} {sc : Scope} {ce : Str → Bool} {X : Cx} {W : WX} {st st' : List Nat}, XOk T Pr n N sc ce X → Takes X W → agE T N sc c e = true → stT Pr.defs c st = some st' → PT X e (tT Pr T n X c st st' W)
  | .var i, e, sc, ce, X, W, st, st', o, tk, h, hst => by
    obtain ⟨x, p, rfl, hs⟩ := inv_var h
    simp only [stT, Option.some.injEq] at hst
    subst hst
    exact c_val hC (fun ρ K XX h => by simp only [wpT, wpE] at *; exact h) (is_val trivial) (c_var (o.slot hs))
  | .io _, e, sc, ce, X, W, st, st', o, tk, h, hst => by simp only [stT] at hst; cases hst
  | .int _, e, sc, ce, X, W, st, st', o, tk, h, hst => by simp only [stT] at hst; cases hst
  | .str _, e, sc, ce, X, W, st, st', o, tk, h, hst => by simp only [stT] at hst; cases hst
  | .non, e, sc, ce, X, W, st, st', o, tk, h, hst => by simp only [stT] at hst; cases hst
  | .glob _, e, sc, ce, X, W, st, st', o, tk, h, hst => by simp only [stT] at hst; cases hst
  | .bin .., e, sc, ce, X, W, st, st', o, tk, h, hst => by simp only [stT] at hst; cases hst
  | .neg _, e, sc, ce, X, W, st, st', o, tk, h, hst => by simp only [stT] at hst; cases hst
  | .ife .., e, sc, ce, X, W, st, st', o, tk, h, hst => by simp only [stT] at hst; cases hst
  | .tup _, e, sc, ce, X, W, st, st', o, tk, h, hst => by simp only [stT] at hst; cases hst
  | .lst _, e, sc, ce, X, W, st, st', o, tk, h, hst => by simp only [stT] at hst; cases hst
  | .slc .., e, sc, ce, X, W, st, st', o, tk, h, hst => by simp only [stT] at hst; cases hst
  | .rev _, e, sc, ce, X, W, st, st', o, tk, h, hst => by simp only [stT] at hst; cases hst
  | .step2 .., e, sc, ce, X, W, st, st', o, tk, h, hst => by simp only [stT] at hst; cases hst
  | .comp .., e, sc, ce, X, W, st, st', o, tk, h, hst => by simp only [stT] at hst; cases hst
  | .comp2 .., e, sc, ce, X, W, st, st', o, tk, h, hst => by simp only [stT] at hst; cases hst
  | .pop _, e, sc, ce, X, W, st, st', o, tk, h, hst => by simp only [stT] at hst; cases hst
  | .popAt .., e, sc, ce, X, W, st, st', o, tk, h, hst => by simp only [stT] at hst; cases hst
  | .index .., e, sc, ce, X, W, st, st', o, tk, h, hst => by simp only [stT] at hst; cases hst
  | .xfld _, e, sc, ce, X, W, st, st', o, tk, h, hst => by simp only [stT] at hst; cases hst
  | .bl b, e, sc, ce, X, W, st, st', o, tk, h, hst => by
    obtain ⟨_, _, rfl⟩ := inv_bl h
    simp only [stT, Option.some.injEq] at hst
    subst hst
    exact c_val hC (fun ρ K XX h => by simp only [wpT, wpE, truF, ok, app] at *; exact ⟨trivial, h⟩) (is_val trivial) (c_lit (x := .bl b) L2.pe_bl (fun C G ρ K XX => by simp only [wpE]) fun H L => by simp only [Own, and_self])
  | .not_ a, e, sc, ce, X, W, st, st', o, tk, h, hst => by
    obtain ⟨x, q, rfl, h1⟩ := inv_not h
    simp only [stT] at hst
    exact c_notT hC (sT hC a o tk h1 hst)
  | .cmp p a b, e, sc, ce, X, W, st, st', o, tk, h, hst => by
    obtain ⟨l, r, q, rfl, hs, h1, h2⟩ := inv_cmp h
    simp only [stT, Option.bind_eq_bind, Option.bind_eq_some_iff] at hst
    obtain ⟨⟨k1, s1⟩, ha, ⟨k2, s2⟩, hb, hst⟩ := hst
    simp only at hst ha hb
    split at hst
    · cases hst
      exact c_cmpT hC o.hu (marks_ns hs) (sE hC a o tk h1 ha) (sE hC b o tk h2 hb) (by assumption)
    · cases hst
  | .cmp2 p p' a b c, e, sc, ce, X, W, st, st', o, tk, h, hst => by
    obtain ⟨l, r, r', q, rfl, hs, hs', h1, h2, h3⟩ := inv_cmp2 h
    simp only [stT, Option.bind_eq_bind, Option.bind_eq_some_iff] at hst
    obtain ⟨⟨k1, s1⟩, ha, ⟨k2, s2⟩, hb, ⟨k3, s3⟩, hc, hst⟩ := hst
    simp only at hst ha hb hc
    split at hst
    · rename_i hh
      cases hst
      simp only [Bool.and_eq_true] at hh
      exact c_cmp2T hC o.hu (marks_ns hs) (marks_ns hs') (sE hC a o tk h1 ha) (sE hC b o tk h2 hb) (sE hC c o tk h3 hc) hh.1.1 hh.1.2 hh.2
    · cases hst
  | .bop d as, e, sc, ce, X, W, st, st', o, tk, h, hst => by
    obtain ⟨es, q, rfl, h1⟩ := inv_bop h
    simp only [stT] at hst
    have := (sB hC d as (pos := q) o tk h1 hst).pt
    exact PT.imp this fun σ H Q z => by
      obtain ⟨ρ, F, L0, w, z⟩ := z
      simp only [wpT] at z
      exact ⟨ρ, F, L0, w, z⟩
  | .call f as, e, sc, ce, X, W, st, st', o, tk, h, hst => by
    obtain ⟨x, p, es, q, rfl, hf, hg, hne, h1, hns⟩ := inv_call h
    simp only [stT, Option.bind_eq_bind, Option.bind_eq_some_iff] at hst
    obtain ⟨d, hd, ⟨ks, s1⟩, ha, s2, hio, hst⟩ := hst
    simp only at hst ha hio
    split at hst
    · cases hst
      obtain ⟨e, es', rfl⟩ := agEs_cons h1 hne
      exact c_val hC (fun ρ K XX h => by simp only [wpT, wpE] at *; exact h) (is_val trivial) (c_call hC o.mod o.room tk hd hf (o.glob hg) hio (by assumption) (sEs hC as o tk h1 ha hns) hns)
    · cases hst
  | .bi b as, e, sc, ce, X, W, st, st', o, tk, h, hst => by
    obtain ⟨p, es, q, rfl, hg, hl, h1, hns⟩ := inv_bi h
    simp only [stT, Option.bind_eq_bind, Option.bind_eq_some_iff] at hst
    obtain ⟨⟨ks, s1⟩, ha, hst⟩ := hst
    simp only at hst ha
    split at hst
    · cases hst
      obtain ⟨e, es', rfl⟩ := agEs_cons h1 (by cases as with | nil => cases b <;> simp [biA] at hl | cons => rfl)
      exact c_val hC (fun ρ K XX h => by simp only [wpT, wpE] at *; exact h) (is_val trivial) (c_bi hC (o.glob hg).1 rfl (o.mod.bi _ (by cases b <;> decide)) o.calm (by assumption) (sEs hC as o tk h1 ha hns) hns)
    · cases hst
  | .isi a t, e, sc, ce, X, W, st, st', o, tk, h, hst => by
    obtain ⟨p, x, p2, q, rfl, hg, hg2, ht, h1, hns⟩ := inv_isi h
    simp only [stT, Option.bind_eq_bind, Option.bind_eq_some_iff] at hst
    obtain ⟨⟨k1, s1⟩, ha, hst⟩ := hst
    cases hst
    exact c_val hC (fun ρ K XX h => by simp only [wpT, wpE] at *; exact wpE_mono hC a ρ (fun x ρ1 => app_mono fun b z => ⟨trivial, z⟩) (fun _ _ z => z) h) (is_val trivial) (c_isi hC (o.glob hg).1 rfl (o.mod.bi _ (by decide)) (o.glob hg2).1 rfl (o.mod.bi _ (by cases t <;> first | decide | exact absurd rfl (ht _))) ht (sE hC a o tk h1 ha) hns)
  | .idx a i, e, sc, ce, X, W, st, st', o, tk, h, hst => by
    obtain ⟨x, s, p, rfl, h1, h2, hp⟩ := inv_idx h
    simp only [stT, Option.bind_eq_bind, Option.bind_eq_some_iff] at hst
    obtain ⟨⟨k1, s1⟩, ha, ⟨k2, s2⟩, hb, hst⟩ := hst
    simp only at hst ha hb
    split at hst
    · cases hst
      exact c_val hC (fun ρ K XX h => by simp only [wpT, wpE] at *; exact h) (is_val trivial) (c_idx hC (sE hC a o tk h1 ha) (sE hC i o tk h2 hb) (by assumption) (plain_ns hp))
    · cases hst
theorem sB (hC : MonoC (Pr.call n)) (d : Bool) : ∀ (as : List E) {es : List Expr} {pos : Pos} {sc : Scope} {ce : Str → Bool} {X : Cx} {W : WX} {st st' : List Nat}, XOk T Pr n N sc ce X → Takes X W → agEs T N sc as es = true → stB Pr.defs as st = some st' → PW X (.BoolOp (opOf d) es pos) (tB Pr T n X d as st st' W)
  | [], es, pos, sc, ce, X, W, st, st', o, tk, h, hst => by simp only [stB] at hst; cases hst
  | [a], es, pos, sc, ce, X, W, st, st', o, tk, h, hst => by
    rcases es with _ | ⟨e, _ | ⟨e2, es⟩⟩ <;> simp only [agEs, Bool.and_false, Bool.false_eq_true] at h
    rw [Bool.and_true] at h
    simp only [stB] at hst
    exact c_b1 hC (sT hC a o tk h hst)
  | a :: b :: r, es, pos, sc, ce, X, W, st, st', o, tk, h, hst => by
    rcases es with _ | ⟨e, _ | ⟨e2, es⟩⟩ <;> simp only [agEs, Bool.and_false, Bool.false_eq_true] at h
    simp only [stB, Option.bind_eq_bind, Option.bind_eq_some_iff] at hst
    obtain ⟨s1, ha, s2, hb, hst⟩ := hst
    split at hst
    · cases hst
      rw [Bool.and_eq_true] at h
      exact c_b2 hC (sT hC a o tk h.1 ha) (sB hC d (b :: r) o tk (by simpa only [agEs] using h.2) hb) (by assumption)
    · cases hst
theorem sV (hC : MonoC (Pr.call n)) (d : Bool) : ∀ (as : List E) {es : List Expr} {pos : Pos} {sc : Scope} {ce : Str → Bool} {X : Cx} {W : WX} {m k : Nat} {st st' : List Nat}, XOk T Pr n N sc ce X → Takes X W → agEs T N sc as es = true → stV Pr.defs m as st = some (k, st') → PE X (.BoolOp (opOf d) es pos) (tV Pr T n X d as m st k st' W)
  | [], es, pos, sc, ce, X, W, m, k, st, st', o, tk, h, hst => by simp only [stV] at hst; cases hst
  | [a], es, pos, sc, ce, X, W, m, k, st, st', o, tk, h, hst => by
    rcases es with _ | ⟨e, _ | ⟨e2, es⟩⟩ <;> simp only [agEs, Bool.and_false, Bool.false_eq_true] at h
    rw [Bool.and_true] at h
    simp only [stV] at hst
    exact c_v1 hC (sE hC a o tk h hst)
  | a :: b :: r, es, pos, sc, ce, X, W, m, k, st, st', o, tk, h, hst => by
    rcases es with _ | ⟨e, _ | ⟨e2, es⟩⟩ <;> simp only [agEs, Bool.and_false, Bool.false_eq_true] at h
    simp only [stV, Option.bind_eq_bind, Option.bind_eq_some_iff] at hst
    obtain ⟨⟨k1, s1⟩, ha, ⟨k2, s2⟩, hb, hst⟩ := hst
    simp only at hst ha hb
    split at hst
    · cases hst
      rw [Bool.and_eq_true] at h
      exact c_v2 hC (sE hC a o tk h.1 ha) (sV hC d (b :: r) o tk (by simpa only [agEs] using h.2) hb) (by assumption)
    · cases hst
theorem sEs (hC : MonoC (Pr.call n)) : ∀ (as : List E) {es : List Expr} {sc : Scope} {ce : Str → Bool} {X : Cx} {W : WX} {m : Nat} {ks : List Nat} {st st' : List Nat}, XOk T Pr n N sc ce X → Takes X W → agEs T N sc as es = true → stEs Pr.defs m as st = some (ks, st') → es.all ns = true → PA X es (tEs Pr T n X as m st ks st' W)
  | [], es, sc, ce, X, W, m, ks, st, st', o, tk, h, hst, hns => by
    cases es <;> simp only [agEs, Bool.false_eq_true] at h
    simp only [stEs, Option.some.injEq, Prod.mk.injEq] at hst
    obtain ⟨rfl, rfl⟩ := hst
    exact c_nil
  | a :: as, es, sc, ce, X, W, m, ks, st, st', o, tk, h, hst, hns => by
    cases es <;> simp only [agEs, Bool.false_eq_true] at h
    rename_i e es
    rw [Bool.and_eq_true] at h
    simp only [List.all_cons, Bool.and_eq_true] at hns
    simp only [stEs, Option.bind_eq_bind, Option.bind_eq_some_iff] at hst
    obtain ⟨⟨k1, s1⟩, ha, ⟨ks', s2⟩, hb, hst⟩ := hst
    simp only at hst hb
    split at hst
    · rename_i hh
      cases hst
      simp only [Bool.and_eq_true, Bool.or_eq_true, beq_iff_eq] at hh
      cases hi : isIo a with
      | some i =>
        rw [hi] at ha
        cases ha
        obtain rfl := isIo_some hi
        obtain ⟨x, p, rfl, hs⟩ := inv_io h.1
        exact c_consIo hC (o.slot hs) (sEs hC as o tk h.2 hb hns.2) hns.1
      | none =>
        rw [hi] at ha
        exact c_cons hC hi (sE hC a o tk h.1 ha) (sEs hC as o tk h.2 hb hns.2) hh.1 hh.2 hns.1
    · cases hst
theorem sO (hC : MonoC (Pr.call n)) : ∀ (a : Option E) {e : Option Expr} {sc : Scope} {ce : Str → Bool} {X : Cx} {W : WX} {st st' : List Nat}, XOk T Pr n N sc ce X → Takes X W → agO T N sc a e = true → stO Pr.defs a st = some st' → PO X e (tO Pr T n X a st st' W)
  | none, e, sc, ce, X, W, st, st', o, tk, h, hst => by
    cases e <;> simp only [agO, Bool.false_eq_true] at h
    simp only [stO, Option.some.injEq] at hst
    subst hst
    exact c_o0
  | some a, e, sc, ce, X, W, st, st', o, tk, h, hst => by
    cases e <;> simp only [agO, Bool.false_eq_true] at h
    simp only [stO, Option.bind_eq_bind, Option.bind_eq_some_iff] at hst
    obtain ⟨⟨k1, s1⟩, ha, hst⟩ := hst
    cases hst
    exact c_o1 hC (sE hC a o tk h ha)
theorem sC (hC : MonoC (Pr.call n)) : ∀ (a : Option E) {es : List Expr} {sc : Scope} {ce : Str → Bool} {X : Cx} {W : WX} {st st' : List Nat}, XOk T Pr n N sc ce X → Takes X W → agC T N sc a es = true → stC Pr.defs a st = some st' → PTs X es (tC Pr T n X a st st' W)
  | none, e, sc, ce, X, W, st, st', o, tk, h, hst => by
    rcases e with _ | ⟨e, _ | ⟨e2, es⟩⟩ <;> simp only [agC, Bool.false_eq_true] at h
    simp only [stC, Option.some.injEq] at hst
    subst hst
    exact c_c0
  | some a, e, sc, ce, X, W, st, st', o, tk, h, hst => by
    rcases e with _ | ⟨e, _ | ⟨e2, es⟩⟩ <;> simp only [agC, Bool.false_eq_true] at h
    simp only [stC] at hst
    exact c_c1 (sT hC a o tk h hst)
theorem sHd (hC : MonoC (Pr.call n)) : ∀ (as : List E) {a : E} {e : Expr} {sc : Scope} {ce : Str → Bool} {X : Cx} {W : WX} {m k : Nat} {st st' : List Nat}, as.head? = some a → XOk T Pr n N sc ce X → Takes X W → agE T N sc a e = true → stE Pr.defs a m st = some (k, st') → PE X e (tE Pr T n X a m st k st' W)
  | [], a, e, sc, ce, X, W, m, k, st, st', hh, o, tk, h, hst => by cases hh
  | b :: r, a, e, sc, ce, X, W, m, k, st, st', hh, o, tk, h, hst => by
    cases hh
    exact sE hC b o tk h hst
end
end
end TL
end -- TLSndN

section -- TLChkS
/-! TL, part 21: statements: agreement, who owns what. -/
set_option linter.all false
set_option maxRecDepth 100000
namespace TL
open PySem PySem.Spec PyProof.Rows
/-- the slots that the caller owns, the depth that is returned -/
structure Ctx where
  io : List (Nat × Nat)
  ret : Nat
structure R where
  nx : Option (List Nat) := none
  bk : Option (List Nat) := none
  ct : Option (List Nat) := none
  ex : Option (List Nat) := none
def mtO : Option (List Nat) → Option (List Nat) → Option (List Nat)
  | none, y => y
  | x, none => x
  | some a, some b => some (minS a b)
/-- the first one tells less -/
def leO : Option (List Nat) → Option (List Nat) → Bool
  | _, none => true
  | some a, some b => leS a b
  | none, some _ => false
def leR (a b : R) : Bool := leO a.nx b.nx && leO a.bk b.bk && leO a.ct b.ct && leO a.ex b.ex
def mtR (a b : R) : R := ⟨mtO a.nx b.nx, mtO a.bk b.bk, mtO a.ct b.ct, mtO a.ex b.ex⟩
def noSlot (cx : Ctx) (i : Nat) : Bool := !(cx.io.map (·.1)).contains i
def ioOk (cx : Ctx) (st : List Nat) : Bool := cx.io.all fun p => decide (p.2 ≤ st.getD p.1 0)
def setL : List Nat → List Nat → List Nat → List Nat
  | i :: is, k :: ks, st => setL is ks (st.set i k)
  | _, _, st => st
def ckR (r : R) (l : List R) : Option R := if l.all (leR r) then some r else none
def isLit : E → Bool
  | .int _ | .str _ | .bl _ | .non => true
  | _ => false
/-- what may stand in an except clause -/
def isU : List S → Bool
  | [] => true
  | .ret e :: r => isLit e && isU r
  | .asg _ e :: r => isLit e && isU r
  | .pass :: r | .cont :: r | .brk :: r => isU r
  | _ => false
def wi (i : Option Nat) (r : R) : R := match i with
  | none => r
  | some i => ⟨r.nx.map (·.set i 0), r.bk.map (·.set i 0), r.ct.map (·.set i 0), none⟩
def okI (cx : Ctx) (i : Option Nat) (st : List Nat) : Bool := match i with
  | none => true
  | some i => noSlot cx i && decide (i < st.length)
def seN (se : List Nat) : Option Nat → List Nat
  | none => se
  | some i => se.set i 0
mutual
def stS (D : List Def) (cx : Ctx) : S → List Nat → Option R
  | .asg i e, st => do
    let (k, s1) ← stE D e 0 st
    if noSlot cx i && decide (i < s1.length) then some { nx := some (s1.set i k), ex := some s1 } else none
  | .asgT t e, st => do
    let (_, s1) ← stE D e 0 st
    if (tgSlots t).all (fun i => noSlot cx i && decide (i < s1.length)) then some { nx := some (zeroS (tgSlots t) s1), ex := some s1 } else none
  | .par is es, st => do
    let (ks, s1) ← stEs D 0 es st
    if noIo es && is.length == es.length && is.all (fun i => noSlot cx i && decide (i < s1.length)) then some { nx := some (setL is ks s1), ex := some s1 } else none
  | .aug i _ e, st => do
    let (_, s1) ← stE D e 9 st
    if noSlot cx i && decide (i < s1.length) then some { nx := some (s1.set i 9), ex := some s1 } else none
  | .setI i ixs e, st => match ixs with
    | [ix] => do
      let (k, s1) ← stE D e 0 st
      let (_, s2) ← stE D ix 9 s1
      if leS s2 s1 && decide (1 ≤ s2.getD i 0) then some { nx := some (s2.set i (1 + min (s2.getD i 0 - 1) k)), ex := some s2 } else none
    | _ => none
  | .append i ixs e, st => match ixs with
    | [] => do
      let (k, s1) ← stE D e 0 st
      if decide (1 ≤ s1.getD i 0) then some { nx := some (s1.set i (1 + min (s1.getD i 0 - 1) k)), ex := some s1 } else none
    | _ => none
  | .extend _ _, _ => none
  | .expr e, st => do
    let (_, s1) ← stE D e 0 st
    some { nx := some s1, ex := some s1 }
  | .ret e, st => do
    let (k, s1) ← stE D e 0 st
    if decide (cx.ret ≤ k) && ioOk cx s1 then some { ex := some s1 } else none
  | .retN, st => if ioOk cx st then some {} else none
  | .ife c a b, st => do
    let s1 ← stT D c st
    let ra ← stSs D cx a s1
    let rb ← stSs D cx b s1
    ckR (mtR { ex := some s1 } (mtR ra rb)) [ra, rb, { ex := some s1 }]
  | .for_ t _ as body, st => do
    let (_, s1) ← stEs D 0 as st
    let r1 ← stSs D cx body (zeroS (tgSlots t) s1)
    let t1 := ((mtO (some s1) (mtO r1.nx r1.ct)).getD [])
    let r2 ← stSs D cx body (zeroS (tgSlots t) t1)
    let r : R := { nx := mtO (some t1) r2.bk, ex := mtO (some s1) r2.ex }
    if leS t1 s1 && leO (some t1) r2.nx && leO (some t1) r2.ct && leO r.nx (some t1) && leO r.nx r2.bk && leO r.ex (some s1) && leO r.ex r2.ex && noIo as && (tgSlots t).all (fun i => noSlot cx i && decide (i < t1.length)) then some r else none
  | .while_ c body, st => do
    let s1 ← stT D c st
    let r1 ← stSs D cx body s1
    let t1 := ((mtO (some st) (mtO r1.nx r1.ct)).getD [])
    let s2 ← stT D c t1
    let r2 ← stSs D cx body s2
    let r : R := { nx := mtO (some s2) r2.bk, ex := mtO (some s2) r2.ex }
    if leS t1 st && leO (some t1) r2.nx && leO (some t1) r2.ct && leO r.nx (some s2) && leO r.nx r2.bk && leO r.ex (some s2) && leO r.ex r2.ex then some r else none
  | .raise_ _ as, st => if as.isEmpty then some { ex := some st } else none
  | .try_ body hs, st => do
    let rb ← stSs D cx body st
    match rb.ex with
    | none => none
    | some se => do
      let rh ← stH D cx hs se
      ckR (mtR rb rh) [rb, rh]
  | .pass, st => some { nx := some st }
  | .brk, st => some { bk := some st }
  | .cont, st => some { ct := some st }
def stSs (D : List Def) (cx : Ctx) : List S → List Nat → Option R
  | [], st => some { nx := some st }
  | s :: r, st => do
    let a ← stS D cx s st
    match a.nx with
    | none => if r.isEmpty then some a else none
    | some s1 => do
      let b ← stSs D cx r s1
      ckR (mtR { a with nx := none } b) [{ a with nx := none }, b]
def stH (D : List Def) (cx : Ctx) : List (Nat × Option Nat × List S) → List Nat → Option R
  | [], se => some { ex := some se }
  | (_, n, b) :: r, se => do
    let a ← stSs D cx b (seN se n)
    let b' ← stH D cx r se
    if isU b && okI cx n se && !b.isEmpty then ckR (mtR { wi n { a with ex := none } with ex := none } b') [{ wi n { a with ex := none } with ex := none }, b'] else none
end

/-! ### agreement -/
def locNm (sc : Scope) : Expr → Bool
  | .Name x _ => sc.names.lookup x == some .local
  | _ => false
/-- nothing is swapped -/
def swN (sc : Scope) : Expr → Expr → Bool
  | .Tuple ts _ _, .Tuple vs _ _ => vs.all (foldedForSure 8) || !(ts.length == 2 || ts.length == 3) || vs.length != ts.length || !ts.all (locNm sc)
  | _, .Tuple _ _ _ => false
  | _, _ => true
/-- a comprehension that is stored as it is made -/
def swC (sc : Scope) (x : Str) (xp : Pos) : Expr → Bool
  | .ListComp _ _ scope p => sc.names.lookup x == some .local && xp.line == p.line && !(scope.names.any fun (n, k) => n == x && (k == .local || k == .cell))
  | _ => false
def nameOf : Expr → Str
  | .Name x _ => x
  | _ => ""
def lineOf : Expr → Nat
  | .Name _ p => p.line
  | _ => 0
def dName : Expr → Option (Str × Pos)
  | .Name x p => some (x, p)
  | _ => none
/-- plain local names on one line -/
def parN (N : List Str) (sc : Scope) (ce : Str → Bool) (l : Nat) : List Nat → List Expr → Bool
  | [], es => es.isEmpty
  | i :: is, es => match es with
    | e :: es => (match dName e with
      | some (x, p) => storeB N sc ce i x && sc.names.lookup x == some .local && p.line == l && parN N sc ce l is es
      | none => false)
    | [] => false
def dAsg : Stmt → Option (Str × Pos × Expr)
  | .Assign [.Name x xp] v _ => some (x, xp, v)
  | _ => none
def dAsgT : Stmt → Option (Expr × Expr)
  | .Assign [g] v _ => some (g, v)
  | _ => none
def dPar : Stmt → Option (List Expr × List Expr)
  | .Assign [.Tuple ts _ _] (.Tuple vs _ _) _ => some (ts, vs)
  | _ => none
def dAug : Stmt → Option (Str × Operator × Expr)
  | .AugAssign (.Name x _) p v _ => some (x, p, v)
  | _ => none
def dSetI : Stmt → Option (Str × Expr × Expr)
  | .Assign [.Subscript (.Name x _) k _] v _ => some (x, k, v)
  | _ => none
def dApp : Stmt → Option (Str × Str × Expr × Pos × Pos)
  | .Expr (.Call (.Attribute (.Name x _) m ap) [v] [] cp) _ => some (x, m, v, ap, cp)
  | _ => none
def dExpr : Stmt → Option (Expr)
  | .Expr v _ => some v
  | _ => none
def dRet : Stmt → Option (Expr)
  | .Return (some v) _ => some v
  | _ => none
def dRetN : Stmt → Option (Unit)
  | .Return none _ => some ()
  | _ => none
def dIf : Stmt → Option (Expr × List Stmt × List Stmt)
  | .If t p q _ => some (t, p, q)
  | _ => none
def dFor : Stmt → Option (Expr × Expr × List Stmt)
  | .For g it b [] _ => some (g, it, b)
  | _ => none
def dWhile : Stmt → Option (Expr × List Stmt)
  | .While t b [] _ => some (t, b)
  | _ => none
def dRaise : Stmt → Option (Str)
  | .Raise (some (.Call (.Name x _) [] [] _)) none _ => some x
  | _ => none
def dTry : Stmt → Option (List Stmt × ExceptHandler × List ExceptHandler)
  | .Try b (h :: hds) [] [] _ => some (b, h, hds)
  | _ => none
def dPass : Stmt → Option (Unit)
  | .Pass _ => some ()
  | .Expr (.Constant (.str _) _ _) _ => some ()
  | _ => none
def dBrk : Stmt → Option (Unit)
  | .Break _ => some ()
  | _ => none
def dCont : Stmt → Option (Unit)
  | .Continue _ => some ()
  | _ => none
def dH : ExceptHandler → Option (Str × Option Str × List Stmt)
  | .ExceptHandler (some (.Name x _)) y q _ => some (x, y, q)
  | _ => none
def agN (N : List Str) (sc : Scope) : Option Nat → Option Str → Bool
  | none, none => true
  | some i, some y => N[i]? == some y && sc.names.lookup y == some .local
  | _, _ => false
mutual
def agS (T : Tab) (N : List Str) (sc : Scope) : S → Stmt → Bool
  | .asg i e, q => match dAsg q with
    | some (x, xp, v) => storeB N sc (cellB sc) i x && agE T N sc e v && (!isCompE v || swC sc x xp v)
    | none => false
  | .asgT t e, q => match dAsgT q with
    | some (g, v) => agTg N sc (cellB sc) t g && isTup g && agE T N sc e v && !isCompE v && swN sc g v
    | none => false
  | .par is es, q => match dPar q with
    | some (ts, vs) => parN N sc (cellB sc) ((ts.map lineOf).headD 0) is ts && agEs T N sc es vs && vs.all ns && nodupB is && (is.length == 2 || is.length == 3) && !vs.all (foldedForSure 8) && !vs.all (constantsAlone 8)
    | none => false
  | .aug i o e, q => match dAug q with
    | some (x, p, v) => storeB N sc (cellB sc) i x && agE T N sc e v && ((o == .add && p == .Add) || (o == .sub && p == .Sub))
    | none => false
  | .setI i ixs e, q => match ixs, dSetI q with
    | [ix], some (x, k, v) => slotB N sc i x && agE T N sc e v && agE T N sc ix k && nSl k && !isCompE v
    | _, _ => false
  | .append i ixs e, q => match ixs, dApp q with
    | [], some (x, m, v, ap, cp) => m == ("append" : Str) && slotB N sc i x && agE T N sc e v && ns v && ap.endLine == cp.line
    | _, _ => false
  | .extend _ _, _ => false
  | .expr e, q => match dExpr q with
    | some v => agE T N sc e v && !isCompE v
    | none => false
  | .ret e, q => match dRet q with
    | some v => agE T N sc e v
    | none => false
  | .retN, q => (dRetN q).isSome
  | .ife c a b, q => match dIf q with
    | some (t, p, q) => agE T N sc c t && agSs T N sc a p && agSs T N sc b q
    | none => false
  | .for_ t k as body, q => match dFor q with
    | some (g, it, b) => agIt T N sc k as it g && agTg N sc (cellB sc) t g && agSs T N sc body b && !isSet it
    | none => false
  | .while_ c body, q => match dWhile q with
    | some (t, b) => agE T N sc c t && agSs T N sc body b
    | none => false
  | .raise_ c as, q => match dRaise q with
    | some x => as.isEmpty && T.cl[c]? == some x && T.xf[c]? == some ("" : Str) && globB sc x
    | none => false
  | .try_ body hs, q => match dTry q with
    | some (b, h, hds) => agSs T N sc body b && agH T N sc hs (h :: hds)
    | none => false
  | .pass, q => (dPass q).isSome
  | .brk, q => (dBrk q).isSome
  | .cont, q => (dCont q).isSome
def agSs (T : Tab) (N : List Str) (sc : Scope) : List S → List Stmt → Bool
  | [], qs => qs.isEmpty
  | s :: r, qs => match qs with
    | t :: q => agS T N sc s t && agSs T N sc r q
    | [] => false
def agH (T : Tab) (N : List Str) (sc : Scope) : List (Nat × Option Nat × List S) → List ExceptHandler → Bool
  | [], hds => hds.isEmpty
  | (c, n, b) :: r, hds => match hds with
    | hd :: hds => (match dH hd with
      | some (x, y, q) => T.cl[c]? == some x && globB sc x && agN N sc n y && agSs T N sc b q && agH T N sc r hds
      | none => false)
    | [] => false
end
theorem agS_eqs : True := (fun _ => trivial) @agS.eq_1
end TL
end -- TLChkS

section -- TLTry
/-! TL, part 22: except clauses with and without names; raise C(). -/
set_option linter.all false
set_option autoImplicit true
set_option maxRecDepth 100000
set_option maxHeartbeats 1000000
namespace TL
open PySem PySem.Spec PyProof.Rows
open L2 (V Hp VK XK Cx Inv TS WX Takes thn PS PSs SP Names Zc Sky Env0 St Gl Vals Ends)
/-- what the ends of a named clause are -/
def Ends.gone (i : Nat) (D : Ends) : Ends := { nx := fun σ' H' => D.nx (σ'.set i none) H', rt := D.rt, bk := fun σ' H' => D.bk (σ'.set i none) H', ct := fun σ' H' => D.ct (σ'.set i none) H' }
abbrev Cl := Value × Option Nat × (Addr → Value → Option Addr → TS)
def wMix (K : PySem.W.Frag) (Wout : WX) (D : Ends) : List Cl → WX
  | [] => Wout
  | (c, n, ts) :: r => fun cls d σ H => ∃ b, PySem.W.exmOne K cls c = some b ∧
      (b = true → ∀ a, H a = none → match n with | none => ts a cls d D σ H | some i => ts a cls d (Ends.gone i D) (σ.set i (some (.ref a))) H) ∧ (b = false → wMix K Wout D r cls d σ H)
inductive MixOk (X : Cx) : List ExceptHandler → List Cl → Prop
  | nil : MixOk X [] []
  | one {x : Str} {c : Value} {ts : Addr → Value → Option Addr → TS} {b₀ : Stmt} {suite : List Stmt} {np pos' : Pos} {hds : List ExceptHandler} {l : List Cl} (hc : Names X x c)
      (hsu : ∀ (a : Addr) (oe : Obj) (cls : Value) (d : Option Addr) (pn : List (Addr × Obj)), Zc cls d oe → (∃ vs, oe.data = .fields vs) → PSs (X.suite a ((a, oe) :: pn)) (b₀ :: suite) (ts a cls d)) (r : MixOk X hds l) :
      MixOk X (.ExceptHandler (some (.Name x np)) none (b₀ :: suite) pos' :: hds) ((c, none, ts) :: l)
  | as {x n : Str} {i : Nat} {c : Value} {ts : Addr → Value → Option Addr → TS} {b₀ : Stmt} {suite : List Stmt} {np pos' : Pos} {hds : List ExceptHandler} {l : List Cl} (hc : Names X x c) (hN : X.N.Nodup) (hi : X.N[i]? = some n) (hl : X.env.kindOf n = some .local)
      (hsu : ∀ (a : Addr) (oe : Obj) (cls : Value) (d : Option Addr) (pn : List (Addr × Obj)), Zc cls d oe → (∃ vs, oe.data = .fields vs) → PSs (X.suite a ((a, oe) :: pn)) (b₀ :: suite) (ts a cls d)) (r : MixOk X hds l) :
      MixOk X (.ExceptHandler (some (.Name x np)) (some n) (b₀ :: suite) pos' :: hds) ((c, some i, ts) :: l)
section
variable {X : Cx} {body : List Stmt} {h₀ : ExceptHandler} {hds : List ExceptHandler} {l : List Cl} {pos : Pos} {tb : WX → TS} {Wout : WX}
theorem ps_try_mix (hs : X.stack = X.env :: X.outer) (hf : X.env.frame = some X.env.locals) (tk : Takes X Wout)
    (hb : ∀ (W : WX) (pn : List (Addr × Obj)) (xe : Value → Shared → Prop), Takes (X.tr pn xe) W → PassesOwn (model X.prog X.w) X.A X.env xe → PSs (X.tr pn xe) body (tb W))
    (hh : MixOk X (h₀ :: hds) l) : PS X (.Try body (h₀ :: hds) [] [] pos) (fun D σ H => tb (wMix X.K Wout D l) D σ H) := by
  refine ⟨fun pins s σ H D I h => ?_⟩
  have ok := I.ok
  have hfr : X.A.frames = some (X.env :: X.outer) := by rw [ok.frames, hs]
  refine wpAny_Try_except ?_
  refine wpAny_mono ((hb (wMix X.K Wout D l) (X.pn ++ pins) (fun e s₁ => wpAny (model X.prog X.w) X.A (noteFrame e X.env) (fun _ s₂ => wpAny (model X.prog X.w) X.A (setFlight e none) (fun _ s₃ =>
    wpAny (model X.prog X.w) X.A (handleBy e X.env (h₀ :: hds)) (SP X pins D) X.xe s₃) X.xe s₂) X.xe s₁) (fun u s' xx => ?_) PassesOwn.looking).run [] s σ H D (I.toTry _) h) (fun f s1 hsp => ?_) (fun e s1 he => he)
  · obtain ⟨a, B, sI, pins', σ', H', cls, d, rfl, J', nb, up, sky, na, os, ag, w⟩ := xx
    have J : Inv X pins σ' H' sI := J'.ofTry ok
    have sky' : Sky B (X.env :: X.outer) a (Zc cls d) X.env.locals s'.heap := by rw [← hs]; exact sky
    refine Sky.land Zc.steady hfr hf sky' fun h3 fl3 up3 => ?_
    have J3 : Inv X pins σ' H' { s' with heap := h3 } := J.landed nb fl3.1 (up.trans up3) os ag
    obtain ⟨oe3, vs3, he3, hz3, hd3⟩ := fl3.there
    have nfr : a ∉ L2.frs (X.env :: X.outer) := fun hm => by
      obtain ⟨_, o', e', hnf⟩ := fl3.2.2.1.mem hm
      rw [he3] at e'; cases e'
      exact hnf _ hd3
    have nL : a ≠ X.env.locals := fun z => nfr (List.mem_filterMap.mpr ⟨X.env, List.mem_cons_self, by rw [hf, z]⟩)
    have nF : a ∉ X.fs := fun hm => by
      obtain ⟨e, he, q⟩ := List.mem_filterMap.mp hm
      exact nfr (List.mem_filterMap.mpr ⟨e, List.mem_cons_of_mem _ he, q⟩)
    have S3 := J3.suite he3 hd3 na nL nF
    have go : ∀ {hds' : List ExceptHandler} {l' : List Cl}, MixOk X hds' l' → wMix X.K Wout D l' cls d σ' H' →
        wpAny (model X.prog X.w) X.A (handleBy (.ref a) X.env hds') (SP X pins D) X.xe { s' with heap := h3 } := by
      intro hds' l' hk
      have test : ∀ {x : Str} {c : Value} {np : Pos} {Q : Value → Shared → Prop} {E : Value → Shared → Prop}, Names X x c → Q c { s' with heap := h3 } → wpAny (model X.prog X.w) (X.A.mark (some (.ref a))) (eval (.Name x np) X.env) Q E { s' with heap := h3 } := fun {x c np Q E} hc q => by
        obtain ⟨hg, hdbg, hm | ⟨hm, hv, hnn⟩⟩ := hc
        · exact L2.ld_glob (X := X.suite a ((a, oe3) :: (X.pn ++ pins))) S3 hg hm q hdbg
        · exact L2.ld_blt (X := X.suite a ((a, oe3) :: (X.pn ++ pins))) S3 hg hm hv q hnn hdbg
      have LT : PySem.W.Looks (model X.prog X.w) h3 (typeOf (.ref a)) cls := fun A Q E s k q => wpAny_typeOf_ref (k _ _ he3) (by rw [hz3.1]; exact q)
      induction hk with
      | nil =>
        intro w
        refine wpAny_handleBy_nil ?_
        obtain ⟨k1, k2, k3, oe, vs, T, oT, ts', he, hz, hd, h1, hr⟩ := id fl3
        unfold PySem.passOn
        refine wpAny_bind (wpAny_field he hd h1 ?_)
        rw [if_neg (show ¬ ((Value.ref T == Value.none) = true) from by simp)]
        have fin : wpAny (model X.prog X.w) X.A (setFlight (.ref a) X.env.frame) (fun _ s4 => wpAny (model X.prog X.w) X.A (throw (.ref a) : Sem Flow) (SP X pins D) X.xe s4) X.xe { s' with heap := h3 } := by
          rw [hf]
          refine HandSPX.setFlight_upZ fl3 fun h4 hh4 up4 => wpAny_throw (tk _ _ ?_)
          exact ⟨a, B, sI, pins, σ', H', cls, d, rfl, J, nb, (up.trans up3).trans up4, .inr (.inr (by rw [hs]; exact hh4)), na, os, ag, w⟩
        first
          | exact wpAny_bind (wpAny_pure (wpAny_bind fin))
          | exact wpAny_bind fin
      | one hc hsu r ih =>
        intro w
        obtain ⟨b, hb1, hyes, hno⟩ := w
        refine wpAny_handleBy_cons (codeAny_handlers_test ?_) (by intro q; cases q)
        have LM := PySem.W.exm_one (M := model X.prog X.w) (J3.kIn) LT hb1
        refine test hc (LM.here ?_)
        cases b with
        | true =>
          refine codeAny_handlers_suite ?_
          refine HandSPX.lands_againZ fl3 fun h4 fl4 up4 => ?_
          have J4 : Inv X pins σ' H' { s' with heap := h4 } := J.landed nb fl4.1 ((up.trans up3).trans up4) os ag
          obtain ⟨oe4, vs4, he4, hz4, hd4⟩ := fl4.there
          have S4 := J4.suite he4 hd4 na nL nF
          refine wpAny_mono ((hsu a oe4 cls d (X.pn ++ pins) hz4 ⟨_, hd4⟩).run [] _ _ H' _ S4 (hyes rfl a na)) (fun f s6 hsp => ?_) (fun _ _ z => False.elim z)
          cases f with
          | next =>
            obtain ⟨σ6, H6, S6, q6⟩ := hsp
            exact ⟨_, _, S6.unsuite ok, q6⟩
          | brk =>
            obtain ⟨σ6, H6, S6, q6⟩ := hsp
            exact ⟨_, _, S6.unsuite ok, q6⟩
          | cont =>
            obtain ⟨σ6, H6, S6, q6⟩ := hsp
            exact ⟨_, _, S6.unsuite ok, q6⟩
          | ret u =>
            obtain ⟨v6, σ6, H6, S6, r6, q6⟩ := hsp
            exact ⟨_, _, _, S6.unsuite ok, r6, q6⟩
        | false => exact ih (hno rfl)
      | as hc hN hi hln hsu r ih =>
        intro w
        obtain ⟨b, hb1, hyes, hno⟩ := w
        refine wpAny_handleBy_cons (codeAny_handlers_test ?_) (by intro q; cases q)
        have LM := PySem.W.exm_one (M := model X.prog X.w) (J3.kIn) LT hb1
        refine test hc (LM.here ?_)
        cases b with
        | true =>
          refine codeAny_handlers_suite_as ?_
          refine HandSPX.lands_againZ fl3 fun h4 fl4 up4 => ?_
          have J4 : Inv X pins σ' H' { s' with heap := h4 } := J.landed nb fl4.1 ((up.trans up3).trans up4) os ag
          obtain ⟨oe4, vs4, he4, hz4, hd4⟩ := fl4.there
          have S4 := J4.suite he4 hd4 na nL nF
          refine L2.store_ok (X := X.suite a ((a, oe4) :: (X.pn ++ pins))) (v := .ref a) S4 hN hi (.inl hln) rfl (fun s5 S5 => ?_) (.inr hln)
          refine wpAny_mono ((hsu a oe4 cls d (X.pn ++ pins) hz4 ⟨_, hd4⟩).run [] s5 _ H' _ S5 (hyes rfl a na)) (fun f s6 hsp => ?_) (fun _ _ z => False.elim z)
          cases f with
          | next =>
            obtain ⟨σ6, H6, S6, q6⟩ := hsp
            exact L2.gone_ok (S6.unsuite ok) hN hi hln fun s7 J7 => ⟨_, _, J7, q6⟩
          | brk =>
            obtain ⟨σ6, H6, S6, q6⟩ := hsp
            exact L2.gone_ok (S6.unsuite ok) hN hi hln fun s7 J7 => ⟨_, _, J7, q6⟩
          | cont =>
            obtain ⟨σ6, H6, S6, q6⟩ := hsp
            exact L2.gone_ok (S6.unsuite ok) hN hi hln fun s7 J7 => ⟨_, _, J7, q6⟩
          | ret u =>
            obtain ⟨v6, σ6, H6, S6, r6, q6⟩ := hsp
            exact L2.gone_ok (S6.unsuite ok) hN hi hln fun s7 J7 => ⟨_, _, _, J7, r6, q6⟩
        | false => exact ih (hno rfl)
    exact go hh w
  · cases f with
    | next =>
      obtain ⟨σ', H', J', q⟩ := hsp
      exact wpAny_execs_nil ⟨σ', H', J'.ofTry ok, q⟩
    | brk =>
      obtain ⟨σ', H', J', q⟩ := hsp
      exact ⟨σ', H', J'.ofTry ok, q⟩
    | cont =>
      obtain ⟨σ', H', J', q⟩ := hsp
      exact ⟨σ', H', J'.ofTry ok, q⟩
    | ret u =>
      obtain ⟨v, σ', H', J', r, q⟩ := hsp
      exact ⟨v, σ', H', J'.ofTry ok, r, q⟩
end
section
variable {X : Cx} {C : Addr} {bmB : List Value} {B newId initId : String}
/-- C() -/
theorem pmk_own0 {x : Str} {p pos : Pos} (F : ExcBaseFacts B newId initId bmB) (q : PySem.W.excIn X.K C bmB newId = true) (gC : X.mg x = some (.ref C)) (kC : PySem.W.keepIn X.K (.ref C) = true) (r : L2.Raises X (.ref C)) (hg : Gl X x)
    (hdb : (x == ("__debug__" : Str)) = false) : L2.PMk X (.Call (.Name x p) [] [] pos) (fun _ H Q => Q (.ref C) none H) := by
  intro pins s σ H Q I h
  refine wpAny_Call_Name_kw (L2.ld_glob I hg gC ?_ hdb)
  refine PySem.W.callWith_K0 I.kIn kC ?_
  obtain ⟨bm, N, nm, qn, bs, hdct, sn, sub, ab, col, dd, k0, k1, k2, k3, k5, mN, hC, hN, hni, T⟩ := L2.exc_obj I.kIn q
  refine wpAny_call_exc_subT F T hC hN hni (fun h' e hm => ?_) (by show 0 ≤ sizeLine; exact Nat.zero_le _)
  exact L2.mk_of I hm r h (I.hok.gone hm.new)
end
/-! ### what is not swapped -/
theorem sw_no {v : Expr} {t : Option Expr} {l : Nat} {env : PySem.Env} (h : isCompE v = false) : swapsWith v t l env = pure false := by
  cases v <;> first | (simp [isCompE] at h; done) | rfl
theorem sw_sole {g v : Expr} {l : Nat} {env : PySem.Env} (h : isCompE v = false) : swapsWithSole [g] v l env = pure false := sw_no h
theorem sw_yes {x : Str} {xp : Pos} {elt : Expr} {gs : List Comprehension} {scope : Scope} {p : Pos} {l : Nat} {env : PySem.Env} (hk : env.scope.kind = .function) (h : swC env.scope x xp (.ListComp elt gs scope p) = true) : swapsWith (.ListComp elt gs scope p) (some (.Name x xp)) l env = pure true := by
  simp only [swC, Bool.and_eq_true, beq_iff_eq, Bool.not_eq_true'] at h
  exact L2.sw_true hk h.1.1 (by simpa using h.1.2) h.2
theorem fm_all {α β : Type} {f : α → Option β} : ∀ {l : List α}, (l.filterMap f).length = l.length → ∀ e ∈ l, (f e).isSome = true
  | [], _, e, he => nomatch he
  | a :: l, h, e, he => by
    have le := List.length_filterMap_le f l
    cases q : f a with
    | none =>
      rw [List.filterMap_cons_none q, List.length_cons] at h
      omega
    | some b =>
      rw [List.filterMap_cons_some q, List.length_cons, List.length_cons] at h
      rcases List.mem_cons.mp he with z | z
      · subst z; rw [q]; rfl
      · exact fm_all (by omega) e z
theorem st_no {sc : Scope} {g v : Expr} {env : PySem.Env} (hsc : env.scope = sc) (h : swN sc g v = true) : swappedStores [g] v env = pure none := by
  by_cases hv : isTup v = true
  · cases v <;> try (simp [isTup] at hv; done)
    rename_i vs k p
    cases g <;> try (simp [swN] at h; done)
    rename_i ts k2 p2
    simp only [swN, Bool.or_eq_true, Bool.not_eq_true', bne_iff_ne, ne_eq] at h
    unfold swappedStores
    simp only
    split
    · rfl
    · rename_i c1
      split
      · rfl
      · split
        · rfl
        · rename_i c3
          split
          · rfl
          · rename_i c4
            exfalso
            simp only [Bool.or_eq_true, Bool.not_eq_true', bne_iff_ne, ne_eq, not_or] at c1 c3
            rcases h with ((h | h) | h) | h
            · exact c4 h
            · exact c1.1.1 h
            · exact c1.1.2 h
            · have al := fm_all (Decidable.not_not.mp c3.1)
              rw [List.all_eq_false] at h
              obtain ⟨e, he, hn⟩ := h
              have := al e he
              cases e <;> try (simp at this; done)
              rename_i x p
              simp only [locNm, beq_iff_eq] at hn
              simp only [Option.isSome_ite, Bool.and_eq_true, beq_iff_eq] at this
              exact hn (by rw [← hsc]; exact this.1)
  · cases g <;> first | (cases v <;> first | rfl | (exact absurd rfl hv)) | (cases v <;> rfl)
end TL
end -- TLTry

section -- TLStA
/-! TL, part 23: statements' readings. -/
set_option linter.all false
set_option autoImplicit true
set_option maxRecDepth 100000
set_option maxHeartbeats 1000000
namespace TL
open PySem PySem.Spec PyProof.Rows
open L2 (V Hp HO upd upd_same upd_ne Vals RelV VK XK Cx Inv TE TT TA TS PE PT PW PA PO PG PGs PI TG TGs TI WX Takes thn PS PSs SP Ends)
/-- the slots of the caller's things stay -/
def Ag (cx : Ctx) (σ σ' : L2.St) : Prop := ∀ p ∈ cx.io, σ'[p.1]? = σ[p.1]?
theorem Ag.refl {cx σ} : Ag cx σ σ := fun _ _ => rfl
theorem Ag.trans {cx σ σ' σ''} (a : Ag cx σ σ') (b : Ag cx σ' σ'') : Ag cx σ σ'' := fun p h => (b p h).trans (a p h)
theorem noSlot_ne {cx : Ctx} {i : Nat} (h : noSlot cx i = true) : ∀ p ∈ cx.io, p.1 ≠ i := fun p hp e => by
  unfold noSlot at h
  have : i ∈ cx.io.map (·.1) := List.mem_map.mpr ⟨p, hp, e⟩
  simp only [Bool.not_eq_true', List.contains_eq_mem, decide_eq_false_iff_not] at h
  exact h this
theorem Ag.set {cx i v σ} (h : noSlot cx i = true) : Ag cx σ (σ.set i v) := fun p hp => by rw [List.getElem?_set_ne (Ne.symm (noSlot_ne h p hp))]
theorem leS_trans : ∀ {a b c : List Nat}, leS a b = true → leS b c = true → leS a c = true
  | [], [], [], _, _ => rfl
  | a :: r, b :: s, c :: t, h1, h2 => by
    simp only [leS, Bool.and_eq_true, decide_eq_true_eq] at *
    exact ⟨Nat.le_trans h1.1 h2.1, leS_trans h1.2 h2.2⟩
  | [], [], _ :: _, _, h => by simp [leS] at h
  | [], _ :: _, _, h, _ => by simp [leS] at h
  | _ :: _, [], _, h, _ => by simp [leS] at h
  | _ :: _, _ :: _, [], _, h => by simp [leS] at h
theorem leS_len : ∀ {a b : List Nat}, leS a b = true → a.length = b.length
  | [], [], _ => rfl
  | a :: r, b :: s, h => by simp only [leS, Bool.and_eq_true] at h; simp [leS_len h.2]
  | [], _ :: _, h => by simp [leS] at h
  | _ :: _, [], h => by simp [leS] at h
theorem leO_refl : ∀ a, leO a a = true
  | none => rfl
  | some a => leS_refl a
theorem leO_trans {a b c : Option (List Nat)} (h1 : leO a b = true) (h2 : leO b c = true) : leO a c = true := by
  cases c with
  | none => cases a <;> rfl
  | some c => cases b with
    | none => simp [leO] at h2
    | some b => cases a with
      | none => simp [leO] at h1
      | some a => exact leS_trans h1 h2
section
variable (X : Cx) (T : Tab) (cx : Ctx) (W : WX) (L0 : Addr → Prop) (σ : L2.St) (H : Hp) (F : List Addr)
def kN (D : L2.St → Hp → Prop) : Option (List Nat) → Env → Prop
  | none, _ => True
  | some st', ρ' => ∀ σ' H' F', WO X.K H' L0 st' ρ' σ' F' [] → Go false H F H' F' → Ag cx σ σ' → D σ' H'
def kX : Option (List Nat) → Xc → Env → Prop
  | none, _, _ => True
  | some st', e, ρ' => ∀ cls d σ' H' F', WO X.K H' L0 st' ρ' σ' F' [] → XR X.K X.mg T H' (Lo F' L0) e cls d → Go false H F H' F' → Ag cx σ σ' → W cls d σ' H'
def kR (D : VK) : TV → Env → Prop := fun x ρ' => ∀ st' v σ' H' F' Fv, ioOk cx st' = true → WO X.K H' L0 st' ρ' σ' F' Fv → Own X.K H' (Lo (F' ++ Fv) L0) cx.ret x v Fv → Go false H F H' (F' ++ Fv) → Ag cx σ σ' → D v H'
def dK (D : Ends) (r : R) : Dn := ⟨kN X cx L0 σ H F D.nx r.nx, kR X cx L0 σ H F D.rt, kN X cx L0 σ H F D.bk r.bk, kN X cx L0 σ H F D.ct r.ct, kX X T cx W L0 σ H F r.ex⟩
end
section
variable (Pr : Prog) (T : Tab) (n : Nat) (X : Cx) (cx : Ctx)
def tS (c : S) (st : List Nat) (r : R) (W : WX) : TS := fun D σ H => ∃ ρ F L0, WO X.K H L0 st ρ σ F [] ∧ wpS (Pr.call n) (GG Pr) c ρ (dK X T cx W L0 σ H F D r)
def tSs (c : List S) (st : List Nat) (r : R) (W : WX) : TS := fun D σ H => ∃ ρ F L0, WO X.K H L0 st ρ σ F [] ∧ wpSs (Pr.call n) (GG Pr) c ρ (dK X T cx W L0 σ H F D r)
end
section
variable {X : Cx} {T : Tab} {cx : Ctx} {W : WX} {L0 : Addr → Prop} {σ σ1 : L2.St} {H H1 : Hp} {F F1 : List Addr} {D : Ends} {r r' : R} {Q : L2.St → Hp → Prop} {o o' : Option (List Nat)} {ρ : Env} {x : TV} {nm : Bool}
theorem Go.f {H' F'} (g : Go nm H F H' F') : Go false H F H' F' := g.weaken (by simp)
theorem kN.go (h : kN X cx L0 σ H F Q o ρ) (g : Go nm H F H1 F1) (a : Ag cx σ σ1) (hl : leO o o' = true) : kN X cx L0 σ1 H1 F1 Q o' ρ := by
  cases o' with
  | none => trivial
  | some s' => cases o with
    | none => simp [leO] at hl
    | some s =>
      intro σ' H' F' w g' a'
      obtain ⟨F'', sb, w'⟩ := w.weak hl
      exact h σ' H' F'' w' ((g.f.trans g' (by simp)).sub fun b hb => sb.subset hb) (a.trans a')
theorem kN.weak (h : kN X cx L0 σ H F Q o ρ) (hl : leO o o' = true) : kN X cx L0 σ H F Q o' ρ := h.go (Go.refl true H F fun _ z => z) Ag.refl hl
theorem kX.go {e : Xc} (h : kX X T cx W L0 σ H F o e ρ) (g : Go nm H F H1 F1) (a : Ag cx σ σ1) (hl : leO o o' = true) : kX X T cx W L0 σ1 H1 F1 o' e ρ := by
  cases o' with
  | none => trivial
  | some s' => cases o with
    | none => simp [leO] at hl
    | some s =>
      intro cls d σ' H' F' w xr g' a'
      obtain ⟨F'', sb, w'⟩ := w.weak hl
      exact h cls d σ' H' F'' w' (xr.less (Lo.sub sb)) ((g.f.trans g' (by simp)).sub fun b hb => sb.subset hb) (a.trans a')
theorem kX.weak {e : Xc} (h : kX X T cx W L0 σ H F o e ρ) (hl : leO o o' = true) : kX X T cx W L0 σ H F o' e ρ := h.go (Go.refl true H F fun _ z => z) Ag.refl hl
theorem kX.xk {e : Xc} {s1 : List Nat} (h : kX X T cx W L0 σ H F (some s1) e ρ) : xK T X W L0 s1 σ H F e ρ := fun cls d H' F' w xr g => h cls d σ H' F' w xr g Ag.refl
theorem kR.go {V : VK} (h : kR X cx L0 σ H F V x ρ) (g : Go nm H F H1 F1) (a : Ag cx σ σ1) : kR X cx L0 σ1 H1 F1 V x ρ := fun st' v σ' H' F' Fv io w ow g' a' => h st' v σ' H' F' Fv io w ow (g.f.trans g' (by simp)) (a.trans a')
theorem leR_of (h : leR r r' = true) : leO r.nx r'.nx = true ∧ leO r.bk r'.bk = true ∧ leO r.ct r'.ct = true ∧ leO r.ex r'.ex = true := by
  simp only [leR, Bool.and_eq_true] at h
  exact ⟨h.1.1.1, h.1.1.2, h.1.2, h.2⟩
theorem dK_go (g : Go nm H F H1 F1) (a : Ag cx σ σ1) (hl : leR r r' = true) : (dK X T cx W L0 σ H F D r).le (dK X T cx W L0 σ1 H1 F1 D r') :=
  have h := leR_of hl
  ⟨fun ρ z => z.go g a h.1, fun x ρ z => z.go g a, fun ρ z => z.go g a h.2.1, fun ρ z => z.go g a h.2.2.1, fun e ρ z => z.go g a h.2.2.2⟩
theorem dK_weak (hl : leR r r' = true) : (dK X T cx W L0 σ H F D r).le (dK X T cx W L0 σ H F D r') := dK_go (Go.refl true H F fun _ z => z) Ag.refl hl
end
theorem ckR_some {r r0 : R} {l : List R} (h : ckR r l = some r0) : r0 = r ∧ ∀ q ∈ l, leR r q = true := by
  unfold ckR at h
  split at h
  · rename_i hh
    cases h
    exact ⟨rfl, fun q hq => List.all_eq_true.mp hh q hq⟩
  · cases h
theorem PS.imp {X : Cx} {e : Stmt} {t t' : TS} (h : PS X e t) (q : ∀ D σ H, t' D σ H → t D σ H) : PS X e t' := ⟨fun pins s σ H D I r => h.run pins s σ H D I (q D σ H r)⟩
theorem PSs.imp {X : Cx} {e : List Stmt} {t t' : TS} (h : PSs X e t) (q : ∀ D σ H, t' D σ H → t D σ H) : PSs X e t' := ⟨fun pins s σ H D I r => h.run pins s σ H D I (q D σ H r)⟩
/-- the classes of exceptions -/
structure COk (T : Tab) (X : Cx) : Prop where
  cl : ∀ c x, T.cl[c]? = some x → ∃ C, X.mg x = some (.ref C) ∧ (∀ y D h, T.cl[h]? = some y → X.mg y = some (.ref D) → PySem.W.exmOne X.K (.ref C) (.ref D) = some (isSub c h)) ∧
    (T.xf[c]? = some ("" : Str) → PySem.W.keepIn X.K (.ref C) = true ∧ PySem.W.excIn X.K C [.type "ValueError", .type "Exception", .type "BaseException", .type "object"] "ValueError.__new__" = true ∧ L2.Raises X (.ref C))
/-- the context of a statement -/
structure XS (T : Tab) (Pr : Prog) (n : Nat) (N : List Str) (sc : Scope) (X : Cx) : Prop where
  ok : XOk T Pr n N sc (cellB sc) X
  pass : PassesOwn (model X.prog X.w) X.A X.env X.xe
  stk : X.stack = X.env :: X.outer
  frm : X.env.frame = some X.env.locals
  knd : sc.kind = .function
  co : COk T X
section
variable {T : Tab} {Pr : Prog} {n : Nat} {N : List Str} {sc : Scope} {X : Cx}
theorem XS.tr (o : XS T Pr n N sc X) (pn : List (Addr × Obj)) (xe : Value → Shared → Prop) (p : PassesOwn (model X.prog X.w) X.A X.env xe) : XS T Pr n N sc (X.tr pn xe) where
  ok := ⟨o.ok.hN, o.ok.nd, o.ok.hsc, o.ok.calm, o.ok.room, o.ok.fnc, ⟨o.ok.mod.bi, o.ok.mod.gl, o.ok.mod.fn⟩⟩
  pass := p
  stk := o.stk
  frm := o.frm
  knd := o.knd
  co := ⟨o.co.cl⟩
theorem storeB_ok {i : Nat} {x : Str} (o : XOk T Pr n N sc (cellB sc) X) (h : storeB N sc (cellB sc) i x = true) : X.N.Nodup ∧ X.N[i]? = some x ∧ L2.Loc X.env.scope x ∧ (X.fn x = true ∨ X.env.scope.names.lookup x = some .local) := by
  unfold storeB at h
  simp only [Bool.and_eq_true, Bool.or_eq_true, beq_iff_eq] at h
  obtain ⟨⟨h1, h2⟩, _⟩ := h
  refine ⟨by rw [o.hN]; exact o.nd, by rw [o.hN]; exact h1, ?_, ?_⟩
  · unfold L2.Loc
    rw [o.hsc]
    exact h2.imp id fun q => q.1
  · rw [o.hsc]
    exact h2.elim .inr fun q => .inl (o.fnc x q.2)
end
end TL
end -- TLStA

section -- TLStB
/-! TL, part 24: what is put into a list; values stored side by side. -/
set_option linter.all false
set_option autoImplicit true
set_option maxRecDepth 100000
set_option maxHeartbeats 1000000
namespace TL
open PySem PySem.Spec PyProof.Rows
open L2 (V Hp HO upd upd_same upd_ne Vals RelV VK XK Cx Inv TE TT TA TS PE PT PW PA PO PG PGs PI TG TGs TI WX Takes thn PS PSs SP Ends)
section
variable {K : PySem.W.Frag} {H : Hp} {L0 : Addr → Prop} {st : List Nat} {ρ : Env} {σ : L2.St} {F Fv F1 F2 : List Addr} {i k : Nat} {x : TV} {v : V}
/-- the value at hand goes into what a slot holds -/
theorem WO.into (w : WO K H L0 st ρ σ F Fv) (ex : ρ[i]? = some (some x)) : ∃ d v F1 Fi F2, st[i]? = some d ∧ σ[i]? = some (some v) ∧ F = F1 ++ Fi ++ F2 ∧ Own K H (Lo (F ++ Fv) L0) d x v Fi ∧
    ∀ H' d' x' Fi', (∀ b o, H b = some o → b ∉ Fi → H' b = some o) → (∀ b o, H b = some o → ∃ o', H' b = some o' ∧ (mutO o = true → mutO o' = true)) → (∀ b ∈ Fi', b ∈ Fi ++ Fv) → Fi'.Nodup →
      Own K H' (Lo (F1 ++ Fi' ++ F2) L0) d' x' v Fi' → WO K H' L0 (st.set i d') (ρ.set i (some x')) σ (F1 ++ Fi' ++ F2) [] ∧ Go false H (F ++ Fv) H' (F1 ++ Fi' ++ F2) := by
  have hi : i < ρ.length := (List.getElem?_eq_some_iff.mp ex).1
  obtain ⟨d, o, s, F1, Fi, F2, e1, e2, e3, e4, sl, c⟩ := ER.at i hi w.er
  rw [ex] at e2
  cases e2
  obtain ⟨v, es, ow⟩ := sl
  subst es e4
  have nF := List.nodup_append.mp w.nd
  have nA := List.nodup_append.mp nF.1
  have nB := List.nodup_append.mp nA.1
  have mt := w.mt
  refine ⟨d, v, F1, Fi, F2, e1, e3, rfl, ow, fun H' d' x' Fi' kp th fr nn ow' => ?_⟩
  have sub : ∀ b, b ∈ F1 ++ Fi' ++ F2 → b ∈ F1 ++ Fi ++ F2 ++ Fv := fun b hb => by
    simp only [List.mem_append] at hb
    rcases hb with (z | z) | z
    · simp [z]
    · have := fr b z
      simp only [List.mem_append] at this
      rcases this with q | q <;> simp [q]
    · simp [z]
  have out : ∀ b ∈ Fi', b ∉ F1 ∧ b ∉ F2 := fun b hb => by
    rcases List.mem_append.mp (fr b hb) with z | z
    · exact ⟨fun q => nB.2.2 b q b z rfl, fun q => nA.2.2 b (by simp [z]) b q rfl⟩
    · exact ⟨fun q => nF.2.2 b (by simp [q]) b z rfl, fun q => nF.2.2 b (by simp [q]) b z rfl⟩
  have er := c H' (Lo (F1 ++ Fi' ++ F2 ++ []) L0) (· ∈ Fi) d' (some x') (some v) Fi' ⟨fun b o q z => kp b o q z, fun b z => .inl (z.imp (fun q => sub b (by simpa using q)) id), fun b z => .inl (by simp [z]),
    fun b z o q => by obtain ⟨o', q', m'⟩ := mt b (by simp [z]); rw [q] at q'; cases q'; exact m'⟩ (fun b hb z => by
      rcases List.mem_append.mp hb with q | q
      · exact nB.2.2 b q b z rfl
      · exact nA.2.2 b (by simp [z]) b q rfl) ⟨v, rfl, by rw [List.append_nil]; exact ow'⟩
  rw [set_same e3] at er
  refine ⟨⟨er, ?_, fun b hb z => ?_, fun b z => ?_⟩, ⟨fun b o q z => kp b o q fun y => z (by simp [y]), (fun z => nomatch z), th, fun b hb => .inl (sub b hb)⟩⟩
  · rw [List.append_nil]
    refine List.nodup_append.mpr ⟨List.nodup_append.mpr ⟨nB.1, nn, fun a ha b hb e => (out b hb).1 (e ▸ ha)⟩, nA.2.1, fun a ha b hb e => ?_⟩
    subst e
    rcases List.mem_append.mp ha with z | z
    · exact nA.2.2 a (by simp [z]) a hb rfl
    · exact (out a z).2 hb
  · exact w.dj b (sub b (by simpa using hb)) z
  · obtain ⟨o, q, mo⟩ := w.l0 b z
    obtain ⟨o', q', m'⟩ := th b o q
    exact ⟨o', q', m' mo⟩
/-- a value is put into a list -/
theorem put_wo {xs1 old xs2 : List TV} {y : TV} {vy : V} {d : Nat} (w : WO K H L0 st ρ σ F Fv) (ex : ρ[i]? = some (some (.lst (xs1 ++ old ++ xs2)))) (hd : st[i]? = some (d + 1)) (oy : Own K H (Lo (F ++ Fv) L0) d y vy Fv) :
    ∃ a vs1 vo vs2, σ[i]? = some (some (.ref a)) ∧ H a = some (.lst (vs1 ++ vo ++ vs2)) ∧ vs1.length = xs1.length ∧ vo.length = old.length ∧ vs2.length = xs2.length ∧ ((xs1 ++ old ++ xs2).length ≤ line) ∧ ((xs1 ++ y :: xs2).length ≤ line →
      ∃ F', WO K (upd H a (.lst (vs1 ++ vy :: vs2))) L0 st (ρ.set i (some (.lst (xs1 ++ y :: xs2)))) σ F' [] ∧ Go false H (F ++ Fv) (upd H a (.lst (vs1 ++ vy :: vs2))) F') := by
  obtain ⟨d', v, F1, Fi, F2, e1, e2, rfl, ow, c⟩ := w.into ex
  rw [hd] at e1
  cases e1
  simp only [Own] at ow
  obtain ⟨a, vs, Fi', rfl, ha, rfl, hl, ow⟩ := ow
  obtain ⟨v12, v3, G12, G3, rfl, rfl, l12, o12, o3⟩ := Owns.split ow
  obtain ⟨v1, v2, G1, G2, rfl, rfl, l1, o1, o2⟩ := Owns.split o12
  have nF := List.nodup_append.mp w.nd
  have nA := List.nodup_append.mp nF.1
  have nB := List.nodup_append.mp nA.1
  have nI := List.nodup_cons.mp nB.2.1
  have nG := List.nodup_append.mp nI.2
  have nH := List.nodup_append.mp nG.1
  refine ⟨a, v1, v2, v3, e2, ha, l1, o2.length, o3.length, hl, fun hl' => ?_⟩
  have aV : a ∉ Fv := fun z => nF.2.2 a (by simp) a z rfl
  have kpW : ∀ L' : Addr → Prop, (∀ b, L' b → Lo (F1 ++ (a :: (G1 ++ G2 ++ G3)) ++ F2 ++ Fv) L0 b) → Kp H (Lo (F1 ++ (a :: (G1 ++ G2 ++ G3)) ++ F2 ++ Fv) L0) (· = a) (upd H a (.lst (v1 ++ vy :: v3))) L' := fun L' s =>
    ⟨fun b o q z => by rw [upd_ne z]; exact q, fun b z => .inl (s b z), fun b z => .inl (by simp [z]), fun b z o q => by rw [z, ha] at q; cases q; rfl⟩
  have subL : ∀ b, Lo (F1 ++ (a :: (G1 ++ (Fv ++ G3))) ++ F2) L0 b → Lo (F1 ++ (a :: (G1 ++ G2 ++ G3)) ++ F2 ++ Fv) L0 b := fun b z => z.imp (fun q => by simp only [List.mem_append, List.mem_cons] at *; grind) id
  have dj : ∀ b, b ∈ G1 ++ G2 ++ G3 → b ∉ Fv := fun b hb z => nF.2.2 b (by simp only [List.mem_append, List.mem_cons] at *; grind) b z rfl
  obtain ⟨w', g⟩ := c (upd H a (.lst (v1 ++ vy :: v3))) (d + 1) (.lst (xs1 ++ y :: xs2)) (a :: (G1 ++ (Fv ++ G3))) (fun b o q z => by rw [upd_ne (fun e => z (by simp [e]))]; exact q) (upd_there rfl) (fun b hb => by simp only [List.mem_append, List.mem_cons] at *; grind)
    (by
      simp only [List.nodup_cons, List.mem_append, not_or]
      have n1 := nI.1
      simp only [List.mem_append, not_or] at n1
      refine ⟨⟨n1.1.1, aV, n1.2⟩, List.nodup_append.mpr ⟨nH.1, List.nodup_append.mpr ⟨nF.2.1, nG.2.1, fun x hx y hy e => ?_⟩, fun x hx y hy e => ?_⟩⟩
      · subst e; exact dj x (by simp [hy]) hx
      · subst e
        rcases List.mem_append.mp hy with z | z
        · exact dj x (by simp [hx]) z
        · exact nG.2.2 x (by simp [hx]) x z rfl)
    (by
      simp only [Own]
      refine ⟨a, v1 ++ vy :: v3, G1 ++ (Fv ++ G3), rfl, upd_same, rfl, hl', Owns.join ?_ ?_⟩
      · exact Owns.keep (kpW _ subL) _ d v1 G1 (fun b hb z => nI.1 (z ▸ by simp [hb])) o1
      · simp only [Owns]
        refine ⟨vy, v3, Fv, G3, rfl, rfl, ?_, ?_⟩
        · exact Own.keep (kpW _ subL) y d vy Fv (fun b hb z => aV (z ▸ hb)) oy
        · exact Owns.keep (kpW _ subL) _ d v3 G3 (fun b hb z => nI.1 (z ▸ by simp [hb])) o3)
  have hss : st.set i (d + 1) = st := by
    have hs := List.getElem?_eq_some_iff.mp hd
    rw [← hs.2]; exact List.set_getElem_self _
  rw [hss] at w'
  exact ⟨_, w', g⟩
/-- .. whatever the depths are -/
theorem put_wo' {xs1 old xs2 : List TV} {y : TV} {vy : V} (w : WO K H L0 st ρ σ F Fv) (ex : ρ[i]? = some (some (.lst (xs1 ++ old ++ xs2)))) (hd : 1 ≤ st.getD i 0) (oy : Own K H (Lo (F ++ Fv) L0) k y vy Fv) :
    ∃ a vs1 vo vs2, σ[i]? = some (some (.ref a)) ∧ H a = some (.lst (vs1 ++ vo ++ vs2)) ∧ vs1.length = xs1.length ∧ vo.length = old.length ∧ vs2.length = xs2.length ∧ ((xs1 ++ old ++ xs2).length ≤ line) ∧ ((xs1 ++ y :: xs2).length ≤ line →
      ∃ F', WO K (upd H a (.lst (vs1 ++ vy :: vs2))) L0 (st.set i (1 + min (st.getD i 0 - 1) k)) (ρ.set i (some (.lst (xs1 ++ y :: xs2)))) σ F' [] ∧ Go false H (F ++ Fv) (upd H a (.lst (vs1 ++ vy :: vs2))) F') := by
  have hle : leS (st.set i (1 + min (st.getD i 0 - 1) k)) st = true := leS_set st i _ (by omega)
  obtain ⟨Fw, sv, wv, rv⟩ := RR.weak (m := 0) (k' := min (st.getD i 0 - 1) k) (RR.of oy) (by omega) w
  obtain ⟨F', sb, w'⟩ := wv.weak hle
  have ov := rv.own
  have ov' : Own K H (Lo (F' ++ Fw) L0) (min (st.getD i 0 - 1) k) y vy Fw := ov.shr fun b z => z.imp (fun q => by
    rcases List.mem_append.mp q with q | q
    · exact List.mem_append.mpr (.inl (sb.subset q))
    · exact List.mem_append.mpr (.inr q)) id
  have hi : i < st.length := by
    rw [List.getD_eq_getElem?_getD] at hd
    cases e : st[i]? with
    | none => rw [e] at hd; simp at hd
    | some _ => exact (List.getElem?_eq_some_iff.mp e).1
  obtain ⟨a, vs1, vo, vs2, q1, q2, q3, q4, q5, q6, q7⟩ := put_wo (d := min (st.getD i 0 - 1) k) w' ex (by rw [List.getElem?_set_self hi, Nat.add_comm]) ov'
  refine ⟨a, vs1, vo, vs2, q1, q2, q3, q4, q5, q6, fun hl => ?_⟩
  obtain ⟨F'', w'', g⟩ := q7 hl
  exact ⟨F'', w'', g.sup fun b hb => by
    rcases List.mem_append.mp hb with q | q
    · exact List.mem_append.mpr (.inl (sb.subset q))
    · exact List.mem_append.mpr (.inr (sv.subset q))⟩
/-- one of the values at hand is stored -/
theorem WO.storeK (w : WO K H L0 st ρ σ F (F1 ++ F2)) (ow : Own K H (Lo (F ++ (F1 ++ F2)) L0) k x v F1) (hm : ∀ b ∈ F2, ∃ o, H b = some o ∧ mutO o = true) (hi : i < ρ.length) :
    ∃ F', (∀ b ∈ F', b ∈ F ++ F1) ∧ WO K H L0 (st.set i k) (ρ.set i (some x)) (σ.set i (some v)) F' F2 := by
  have nd := List.nodup_append.mp w.nd
  have nv := List.nodup_append.mp nd.2.1
  have e0 : Lo (F ++ F1) (Lo F2 L0) = Lo (F ++ (F1 ++ F2)) L0 := by rw [Lo.push, List.append_assoc]
  have w1 : WO K H (Lo F2 L0) st ρ σ F F1 := ⟨by rw [e0]; exact w.er, List.nodup_append.mpr ⟨nd.1, nv.1, fun a ha b hb => nd.2.2 a ha b (by simp [hb])⟩, fun b hb z => by
    rcases z with z | z
    · rcases List.mem_append.mp hb with q | q
      · exact nd.2.2 b q b (by simp [z]) rfl
      · exact nv.2.2 b q b z rfl
    · exact w.dj b (by simp only [List.mem_append] at *; grind) z, fun b z => z.elim (hm b) (w.l0 b)⟩
  obtain ⟨F', s, w2⟩ := w1.store (x := x) (v := v) (k := k) (i := i) (by rw [e0]; exact ow) hi
  have := w2.pop nv.2.1 fun b hb z => w.dj b (by simp [hb]) z
  rw [List.append_nil] at this
  exact ⟨F', s, this⟩
theorem RR.own0 {L : Addr → Prop} (h : RR K H L 0 k x v F) : Own K H L k x v F := by
  unfold RR at h
  split at h
  · rename_i e
    obtain ⟨e', h⟩ := h
    subst e'
    rw [e]
    exact Rp.own x v h
  · exact h
theorem AR.mtA {L : Addr → Prop} {m : Nat} : ∀ {as : List E} {ks : List Nat} {xs : List TV} {vs : List V} {F : List Addr}, noIo as = true → AR K H L m σ as ks xs vs F → ∀ b ∈ F, ∃ o, H b = some o ∧ mutO o = true
  | [], ks, xs, vs, F, _, r => by
    simp only [AR] at r
    obtain ⟨_, _, _, rfl⟩ := r
    exact fun b hb => nomatch hb
  | a :: as, ks, xs, vs, F, hn, r => by
    have hn' : isIo a = none ∧ noIo as = true := by simpa [noIo] using hn
    simp only [AR, hn'.1] at r
    obtain ⟨k, ks', x, xs', v, vs', F1, F2, rfl, rfl, rfl, rfl, r1, r2⟩ := r
    exact fun b hb => (List.mem_append.mp hb).elim (r1.mt b) (AR.mtA hn'.2 r2 b)
theorem AR.shr0 {L L' : Addr → Prop} (s : ∀ b, L' b → L b) : ∀ {as : List E} {ks : List Nat} {xs : List TV} {vs : List V} {F : List Addr}, noIo as = true → AR K H L 0 σ as ks xs vs F → AR K H L' 0 σ as ks xs vs F
  | [], ks, xs, vs, F, _, r => by simpa only [AR] using r
  | a :: as, ks, xs, vs, F, hn, r => by
    have hn' : isIo a = none ∧ noIo as = true := by simpa [noIo] using hn
    simp only [AR, hn'.1] at r ⊢
    obtain ⟨k, ks', x, xs', v, vs', F1, F2, rfl, rfl, rfl, rfl, r1, r2⟩ := r
    refine ⟨k, ks', x, xs', v, vs', F1, F2, rfl, rfl, rfl, rfl, ?_, AR.shr0 s hn'.2 r2⟩
    unfold RR at r1 ⊢
    split at r1
    · rename_i e
      rw [if_pos e]; exact ⟨r1.1, r1.2.less s⟩
    · rename_i e
      rw [if_neg e]; exact r1.shr s
def setSt : List Nat → List V → L2.St → L2.St
  | i :: is, v :: vs, σ => setSt is vs (σ.set i (some v))
  | _, _, σ => σ
theorem store_all : ∀ {as : List E} {is ks : List Nat} {xs : List TV} {vs : List V} {st : List Nat} {ρ ρ2 : Env} {σ σ0 : L2.St} {F Fv : List Addr}, noIo as = true → AR K H (Lo (F ++ Fv) L0) 0 σ0 as ks xs vs Fv → WO K H L0 st ρ σ F Fv → setAll is xs ρ = some ρ2 → (∀ i ∈ is, i < ρ.length) →
    ∃ F', (∀ b ∈ F', b ∈ F ++ Fv) ∧ WO K H L0 (setL is ks st) ρ2 (setSt is vs σ) F' []
  | [], is, ks, xs, vs, st, ρ, ρ2, σ, σ0, F, Fv, _, r, w, e, _ => by
    simp only [AR] at r
    obtain ⟨rfl, rfl, rfl, rfl⟩ := r
    cases is with
    | nil => simp only [setAll, Option.some.injEq] at e; subst e; exact ⟨F, fun b hb => by simp [hb], by simpa only [setL, setSt] using w⟩
    | cons i is => simp only [setAll] at e; cases e
  | a :: as, is, ks, xs, vs, st, ρ, ρ2, σ, σ0, F, Fv, hn, r, w, e, hi => by
    have hn' : isIo a = none ∧ noIo as = true := by simpa [noIo] using hn
    simp only [AR, hn'.1] at r
    obtain ⟨k, ks', x, xs', v, vs', F1, F2, rfl, rfl, rfl, rfl, r1, r2⟩ := r
    cases is with
    | nil => simp only [setAll] at e; cases e
    | cons i is =>
      simp only [setAll] at e
      have mt2 : ∀ b ∈ F2, ∃ o, H b = some o ∧ mutO o = true := AR.mtA hn'.2 r2
      obtain ⟨F', s, w'⟩ := w.storeK (k := k) (x := x) (v := v) (i := i) (RR.own0 r1) mt2 (hi i (by simp))
      have r2' := AR.shr0 (L' := Lo (F' ++ F2) L0) (fun b z => z.imp (fun q => by
        rcases List.mem_append.mp q with q | q
        · have := s b q
          simp only [List.mem_append] at this ⊢
          exact this.imp id .inl
        · simp [q]) id) hn'.2 r2
      obtain ⟨F'', s', w''⟩ := store_all hn'.2 r2' w' e (fun j hj => by rw [List.length_set]; exact hi j (by simp [hj]))
      refine ⟨F'', fun b hb => ?_, by simpa only [setL, setSt] using w''⟩
      have := s' b hb
      simp only [List.mem_append] at this ⊢
      rcases this with q | q
      · have := s b q
        simp only [List.mem_append] at this
        exact this.imp id .inl
      · exact .inr (.inr q)
end
end TL
end -- TLStB

section -- TLStC
/-! TL, part 25: simple statements. -/
set_option linter.all false
set_option autoImplicit true
set_option maxRecDepth 100000
set_option maxHeartbeats 1000000
namespace TL
open PySem PySem.Spec PyProof.Rows
open L2 (V Hp HO upd upd_same upd_ne Vals RelV VK XK Cx Inv TE TT TA TS PE PT PW PA PO PG PGs PI TG TGs TI WX Takes thn PS PSs SP Ends)
section
theorem appAt_nil {x y z : TV} (h : appAt x [] y = some z) : ∃ zs, x = .lst zs ∧ z = .lst (zs ++ [y]) := by
  cases x <;> simp [appAt] at h
  exact ⟨_, rfl, h.symm⟩
theorem putAt_one {x j y z : TV} (h : putAt x [j] y = some z) : ∃ xs k p, x = .lst xs ∧ j = .int k ∧ L2.ixN xs.length k = some p ∧ p < xs.length ∧ z = .lst (xs.set p y) := by
  cases x <;> try (simp [putAt] at h; done)
  cases j <;> try (simp [putAt] at h; done)
  rename_i xs k
  simp only [putAt] at h
  split at h
  · rename_i hk
    cases h
    refine ⟨xs, k, k.toNat, rfl, rfl, ?_, by omega, rfl⟩
    unfold L2.ixN
    rw [if_pos hk.1, if_pos hk.2]
  · split at h
    · rename_i hk
      cases h
      refine ⟨xs, k, (k + xs.length).toNat, rfl, rfl, ?_, by omega, rfl⟩
      unfold L2.ixN
      rw [if_neg (by omega), if_pos hk.1]
    · cases h
variable {T : Tab} {Pr : Prog} {n : Nat} {X : Cx} {cx : Ctx} {W : WX} {st s1 s2 : List Nat} {i k k1 k2 : Nat} {e : E} {v : Expr} {D : Ends} {σ : L2.St} {H : Hp} {pos : Pos} (hC : MonoC (Pr.call n))
theorem WO.lenS {K H L0 st ρ σ F Fv} (w : WO K H L0 st ρ σ F Fv) : st.length = ρ.length := w.er.len.1
theorem WO.lenV {K H L0 st ρ σ F Fv} (w : WO K H L0 st ρ σ F Fv) : σ.length = ρ.length := w.er.len.2
theorem Ag_wipe {σ' : L2.St} {sl : List Nat} (h : ∀ i ∈ sl, noSlot cx i = true) (hw : L2.wipe σ' sl = L2.wipe σ sl) : Ag cx σ σ' := fun p hp => by
  have e := congrArg (fun l : L2.St => l[p.1]?) hw
  have hn : p.1 ∉ sl := fun hm => noSlot_ne (h _ hm) p hp rfl
  simp only [wipe_get, if_neg hn] at e
  exact e
include hC
theorem i_asg (hi : noSlot cx i = true) (hl : i < s1.length) (h : tS Pr T n X cx (.asg i e) st { nx := some (s1.set i k), ex := some s1 } W D σ H) : tE Pr T n X e 0 st k s1 W σ H (fun v H1 => L2.gName i v σ H1 D.nx) := by
  obtain ⟨ρ, F, L0, w, h⟩ := h
  simp only [wpS] at h
  refine ⟨ρ, F, L0, w, wpE_mono hC e ρ (fun x ρ1 h v H' F' Fv w1 r1 g1 => ?_) (fun ex ρ1 h => kX.xk h) h⟩
  obtain ⟨F2, sub, w2⟩ := w1.store r1.own (i := i) (by rw [← w1.lenS]; exact hl)
  exact h _ H' F2 w2 (g1.f.sub sub) (Ag.set hi)
theorem c_asg {x : Str} {xp : Pos} (hv : PE X v (tE Pr T n X e 0 st k s1 W)) (hs : X.N.Nodup ∧ X.N[i]? = some x ∧ L2.Loc X.env.scope x ∧ (X.fn x = true ∨ X.env.scope.names.lookup x = some .local)) (hc : isCompE v = false) (hi : noSlot cx i = true) (hl : i < s1.length) :
    PS X (.Assign [.Name x xp] v pos) (tS Pr T n X cx (.asg i e) st { nx := some (s1.set i k), ex := some s1 } W) :=
  PS.imp (L2.ps_set hs.1 hs.2.1 hs.2.2.1 hv (sw_no hc) hs.2.2.2) fun D σ H h => i_asg hC hi hl h
theorem c_asgT {t : Tg} {g : Expr} (hv : PE X v (tE Pr T n X e 0 st k s1 W)) (hg : PG X g (gT X (tgSlots t) (bindTg t))) (ht : isTup g = true) (hc : isCompE v = false) {sc : Scope} (hsc : X.env.scope = sc) (hw : swN sc g v = true) (hi : ∀ i ∈ tgSlots t, noSlot cx i = true ∧ i < s1.length) :
    PS X (.Assign [g] v pos) (tS Pr T n X cx (.asgT t e) st { nx := some (zeroS (tgSlots t) s1), ex := some s1 } W) := by
  have h1 : (assignEach [g] X.env).map (·.2) = [assign g X.env] := by cases g <;> first | rfl | (simp [isTup] at ht; done)
  refine PS.imp (L2.ps_asg hv hg (sw_sole hc) (st_no hsc hw) h1) fun D σ H h => ?_
  obtain ⟨ρ, F, L0, w, h⟩ := h
  simp only [wpS] at h
  refine ⟨ρ, F, L0, w, wpE_mono hC e ρ (fun x ρ1 h v H' F' Fv w1 r1 g1 => ?_) (fun ex ρ1 h => kX.xk h) h⟩
  refine ⟨ρ1, F', L0, x, s1, w1.drop0, r1.rp w1, List.all_eq_true.mpr fun i hi' => decide_eq_true (hi i hi').2, bindTg_mono (fun ρ2 h σ2 F2 w2 sb hw => ?_) t x ρ1 h⟩
  exact h σ2 H' F2 w2 (g1.f.sub fun b hb => by simp [sb b hb]) (Ag_wipe (fun i hi' => (hi i hi').1) (hw _ fun i z => z))
theorem c_par2 {es : List E} {ks : List Nat} {i j : Nat} {x y : Str} {px py pt p2 : Pos} {a b : Expr} {kt k2 : _} (hv : PA X [a, b] (tEs Pr T n X es 0 st ks s1 W)) (hn : noIo es = true) (hc : X.calm = true) (hN : X.N.Nodup) (hx : X.N[i]? = some x) (hy : X.N[j]? = some y) (hij : i ≠ j) (lx : X.env.scope.names.lookup x = some .local) (ly : X.env.scope.names.lookup y = some .local)
    (hw : swappedStores [.Tuple [.Name x px, .Name y py] kt pt] (.Tuple [a, b] k2 p2) X.env = pure (some [x, y])) (hi : ∀ q ∈ [i, j], noSlot cx q = true ∧ q < s1.length) :
    PS X (.Assign [.Tuple [.Name x px, .Name y py] kt pt] (.Tuple [a, b] k2 p2) pos) (tS Pr T n X cx (.par [i, j] es) st { nx := some (setL [i, j] ks s1), ex := some s1 } W) := by
  refine PS.imp (L2.ps_par hc hN hx hy hij lx ly hv hw (sw_sole rfl)) fun D σ H h => ?_
  obtain ⟨ρ, F, L0, w, h⟩ := h
  simp only [wpS] at h
  refine ⟨ρ, F, L0, w, wpEs_mono hC es ρ (fun xs ρ1 h vs H' F' Fv w1 r1 g1 => ?_) (fun ex ρ1 h => kX.xk h) h⟩
  split at h
  · rename_i ρ2 e2
    obtain ⟨F2, sub, w2⟩ := store_all hn r1 w1 e2 fun q hq => by rw [← w1.lenS]; exact (hi q hq).2
    have ln := r1.len
    have : xs.length = 2 := by
      rcases xs with _ | ⟨x1, _ | ⟨x2, _ | ⟨x3, xs⟩⟩⟩ <;> first | rfl | (simp [setAll] at e2; done)
    rcases vs with _ | ⟨v1, _ | ⟨v2, _ | ⟨v3, vs⟩⟩⟩ <;> try (exfalso; have := ln.1; simp at this; omega)
    refine ⟨v1, v2, rfl, h _ H' F2 w2 (g1.f.sub sub) ?_⟩
    exact (Ag.set (hi i (by simp)).1).trans (Ag.set (hi j (by simp)).1)
  · exact h.elim
theorem c_par3 {es : List E} {ks : List Nat} {i j l : Nat} {x y z : Str} {px py pz pt p2 : Pos} {a b c : Expr} {kt k2 : _} (hv : PA X [a, b, c] (tEs Pr T n X es 0 st ks s1 W)) (hn : noIo es = true) (hc : X.calm = true) (hN : X.N.Nodup) (hx : X.N[i]? = some x) (hy : X.N[j]? = some y) (hz : X.N[l]? = some z) (hij : i ≠ j) (hil : i ≠ l) (hjl : j ≠ l) (lx : X.env.scope.names.lookup x = some .local) (ly : X.env.scope.names.lookup y = some .local) (lz : X.env.scope.names.lookup z = some .local)
    (hw : swappedStores [.Tuple [.Name x px, .Name y py, .Name z pz] kt pt] (.Tuple [a, b, c] k2 p2) X.env = pure (some [x, y, z])) (hi : ∀ q ∈ [i, j, l], noSlot cx q = true ∧ q < s1.length) :
    PS X (.Assign [.Tuple [.Name x px, .Name y py, .Name z pz] kt pt] (.Tuple [a, b, c] k2 p2) pos) (tS Pr T n X cx (.par [i, j, l] es) st { nx := some (setL [i, j, l] ks s1), ex := some s1 } W) := by
  refine PS.imp (L2.ps_par3 hc hN hx hy hz hij hil hjl lx ly lz hv hw (sw_sole rfl)) fun D σ H h => ?_
  obtain ⟨ρ, F, L0, w, h⟩ := h
  simp only [wpS] at h
  refine ⟨ρ, F, L0, w, wpEs_mono hC es ρ (fun xs ρ1 h vs H' F' Fv w1 r1 g1 => ?_) (fun ex ρ1 h => kX.xk h) h⟩
  split at h
  · rename_i ρ2 e2
    obtain ⟨F2, sub, w2⟩ := store_all hn r1 w1 e2 fun q hq => by rw [← w1.lenS]; exact (hi q hq).2
    have ln := r1.len
    have : xs.length = 3 := by
      rcases xs with _ | ⟨x1, _ | ⟨x2, _ | ⟨x3, _ | ⟨x4, xs⟩⟩⟩⟩ <;> first | rfl | (simp [setAll] at e2; done)
    rcases vs with _ | ⟨v1, _ | ⟨v2, _ | ⟨v3, _ | ⟨v4, vs⟩⟩⟩⟩ <;> try (exfalso; have := ln.1; simp at this; omega)
    refine ⟨v1, v2, v3, rfl, h _ H' F2 w2 (g1.f.sub sub) ?_⟩
    exact ((Ag.set (hi i (by simp)).1).trans (Ag.set (hi j (by simp)).1)).trans (Ag.set (hi l (by simp)).1)
  · exact h.elim
theorem c_aug {o : Bop} {op : Operator} {x : Str} {xp : Pos} (hv : PE X v (tE Pr T n X e 9 st k s1 W)) (hs : X.N.Nodup ∧ X.N[i]? = some x ∧ L2.Loc X.env.scope x ∧ (X.fn x = true ∨ X.env.scope.names.lookup x = some .local)) (ho : (o = .add ∧ op = .Add) ∨ (o = .sub ∧ op = .Sub)) (hi : noSlot cx i = true) (hl : i < s1.length) :
    PS X (.AugAssign (.Name x xp) op v pos) (tS Pr T n X cx (.aug i o e) st { nx := some (s1.set i 9), ex := some s1 } W) := by
  have hp : L2.PIp X op (L2.ipI fun a b => if o = .add then a + b else a - b) := by
    rcases ho with ⟨rfl, rfl⟩ | ⟨rfl, rfl⟩
    · exact L2.ip_add
    · exact L2.ip_sub
  refine PS.imp (L2.ps_aug hs.1 hs.2.1 hs.2.2.1 hv hp hs.2.2.2) fun D σ H h => ?_
  obtain ⟨ρ, F, L0, w, h⟩ := h
  simp only [wpS] at h
  obtain ⟨x0, ex, h⟩ := getV_some h
  obtain ⟨d, v0, F1, Fi, F2, e1, e2, e3, ow, _⟩ := w.mut ex
  refine ⟨v0, e2, ρ, F, L0, w, wpE_mono hC e ρ (fun y ρ1 h v1 H' F' Fv w1 r1 g1 => ?_) (fun ex ρ1 h => kX.xk h) h⟩
  have r := r1.rp w1
  have key : ∃ a b, x0 = .int a ∧ y = .int b ∧ (dK X T cx W L0 σ H F D { nx := some (s1.set i 9), ex := some s1 }).nx (ρ1.set i (some (.int (if o = .add then a + b else a - b)))) := by
    rcases ho with ⟨rfl, _⟩ | ⟨rfl, _⟩ <;> (cases x0 <;> try exact h.elim) <;> (cases y <;> try exact h.elim) <;> exact ⟨_, _, rfl, rfl, h.2⟩
  clear h
  obtain ⟨a, b, rfl, rfl, h⟩ := key
  simp only [Own] at ow
  simp only [Rp] at r
  refine ⟨a, b, ow.1, r, ?_⟩
  obtain ⟨F3, sub, w2⟩ := w1.drop0.store (k := 9) (x := .int (if o = .add then a + b else a - b)) (v := .int (if o = .add then a + b else a - b)) (i := i) (by simp only [Own, and_self]) (by rw [← w1.lenS]; exact hl)
  exact h _ H' F3 w2 (g1.f.sub fun b hb => by have := sub b hb; simp only [List.append_nil] at this; simp [this]) (Ag.set hi)
theorem c_expr (hv : PE X v (tE Pr T n X e 0 st k s1 W)) (hc : isCompE v = false) : PS X (.Expr v pos) (tS Pr T n X cx (.expr e) st { nx := some s1, ex := some s1 } W) := by
  refine PS.imp (L2.ps_expr hv (sw_no hc)) fun D σ H h => ?_
  obtain ⟨ρ, F, L0, w, h⟩ := h
  simp only [wpS] at h
  refine ⟨ρ, F, L0, w, wpE_mono hC e ρ (fun x ρ1 h v H' F' Fv w1 r1 g1 => ?_) (fun ex ρ1 h => kX.xk h) h⟩
  exact h σ H' F' w1.drop0 (g1.f.sub fun b hb => by simp [hb]) Ag.refl
theorem c_ret (hv : PE X v (tE Pr T n X e 0 st k s1 W)) (hk : cx.ret ≤ k) (hio : ioOk cx s1 = true) : PS X (.Return (some v) pos) (tS Pr T n X cx (.ret e) st { ex := some s1 } W) := by
  refine PS.imp (L2.ps_ret hv) fun D σ H h => ?_
  obtain ⟨ρ, F, L0, w, h⟩ := h
  simp only [wpS] at h
  refine ⟨ρ, F, L0, w, wpE_mono hC e ρ (fun x ρ1 h v H' F' Fv w1 r1 g1 => ?_) (fun ex ρ1 h => kX.xk h) h⟩
  obtain ⟨Fw, sb, w2, r2⟩ := r1.weak hk w1
  exact h s1 v σ H' F' Fw hio w2 r2.own (g1.f.sub fun b hb => by
    rcases List.mem_append.mp hb with q | q
    · simp [q]
    · simp [sb.subset q]) Ag.refl
omit hC in
theorem c_retN (hio : ioOk cx st = true) : PS X (.Return none pos) (tS Pr T n X cx .retN st {} W) := by
  refine PS.imp L2.ps_retN fun D σ H h => ?_
  obtain ⟨ρ, F, L0, w, h⟩ := h
  simp only [wpS] at h
  exact h st .non σ H F [] hio w (by simp only [Own, and_self]) (Go.refl _ _ _ fun b hb => by simpa using hb) Ag.refl
omit hC in
theorem c_pass {s : Stmt} (hs : PS X s L2.tNext) : PS X s (tS Pr T n X cx .pass st { nx := some st } W) := by
  refine PS.imp hs fun D σ H h => ?_
  obtain ⟨ρ, F, L0, w, h⟩ := h
  simp only [wpS] at h
  exact h σ H F w (Go.refl _ _ _ fun b hb => hb) Ag.refl
omit hC in
theorem c_brk : PS X (.Break pos) (tS Pr T n X cx .brk st { bk := some st } W) := by
  refine PS.imp L2.ps_break fun D σ H h => ?_
  obtain ⟨ρ, F, L0, w, h⟩ := h
  simp only [wpS] at h
  exact h σ H F w (Go.refl _ _ _ fun b hb => hb) Ag.refl
omit hC in
theorem c_cont : PS X (.Continue pos) (tS Pr T n X cx .cont st { ct := some st } W) := by
  refine PS.imp L2.ps_continue fun D σ H h => ?_
  obtain ⟨ρ, F, L0, w, h⟩ := h
  simp only [wpS] at h
  exact h σ H F w (Go.refl _ _ _ fun b hb => hb) Ag.refl
theorem c_append {x : Expr} {ap cp p : Pos} (ho : PE X x (L2.tVar i)) (hb : ∀ w, attributeBase x "append" X.env w = w) (hl : (ap.endLine == cp.line) = true) (hv : PE X v (tE Pr T n X e 0 st k s1 W)) (hs : ns v = true) (hd : 1 ≤ s1.getD i 0) :
    PS X (.Expr (.Call (.Attribute x "append" ap) [v] [] cp) p) (tS Pr T n X cx (.append i [] e) st { nx := some (s1.set i (1 + min (s1.getD i 0 - 1) k)), ex := some s1 } W) := by
  refine PS.imp (L2.ps_expr (L2.pe_bm PySem.F.plainAttrs_list PySem.F.slot_list_append PySem.F.type_list_append L2.mt_append ho (L2.pa_cons hv L2.pa_nil (star_ns (env := fun X => X.env) hs)) (hb _) (few1 hs) hl (star_ns (env := fun X => X.env) hs)) rfl) fun D σ H h => ?_
  obtain ⟨ρ, F, L0, w, h⟩ := h
  simp only [wpS, wpEs] at h
  obtain ⟨x0, ex, hx0, h⟩ := getV_some h
  cases x0 <;> try (simp [isL] at hx0; done)
  obtain ⟨a0, vs0, q0, q00⟩ := lst_slot w ex
  refine ⟨.ref a0, q0, tyL q00, ρ, F, L0, w, wpE_mono hC e ρ (fun y ρ1 h v H' F' Fv w1 r1 g1 => ?_) (fun ex ρ1 h => kX.xk h) h⟩
  obtain ⟨z, ez, hz, h⟩ := getV_some h
  split at h
  case h_2 => exact h.elim
  rename_i z' e'
  obtain ⟨zs, rfl, rfl⟩ := appAt_nil e'
  simp only [lenAt] at hz
  have ez' : ρ1[i]? = some (some (.lst (zs ++ [] ++ []))) := by simpa using ez
  obtain ⟨a, vs1, vo, vs2, q1, q2, q3, q4, q5, q6, q7⟩ := put_wo' w1 ez' hd r1.own
  rw [q0] at q1
  cases q1
  have e4 : vo = [] := List.length_eq_zero_iff.mp q4
  have e5 : vs2 = [] := List.length_eq_zero_iff.mp q5
  subst e4 e5
  simp only [List.append_nil] at q2 q7
  obtain ⟨F2, w2, g2⟩ := q7 (by rw [List.length_append]; simp only [List.length_singleton]; omega)
  exact ⟨a0, vs1, v, rfl, rfl, q2, by rw [line_eq]; omega, h _ _ F2 w2 (g1.f.trans g2 (by simp)) Ag.refl⟩
theorem c_setI {ix : E} {x ie : Expr} {p p2 : Pos} (ho : PE X x (L2.tVar i)) (hv : PE X v (tE Pr T n X e 0 st k s1 W)) (hx : PE X ie (tE Pr T n X ix 9 s1 k2 s2 W)) (hn : nSl ie = true) (hc : isCompE v = false) (hl : leS s2 s1 = true) (hd : 1 ≤ s2.getD i 0) :
    PS X (.Assign [.Subscript x ie p] v p2) (tS Pr T n X cx (.setI i [ix] e) st { nx := some (s2.set i (1 + min (s2.getD i 0 - 1) k)), ex := some s2 } W) := by
  have hsub : ∀ v, assign (.Subscript x ie p) X.env v = (do
      let ov ← holding [v] (eval x X.env)
      let iv ← holding [v, ov] (eval ie X.env)
      standAt p
      holding [v, ov, iv] (setItem ov iv v)
      release [v, ov, iv] []) := fun v => by cases ie <;> first | rfl | (simp [nSl] at hn; done)
  refine PS.imp (L2.ps_asg hv (L2.pg_sub ho hx L2.set_list hsub) (sw_sole hc) (by cases v <;> rfl) rfl) fun D σ H h => ?_
  obtain ⟨ρ, F, L0, w, h⟩ := h
  simp only [wpS] at h
  refine ⟨ρ, F, L0, w, wpE_mono hC e ρ (fun y ρ1 h v1 H' F' Fv w1 r1 g1 => ?_) (fun ex ρ1 h => (kX.xk h).weak hl) h⟩
  obtain ⟨x0, ex0, h⟩ := getV_some h
  obtain ⟨d0, v0, G1, Gi, G2, e1, e2, _, _, _⟩ := w1.into ex0
  have g1' : Go (nmE e) H F H' F' := g1.sub fun b hb => by simp [hb]
  have n1 := List.nodup_append.mp w1.nd
  have dj1 : ∀ b ∈ Fv, ¬ L0 b := fun b hb => w1.dj b (by simp [hb])
  simp only [wpEs] at h
  refine ⟨v0, e2, ρ1, F', Lo Fv L0, w1.push r1.mt, wpE_mono hC ix ρ1 (fun j ρ2 h u H2 F2 Fw w2 r2 g2 => ?_) (fun ex ρ2 h => xK.push ((kX.xk h).go g1') n1.2.1 dj1) h⟩
  have g2' : Go (nmE ix) H' F' H2 F2 := g2.sub fun b hb => by simp [hb]
  have r2' := r2.rp w2
  have w3 := w2.drop0.pop n1.2.1 dj1
  rw [List.append_nil] at w3
  have kp : Kp H' (Lo (F' ++ Fv) L0) (fun b => nmE ix = false ∧ b ∈ F') H2 (Lo (F2 ++ Fv) L0) := g2'.kpw (fun b hb => .inl (by simp [hb])) w1.mt fun b z => by
    rcases z with z | z
    · rcases List.mem_append.mp z with z | z
      · exact (g2'.fresh b z).imp (fun q => .inl (by simp [q])) id
      · exact .inl (.inl (by simp [z]))
    · exact .inl (.inr z)
  have oy : Own X.K H2 (Lo (F2 ++ Fv) L0) k y v1 Fv := Own.keep kp y k v1 Fv (fun b hb z => absurd rfl (n1.2.2 b z.2 b hb)) r1.own0
  obtain ⟨z, ez, h⟩ := getV_some h
  split at h
  case h_2 => exact h.elim
  rename_i z' e'
  obtain ⟨xs, kk, p0, rfl, rfl, hix, hp0, rfl⟩ := putAt_one e'
  simp only [Rp] at r2'
  have sx : xs = xs.take p0 ++ [xs[p0]] ++ xs.drop (p0 + 1) := by simp
  have sy : xs.take p0 ++ y :: xs.drop (p0 + 1) = xs.set p0 y := by rw [List.set_eq_take_append_cons_drop, if_pos hp0]
  have ez' := ez
  rw [sx] at ez'
  obtain ⟨a, vs1, vo, vs2, q1, q2, q3, q4, q5, q6, q7⟩ := put_wo' w3 ez' hd oy
  rw [e2] at q1
  cases q1
  rw [sy] at q7
  obtain ⟨F3, w4, g4⟩ := q7 (by rw [List.length_set]; rw [← sx] at q6; exact q6)
  obtain ⟨vv, rfl⟩ : ∃ vv, vo = [vv] := by
    rcases vo with _ | ⟨vv, _ | ⟨_, _⟩⟩ <;> simp at q4
    exact ⟨vv, rfl⟩
  have hlen : (vs1 ++ [vv] ++ vs2).length = xs.length := by
    have a1 := q3; have a2 := q5
    simp only [List.length_take, List.length_drop] at a1 a2
    simp only [List.length_append, List.length_singleton]; omega
  have hp1 : vs1.length = p0 := by rw [q3, List.length_take]; omega
  refine ⟨a, vs1 ++ [vv] ++ vs2, kk, p0, rfl, r2', q2, by rw [hlen]; exact hix, ?_⟩
  have e6 : (vs1 ++ [vv] ++ vs2).set p0 v1 = vs1 ++ v1 :: vs2 := by rw [← hp1]; simp
  rw [e6]
  refine h _ _ F3 w4 ((g1.f.trans ((g2'.f.sup (G := F' ++ Fv) fun b hb => by simp [hb]).add (Fw := Fv) fun b hb => .inl (by simp [hb])) (nm := false) (by simp)).trans g4 (nm := false) (by simp)) Ag.refl
end
end TL
end -- TLStC

section -- TLStD
/-! TL, part 26: blocks, loops, raise, try. -/
set_option linter.all false
set_option autoImplicit true
set_option maxRecDepth 100000
set_option maxHeartbeats 1000000
namespace TL
open PySem PySem.Spec PyProof.Rows
open L2 (V Hp HO upd upd_same upd_ne Vals RelV VK XK Cx Inv TE TT TA TS PE PT PW PA PO PG PGs PI PTs TG TGs TI WX Takes thn PS PSs SP Ends)
section
variable {T : Tab} {Pr : Prog} {n : Nat} {X : Cx} {cx : Ctx} {W : WX} {st s1 s2 t1 se : List Nat} {i k k1 k2 : Nat} {e : E} {v : Expr} {D : Ends} {σ : L2.St} {H : Hp} {pos : Pos} {r ra rb : R} {sa sb : List S} {qa qb : List Stmt} (hC : MonoC (Pr.call n))
include hC
theorem c_if {c : E} (hc : PT X v (tT Pr T n X c st s1 W)) (ha : PSs X qa (tSs Pr T n X cx sa s1 ra W)) (hb : PSs X qb (tSs Pr T n X cx sb s1 rb W)) (h1 : leR r ra = true) (h2 : leR r rb = true) (h3 : leO r.ex (some s1) = true) :
    PS X (.If v qa qb pos) (tS Pr T n X cx (.ife c sa sb) st r W) := by
  refine PS.imp (L2.ps_if hc ha hb) fun D σ H h => ?_
  obtain ⟨ρ, F, L0, w, h⟩ := h
  simp only [wpS] at h
  refine ⟨ρ, F, L0, w, wpT_mono hC c ρ (fun t ρ1 h H' F' w1 g1 => ?_) (fun ex ρ1 h => (kX.weak h h3).xk) h⟩
  cases t with
  | true =>
    simp only [if_true] at h ⊢
    exact ⟨ρ1, F', L0, w1, wpSs_mono hC sa ρ1 (dK_go g1 Ag.refl h1) h⟩
  | false =>
    simp only [Bool.false_eq_true, if_false] at h ⊢
    exact ⟨ρ1, F', L0, w1, wpSs_mono hC sb ρ1 (dK_go g1 Ag.refl h2) h⟩
omit hC in
theorem c_nilS : PSs X [] (tSs Pr T n X cx [] st { nx := some st } W) := by
  refine PSs.imp L2.pss_nil fun D σ H h => ?_
  obtain ⟨ρ, F, L0, w, h⟩ := h
  simp only [wpSs] at h
  exact h σ H F w (Go.refl _ _ _ fun b hb => hb) Ag.refl
omit hC in
theorem c_oneS {s : S} {q : Stmt} (hs : PS X q (tS Pr T n X cx s st ra W)) : PSs X [q] (tSs Pr T n X cx [s] st ra W) := by
  refine PSs.imp (L2.pss_one hs) fun D σ H h => ?_
  obtain ⟨ρ, F, L0, w, h⟩ := h
  simp only [wpSs] at h
  exact ⟨ρ, F, L0, w, h⟩
theorem c_consS {s : S} {q : Stmt} (hs : PS X q (tS Pr T n X cx s st ra W)) (hr : PSs X qb (tSs Pr T n X cx sb s1 rb W)) (h0 : ra.nx = some s1) (h1 : leR r { ra with nx := none } = true) (h2 : leR r rb = true) : PSs X (q :: qb) (tSs Pr T n X cx (s :: sb) st r W) := by
  refine PSs.imp (L2.pss_cons hs hr) fun D σ H h => ?_
  obtain ⟨ρ, F, L0, w, h⟩ := h
  simp only [wpSs] at h
  have l1 := leR_of h1
  refine ⟨ρ, F, L0, w, ?_⟩
  refine wpS_mono hC s ρ ?_ h
  refine ⟨fun ρ1 z => ?_, fun x ρ1 z => z, fun ρ1 z => kN.weak z l1.2.1, fun ρ1 z => kN.weak z l1.2.2.1, fun ex ρ1 z => kX.weak z l1.2.2.2⟩
  show kN X cx L0 σ H F _ ra.nx ρ1
  rw [h0]
  intro σ' H' F' w' g a
  exact ⟨ρ1, F', L0, w', wpSs_mono hC sb ρ1 (dK_go g a h2) z⟩
theorem c_for {N : List Str} {sc : Scope} (o : XS T Pr n N sc X) {t : Tg} {ik : ItK} {as : List E} {it tg : Expr} {body : List S} (hI : PI X tg it (tI Pr T n X ik as st s1 true W)) (hg : PG X tg (gT X (tgSlots t) (bindTg t))) (hb : PSs X qa (tSs Pr T n X cx body (zeroS (tgSlots t) t1) rb W)) (hs : ∀ x, foldedSetIterable it X.env x = pure x)
    (l1 : leS t1 s1 = true) (l2 : leO (some t1) rb.nx = true) (l3 : leO (some t1) rb.ct = true) (l4 : leO r.nx (some t1) = true) (l5 : leO r.nx rb.bk = true) (l6 : leO r.ex (some s1) = true) (l7 : leO r.ex rb.ex = true) (hi : ∀ i ∈ tgSlots t, noSlot cx i = true ∧ i < t1.length) :
    PS X (.For tg it qa [] pos) (tS Pr T n X cx (.for_ t ik as body) st r W) := by
  refine PS.imp (L2.ps_for o.pass o.ok.calm hI hg hb hs) fun D σ H h => ?_
  obtain ⟨ρ, F, L0, w, h⟩ := h
  simp only [wpS] at h
  refine ⟨ρ, F, L0, w, wpEs_mono hC as ρ (fun xs ρ1 h => app_mono (fun items h J P H1 F1' w1' src p hlen g1 => ?_) h) (fun ex ρ1 h => (kX.weak h l6).xk) h⟩
  obtain ⟨F1, sb1, w1⟩ := w1'.weak l1
  have g1' : Go false H F H1 F1 := g1.f.sub fun b hb => sb1.subset hb
  have p1 : P H1 (Lo F1 L0) := src.keep H1 (Lo F1' L0) H1 (Lo F1 L0) (fun _ => False) (Kp.same fun b z => .inl (z.imp (fun q => sb1.subset q) id)) (fun _ _ z => z) p
  generalize hf : (fun (x : TV) (ρ2 : Env) (next : Env → Prop) => bindTg t x ρ2 fun ρ3 => wpSs (Pr.call n) (GG Pr) body ρ3 { dK X T cx W L0 σ H F D r with nx := next, ct := next, bk := (dK X T cx W L0 σ H F D r).nx }) = f at h
  refine ⟨fun i m σ' H' => m = items.length - i ∧ i ≤ items.length ∧ ∃ ρ2 F2, WO X.K H' L0 t1 ρ2 σ' F2 [] ∧ Go false H1 F1 H' F2 ∧ Ag cx σ σ' ∧ loopF f (items.drop i) ρ2 (dK X T cx W L0 σ H F D r).nx,
    ⟨items.length, by simp, Nat.zero_le _, ρ1, F1, w1, Go.refl _ _ _ fun b hb => hb, Ag.refl, by simpa using h⟩, ?_⟩
  rintro i m σi Hi ⟨rfl, hil, ρ2, F2, w2, g2, a2, lp⟩
  have pi := src.keep _ _ _ _ _ (g2.kp w1.mt) (fun e => nomatch e) p1
  have gi := g1'.trans g2 (nm := false) (by simp)
  by_cases hlt : i < items.length
  · refine .inr ⟨src.goes i Hi _ hlt pi, fun σ' H' => ∃ ρ2 F2, WO X.K H' L0 t1 ρ2 σ' F2 [] ∧ Go false H1 F1 H' F2 ∧ Ag cx σ σ' ∧ loopF f (items.drop (i + 1)) ρ2 (dK X T cx W L0 σ H F D r).nx, fun σ' H' nx => ⟨items.length - (i + 1), by omega, rfl, hlt, nx⟩, fun x H' y => ?_⟩
    obtain ⟨y, ey, ry, kp⟩ := src.yields i Hi _ x H' hlt pi y
    have hdrop : items.drop i = y :: items.drop (i + 1) := by
      rw [List.drop_eq_getElem_cons hlt]
      have := (List.getElem?_eq_some_iff.mp ey).2
      rw [this]
    rw [hdrop] at lp
    simp only [loopF] at lp
    rw [← hf] at lp
    simp only at lp
    have w' : WO X.K H' L0 t1 ρ2 σi F2 [] := w2.go kp List.nodup_nil fun b hb => nomatch hb
    refine ⟨ρ2, F2, L0, y, t1, w', ry, List.all_eq_true.mpr fun i hi' => decide_eq_true (hi i hi').2, bindTg_mono (fun ρ3 h σ3 F3 w3 sb hw => ?_) t y _ lp⟩
    have a3 : Ag cx σ σ3 := a2.trans (Ag_wipe (fun i hi' => (hi i hi').1) (hw _ fun i z => z))
    have gE : Go false Hi F2 H' F3 := (Go.ext (nm := false) kp).sub sb
    have g3 : Go false H1 F1 H' F3 := g2.trans gE (by simp)
    have gt : Go false H F H' F3 := gi.trans gE (by simp)
    rw [hf] at h
    have again : ∀ {o' : Option (List Nat)} {ρ4 : Env}, leO (some t1) o' = true → loopF f (items.drop (i + 1)) ρ4 (dK X T cx W L0 σ H F D r).nx →
        kN X cx L0 σ3 H' F3 (fun σ' H' => ∃ ρ2 F2, WO X.K H' L0 t1 ρ2 σ' F2 [] ∧ Go false H1 F1 H' F2 ∧ Ag cx σ σ' ∧ loopF f (items.drop (i + 1)) ρ2 (dK X T cx W L0 σ H F D r).nx) o' ρ4 := fun {o' ρ4} lo z => by
      cases o' with
      | none => trivial
      | some s =>
        intro σ' H'' F' w4 g4 a4
        obtain ⟨F'', sb4, w5⟩ := w4.weak lo
        exact ⟨ρ4, F'', w5, (g3.trans g4 (by simp)).sub fun b hb => sb4.subset hb, a3.trans a4, z⟩
    refine ⟨ρ3, F3, L0, w3, ?_⟩
    refine wpSs_mono hC body ρ3 ?_ h
    exact ⟨fun ρ4 z => again l2 z, fun x ρ4 z => kR.go z gt a3, fun ρ4 z => kN.go z gt a3 l5, fun ρ4 z => again l3 z, fun ex ρ4 z => kX.go z gt a3 l7⟩
  · obtain rfl : i = items.length := by omega
    refine .inl ⟨src.stops _ _ pi, ?_⟩
    rw [List.drop_length] at lp
    simp only [loopF] at lp
    exact (kN.weak lp l4) σi Hi F2 w2 gi a2
theorem c_while {N : List Str} {sc : Scope} (o : XS T Pr n N sc X) {c : E} {body : List S} (hc : PT X v (tT Pr T n X c t1 s2 W)) (hb : PSs X qa (tSs Pr T n X cx body s2 rb W))
    (l1 : leS t1 st = true) (l2 : leO (some t1) rb.nx = true) (l3 : leO (some t1) rb.ct = true) (l4 : leO r.nx (some s2) = true) (l5 : leO r.nx rb.bk = true) (l6 : leO r.ex (some s2) = true) (l7 : leO r.ex rb.ex = true) :
    PS X (.While v qa [] pos) (tS Pr T n X cx (.while_ c body) st r W) := by
  refine PS.imp (L2.ps_while o.pass hc hb) fun D σ H h => ?_
  obtain ⟨ρ, F, L0, w, h⟩ := h
  simp only [wpS] at h
  obtain ⟨m, h⟩ := h
  obtain ⟨F1, sb1, w1⟩ := w.weak l1
  generalize hcf : (fun (ρ1 : Env) (K : Bool → Env → Prop) => wpT (Pr.call n) (GG Pr) c ρ1 K (dK X T cx W L0 σ H F D r).ex) = cf at h
  generalize hbf : (fun (ρ1 : Env) (next : Env → Prop) => wpSs (Pr.call n) (GG Pr) body ρ1 { dK X T cx W L0 σ H F D r with nx := next, ct := next, bk := (dK X T cx W L0 σ H F D r).nx }) = bf at h
  refine ⟨fun m σ' H' => ∃ ρ2 F2, WO X.K H' L0 t1 ρ2 σ' F2 [] ∧ Go false H F H' F2 ∧ Ag cx σ σ' ∧ loopW cf bf m ρ2 (dK X T cx W L0 σ H F D r).nx, ⟨m, ρ, F1, w1, Go.refl _ _ _ fun b hb => sb1.subset hb, Ag.refl, h⟩, ?_⟩
  rintro m σi Hi ⟨ρ2, F2, w2, g2, a2, lp⟩
  cases m with
  | zero => exact lp.elim
  | succ m =>
    simp only [loopW] at lp
    rw [← hcf] at lp
    refine ⟨ρ2, F2, L0, w2, wpT_mono hC c ρ2 (fun t ρ3 h H' F3 w3 g3 => ?_) (fun ex ρ1 h => ((kX.weak h l6).go g2 a2 (leO_refl _)).xk) lp⟩
    rw [hcf] at h
    have gt := g2.trans g3 (nm := false) (by simp)
    cases t with
    | true =>
      simp only [if_true] at h ⊢
      refine ⟨fun σ' H' => ∃ ρ2 F2, WO X.K H' L0 t1 ρ2 σ' F2 [] ∧ Go false H F H' F2 ∧ Ag cx σ σ' ∧ loopW cf bf m ρ2 (dK X T cx W L0 σ H F D r).nx, fun σ' H' nx => ⟨m, by omega, nx⟩, ?_⟩
      have again : ∀ {o' : Option (List Nat)} {ρ4 : Env}, leO (some t1) o' = true → loopW cf bf m ρ4 (dK X T cx W L0 σ H F D r).nx →
          kN X cx L0 σi H' F3 (fun σ' H' => ∃ ρ2 F2, WO X.K H' L0 t1 ρ2 σ' F2 [] ∧ Go false H F H' F2 ∧ Ag cx σ σ' ∧ loopW cf bf m ρ2 (dK X T cx W L0 σ H F D r).nx) o' ρ4 := fun {o' ρ4} lo z => by
        cases o' with
        | none => trivial
        | some s =>
          intro σ' H'' F' w4 g4 a4
          obtain ⟨F'', sb4, w5⟩ := w4.weak lo
          exact ⟨ρ4, F'', w5, (gt.trans g4 (by simp)).sub fun b hb => sb4.subset hb, a2.trans a4, z⟩
      have h' := h
      rw [← hbf] at h'
      simp only at h'
      rw [hbf] at h'
      refine ⟨ρ3, F3, L0, w3, ?_⟩
      refine wpSs_mono hC body ρ3 ?_ h'
      exact ⟨fun ρ4 z => again l2 z, fun x ρ4 z => kR.go z gt a2, fun ρ4 z => kN.go z gt a2 l5, fun ρ4 z => again l3 z, fun ex ρ4 z => kX.go z gt a2 l7⟩
    | false =>
      simp only [Bool.false_eq_true, if_false] at h ⊢
      exact (kN.weak h l4) σi H' F3 w3 gt a2
omit hC in
theorem c_raise {N : List Str} {sc : Scope} (o : XS T Pr n N sc X) (tk : Takes X W) {c : Nat} {x : Str} {p q : Pos} (h1 : T.cl[c]? = some x) (h2 : T.xf[c]? = some ("" : Str)) (h3 : globB sc x = true) : PS X (.Raise (some (.Call (.Name x p) [] [] q)) none pos) (tS Pr T n X cx (.raise_ c []) st { ex := some st } W) := by
  obtain ⟨C, m1, _, m3⟩ := o.co.cl c x h1
  obtain ⟨k1, k2, k3⟩ := m3 h2
  obtain ⟨q1, q2, q3⟩ := o.ok.glob h3
  refine PS.imp (L2.ps_raise o.ok.calm tk (pmk_own0 PySem.F.excBase_ValueError k2 m1 k1 k3 q1 q2)) fun D σ H h => ?_
  obtain ⟨ρ, F, L0, w, h⟩ := h
  simp only [wpS, wpEs] at h
  exact h (.ref C) none σ H F w ⟨x, C, h1, m1, rfl, .inl rfl⟩ (Go.refl _ _ _ fun b hb => hb) Ag.refl
theorem c_asgC {N : List Str} {sc : Scope} (o : XS T Pr n N sc X) {t : Tg} {cond : Option E} {own : List Nat} {ke m : Nat} {ifs : List Expr} {x0 c1 e1 : List Nat} {ik : ItK} {as : List E} {elt : E} {y : Expr} {it tg : Expr} {scope : Scope} {x : Str} {xp cp : Pos}
    (hsw : swC sc x xp (.ListComp y [⟨tg, it, ifs, 0⟩] scope cp) = true) (hst : X.N.Nodup ∧ X.N[i]? = some x ∧ L2.Loc X.env.scope x ∧ (X.fn x = true ∨ X.env.scope.names.lookup x = some .local)) (hi : noSlot cx i = true) (hl : i < t1.length)
    (hblk : L2.blkC N sc scope (ownP N own) = true) (hI : PI X tg it (tI Pr T n X ik as st s1 (!(nmE elt && nmO cond)) W))
    (hg : ∀ (s : Shared) (H : Hp) (C : Addr) (cl : List (Str × Addr)) (fp : List Addr), PG (X.blk s H scope (compEnvC scope cl C X.env) fp) tg (gT X (tgSlots t) (bindTg t)))
    (ht : ∀ (s : Shared) (H : Hp) (C : Addr) (cl : List (Str × Addr)) (fp : List Addr), PTs (X.blk s H scope (compEnvC scope cl C X.env) fp) ifs (tC Pr T n X cond t1 c1 W0))
    (he : ∀ (s : Shared) (H : Hp) (C : Addr) (cl : List (Str × Addr)) (fp : List Addr), PE (X.blk s H scope (compEnvC scope cl C X.env) fp) y (tE Pr T n X elt 0 c1 ke e1 W0)) (hs : ∀ x, foldedSetIterable it X.env x = pure x)
    (h0 : t1 = zeroS own x0) (hl1 : leS t1 (zeroS own c1) = true) (hl2 : leS t1 (zeroS own e1) = true) (hl3 : leS t1 s1 = true) (htg : ∀ i ∈ tgSlots t, i ∈ own) (hown : ∀ i ∈ own, i < t1.length) :
    PS X (.Assign [.Name x xp] (.ListComp y [⟨tg, it, ifs, 0⟩] scope cp) pos) (tS Pr T n X cx (.asg i (.comp elt t ik as cond own)) st { nx := some (t1.set i (1 + ke)), ex := some t1 } W) := by
  have hk : X.env.scope.kind = .function := by rw [o.ok.hsc]; exact o.knd
  have hsw' := hsw
  rw [← o.ok.hsc] at hsw'
  have hyl : X.env.scope.names.lookup x = some .local := by
    simp only [swC, Bool.and_eq_true, beq_iff_eq] at hsw'
    exact hsw'.1.1
  refine PS.imp (L2.ps_setLc o.ok.calm hst.1 hst.2.1 hyl (sw_yes hk hsw') hI (L2.blkOk_by (by rw [o.ok.hN, o.ok.hsc]; exact hblk)) hg ht he hs) fun D σ H h => ?_
  rw [ownP_snd]
  exact c_compI hC h0 hl1 hl2 hl3 htg hown (i_asg hC hi hl h)
end
end TL
end -- TLStD

section -- TLStE
/-! TL, part 27: except suites; try. -/
set_option linter.all false
set_option autoImplicit true
set_option maxRecDepth 100000
set_option maxHeartbeats 1000000
namespace TL
open PySem PySem.Spec PyProof.Rows
open L2 (V Hp HO upd upd_same upd_ne Vals RelV VK XK Cx Inv TE TT TA TS PE PT PW PA PO PG PGs PI PTs TG TGs TI WX Takes thn PS PSs SP Ends Zc)
/-- the context of an except suite -/
structure US (N : List Str) (sc : Scope) (X : Cx) : Prop where
  hN : X.N = N
  nd : N.Nodup
  hsc : X.env.scope = sc
  fnc : ∀ x, cellB sc x = true → X.fn x = true
section
variable {T : Tab} {Pr : Prog} {n : Nat} {N : List Str} {sc : Scope} {X : Cx} {cx : Ctx} {W : WX} (hC : MonoC (Pr.call n))
theorem lit_pe {e : E} {v : Expr} {m k : Nat} {st s1 : List Nat} (hl : isLit e = true) (h : agE T N sc e v = true) (hst : stE Pr.defs e m st = some (k, s1)) : PE X v (tE Pr T n X e m st k s1 W) ∧ isCompE v = false := by
  cases e <;> try (simp [isLit] at hl; done)
  · rename_i lit
    obtain ⟨_, _, rfl⟩ := inv_int h
    simp only [stE, Option.some.injEq, Prod.mk.injEq] at hst
    obtain ⟨rfl, rfl⟩ := hst
    exact ⟨c_lit (x := .int lit) L2.pe_int (fun C G ρ K XX => by simp only [wpE]) fun H L => by simp only [Own, and_self], rfl⟩
  · rename_i lit
    obtain ⟨_, _, rfl⟩ := inv_str h
    simp only [stE, Option.some.injEq, Prod.mk.injEq] at hst
    obtain ⟨rfl, rfl⟩ := hst
    exact ⟨c_lit (x := .str lit) L2.pe_str (fun C G ρ K XX => by simp only [wpE]) fun H L => by simp only [Own, and_self], rfl⟩
  · rename_i lit
    obtain ⟨_, _, rfl⟩ := inv_bl h
    simp only [stE, Option.some.injEq, Prod.mk.injEq] at hst
    obtain ⟨rfl, rfl⟩ := hst
    exact ⟨c_lit (x := .bl lit) L2.pe_bl (fun C G ρ K XX => by simp only [wpE]) fun H L => by simp only [Own, and_self], rfl⟩
  · obtain ⟨_, _, rfl⟩ := inv_non h
    simp only [stE, Option.some.injEq, Prod.mk.injEq] at hst
    obtain ⟨rfl, rfl⟩ := hst
    exact ⟨c_lit (x := .non) L2.pe_non (fun C G ρ K XX => by simp only [wpE]) fun H L => by simp only [Own, and_self], rfl⟩
theorem storeU_ok {i : Nat} {x : Str} (o : US N sc X) (h : storeB N sc (cellB sc) i x = true) : X.N.Nodup ∧ X.N[i]? = some x ∧ L2.Loc X.env.scope x ∧ (X.fn x = true ∨ X.env.scope.names.lookup x = some .local) := by
  unfold storeB at h
  simp only [Bool.and_eq_true, Bool.or_eq_true, beq_iff_eq] at h
  obtain ⟨⟨h1, h2⟩, _⟩ := h
  refine ⟨by rw [o.hN]; exact o.nd, by rw [o.hN]; exact h1, ?_, ?_⟩
  · unfold L2.Loc
    rw [o.hsc]
    exact h2.imp id fun q => q.1
  · rw [o.hsc]
    exact h2.elim .inr fun q => .inl (o.fnc x q.2)
theorem seq_of (hC : MonoC (Pr.call n)) {s : S} {r : List S} {q : Stmt} {qs : List Stmt} {st : List Nat} {r0 : R} (hst : stSs Pr.defs cx (s :: r) st = some r0) (h1 : ∀ a, stS Pr.defs cx s st = some a → PS X q (tS Pr T n X cx s st a W)) (hag : agSs T N sc r qs = true)
    (h2 : ∀ s1 b, stSs Pr.defs cx r s1 = some b → PSs X qs (tSs Pr T n X cx r s1 b W)) : PSs X (q :: qs) (tSs Pr T n X cx (s :: r) st r0 W) := by
  simp only [stSs, Option.bind_eq_bind, Option.bind_eq_some_iff] at hst
  obtain ⟨a, ha, hst⟩ := hst
  split at hst
  · rename_i hn
    split at hst
    · rename_i he
      cases hst
      have : r = [] := by cases r <;> simp at he ⊢
      subst this
      cases qs with
      | nil => exact c_oneS (h1 _ ha)
      | cons _ _ => simp [agSs] at hag
    · cases hst
  · rename_i s1 hn
    simp only [Option.bind_eq_some_iff] at hst
    obtain ⟨b, hb, hst⟩ := hst
    obtain ⟨rfl, hc⟩ := ckR_some hst
    exact c_consS hC (h1 a ha) (h2 s1 b hb) hn (hc _ (by simp)) (hc _ (by simp))
theorem dAsg_some {q : Stmt} {x xp v} (h : dAsg q = some (x, xp, v)) : ∃ p, q = .Assign [.Name x xp] v p := by
  unfold dAsg at h
  split at h <;> cases h
  exact ⟨_, rfl⟩
theorem inv_asg {i : Nat} {e : E} {q : Stmt} (h : agS T N sc (.asg i e) q = true) : ∃ x xp v p, q = .Assign [.Name x xp] v p ∧ storeB N sc (cellB sc) i x = true ∧ agE T N sc e v = true ∧ (isCompE v = false ∨ swC sc x xp v = true) := by
  simp only [agS] at h
  split at h
  · rename_i e
    obtain ⟨p, rfl⟩ := dAsg_some e
    simp only [Bool.and_eq_true, Bool.or_eq_true, Bool.not_eq_true'] at h
    exact ⟨_, _, _, _, rfl, h.1.1, h.1.2, h.2⟩
  · cases h
theorem inv_ret {e : E} {q : Stmt} (h : agS T N sc (.ret e) q = true) : ∃ v p, q = .Return (some v) p ∧ agE T N sc e v = true := by
  simp only [agS] at h
  split at h
  · rename_i e
    unfold dRet at e
    split at e <;> cases e
    exact ⟨_, _, rfl, h⟩
  · cases h
theorem inv_pass {q : Stmt} (h : agS T N sc .pass q = true) : PS X q L2.tNext := by
  simp only [agS] at h
  unfold dPass at h
  split at h
  · exact L2.ps_pass
  · exact L2.ps_doc
  · cases h
theorem inv_brk {q : Stmt} (h : agS T N sc .brk q = true) : ∃ p, q = .Break p := by
  simp only [agS] at h
  unfold dBrk at h
  split at h
  · exact ⟨_, rfl⟩
  · cases h
theorem inv_cont {q : Stmt} (h : agS T N sc .cont q = true) : ∃ p, q = .Continue p := by
  simp only [agS] at h
  unfold dCont at h
  split at h
  · exact ⟨_, rfl⟩
  · cases h
theorem agSs_cons {s : S} {r : List S} {qs : List Stmt} (h : agSs T N sc (s :: r) qs = true) : ∃ q qr, qs = q :: qr ∧ agS T N sc s q = true ∧ agSs T N sc r qr = true := by
  cases qs with
  | nil => simp [agSs] at h
  | cons q qr => simp only [agSs, Bool.and_eq_true] at h; exact ⟨q, qr, rfl, h⟩
/-- an except suite -/
theorem sU (hC : MonoC (Pr.call n)) (o : US N sc X) : ∀ (b : List S) {qs : List Stmt} {st : List Nat} {r : R}, isU b = true → agSs T N sc b qs = true → stSs Pr.defs cx b st = some r → PSs X qs (tSs Pr T n X cx b st r W)
  | [], qs, st, r, _, h, hst => by
    cases qs with
    | cons _ _ => simp [agSs] at h
    | nil =>
      simp only [stSs, Option.some.injEq] at hst
      subst hst
      exact c_nilS
  | s :: b, qs, st, r, hu, h, hst => by
    obtain ⟨q, qr, rfl, h1, h2⟩ := agSs_cons h
    have hu2 : isU b = true := by cases s <;> simp [isU] at hu <;> first | exact hu | exact hu.2
    refine seq_of hC hst (fun a ha => ?_) h2 fun s1 b' hb' => sU hC o b hu2 h2 hb'
    cases s <;> try (simp [isU] at hu; done)
    · rename_i i e
      simp only [isU, Bool.and_eq_true] at hu
      obtain ⟨x, xp, v, p, rfl, q1, q2, _⟩ := inv_asg h1
      simp only [stS, Option.bind_eq_bind, Option.bind_eq_some_iff] at ha
      obtain ⟨⟨k, s1⟩, he, ha⟩ := ha
      simp only at ha he
      split at ha
      · rename_i hh
        cases ha
        simp only [Bool.and_eq_true, decide_eq_true_eq] at hh
        obtain ⟨l1, l2⟩ := lit_pe (X := X) (W := W) (n := n) hu.1 q2 he
        exact c_asg hC l1 (storeU_ok o q1) l2 hh.1 hh.2
      · cases ha
    · rename_i e
      simp only [isU, Bool.and_eq_true] at hu
      obtain ⟨v, p, rfl, q2⟩ := inv_ret h1
      simp only [stS, Option.bind_eq_bind, Option.bind_eq_some_iff] at ha
      obtain ⟨⟨k, s1⟩, he, ha⟩ := ha
      simp only at ha he
      split at ha
      · rename_i hh
        cases ha
        simp only [Bool.and_eq_true, decide_eq_true_eq] at hh
        obtain ⟨l1, l2⟩ := lit_pe (X := X) (W := W) (n := n) hu.1 q2 he
        exact c_ret hC l1 hh.1 hh.2
      · cases ha
    · simp only [stS, Option.some.injEq] at ha
      subst ha
      exact c_pass (inv_pass h1)
    · simp only [stS, Option.some.injEq] at ha
      subst ha
      obtain ⟨p, rfl⟩ := inv_brk h1
      exact c_brk
    · simp only [stS, Option.some.injEq] at ha
      subst ha
      obtain ⟨p, rfl⟩ := inv_cont h1
      exact c_cont
theorem gone2 {L0 : Addr → Prop} {σ σ1 : L2.St} {H H1 : Hp} {F F1 : List Addr} {Q : L2.St → Hp → Prop} {o o' : Option (List Nat)} {ρ : Env} {i : Nat} (h : kN X cx L0 σ H F Q o (ρ.set i none)) (g : Go false H F H1 F1) (a : Ag cx σ σ1) (hi : noSlot cx i = true) (hl : leO o (o'.map (·.set i 0)) = true) :
    kN X cx L0 σ1 H1 F1 (fun σ' H' => Q (σ'.set i none) H') o' ρ := by
  cases o' with
  | none => trivial
  | some s' =>
    intro σ' H' F' w g' a'
    by_cases hb : i < ρ.length
    · obtain ⟨F2, sb, w2⟩ := w.clear (i := i) none 0 hb
      have := h.go g a hl
      exact this (σ'.set i none) H' F2 w2 (g'.sub fun b hb => sb b hb) (a'.trans (Ag.set hi))
    · have e1 : s'.set i 0 = s' := List.set_eq_of_length_le (by rw [w.lenS]; omega)
      have e2 : ρ.set i none = ρ := List.set_eq_of_length_le (by omega)
      have e3 : σ'.set i none = σ' := List.set_eq_of_length_le (by rw [w.lenV]; omega)
      have := h.go g a hl
      rw [e2] at this
      simp only [Option.map_some, e1] at this
      rw [e3]
      exact this σ' H' F' w g' a'
/-- the except clauses -/
theorem sH (hC : MonoC (Pr.call n)) (o : XS T Pr n N sc X) {se : List Nat} : ∀ (hs : List (Nat × Option Nat × List S)) {hds : List ExceptHandler} {rh : R}, agH T N sc hs hds = true → stH Pr.defs cx hs se = some rh →
    ∃ l : List Cl, MixOk X hds l ∧ ∀ (Wout : WX) (D : Ends) (r : R) (L0 : Addr → Prop) (σ : L2.St) (H : Hp) (F : List Addr) (x : Xc) (cls : Value) (d : Option Addr) (ρ1 : Env) (σ' : L2.St) (H' : Hp) (F' : List Addr), leR r rh = true → WO X.K H' L0 se ρ1 σ' F' [] → XR X.K X.mg T H' (Lo F' L0) x cls d → Go false H F H' F' → Ag cx σ σ' →
      wpH (Pr.call n) (GG Pr) hs x ρ1 (dK X T cx Wout L0 σ H F D r) → wMix X.K Wout D l cls d σ' H'
  | [], hds, rh, h, hst => by
    cases hds with
    | cons _ _ => simp [agH] at h
    | nil =>
      simp only [stH, Option.some.injEq] at hst
      subst hst
      refine ⟨[], .nil, fun Wout D r L0 σ H F x cls d ρ1 σ' H' F' hl w xr g a h => ?_⟩
      simp only [wpH] at h
      exact (kX.weak h (leR_of hl).2.2.2) cls d σ' H' F' w xr g a
  | (c, nm, b) :: hs, hds, rh, h, hst => by
    cases hds with
    | nil => simp [agH] at h
    | cons hd hds =>
      simp only [stH, Option.bind_eq_bind, Option.bind_eq_some_iff] at hst
      obtain ⟨ra, hra, rb, hrb, hst⟩ := hst
      split at hst
      rotate_left
      · cases hst
      rename_i hh
      simp only [Bool.and_eq_true, Bool.not_eq_true'] at hh
      obtain ⟨⟨hu, hio⟩, hne⟩ := hh
      obtain ⟨rfl, hck⟩ := ckR_some hst
      have l1 := leR_of (hck _ (List.mem_cons_self ..))
      have l2 := hck rb (by simp)
      obtain ⟨x, np, y, q, pos', rfl, h1, h2, h3, h4, h5⟩ : ∃ x np y q pos', hd = .ExceptHandler (some (.Name x np)) y q pos' ∧ T.cl[c]? = some x ∧ globB sc x = true ∧ agN N sc nm y = true ∧ agSs T N sc b q = true ∧ agH T N sc hs hds = true := by
        simp only [agH] at h
        split at h
        · rename_i e
          unfold dH at e
          split at e <;> cases e
          simp only [Bool.and_eq_true, beq_iff_eq] at h
          exact ⟨_, _, _, _, _, rfl, h.1.1.1.1, h.1.1.1.2, h.1.1.2, h.1.2, h.2⟩
        · cases h
      obtain ⟨Dc, m1, m2, _⟩ := o.co.cl c x h1
      obtain ⟨g1, g2, g3⟩ := o.ok.glob h2
      have hnames : L2.Names X x (.ref Dc) := ⟨g1, g2, .inl m1⟩
      obtain ⟨b₀, br, rfl⟩ : ∃ b₀ br, b = b₀ :: br := by cases b with | nil => simp at hne | cons s r => exact ⟨s, r, rfl⟩
      obtain ⟨q0, qr, rfl, _, _⟩ := agSs_cons h4
      have hsu : ∀ (a : Addr) (oe : Obj) (cls : Value) (d : Option Addr) (pn : List (Addr × Obj)), Zc cls d oe → (∃ vs, oe.data = .fields vs) → PSs (X.suite a ((a, oe) :: pn)) (q0 :: qr) (tSs Pr T n X cx (b₀ :: br) (seN se nm) ra W0) :=
        fun a oe cls d pn _ _ => sU (X := X.suite a ((a, oe) :: pn)) hC ⟨o.ok.hN, o.ok.nd, o.ok.hsc, o.ok.fnc⟩ (b₀ :: br) hu h4 hra
      obtain ⟨l, hl, ih⟩ := sH hC o hs h5 hrb
      have bits : ∀ (x' : Xc) (cls : Value) (d : Option Addr) (H' : Hp) (L : Addr → Prop), XR X.K X.mg T H' L x' cls d → PySem.W.exmOne X.K cls (.ref Dc) = some (isSub x'.cls c) := by
        rintro x' cls d H' L ⟨xn, C, k1, k2, k3, _⟩
        obtain ⟨C', k4, k5, _⟩ := o.co.cl x'.cls xn k1
        rw [k2] at k4
        cases k4
        rw [k3]
        exact k5 x Dc c h1 m1
      cases nm with
      | none =>
        cases y with
        | some _ => simp [agN] at h3
        | none =>
          refine ⟨(.ref Dc, none, fun _ _ _ => tSs Pr T n X cx (b₀ :: br) se ra W0) :: l, .one hnames hsu hl, fun Wout D r L0 σ H F x' cls d ρ1 σ' H' F' hlr w xr g a hw => ?_⟩
          simp only [wpH] at hw
          have lr := leR_of hlr
          refine ⟨isSub x'.cls c, bits x' cls d H' _ xr, fun e a' na => ?_, fun e => ?_⟩
          · rw [if_pos e] at hw
            refine ⟨ρ1, F', L0, w, ?_⟩
            refine wpSs_mono hC _ ρ1 ?_ hw
            exact ⟨fun ρ z => kN.go z g a (leO_trans lr.1 l1.1), fun x ρ z => kR.go z g a, fun ρ z => kN.go z g a (leO_trans lr.2.1 l1.2.1), fun ρ z => kN.go z g a (leO_trans lr.2.2.1 l1.2.2.1), fun ex ρ z => z.elim⟩
          · rw [if_neg (by rw [e]; simp)] at hw
            refine ih Wout D r L0 σ H F x' cls d ρ1 σ' H' F' ?_ w xr g a hw
            have l2 := leR_of l2
            simp only [leR, Bool.and_eq_true]
            exact ⟨⟨⟨leO_trans lr.1 l2.1, leO_trans lr.2.1 l2.2.1⟩, leO_trans lr.2.2.1 l2.2.2.1⟩, leO_trans lr.2.2.2 l2.2.2.2⟩
      | some i =>
        cases y with
        | none => simp [agN] at h3
        | some y =>
          simp only [agN, Bool.and_eq_true, beq_iff_eq] at h3
          simp only [okI, Bool.and_eq_true, decide_eq_true_eq] at hio
          have hk : X.env.kindOf y = some .local := by
            unfold PySem.Env.kindOf; rw [o.ok.hsc]; exact h3.2
          refine ⟨(.ref Dc, some i, fun _ _ _ => tSs Pr T n X cx (b₀ :: br) (se.set i 0) ra W0) :: l, .as hnames (by rw [o.ok.hN]; exact o.ok.nd) (by rw [o.ok.hN]; exact h3.1) hk hsu hl, fun Wout D r L0 σ H F x' cls d ρ1 σ' H' F' hlr w xr g a hw => ?_⟩
          simp only [wpH] at hw
          have lr := leR_of hlr
          refine ⟨isSub x'.cls c, bits x' cls d H' _ xr, fun e a' na => ?_, fun e => ?_⟩
          · rw [if_pos e] at hw
            obtain ⟨F2, sb, w2⟩ := w.clear (i := i) (some (.ref a')) 0 (by rw [← w.lenS]; exact hio.2)
            have g2 : Go false H F H' F2 := g.sub sb
            have a2 : Ag cx σ (σ'.set i (some (.ref a'))) := a.trans (Ag.set hio.1)
            refine ⟨ρ1.set i none, F2, L0, w2, ?_⟩
            refine wpSs_mono hC _ _ ?_ hw
            exact ⟨fun ρ z => gone2 z g2 a2 hio.1 (leO_trans lr.1 l1.1), fun x ρ z => kR.go z g2 a2, fun ρ z => gone2 z g2 a2 hio.1 (leO_trans lr.2.1 l1.2.1), fun ρ z => gone2 z g2 a2 hio.1 (leO_trans lr.2.2.1 l1.2.2.1), fun ex ρ z => z.elim⟩
          · rw [if_neg (by rw [e]; simp)] at hw
            refine ih Wout D r L0 σ H F x' cls d ρ1 σ' H' F' ?_ w xr g a hw
            have l2 := leR_of l2
            simp only [leR, Bool.and_eq_true]
            exact ⟨⟨⟨leO_trans lr.1 l2.1, leO_trans lr.2.1 l2.2.1⟩, leO_trans lr.2.2.1 l2.2.2.1⟩, leO_trans lr.2.2.2 l2.2.2.2⟩
end
end TL
end -- TLStE

section -- TLStF
/-! TL, part 28: a statement that agrees and is in order reads as told. -/
set_option linter.all false
set_option autoImplicit true
set_option maxRecDepth 100000
set_option maxHeartbeats 1000000
namespace TL
open PySem PySem.Spec PyProof.Rows
open L2 (V Hp HO upd upd_same upd_ne Vals RelV VK XK Cx Inv TE TT TA TS PE PT PW PA PO PG PGs PI PTs TG TGs TI WX Takes thn PS PSs SP Ends Zc)
theorem starNone {vs : List Expr} (h : vs.all ns = true) : (vs.any fun | .Starred .. => true | _ => false) = false := by
  rw [List.any_eq_false]
  intro e he
  have := List.all_eq_true.mp h e he
  cases e <;> simp [ns] at this ⊢
theorem blk_fn {env : PySem.Env} (hk : env.scope.kind = .function) : env.blockKind = .function := by unfold Env.blockKind; rw [hk]; rfl
theorem st_par2 {env : PySem.Env} {x y : Str} {px py pt p2 : Pos} {a b : Expr} {kt k2 : _} (hk : env.scope.kind = .function) (lx : env.scope.names.lookup x = some .local) (ly : env.scope.names.lookup y = some .local) (hl : (py.line == px.line) = true) (hxy : x ≠ y)
    (hs : [a, b].all ns = true) (h1 : [a, b].all (foldedForSure 8) = false) (h2 : [a, b].all (constantsAlone 8) = false) : swappedStores [.Tuple [.Name x px, .Name y py] kt pt] (.Tuple [a, b] k2 p2) env = pure (some [x, y]) := by
  have kx : env.kindOf x = some .local := lx
  have ky : env.kindOf y = some .local := ly
  have hn := starNone hs
  have hl' : py.line = px.line := by simpa using hl
  have hyx : (y == x) = false := by simpa using Ne.symm hxy
  unfold swappedStores
  simp only [List.length_cons, List.length_nil, blk_fn hk, hn, h1, h2]
  simp [kx, ky, hl', Expr.pos, List.eraseDups_cons, hyx]
  intro hh
  exfalso
  simp only [List.all_cons, List.all_nil, Bool.and_true, Bool.and_eq_true] at hs
  rcases hh with hh | hh
  · have := hs.1; cases a <;> simp [ns] at this hh
  · have := hs.2; cases b <;> simp [ns] at this hh
theorem st_par3 {env : PySem.Env} {x y z : Str} {px py pz pt p2 : Pos} {a b c : Expr} {kt k2 : _} (hk : env.scope.kind = .function) (lx : env.scope.names.lookup x = some .local) (ly : env.scope.names.lookup y = some .local) (lz : env.scope.names.lookup z = some .local) (hl : (py.line == px.line) = true) (hl2 : (pz.line == px.line) = true) (hxy : x ≠ y) (hxz : x ≠ z) (hyz : y ≠ z)
    (hs : [a, b, c].all ns = true) (h1 : [a, b, c].all (foldedForSure 8) = false) (h2 : [a, b, c].all (constantsAlone 8) = false) : swappedStores [.Tuple [.Name x px, .Name y py, .Name z pz] kt pt] (.Tuple [a, b, c] k2 p2) env = pure (some [x, y, z]) := by
  have kx : env.kindOf x = some .local := lx
  have ky : env.kindOf y = some .local := ly
  have kz : env.kindOf z = some .local := lz
  have hn := starNone hs
  have hl' : py.line = px.line := by simpa using hl
  have hl2' : pz.line = px.line := by simpa using hl2
  have e1 : (y == x) = false := by simpa using Ne.symm hxy
  have e2 : (z == x) = false := by simpa using Ne.symm hxz
  have e3 : (z == y) = false := by simpa using Ne.symm hyz
  unfold swappedStores
  simp only [List.length_cons, List.length_nil, blk_fn hk, hn, h1, h2]
  simp [kx, ky, kz, hl', hl2', Expr.pos, List.eraseDups_cons, e1, e2, e3]
  intro hh
  exfalso
  simp only [List.all_cons, List.all_nil, Bool.and_true, Bool.and_eq_true] at hs
  rcases hh with hh | hh | hh
  · have := hs.1; cases a <;> simp [ns] at this hh
  · have := hs.2.1; cases b <;> simp [ns] at this hh
  · have := hs.2.2; cases c <;> simp [ns] at this hh
theorem nd_ne {N : List Str} (hN : N.Nodup) {i j : Nat} {x y : Str} (hx : N[i]? = some x) (hy : N[j]? = some y) (h : i ≠ j) : x ≠ y := fun e => h (L2.nodup_ix hN hx (e ▸ hy))
theorem mtO_some {a : List Nat} {o : Option (List Nat)} : ∃ b, mtO (some a) o = some b := by cases o <;> exact ⟨_, rfl⟩
section
variable {T : Tab} {Pr : Prog} {n : Nat} {N : List Str} {sc : Scope} {cx : Ctx}
theorem inv_if {c : E} {a b : List S} {q : Stmt} (h : agS T N sc (.ife c a b) q = true) : ∃ t x y p, q = .If t x y p ∧ agE T N sc c t = true ∧ agSs T N sc a x = true ∧ agSs T N sc b y = true := by
  simp only [agS] at h
  split at h
  · rename_i e
    unfold dIf at e
    split at e <;> cases e
    simp only [Bool.and_eq_true] at h
    exact ⟨_, _, _, _, rfl, h.1.1, h.1.2, h.2⟩
  · cases h
theorem inv_for {t : Tg} {k : ItK} {as : List E} {b : List S} {q : Stmt} (h : agS T N sc (.for_ t k as b) q = true) : ∃ g it y p, q = .For g it y [] p ∧ agIt T N sc k as it g = true ∧ agTg N sc (cellB sc) t g = true ∧ agSs T N sc b y = true ∧ isSet it = false := by
  simp only [agS] at h
  split at h
  · rename_i e
    unfold dFor at e
    split at e <;> cases e
    simp only [Bool.and_eq_true, Bool.not_eq_true'] at h
    exact ⟨_, _, _, _, rfl, h.1.1.1, h.1.1.2, h.1.2, h.2⟩
  · cases h
theorem inv_while {c : E} {b : List S} {q : Stmt} (h : agS T N sc (.while_ c b) q = true) : ∃ t y p, q = .While t y [] p ∧ agE T N sc c t = true ∧ agSs T N sc b y = true := by
  simp only [agS] at h
  split at h
  · rename_i e
    unfold dWhile at e
    split at e <;> cases e
    simp only [Bool.and_eq_true] at h
    exact ⟨_, _, _, rfl, h.1, h.2⟩
  · cases h
theorem inv_try {b : List S} {hs : List (Nat × Option Nat × List S)} {q : Stmt} (h : agS T N sc (.try_ b hs) q = true) : ∃ y h0 hds p, q = .Try y (h0 :: hds) [] [] p ∧ agSs T N sc b y = true ∧ agH T N sc hs (h0 :: hds) = true := by
  simp only [agS] at h
  split at h
  · rename_i e
    unfold dTry at e
    split at e <;> cases e
    simp only [Bool.and_eq_true] at h
    exact ⟨_, _, _, _, rfl, h.1, h.2⟩
  · cases h
theorem inv_raise {c : Nat} {as : List E} {q : Stmt} (h : agS T N sc (.raise_ c as) q = true) : as = [] ∧ ∃ x p p2 p3, q = .Raise (some (.Call (.Name x p) [] [] p2)) none p3 ∧ T.cl[c]? = some x ∧ T.xf[c]? = some ("" : Str) ∧ globB sc x = true := by
  simp only [agS] at h
  split at h
  · rename_i e
    unfold dRaise at e
    split at e <;> cases e
    simp only [Bool.and_eq_true, beq_iff_eq, List.isEmpty_iff] at h
    exact ⟨h.1.1.1, _, _, _, _, rfl, h.1.1.2, h.1.2, h.2⟩
  · cases h
theorem inv_asgT {t : Tg} {e : E} {q : Stmt} (h : agS T N sc (.asgT t e) q = true) : ∃ g v p, q = .Assign [g] v p ∧ agTg N sc (cellB sc) t g = true ∧ isTup g = true ∧ agE T N sc e v = true ∧ isCompE v = false ∧ swN sc g v = true := by
  simp only [agS] at h
  split at h
  · rename_i e
    unfold dAsgT at e
    split at e <;> cases e
    simp only [Bool.and_eq_true, Bool.not_eq_true'] at h
    exact ⟨_, _, _, rfl, h.1.1.1.1, h.1.1.1.2, h.1.1.2, h.1.2, h.2⟩
  · cases h
theorem inv_par {is : List Nat} {es : List E} {q : Stmt} (h : agS T N sc (.par is es) q = true) : ∃ ts k p vs k2 p2 p3, q = .Assign [.Tuple ts k p] (.Tuple vs k2 p2) p3 ∧ parN N sc (cellB sc) ((ts.map lineOf).headD 0) is ts = true ∧ agEs T N sc es vs = true ∧ vs.all ns = true ∧ is.Nodup ∧ (is.length = 2 ∨ is.length = 3) ∧ vs.all (foldedForSure 8) = false ∧ vs.all (constantsAlone 8) = false := by
  simp only [agS] at h
  split at h
  · rename_i e
    unfold dPar at e
    split at e <;> cases e
    simp only [Bool.and_eq_true, Bool.not_eq_true', Bool.or_eq_true, beq_iff_eq] at h
    exact ⟨_, _, _, _, _, _, _, rfl, h.1.1.1.1.1.1, h.1.1.1.1.1.2, h.1.1.1.1.2, nodupB_iff h.1.1.1.2, h.1.1.2, h.1.2, h.2⟩
  · cases h
theorem inv_aug {i : Nat} {o : Bop} {e : E} {q : Stmt} (h : agS T N sc (.aug i o e) q = true) : ∃ x xp op v p, q = .AugAssign (.Name x xp) op v p ∧ storeB N sc (cellB sc) i x = true ∧ agE T N sc e v = true ∧ ((o = .add ∧ op = .Add) ∨ (o = .sub ∧ op = .Sub)) := by
  simp only [agS] at h
  split at h
  · rename_i e
    unfold dAug at e
    split at e <;> cases e
    simp only [Bool.and_eq_true, Bool.or_eq_true, beq_iff_eq] at h
    exact ⟨_, _, _, _, _, rfl, h.1.1, h.1.2, h.2⟩
  · cases h
theorem inv_setI {i : Nat} {ixs : List E} {e : E} {q : Stmt} (h : agS T N sc (.setI i ixs e) q = true) : ∃ ix x xp k kp v p, ixs = [ix] ∧ q = .Assign [.Subscript (.Name x xp) k kp] v p ∧ slotB N sc i x = true ∧ agE T N sc e v = true ∧ agE T N sc ix k = true ∧ nSl k = true ∧ isCompE v = false := by
  simp only [agS] at h
  split at h
  · rename_i e
    unfold dSetI at e
    split at e <;> cases e
    simp only [Bool.and_eq_true, Bool.not_eq_true'] at h
    exact ⟨_, _, _, _, _, _, _, rfl, rfl, h.1.1.1.1, h.1.1.1.2, h.1.1.2, h.1.2, h.2⟩
  · cases h
theorem inv_app {i : Nat} {ixs : List E} {e : E} {q : Stmt} (h : agS T N sc (.append i ixs e) q = true) : ∃ x xp ap cp v p, ixs = [] ∧ q = .Expr (.Call (.Attribute (.Name x xp) ("append" : Str) ap) [v] [] cp) p ∧ slotB N sc i x = true ∧ agE T N sc e v = true ∧ ns v = true ∧ (ap.endLine == cp.line) = true := by
  simp only [agS] at h
  split at h
  · rename_i e
    unfold dApp at e
    split at e <;> cases e
    simp only [Bool.and_eq_true, beq_iff_eq] at h
    obtain ⟨⟨⟨⟨rfl, h1⟩, h2⟩, h3⟩, h4⟩ := h
    exact ⟨_, _, _, _, _, _, rfl, rfl, h1, h2, h3, by simpa using h4⟩
  · cases h
theorem inv_expr {e : E} {q : Stmt} (h : agS T N sc (.expr e) q = true) : ∃ v p, q = .Expr v p ∧ agE T N sc e v = true ∧ isCompE v = false := by
  simp only [agS] at h
  split at h
  · rename_i e
    unfold dExpr at e
    split at e <;> cases e
    simp only [Bool.and_eq_true, Bool.not_eq_true'] at h
    exact ⟨_, _, rfl, h⟩
  · cases h
theorem inv_retN {q : Stmt} (h : agS T N sc .retN q = true) : ∃ p, q = .Return none p := by
  simp only [agS] at h
  unfold dRetN at h
  split at h
  · exact ⟨_, rfl⟩
  · cases h
theorem agEs_len : ∀ {as : List E} {es : List Expr}, agEs T N sc as es = true → as.length = es.length
  | [], [], _ => rfl
  | a :: as, e :: es, h => by simp only [agEs, Bool.and_eq_true] at h; simp [agEs_len h.2]
  | [], _ :: _, h => by simp [agEs] at h
  | _ :: _, [], h => by simp [agEs] at h
theorem parN_nil {l : Nat} {ts : List Expr} (h : parN N sc (cellB sc) l [] ts = true) : ts = [] := by simpa [parN] using h
theorem parN_cons {l i : Nat} {is : List Nat} {ts : List Expr} (h : parN N sc (cellB sc) l (i :: is) ts = true) : ∃ x px es, ts = .Name x px :: es ∧ N[i]? = some x ∧ sc.names.lookup x = some .local ∧ px.line = l ∧ parN N sc (cellB sc) l is es = true := by
  simp only [parN] at h
  split at h
  · split at h
    · rename_i e
      unfold dName at e
      split at e <;> cases e
      simp only [Bool.and_eq_true, beq_iff_eq] at h
      have h1 := h.1.1.1
      unfold storeB at h1
      simp only [Bool.and_eq_true, beq_iff_eq] at h1
      exact ⟨_, _, _, rfl, h1.1.1, h.1.1.2, h.1.2, h.2⟩
    · cases h
  · cases h
mutual
theorem sS (hC : MonoC (Pr.call n)) : ∀ (c : S) {q : Stmt} {X : Cx} {W : WX} {st : List Nat} {r : R}, XS T Pr n N sc X → Takes X W → agS T N sc c q = true → stS Pr.defs cx c st = some r → PS X q (tS Pr T n X cx c st r W)
  | .asg i e, q, X, W, st, r, o, tk, h, hst => by
    obtain ⟨x, xp, v, p, rfl, q1, q2, q3⟩ := inv_asg h
    simp only [stS, Option.bind_eq_bind, Option.bind_eq_some_iff] at hst
    obtain ⟨⟨k, s1⟩, he, hst⟩ := hst
    simp only at hst he
    split at hst
    · rename_i hh
      cases hst
      simp only [Bool.and_eq_true, decide_eq_true_eq] at hh
      by_cases hc : isCompE v = true
      · have q3 := q3.resolve_left (by rw [hc]; simp)
        cases v <;> try (simp [swC] at q3; done)
        cases e <;> try (simp only [agE, Bool.false_eq_true] at q2; done)
        · rename_i elt tg ik as cond own
          obtain ⟨y, t, it, ifs, scope, p, e0, hb, hi, ht, hc, hel, hns⟩ := inv_comp q2
          cases e0
          simp only [stE, Option.bind_eq_bind, Option.bind_eq_some_iff] at he
          obtain ⟨⟨ks, s2⟩, has, c0, hc0, ⟨k0, e0⟩, he0, c1, hc1, ⟨ke, e1⟩, he1, hst⟩ := he
          simp only at hst has hc0 he0 hc1 he1
          split at hst
          · rename_i h3
            cases hst
            simp only [Bool.and_eq_true, List.all_eq_true, List.contains_eq_mem, decide_eq_true_eq] at h3
            obtain ⟨⟨⟨⟨⟨hl1, hl2⟩, hl3⟩, htg⟩, hown⟩, hno⟩ := h3
            have has' : (if (nmE elt && nmO cond) = true then 1 else 0) = if (!(nmE elt && nmO cond)) = true then 0 else 1 := by cases (nmE elt && nmO cond) <;> rfl
            refine c_asgC (m := 0) hC o q3 (storeB_ok o.ok q1) hh.1 hh.2 hb (sIt hC ik as o.ok (fun a e k s1 hh h1 h2 => sHd hC as hh o.ok tk h1 h2) (fun es h1 h2 => sEs hC as o.ok tk h1 (has' ▸ has) h2) hno hi (has' ▸ has)) (fun s H C cl fp => g_tg (o.ok.blk s H C cl fp) tg t ht) (fun s H C cl fp => ?_) (fun s H C cl fp => ?_) (folded_ns hns) rfl hl1 hl2 hl3 htg hown
            · exact sC hC cond (o.ok.blk s H C cl fp) L2.takes_none5 hc hc1
            · exact sE hC elt (o.ok.blk s H C cl fp) L2.takes_none5 hel he1
          · cases hst
        · simp only [stE] at he; cases he
      · exact c_asg hC (sE hC e o.ok tk q2 he) (storeB_ok o.ok q1) (by simpa using hc) hh.1 hh.2
    · cases hst
  | .asgT t e, q, X, W, st, r, o, tk, h, hst => by
    obtain ⟨g, v, p, rfl, q1, q2, q3, q4, q5⟩ := inv_asgT h
    simp only [stS, Option.bind_eq_bind, Option.bind_eq_some_iff] at hst
    obtain ⟨⟨k, s1⟩, he, hst⟩ := hst
    simp only at hst he
    split at hst
    · rename_i hh
      cases hst
      simp only [List.all_eq_true, Bool.and_eq_true, decide_eq_true_eq] at hh
      exact c_asgT hC (sE hC e o.ok tk q3 he) (g_tg o.ok t g q1) q2 q4 o.ok.hsc q5 hh
    · cases hst
  | .par is es, q, X, W, st, r, o, tk, h, hst => by
    obtain ⟨ts, k, p, vs, k2, p2, p3, rfl, q1, q2, q3, q4, q5, q6, q7⟩ := inv_par h
    simp only [stS, Option.bind_eq_bind, Option.bind_eq_some_iff] at hst
    obtain ⟨⟨ks, s1⟩, he, hst⟩ := hst
    simp only at hst he
    split at hst
    · rename_i hh
      cases hst
      simp only [Bool.and_eq_true, List.all_eq_true, decide_eq_true_eq, beq_iff_eq] at hh
      obtain ⟨⟨h1, h2⟩, h3⟩ := hh
      have ha := sEs hC es o.ok tk q2 he q3
      have hN := o.ok.nd
      have hk : X.env.scope.kind = .function := by rw [o.ok.hsc]; exact o.knd
      rcases q5 with q5 | q5
      · obtain ⟨i, j, rfl⟩ : ∃ i j, is = [i, j] := by
          rcases is with _ | ⟨i, _ | ⟨j, _ | ⟨l, is⟩⟩⟩ <;> simp at q5
          exact ⟨i, j, rfl⟩
        obtain ⟨x, px, ts, rfl, n1, l1, p1, q1⟩ := parN_cons q1
        obtain ⟨y, py, ts, rfl, n2, l2, p2', q1⟩ := parN_cons q1
        obtain rfl := parN_nil q1
        obtain ⟨a, b, rfl⟩ : ∃ a b, vs = [a, b] := by
          have e2 : vs.length = 2 := by
            have := agEs_len q2
            simp only [List.length_cons, List.length_nil] at h2
            omega
          match vs, e2 with
          | [a, b], _ => exact ⟨a, b, rfl⟩
        have hij : i ≠ j := by simp at q4; exact q4
        rw [← o.ok.hsc] at l1 l2
        exact c_par2 hC ha h1 o.ok.calm (by rw [o.ok.hN]; exact hN) (by rw [o.ok.hN]; exact n1) (by rw [o.ok.hN]; exact n2) hij l1 l2 (st_par2 hk l1 l2 (by rw [p2', ← p1]; simp) (nd_ne hN n1 n2 hij) q3 q6 q7) h3
      · obtain ⟨i, j, l, rfl⟩ : ∃ i j l, is = [i, j, l] := by
          rcases is with _ | ⟨i, _ | ⟨j, _ | ⟨l, _ | ⟨m, is⟩⟩⟩⟩ <;> simp at q5
          exact ⟨i, j, l, rfl⟩
        obtain ⟨x, px, ts, rfl, n1, l1, p1, q1⟩ := parN_cons q1
        obtain ⟨y, py, ts, rfl, n2, l2, p2', q1⟩ := parN_cons q1
        obtain ⟨z, pz, ts, rfl, n3, l3, p3', q1⟩ := parN_cons q1
        obtain rfl := parN_nil q1
        obtain ⟨a, b, c, rfl⟩ : ∃ a b c, vs = [a, b, c] := by
          have e2 : vs.length = 3 := by
            have := agEs_len q2
            simp only [List.length_cons, List.length_nil] at h2
            omega
          match vs, e2 with
          | [a, b, c], _ => exact ⟨a, b, c, rfl⟩
        have hd : i ≠ j ∧ i ≠ l ∧ j ≠ l := by simp at q4; exact ⟨q4.1.1, q4.1.2, q4.2⟩
        rw [← o.ok.hsc] at l1 l2 l3
        exact c_par3 hC ha h1 o.ok.calm (by rw [o.ok.hN]; exact hN) (by rw [o.ok.hN]; exact n1) (by rw [o.ok.hN]; exact n2) (by rw [o.ok.hN]; exact n3) hd.1 hd.2.1 hd.2.2 l1 l2 l3
          (st_par3 hk l1 l2 l3 (by rw [p2', ← p1]; simp) (by rw [p3', ← p1]; simp) (nd_ne hN n1 n2 hd.1) (nd_ne hN n1 n3 hd.2.1) (nd_ne hN n2 n3 hd.2.2) q3 q6 q7) h3
    · cases hst
  | .aug i op e, q, X, W, st, r, o, tk, h, hst => by
    obtain ⟨x, xp, op', v, p, rfl, q1, q2, q3⟩ := inv_aug h
    simp only [stS, Option.bind_eq_bind, Option.bind_eq_some_iff] at hst
    obtain ⟨⟨k, s1⟩, he, hst⟩ := hst
    simp only at hst he
    split at hst
    · rename_i hh
      cases hst
      simp only [Bool.and_eq_true, decide_eq_true_eq] at hh
      exact c_aug hC (sE hC e o.ok tk q2 he) (storeB_ok o.ok q1) q3 hh.1 hh.2
    · cases hst
  | .setI i ixs e, q, X, W, st, r, o, tk, h, hst => by
    obtain ⟨ix, x, xp, k, kp, v, p, rfl, rfl, q1, q2, q3, q4, q5⟩ := inv_setI h
    simp only [stS, Option.bind_eq_bind, Option.bind_eq_some_iff] at hst
    obtain ⟨⟨k1, s1⟩, he, ⟨k2, s2⟩, hx, hst⟩ := hst
    simp only at hst he hx
    split at hst
    · rename_i hh
      cases hst
      simp only [Bool.and_eq_true, decide_eq_true_eq] at hh
      exact c_setI hC (o.ok.slot q1) (sE hC e o.ok tk q2 he) (sE hC ix o.ok tk q3 hx) q4 q5 hh.1 hh.2
    · cases hst
  | .append i ixs e, q, X, W, st, r, o, tk, h, hst => by
    obtain ⟨x, xp, ap, cp, v, p, rfl, rfl, q1, q2, q3, q4⟩ := inv_app h
    simp only [stS, Option.bind_eq_bind, Option.bind_eq_some_iff] at hst
    obtain ⟨⟨k1, s1⟩, he, hst⟩ := hst
    simp only at hst he
    split at hst
    · rename_i hh
      cases hst
      exact c_append hC (o.ok.slot q1) (base_nm rfl) q4 (sE hC e o.ok tk q2 he) q3 (by simpa using hh)
    · cases hst
  | .extend i e, q, X, W, st, r, o, tk, h, hst => by simp only [stS] at hst; cases hst
  | .expr e, q, X, W, st, r, o, tk, h, hst => by
    obtain ⟨v, p, rfl, q1, q2⟩ := inv_expr h
    simp only [stS, Option.bind_eq_bind, Option.bind_eq_some_iff, Option.some.injEq] at hst
    obtain ⟨⟨k1, s1⟩, he, hst⟩ := hst
    subst hst
    exact c_expr hC (sE hC e o.ok tk q1 he) q2
  | .ret e, q, X, W, st, r, o, tk, h, hst => by
    obtain ⟨v, p, rfl, q1⟩ := inv_ret h
    simp only [stS, Option.bind_eq_bind, Option.bind_eq_some_iff] at hst
    obtain ⟨⟨k, s1⟩, he, hst⟩ := hst
    simp only at hst he
    split at hst
    · rename_i hh
      cases hst
      simp only [Bool.and_eq_true, decide_eq_true_eq] at hh
      exact c_ret hC (sE hC e o.ok tk q1 he) hh.1 hh.2
    · cases hst
  | .retN, q, X, W, st, r, o, tk, h, hst => by
    obtain ⟨p, rfl⟩ := inv_retN h
    simp only [stS] at hst
    split at hst
    · cases hst
      exact c_retN (by assumption)
    · cases hst
  | .ife c a b, q, X, W, st, r, o, tk, h, hst => by
    obtain ⟨t, x, y, p, rfl, q1, q2, q3⟩ := inv_if h
    simp only [stS, Option.bind_eq_bind, Option.bind_eq_some_iff] at hst
    obtain ⟨s1, hc, ra, ha, rb, hb, hst⟩ := hst
    obtain ⟨rfl, hck⟩ := ckR_some hst
    exact c_if hC (sT hC c o.ok tk q1 hc) (sSs hC a o tk q2 ha) (sSs hC b o tk q3 hb) (hck _ (by simp)) (hck _ (by simp)) (leR_of (hck { ex := some s1 } (by simp))).2.2.2
  | .for_ t ik as body, q, X, W, st, r, o, tk, h, hst => by
    obtain ⟨g, it, y, p, rfl, q1, q2, q3, q4⟩ := inv_for h
    simp only [stS, Option.bind_eq_bind, Option.bind_eq_some_iff] at hst
    obtain ⟨⟨ks, s1⟩, has, r1, hr1, r2, hr2, hst⟩ := hst
    simp only at hst has hr1 hr2
    split at hst
    · rename_i hh
      cases hst
      simp only [Bool.and_eq_true, List.all_eq_true, decide_eq_true_eq] at hh
      obtain ⟨⟨⟨⟨⟨⟨⟨⟨l1, l2⟩, l3⟩, l4⟩, l5⟩, l6⟩, l7⟩, l8⟩, l9⟩ := hh
      exact c_for hC o (sIt hC ik as o.ok (fun a e k s1 hh h1 h2 => sHd hC as hh o.ok tk h1 h2) (fun es h1 h2 => sEs hC as o.ok tk h1 has h2) l8 q1 has) (g_tg o.ok t g q2) (sSs hC body o tk q3 hr2) (folded_ns q4) l1 l2 l3 l4 l5 l6 l7 l9
    · cases hst
  | .while_ c body, q, X, W, st, r, o, tk, h, hst => by
    obtain ⟨t, y, p, rfl, q1, q2⟩ := inv_while h
    simp only [stS, Option.bind_eq_bind, Option.bind_eq_some_iff] at hst
    obtain ⟨s1, hc1, r1, hr1, s2, hc2, r2, hr2, hst⟩ := hst
    split at hst
    · rename_i hh
      cases hst
      simp only [Bool.and_eq_true] at hh
      obtain ⟨⟨⟨⟨⟨⟨l1, l2⟩, l3⟩, l4⟩, l5⟩, l6⟩, l7⟩ := hh
      exact c_while hC o (sT hC c o.ok tk q1 hc2) (sSs hC body o tk q2 hr2) l1 l2 l3 l4 l5 l6 l7
    · cases hst
  | .raise_ c as, q, X, W, st, r, o, tk, h, hst => by
    obtain ⟨rfl, x, p, p2, p3, rfl, q1, q2, q3⟩ := inv_raise h
    simp only [stS, List.isEmpty_nil, if_true, Option.some.injEq] at hst
    subst hst
    exact c_raise o tk q1 q2 q3
  | .try_ body hs, q, X, W, st, r, o, tk, h, hst => by
    obtain ⟨y, h0, hds, p, rfl, q1, q2⟩ := inv_try h
    simp only [stS, Option.bind_eq_bind, Option.bind_eq_some_iff] at hst
    obtain ⟨rb, hrb, hst⟩ := hst
    split at hst
    · cases hst
    · rename_i se hse
      simp only [Option.bind_eq_some_iff] at hst
      obtain ⟨rh, hrh, hst⟩ := hst
      obtain ⟨rfl, hck⟩ := ckR_some hst
      obtain ⟨l, hl, hH⟩ := sH hC o hs q2 hrh
      refine PS.imp (ps_try_mix (tb := fun W' => tSs Pr T n X cx body st rb W') o.stk o.frm tk (fun W' pn xe tk' p' => sSs hC body (X := X.tr pn xe) (o.tr pn xe p') tk' q1 hrb) hl) fun D σ H h => ?_
      obtain ⟨ρ, F, L0, w, h⟩ := h
      simp only [wpS] at h
      have l1 := leR_of (hck rb (by simp))
      have l2 := hck rh (by simp)
      refine ⟨ρ, F, L0, w, ?_⟩
      refine wpSs_mono hC body ρ ?_ h
      refine ⟨fun ρ1 z => kN.weak z l1.1, fun x ρ1 z => z, fun ρ1 z => kN.weak z l1.2.1, fun ρ1 z => kN.weak z l1.2.2.1, fun ex ρ1 z => ?_⟩
      show kX X T cx _ L0 σ H F rb.ex ex ρ1
      rw [hse]
      intro cls d σ' H' F' w' xr g a
      exact hH W D _ L0 σ H F ex cls d ρ1 σ' H' F' l2 w' xr g a z
  | .pass, q, X, W, st, r, o, tk, h, hst => by
    simp only [stS, Option.some.injEq] at hst
    subst hst
    exact c_pass (inv_pass h)
  | .brk, q, X, W, st, r, o, tk, h, hst => by
    simp only [stS, Option.some.injEq] at hst
    subst hst
    obtain ⟨p, rfl⟩ := inv_brk h
    exact c_brk
  | .cont, q, X, W, st, r, o, tk, h, hst => by
    simp only [stS, Option.some.injEq] at hst
    subst hst
    obtain ⟨p, rfl⟩ := inv_cont h
    exact c_cont
theorem sSs (hC : MonoC (Pr.call n)) : ∀ (b : List S) {qs : List Stmt} {X : Cx} {W : WX} {st : List Nat} {r : R}, XS T Pr n N sc X → Takes X W → agSs T N sc b qs = true → stSs Pr.defs cx b st = some r → PSs X qs (tSs Pr T n X cx b st r W)
  | [], qs, X, W, st, r, o, tk, h, hst => by
    simp only [agSs, List.isEmpty_iff] at h
    subst h
    simp only [stSs, Option.some.injEq] at hst
    subst hst
    exact c_nilS
  | s :: b, qs, X, W, st, r, o, tk, h, hst => by
    obtain ⟨q, qr, rfl, h1, h2⟩ := agSs_cons h
    exact seq_of hC hst (fun a ha => sS hC s o tk h1 ha) h2 fun s1 b' hb' => sSs hC b o tk h2 hb'
end
end
end TL
end -- TLStF

section -- TLDef
/-! TL, part 29: a def keeps its promise; all defs of a program do. -/
set_option linter.all false
set_option autoImplicit true
set_option maxRecDepth 100000
set_option maxHeartbeats 1000000
namespace TL
open PySem PySem.Spec PyProof.Rows
open L2 (V Hp HO upd upd_same upd_ne Vals RelV VK XK Cx Inv TE TT TA TS PE PT PW PA PO PG PGs PI PTs TG TGs TI WX Takes thn PS PSs SP Ends FunD FnOk FnScope)
def endOk (cx : Ctx) : Option (List Nat) → Bool
  | none => true
  | some s => ioOk cx s
/-- is a def's compact text that of a def; is it in order -/
def ckDef (T : Tab) (D : List Def) (N : List Str) (d : Def) (dd : He.DefD) : Bool :=
  dd.scope.kind == .function && !dd.scope.isCoroutine && !dd.scope.isGenerator && decide N.Nodup && N.length == d.slots && decide (d.ar ≤ d.slots) &&
  (N.take d.ar).all (fun x => dd.scope.names.lookup x == some .local || dd.scope.names.lookup x == some .cell) && dd.scope.names.all (fun y => !(y.2 == .free)) &&
  dd.dfl.isEmpty && dd.kwd.isEmpty && d.io.all (fun p => decide (p.1 < d.ar)) && nodupB (d.io.map (·.1)) &&
  agSs T N dd.scope d.body dd.body &&
  (match stSs D ⟨d.io, d.ret⟩ d.body (dps d ++ List.replicate (d.slots - d.ar) 0) with
    | some r => endOk ⟨d.io, d.ret⟩ r.nx && endOk ⟨d.io, d.ret⟩ r.ex && r.bk.isNone && r.ct.isNone
    | none => false)
section
variable {K : PySem.W.Frag} {H H' : Hp} {L L0 : Addr → Prop} {st : List Nat} {ρ : Env} {σ : L2.St} {F Fv : List Addr}
theorem ER.more (k : Nat) : ∀ {st : List Nat} {ρ : Env} {σ : L2.St} {F : List Addr}, ER K H L st ρ σ F → ER K H L (st ++ List.replicate k 0) (ρ ++ List.replicate k none) (σ ++ List.replicate k none) F
  | [], [], [], F, h => by
    have hF : F = [] := h
    subst hF
    simp only [List.nil_append]
    induction k with
    | zero => rfl
    | succ k ih => exact ⟨[], [], rfl, rfl, ih⟩
  | d :: st, o :: ρ, s :: σ, F, h => by
    obtain ⟨F1, F2, e, h1, h2⟩ := h
    exact ⟨F1, F2, e, h1, ER.more k h2⟩
  | [], [], _ :: _, _, h => h.elim
  | [], _ :: _, _, _, h => by cases h
  | _ :: _, [], _, _, h => by cases h
  | _ :: _, _ :: _, [], _, h => by cases h
theorem ER.zero : ∀ {st : List Nat} {ρ : Env} {σ : L2.St} {F : List Addr}, (∀ d ∈ st, d = 0) → ER K H L st ρ σ F → F = []
  | [], [], [], F, _, h => h
  | d :: st, o :: ρ, s :: σ, F, hz, h => by
    obtain ⟨F1, F2, e, h1, h2⟩ := h
    obtain rfl := hz d (by simp)
    have e2 := ER.zero (fun d hd => hz d (by simp [hd])) h2
    have e1 : F1 = [] := by
      cases o with
      | none => exact h1
      | some x => obtain ⟨v, _, q⟩ := h1; exact Own.nil x v F1 q
    rw [e, e1, e2]; rfl
  | [], [], _ :: _, _, _, h => h.elim
  | [], _ :: _, _, _, _, h => by cases h
  | _ :: _, [], _, _, _, h => by cases h
  | _ :: _, _ :: _, [], _, _, h => by cases h
def OsOf (ρ : Env) : List (Nat × Nat) → List TV → Prop
  | [], os => os = []
  | (i, _) :: r, os => ∃ o os', os = o :: os' ∧ ρ[i]? = some (some o) ∧ OsOf ρ r os'
theorem finals_os : ∀ (io : List (Nat × Nat)) (ρ : Env) {Q : List TV → Prop}, finals io ρ Q → ∃ os, OsOf ρ io os ∧ Q os
  | [], ρ, Q, h => by simp only [finals] at h; exact ⟨[], rfl, h⟩
  | (i, d) :: r, ρ, Q, h => by
    simp only [finals] at h
    obtain ⟨x, ex, h⟩ := getV_some h
    obtain ⟨os, h1, h2⟩ := finals_os r ρ h
    exact ⟨x :: os, ⟨x, os, rfl, ex, h1⟩, h2⟩
theorem OsOf.bound : ∀ {io : List (Nat × Nat)} {os : List TV}, OsOf ρ io os → ∀ p ∈ io, ∃ x, ρ[p.1]? = some (some x)
  | [], _, _, p, hp => nomatch hp
  | (i, d) :: r, os, h, p, hp => by
    obtain ⟨o, os', _, e, h⟩ := h
    rcases List.mem_cons.mp hp with z | z
    · subst z; exact ⟨o, e⟩
    · exact OsOf.bound h p z
theorem end_io {vs : List V} : ∀ {io : List (Nat × Nat)} {os : List TV} {F : List Addr}, Pcs K H L ρ σ io F → OsOf ρ io os → (∀ p ∈ io, ∀ v, σ[p.1]? = some (some v) → vs[p.1]? = some v) → IoEnd K H L io os vs F
  | [], os, F, h, ho, _ => by
    have : F = [] := h
    have : os = [] := ho
    simp only [IoEnd]
    exact ⟨by assumption, by assumption⟩
  | (i, d) :: r, os, F, h, ho, hv => by
    obtain ⟨x, v, F1, F2, e1, e2, e3, ow, h⟩ := h
    obtain ⟨o, os', rfl, e4, ho⟩ := ho
    rw [e1] at e4
    cases e4
    simp only [IoEnd]
    exact ⟨x, os', v, F1, F2, rfl, hv (i, d) (by simp) v e2, e3, ow, end_io h ho fun p hp => hv p (by simp [hp])⟩
/-- the end of a body: the caller's things are there -/
theorem end_wo {cx : Ctx} {vs : List V} {os : List TV} (w : WO K H' L0 st ρ σ F Fv) (hio : ioOk cx st = true) (hn : (cx.io.map (·.1)).Nodup) (ho : OsOf ρ cx.io os) (hv : ∀ p ∈ cx.io, ∀ v, σ[p.1]? = some (some v) → vs[p.1]? = some v) :
    ∃ Fa, (∀ b ∈ Fa, b ∈ F) ∧ (Fa ++ Fv).Nodup ∧ (∀ b ∈ Fa ++ Fv, ¬ L0 b) ∧ IoEnd K H' (Lo (Fa ++ Fv) L0) cx.io os vs Fa := by
  have nd := List.nodup_append.mp w.nd
  obtain ⟨Fa, Fr, s1, n1, p1, _⟩ := take_er cx.io (Lo (F ++ Fv) L0) st ρ σ F hn nd.1 (fun b hb => .inl (by simp [hb])) w.er fun p hp => by
    refine ⟨?_, ho.bound p hp⟩
    have := List.all_eq_true.mp hio p hp
    simpa using this
  have na := List.nodup_append.mp n1
  refine ⟨Fa, fun b hb => s1 b (.inl hb), List.nodup_append.mpr ⟨na.1, nd.2.1, fun a ha b hb => nd.2.2 a (s1 a (.inl ha)) b hb⟩, fun b hb => w.dj b ?_, end_io (p1 _ (fun b z => ?_) fun b hb z => ?_) ho hv⟩
  · simp only [List.mem_append] at *
    exact hb.imp (fun q => s1 b (.inl q)) id
  · unfold Lo at *
    simp only [List.mem_append] at *
    exact z.imp (fun q => q.imp (fun q => s1 b (.inl q)) id) id
  · unfold Lo at z
    simp only [List.mem_append] at z
    rcases z with (q | q) | q
    · exact .inl q
    · exact absurd rfl (nd.2.2 b hb b q)
    · exact absurd q (w.dj b (by simp [hb]))
end
section
variable {P : Program} {w : World} {K : PySem.W.Frag} {mg : Str → Option Value} {base : Heap} {f : Addr} {fd : FuncData} {dd : He.DefD} {N : List Str} {T : Tab} {Pr : Prog} {n i : Nat} {d : Def}
theorem zero_dps (h : d.io.isEmpty = true) : ∀ q ∈ dps d ++ List.replicate (d.slots - d.ar) 0, q = 0 := fun q hq => by
  have e : d.io = [] := List.isEmpty_iff.mp h
  rcases List.mem_append.mp hq with z | z
  · unfold dps at z
    rw [e] at z
    obtain ⟨j, _, rfl⟩ := List.mem_map.mp z
    rfl
  · exact (List.mem_replicate.mp z).2
theorem fn_snd (F : FunD K dd.name dd.qual dd.params dd.body dd.scope [] [] f fd) (hd : Pr.defs[i]? = some d) (ck : ckDef T Pr.defs N d dd = true)
    (mod : ∀ X : Cx, X.prog = P → X.w = w → X.K = K → X.mg = mg → X.base = base → MOk T Pr n X ∧ COk T X) : FnOk P w K mg base (L2.CX P w) (n + 1) f fd (N.take d.ar) (spF K mg T (Pr.call (n + 1)) i d) := by
  unfold ckDef at ck
  simp only [Bool.and_eq_true, beq_iff_eq, Bool.not_eq_true', decide_eq_true_eq] at ck
  obtain ⟨⟨⟨⟨⟨⟨⟨⟨⟨⟨⟨⟨⟨c1, c2⟩, c3⟩, c4⟩, c5⟩, c6⟩, c7⟩, c8⟩, c9⟩, c10⟩, c11⟩, c12⟩, c13⟩, c14⟩ := ck
  split at c14
  rotate_left
  · cases c14
  rename_i r hst
  simp only [Bool.and_eq_true, Option.isNone_iff_eq_none] at c14
  obtain ⟨⟨⟨e1, e2⟩, e3⟩, e4⟩ := c14
  have hal : d.ar ≤ N.length := by rw [c5]; exact c6
  have hC := Prog.call_mono Pr n
  have S : FnScope N (N.take d.ar) dd.scope := ⟨c1, c2, c3, c4, by rw [List.length_take, Nat.min_eq_left hal], fun x hx => by
    have := List.all_eq_true.mp c7 x hx
    simpa using this, fun y hy z => by
    have := List.all_eq_true.mp c8 y hy
    rw [z] at this
    simp at this⟩
  refine F.ok S (fun vs H Q E h => by rw [h.1, List.length_take, Nat.min_eq_left hal]) fun cdv A outer s H vs Q E hr h => ?_
  obtain ⟨hl, xs, F0, L0, w0, hcall⟩ := h
  generalize hX : L2.cxOf (L2.CX P w) P w K mg base N dd.qual dd.scope f cdv A outer s H E = X
  obtain ⟨mo, co⟩ := mod X (by rw [← hX]; rfl) (by rw [← hX]; rfl) (by rw [← hX]; rfl) (by rw [← hX]; rfl) (by rw [← hX]; rfl)
  have tk : Takes X (fun cls d _ H => E cls d H) := by
    rw [← hX]
    exact L2.takes_of rfl rfl rfl rfl
  have o : XS T Pr n N dd.scope X := by
    have hp : PassesOwn (model X.prog X.w) X.A X.env X.xe := by
      rw [← hX]
      exact PassesOwn.leaving
    refine ⟨⟨?_, c4, ?_, ?_, ?_, ?_, mo⟩, hp, ?_, ?_, c1, co⟩
    · rw [← hX]; rfl
    · rw [← hX]; rfl
    · rw [← hX]; rfl
    · rw [← hX]; exact hr
    · rw [← hX]; exact fun _ _ => rfl
    · rw [← hX]; rfl
    · rw [← hX]; rfl
  have eK : X.K = K := by rw [← hX]; rfl
  have eM : X.mg = mg := by rw [← hX]; rfl
  refine ⟨tSs Pr T n X ⟨d.io, d.ret⟩ d.body (dps d ++ List.replicate (d.slots - d.ar) 0) r (fun cls d _ H => E cls d H), sSs hC d.body o tk c13 hst, ?_⟩
  unfold Prog.call at hcall
  simp only [hd] at hcall
  obtain ⟨hxl, hcall⟩ := hcall
  have hst0 : L2.start N vs = vs.map some ++ List.replicate (d.slots - d.ar) none := by unfold L2.start; rw [c5, hl]
  have wi : WO X.K H L0 (dps d ++ List.replicate (d.slots - d.ar) 0) (xs.map some ++ List.replicate (d.slots - d.ar) none) (L2.start N vs) F0 [] := by
    rw [eK, hst0]
    exact ⟨ER.more _ w0.er, w0.nd, w0.dj, w0.l0⟩
  have hvs : ∀ p ∈ d.io, ∀ v, (L2.start N vs)[p.1]? = some (some v) → vs[p.1]? = some v := fun p hp v e => by
    have hlt : p.1 < d.ar := by simpa using List.all_eq_true.mp c11 p hp
    rw [hst0, List.getElem?_append_left (by rw [List.length_map, hl]; exact hlt), List.getElem?_map] at e
    cases q : vs[p.1]? with
    | none => rw [q] at e; cases e
    | some u => rw [q] at e; cases e; rfl
  have goE : ∀ {H' : Hp} {F' : List Addr}, Go false H F0 H' F' → Go d.io.isEmpty H F0 H' F' := fun {H' F'} g => by
    cases hE : d.io.isEmpty with
    | false => exact g
    | true =>
      have e0 : F0 = [] := ER.zero (zero_dps hE) wi.er
      subst e0
      exact ⟨g.keep, fun _ b o q => g.keep b o q (by simp), g.there, g.fresh⟩
  refine ⟨_, F0, L0, wi, ?_⟩
  refine wpSs_mono hC d.body _ ?_ hcall
  refine ⟨fun ρ z => ?_, fun x ρ z => ?_, fun ρ z => z.elim, fun ρ z => z.elim, fun ex ρ z => ?_⟩
  · show kN X _ L0 _ H F0 _ r.nx ρ
    cases hn : r.nx with
    | none => trivial
    | some sN =>
      rw [hn] at e1
      intro σ' H' F' w' g a
      rw [eK] at w'
      obtain ⟨os, ho, z⟩ := finals_os d.io ρ z
      obtain ⟨Fa, q1, q2, q3, q4⟩ := end_wo (vs := vs) w' e1 (nodupB_iff c12) ho fun p hp v e => hvs p hp v (by rw [← a p hp]; exact e)
      exact z .non H' Fa [] q4 (by simp only [Own]; exact ⟨trivial, trivial⟩) q2 q3 (goE (g.sub fun b hb => by simp only [List.append_nil] at hb; exact q1 b hb))
  · intro st' v σ' H' F' Fv hio w' ow g a
    rw [eK] at w' ow
    obtain ⟨os, ho, z⟩ := finals_os d.io ρ z
    obtain ⟨Fa, q1, q2, q3, q4⟩ := end_wo (vs := vs) w' hio (nodupB_iff c12) ho fun p hp v e => hvs p hp v (by rw [← a p hp]; exact e)
    have sub : ∀ b ∈ Fa ++ Fv, b ∈ F' ++ Fv := fun b hb => by
      simp only [List.mem_append] at *
      exact hb.imp (q1 b) id
    exact z v H' Fa Fv q4 (ow.shr fun b y => y.imp (sub b) id) q2 q3 (goE (g.sub sub))
  · show kX X T _ _ L0 _ H F0 r.ex ex ρ
    cases hn : r.ex with
    | none => trivial
    | some sN =>
      rw [hn] at e2
      intro cls dx σ' H' F' w' xr g a
      rw [eK] at w' xr
      rw [eM] at xr
      obtain ⟨os, ho, z⟩ := finals_os d.io ρ z
      obtain ⟨Fa, q1, q2, q3, q4⟩ := end_wo (vs := vs) w' e2 (nodupB_iff c12) ho fun p hp v e => hvs p hp v (by rw [← a p hp]; exact e)
      simp only [List.append_nil] at q2 q3 q4
      exact z cls dx H' Fa q4 q2 q3 (g.sub q1) (xr.less fun b y => y.imp (q1 b) id)
end
/-! ### the whole program -/
/-- what stands in the written part -/
structure POk (T : Tab) (Pr : Prog) (K : PySem.W.Frag) (mg : Str → Option Value) : Prop where
  bi : ∀ x ∈ biNames, mg x = none
  gl : ∀ (g : Nat) (x : Str), T.gl[g]? = some x → ∃ u v, mg x = some u ∧ RelV v u ∧ ∀ H L, Rp K H L 0 (Pr.globs.getD g .non) v
  cl : ∀ (c : Nat) (x : Str), T.cl[c]? = some x → ∃ C, mg x = some (.ref C) ∧ (∀ (y : Str) (D : Addr) (h : Nat), T.cl[h]? = some y → mg y = some (.ref D) → PySem.W.exmOne K (.ref C) (.ref D) = some (isSub c h)) ∧
    (T.xf[c]? = some ("" : Str) → PySem.W.keepIn K (.ref C) = true ∧ PySem.W.excIn K C [.type "ValueError", .type "Exception", .type "BaseException", .type "object"] "ValueError.__new__" = true ∧ PySem.W.subIn K (.ref C) (.type "BaseException") = some true ∧ PySem.W.typeIn K (.ref C) = some (.type "type"))
  fn : ∀ (f : Nat) (d : Def) (x : Str), Pr.defs[f]? = some d → T.fn[f]? = some x → ∃ (dd : He.DefD) (N : List Str) (a : Addr) (fd : FuncData), mg x = some (.ref a) ∧ FunD K dd.name dd.qual dd.params dd.body dd.scope [] [] a fd ∧ L2.Binds K fd (N.take d.ar) [] ∧ ckDef T Pr.defs N d dd = true
theorem all_fn {P : Program} {w : World} {K : PySem.W.Frag} {mg : Str → Option Value} {base : Heap} {T : Tab} {Pr : Prog} (o : POk T Pr K mg) : ∀ (n f : Nat) (d : Def) (x : Str), Pr.defs[f]? = some d → T.fn[f]? = some x →
    ∃ (N : List Str) (a : Addr) (fd : FuncData), mg x = some (.ref a) ∧ PySem.W.keepIn K (.ref a) = true ∧ (N.take d.ar).length = d.ar ∧ L2.Binds K fd (N.take d.ar) [] ∧ (∃ dd : He.DefD, FunD K dd.name dd.qual dd.params dd.body dd.scope [] [] a fd) ∧ FnOk P w K mg base (L2.CX P w) n a fd (N.take d.ar) (spF K mg T (Pr.call n) f d) := by
  have len : ∀ {N : List Str} {d : Def} {dd : He.DefD}, ckDef T Pr.defs N d dd = true → (N.take d.ar).length = d.ar := fun {N d dd} ck => by
    unfold ckDef at ck
    simp only [Bool.and_eq_true, beq_iff_eq, Bool.not_eq_true', decide_eq_true_eq] at ck
    obtain ⟨⟨⟨⟨⟨⟨⟨⟨⟨⟨⟨⟨⟨c1, c2⟩, c3⟩, c4⟩, c5⟩, c6⟩, c7⟩, c8⟩, c9⟩, c10⟩, c11⟩, c12⟩, c13⟩, c14⟩ := ck
    rw [List.length_take, c5, Nat.min_eq_left c6]
  intro n
  induction n with
  | zero =>
    intro f d x hd hx
    obtain ⟨dd, N, a, fd, m1, F, b, ck⟩ := o.fn f d x hd hx
    refine ⟨N, a, fd, m1, F.kp, len ck, b, ⟨dd, F⟩, ⟨fun vs H Q E h => by rw [h.1, len ck], fun A outer s H args us vs Q E hr e0 hb hv h => ?_⟩⟩
    obtain ⟨_, xs, F0, L0, _, h⟩ := h
    exact h.elim
  | succ n ih =>
    intro f d x hd hx
    obtain ⟨dd, N, a, fd, m1, F, b, ck⟩ := o.fn f d x hd hx
    refine ⟨N, a, fd, m1, F.kp, len ck, b, ⟨dd, F⟩, fn_snd F hd ck fun X h1 h2 h3 h4 h5 => ?_⟩
    subst h1 h2 h3 h4 h5
    refine ⟨⟨o.bi, o.gl, fun f d x hd hx => ?_⟩, ⟨fun c x hc => ?_⟩⟩
    · obtain ⟨N, a, fd, q1, q2, q3, q4, _, q5⟩ := ih f d x hd hx
      exact ⟨a, fd, N.take d.ar, q1, q2, q3, q4, q5⟩
    · obtain ⟨C, q1, q2, q3⟩ := o.cl c x hc
      refine ⟨C, q1, q2, fun h => ?_⟩
      obtain ⟨r1, r2, r3, r4⟩ := q3 h
      exact ⟨r1, r2, L2.raises_own r3 r4⟩
end TL
end -- TLDef

section -- TLTop
/-! TL, part 30: the head's facts; the law's end. -/
set_option linter.all false
set_option autoImplicit true
set_option maxRecDepth 100000
set_option maxHeartbeats 1000000
namespace TL
open PySem PySem.Spec PyProof.Rows
open L2 (V Hp HO upd upd_same upd_ne Vals RelV VK XK Cx FunD FnOk FnScope Only SqL)
def intPairs : List Str → List TV → List (Str × Int)
  | x :: xs, .int i :: r => (x, i) :: intPairs xs r
  | _, _ => []
def exms (T : Tab) : List He.Fa := T.cl.zipIdx.flatMap fun p => T.cl.zipIdx.map fun q => .exm p.1 q.1 (isSub p.2 q.2)
def mkFa (T : Tab) (Pr : Prog) : List He.Fa := biNames.map .free ++ (T.fn.map .glo ++ (T.cl.map .glo ++ (T.cl.map .exc ++ (exms T ++ (intPairs T.gl Pr.globs).map fun p => .int p.1 p.2))))
/-- one def of the top, by its place -/
def mkD (x : Str) (st : Stmt) : He.DefD := ⟨(x, none), x, x, L2.defArgs st, L2.defBody st, L2.defScope st, [], []⟩
theorem int_pairs : ∀ {xs : List Str} {vs : List TV} {g : Nat} {x : Str}, (intPairs xs vs).length = xs.length → xs[g]? = some x → ∃ i, (x, i) ∈ intPairs xs vs ∧ vs.getD g .non = .int i
  | [], _, g, x, _, h => by simp at h
  | y :: xs, [], g, x, hl, h => by simp [intPairs] at hl
  | y :: xs, v :: vs, g, x, hl, h => by
    cases v <;> try (simp [intPairs] at hl; done)
    rename_i j
    simp only [intPairs, List.length_cons, Nat.add_right_cancel_iff] at hl
    cases g with
    | zero =>
      simp only [List.getElem?_cons_zero, Option.some.injEq] at h
      subst h
      exact ⟨j, by simp [intPairs], rfl⟩
    | succ g =>
      rw [List.getElem?_cons_succ] at h
      obtain ⟨i, h1, h2⟩ := int_pairs (g := g) hl h
      exact ⟨i, by simp [intPairs, h1], by simpa using h2⟩
section
variable {T : Tab} {Pr : Prog} {fn : List He.DefD} {K : PySem.W.Frag} {h : Heap} {mg : Str → Option Value}
theorem pok_of (X : K.In h) (G : h.Ns mainGlobals mg) (c : He.SaysD (mkFa T Pr) fn K) (hg : (intPairs T.gl Pr.globs).length = T.gl.length) (hx : ∀ (c : Nat) (x : Str), T.cl[c]? = some x → T.xf[c]? = some ("" : Str)) (hcn : T.cl.Nodup)
    (hd : ∀ (f : Nat) (d : Def) (x : Str), Pr.defs[f]? = some d → T.fn[f]? = some x → ∃ (dd : He.DefD) (N : List Str), dd ∈ fn ∧ dd.at_ = (x, none) ∧ dd.dfl = [] ∧ dd.kwd = [] ∧ ckDef T Pr.defs N d dd = true ∧ ∀ fd a, FunD K dd.name dd.qual dd.params dd.body dd.scope [] [] a fd → L2.Binds K fd (N.take d.ar) []) : POk T Pr K mg where
  bi := fun x hx => He.free_ok X G (c.facts (f := .free x) (List.mem_append.mpr (.inl (List.mem_map.mpr ⟨x, hx, rfl⟩))))
  gl := fun g x hx => by
    obtain ⟨i, h1, h2⟩ := int_pairs (vs := Pr.globs) hg hx
    obtain ⟨t, e⟩ := He.int_ok X G (c.facts (f := .int x i) (by unfold mkFa; simp only [List.mem_append, List.mem_map]; exact .inr (.inr (.inr (.inr (.inr ⟨_, h1, rfl⟩))))))
    exact ⟨_, .int i, e, ⟨t, rfl⟩, fun H L => by rw [h2]; simp only [Rp]⟩
  cl := fun ci x hc => by
    have m := List.mem_of_getElem? hc
    have e1 := He.glo_ok X G (c.facts (f := .glo x) (by unfold mkFa; simp only [List.mem_append, List.mem_map]; exact .inr (.inr (.inl ⟨x, m, rfl⟩))))
    have e2 := He.exc_ok (c.facts (f := .exc x) (by unfold mkFa; simp only [List.mem_append, List.mem_map]; exact .inr (.inr (.inr (.inl ⟨x, m, rfl⟩)))))
    refine ⟨He.ga K x, e1, fun y D hi hy eD => ?_, fun _ => ⟨e2.2.1, e2.1, e2.2.2.1, e2.2.2.2⟩⟩
    have e3 := He.glo_ok X G (c.facts (f := .glo y) (by unfold mkFa; simp only [List.mem_append, List.mem_map]; exact .inr (.inr (.inl ⟨y, List.mem_of_getElem? hy, rfl⟩))))
    rw [eD] at e3
    cases e3
    have zi : ∀ {i : Nat} {z : Str}, T.cl[i]? = some z → (z, i) ∈ T.cl.zipIdx := fun {i z} e => List.mem_zipIdx_iff_getElem?.mpr e
    exact He.exm_ok (c.facts (f := .exm x y (isSub ci hi)) (by
      unfold mkFa exms
      simp only [List.mem_append, List.mem_map, List.mem_flatMap]
      exact .inr (.inr (.inr (.inr (.inl ⟨(x, ci), zi hc, (y, hi), zi hy, rfl⟩))))))
  fn := fun f d x h1 h2 => by
    obtain ⟨dd, N, q1, q2, q3, q4, q5, q6⟩ := hd f d x h1 h2
    obtain ⟨fd, F⟩ := c.defs q1
    have e1 := He.glo_ok X G (c.facts (f := .glo x) (by unfold mkFa; simp only [List.mem_append, List.mem_map]; exact .inr (.inl ⟨x, List.mem_of_getElem? h2, rfl⟩)))
    have ea : He.fAd K dd.at_ = He.ga K x := by rw [q2]; rfl
    have F' : FunD K dd.name dd.qual dd.params dd.body dd.scope [] [] (He.ga K x) fd := by
      have z := F
      unfold He.DefD.dvs He.DefD.kws at z
      rw [q3, q4, ea] at z
      exact z
    exact ⟨dd, N, _, fd, e1, F', q6 fd _ F', q5⟩
end
/-- the law's promise at the heap behind the top -/
theorem top_sp {K : PySem.W.Frag} {mg : Str → Option Value} {T : Tab} {Pr : Prog} {n f : Nat} {d : Def} {H : Hp} {a : Addr} {ns : List Int} (h1 : d.ar = 1) (h2 : d.io = []) (hl : ns.length ≤ 63) (hO : Only H) (hS : SqL K H a (ns.map V.int))
    (h : Pr.call n f [.scr ns] (fun r _ => r = .bl true) fun _ _ => False) : spF K mg T (Pr.call n) f d [.ref a] H (fun v _ => v = .bl true) fun _ _ _ => False := by
  refine ⟨by rw [h1]; rfl, [.scr ns], [], fun _ => False, ?_, Prog.call_mono Pr n f _ (fun r os hr v H' F' Fv _ ow _ _ _ => ?_) (fun e os z => z.elim) h⟩
  · have ed : dps d = [0] := by unfold dps; rw [h1, h2]; rfl
    rw [ed]
    refine ⟨(⟨[], [], rfl, ⟨.ref a, rfl, ?_⟩, rfl⟩ : ER _ _ _ [0] [some (.scr ns)] [some (.ref a)] []), List.nodup_nil, (fun b hb => nomatch hb), fun b z => z.elim⟩
    simp only [Own]
    refine ⟨⟨Nat.le_trans hl (by decide), a, rfl, ?_⟩, trivial⟩
    rcases hS with (hS | hS) | hS
    · exfalso
      rcases hO a with e | ⟨o, xs, e⟩ <;> rw [e] at hS <;> cases hS
    · exact .inl hS
    · exact .inr hS
  · subst hr
    simp only [Own] at ow
    exact ow.1
theorem walk_tl {l : PySem.W.OpenLaw} {n k : Nat} {q : Program} {loose : List Str} {XP : (Str → Option Value) → Heap → Prop} {YP : World → Heap → Prop} {d : DefRec} {x : Str}
    (hn : l.most = some n) (hn2 : n ≤ sizeLine) (hdf : d.params.defaults = []) (hr : L2.Room k callerA)
    (F : ∀ (w : World) (mg : Str → Option Value) (fa : Addr) (h : Heap), YP w h → h.Ns mainGlobals mg → mg d.name = some (.ref fa) →
      ∃ (K : PySem.W.Frag) (fd : FuncData) (sp : L2.Sp), K.In h ∧ (∀ (s : Shared) (u : Value), BindsTo s fd ⟨[u], []⟩ [(x, u)]) ∧
        (∀ (H : Hp) (a : Addr) (ns : List Int), ns.length ≤ n → Only H → SqL K H a (ns.map V.int) → sp [.ref a] H (fun v _ => v = .bl true) fun _ _ _ => False) ∧
        ∀ base : Heap, K.In base → base.Ns mainGlobals mg → FnOk l.prog w K mg base (L2.CX l.prog w) k fa fd [x] sp) :
    PySem.W.WalkO q loose XP YP l.row.toRowW d [] (fun f vs => PySem.call f vs) := by
  refine Att.attach_call hn hdf fun w s₀ s₁ mg mb fa o pm cd doc a vs ns G Y ho hd hcd hmg hobj hints hlen hg => ?_
  obtain ⟨K, fd, sp, KX, hb, hsp, hF⟩ := F w mg fa _ Y G.T.g hmg
  exact L2.law_call KX G.T.g G.T.b G.T.builtins G.T.nolimit hg hobj hints (Nat.le_trans hlen hn2) hr hF hb (fun H hO hS => hsp H a ns hlen hO hS) fun H e s' x => by
    obtain ⟨_, _, _, _, _, _, _, _, _, _, _, _, z⟩ := x
    exact z
end TL
end -- TLTop

section -- TLLaw
/-! TL, part 31: words for the laws' proofs over trees. -/
set_option linter.all false
set_option maxRecDepth 100000
namespace TL
open PySem
/-- def f does: from these arguments that value, the changed parameters behind it (calls at most m deep) -/
def Does (P : Prog) (m f : Nat) (xs : List TV) (r : TV) (os : List TV) : Prop := ∀ n, m ≤ n → ∀ (K : TV → List TV → Prop) (X : Xc → List TV → Prop), K r os → P.call n f xs K X
/-- .. raises -/
def Throws (P : Prog) (m f : Nat) (xs : List TV) (c : Nat) (os : List TV) : Prop := ∀ n, m ≤ n → ∀ (K : TV → List TV → Prop) (X : Xc → List TV → Prop), X ⟨c, []⟩ os → P.call n f xs K X
/-- .. any answer that is in Q -/
def DoesS (P : Prog) (m f : Nat) (xs : List TV) (Q : TV → List TV → Prop) : Prop := ∀ n, m ≤ n → ∀ (K : TV → List TV → Prop) (X : Xc → List TV → Prop), (∀ r os, Q r os → K r os) → P.call n f xs K X
theorem call_def {P : Prog} {n f : Nat} {xs : List TV} {K : TV → List TV → Prop} {X : Xc → List TV → Prop} {d : Def} (hd : P.defs[f]? = some d) (hl : xs.length = d.ar)
    (h : wpSs (P.call n) (fun g => P.globs.getD g .non) d.body (xs.map some ++ List.replicate (d.slots - d.ar) none) { nx := fun ρ => finals d.io ρ fun os => K .non os, rt := fun x ρ => finals d.io ρ fun os => K x os, ex := fun e ρ => finals d.io ρ fun os => X e os }) : P.call (n + 1) f xs K X := by
  unfold Prog.call
  simp only [hd]
  exact ⟨hl, h⟩
theorem does_of {P : Prog} {m f : Nat} {xs : List TV} {r : TV} {os : List TV} {d : Def} (hd : P.defs[f]? = some d) (hl : xs.length = d.ar)
    (h : ∀ n, m ≤ n → ∀ (K : TV → List TV → Prop) (X : Xc → List TV → Prop), K r os → wpSs (P.call n) (fun g => P.globs.getD g .non) d.body (xs.map some ++ List.replicate (d.slots - d.ar) none) { nx := fun ρ => finals d.io ρ fun os => K .non os, rt := fun x ρ => finals d.io ρ fun os => K x os, ex := fun e ρ => finals d.io ρ fun os => X e os }) : Does P (m + 1) f xs r os := fun n hn K X hK => by
  obtain ⟨n', rfl⟩ : ∃ n', n = n' + 1 := ⟨n - 1, by omega⟩
  exact call_def hd hl (h n' (by omega) K X hK)
theorem throws_of {P : Prog} {m f : Nat} {xs : List TV} {c : Nat} {os : List TV} {d : Def} (hd : P.defs[f]? = some d) (hl : xs.length = d.ar)
    (h : ∀ n, m ≤ n → ∀ (K : TV → List TV → Prop) (X : Xc → List TV → Prop), X ⟨c, []⟩ os → wpSs (P.call n) (fun g => P.globs.getD g .non) d.body (xs.map some ++ List.replicate (d.slots - d.ar) none) { nx := fun ρ => finals d.io ρ fun os => K .non os, rt := fun x ρ => finals d.io ρ fun os => K x os, ex := fun e ρ => finals d.io ρ fun os => X e os }) : Throws P (m + 1) f xs c os := fun n hn K X hK => by
  obtain ⟨n', rfl⟩ : ∃ n', n = n' + 1 := ⟨n - 1, by omega⟩
  exact call_def hd hl (h n' (by omega) K X hK)
theorem doesS_of {P : Prog} {m f : Nat} {xs : List TV} {Q : TV → List TV → Prop} {d : Def} (hd : P.defs[f]? = some d) (hl : xs.length = d.ar)
    (h : ∀ n, m ≤ n → ∀ (K : TV → List TV → Prop) (X : Xc → List TV → Prop), (∀ r os, Q r os → K r os) → wpSs (P.call n) (fun g => P.globs.getD g .non) d.body (xs.map some ++ List.replicate (d.slots - d.ar) none) { nx := fun ρ => finals d.io ρ fun os => K .non os, rt := fun x ρ => finals d.io ρ fun os => K x os, ex := fun e ρ => finals d.io ρ fun os => X e os }) : DoesS P (m + 1) f xs Q := fun n hn K X hK => by
  obtain ⟨n', rfl⟩ : ∃ n', n = n' + 1 := ⟨n - 1, by omega⟩
  exact call_def hd hl (h n' (by omega) K X hK)
theorem Does.mono {P : Prog} {m m' f : Nat} {xs : List TV} {r : TV} {os : List TV} (h : Does P m f xs r os) (hm : m ≤ m') : Does P m' f xs r os := fun n hn => h n (by omega)
section
variable {K : TV → Prop} {B : Bool → Prop} {i j : Int} {x y : Str} {a b : Bool} {xs ys : List TV} {t u : TV} {ρ : Env} {o : Option TV}
theorem g_0 : getV (some t :: ρ) 0 K = K t := rfl
theorem g_s {n : Nat} : getV (o :: ρ) (n + 1) K = getV ρ n K := by unfold getV; rw [List.getElem?_cons_succ]
theorem g_1 {o1} : getV (o1 :: some t :: ρ) 1 K = K t := rfl
theorem g_2 {o1 o2} : getV (o1 :: o2 :: some t :: ρ) 2 K = K t := rfl
theorem g_3 {o1 o2 o3} : getV (o1 :: o2 :: o3 :: some t :: ρ) 3 K = K t := rfl
theorem g_4 {o1 o2 o3 o4} : getV (o1 :: o2 :: o3 :: o4 :: some t :: ρ) 4 K = K t := rfl
theorem g_5 {o1 o2 o3 o4 o5} : getV (o1 :: o2 :: o3 :: o4 :: o5 :: some t :: ρ) 5 K = K t := rfl
theorem g_6 {o1 o2 o3 o4 o5 o6} : getV (o1 :: o2 :: o3 :: o4 :: o5 :: o6 :: some t :: ρ) 6 K = K t := rfl
theorem g_7 {o1 o2 o3 o4 o5 o6 o7} : getV (o1 :: o2 :: o3 :: o4 :: o5 :: o6 :: o7 :: some t :: ρ) 7 K = K t := rfl
theorem g_8 {o1 o2 o3 o4 o5 o6 o7 o8} : getV (o1 :: o2 :: o3 :: o4 :: o5 :: o6 :: o7 :: o8 :: some t :: ρ) 8 K = K t := rfl
theorem g_9 {o1 o2 o3 o4 o5 o6 o7 o8 o9} : getV (o1 :: o2 :: o3 :: o4 :: o5 :: o6 :: o7 :: o8 :: o9 :: some t :: ρ) 9 K = K t := rfl
theorem g_10 {o1 o2 o3 o4 o5 o6 o7 o8 o9 o10} : getV (o1 :: o2 :: o3 :: o4 :: o5 :: o6 :: o7 :: o8 :: o9 :: o10 :: some t :: ρ) 10 K = K t := rfl
theorem g_11 {o1 o2 o3 o4 o5 o6 o7 o8 o9 o10 o11} : getV (o1 :: o2 :: o3 :: o4 :: o5 :: o6 :: o7 :: o8 :: o9 :: o10 :: o11 :: some t :: ρ) 11 K = K t := rfl
theorem g_12 {o1 o2 o3 o4 o5 o6 o7 o8 o9 o10 o11 o12} : getV (o1 :: o2 :: o3 :: o4 :: o5 :: o6 :: o7 :: o8 :: o9 :: o10 :: o11 :: o12 :: some t :: ρ) 12 K = K t := rfl
theorem g_13 {o1 o2 o3 o4 o5 o6 o7 o8 o9 o10 o11 o12 o13} : getV (o1 :: o2 :: o3 :: o4 :: o5 :: o6 :: o7 :: o8 :: o9 :: o10 :: o11 :: o12 :: o13 :: some t :: ρ) 13 K = K t := rfl
theorem g_14 {o1 o2 o3 o4 o5 o6 o7 o8 o9 o10 o11 o12 o13 o14} : getV (o1 :: o2 :: o3 :: o4 :: o5 :: o6 :: o7 :: o8 :: o9 :: o10 :: o11 :: o12 :: o13 :: o14 :: some t :: ρ) 14 K = K t := rfl
theorem g_15 {o1 o2 o3 o4 o5 o6 o7 o8 o9 o10 o11 o12 o13 o14 o15} : getV (o1 :: o2 :: o3 :: o4 :: o5 :: o6 :: o7 :: o8 :: o9 :: o10 :: o11 :: o12 :: o13 :: o14 :: o15 :: some t :: ρ) 15 K = K t := rfl
theorem g_16 {o1 o2 o3 o4 o5 o6 o7 o8 o9 o10 o11 o12 o13 o14 o15 o16} : getV (o1 :: o2 :: o3 :: o4 :: o5 :: o6 :: o7 :: o8 :: o9 :: o10 :: o11 :: o12 :: o13 :: o14 :: o15 :: o16 :: some t :: ρ) 16 K = K t := rfl
theorem g_17 {o1 o2 o3 o4 o5 o6 o7 o8 o9 o10 o11 o12 o13 o14 o15 o16 o17} : getV (o1 :: o2 :: o3 :: o4 :: o5 :: o6 :: o7 :: o8 :: o9 :: o10 :: o11 :: o12 :: o13 :: o14 :: o15 :: o16 :: o17 :: some t :: ρ) 17 K = K t := rfl
theorem g_18 {o1 o2 o3 o4 o5 o6 o7 o8 o9 o10 o11 o12 o13 o14 o15 o16 o17 o18} : getV (o1 :: o2 :: o3 :: o4 :: o5 :: o6 :: o7 :: o8 :: o9 :: o10 :: o11 :: o12 :: o13 :: o14 :: o15 :: o16 :: o17 :: o18 :: some t :: ρ) 18 K = K t := rfl
theorem g_19 {o1 o2 o3 o4 o5 o6 o7 o8 o9 o10 o11 o12 o13 o14 o15 o16 o17 o18 o19} : getV (o1 :: o2 :: o3 :: o4 :: o5 :: o6 :: o7 :: o8 :: o9 :: o10 :: o11 :: o12 :: o13 :: o14 :: o15 :: o16 :: o17 :: o18 :: o19 :: some t :: ρ) 19 K = K t := rfl
theorem g_20 {o1 o2 o3 o4 o5 o6 o7 o8 o9 o10 o11 o12 o13 o14 o15 o16 o17 o18 o19 o20} : getV (o1 :: o2 :: o3 :: o4 :: o5 :: o6 :: o7 :: o8 :: o9 :: o10 :: o11 :: o12 :: o13 :: o14 :: o15 :: o16 :: o17 :: o18 :: o19 :: o20 :: some t :: ρ) 20 K = K t := rfl
theorem g_21 {o1 o2 o3 o4 o5 o6 o7 o8 o9 o10 o11 o12 o13 o14 o15 o16 o17 o18 o19 o20 o21} : getV (o1 :: o2 :: o3 :: o4 :: o5 :: o6 :: o7 :: o8 :: o9 :: o10 :: o11 :: o12 :: o13 :: o14 :: o15 :: o16 :: o17 :: o18 :: o19 :: o20 :: o21 :: some t :: ρ) 21 K = K t := rfl
theorem g_22 {o1 o2 o3 o4 o5 o6 o7 o8 o9 o10 o11 o12 o13 o14 o15 o16 o17 o18 o19 o20 o21 o22} : getV (o1 :: o2 :: o3 :: o4 :: o5 :: o6 :: o7 :: o8 :: o9 :: o10 :: o11 :: o12 :: o13 :: o14 :: o15 :: o16 :: o17 :: o18 :: o19 :: o20 :: o21 :: o22 :: some t :: ρ) 22 K = K t := rfl
theorem g_23 {o1 o2 o3 o4 o5 o6 o7 o8 o9 o10 o11 o12 o13 o14 o15 o16 o17 o18 o19 o20 o21 o22 o23} : getV (o1 :: o2 :: o3 :: o4 :: o5 :: o6 :: o7 :: o8 :: o9 :: o10 :: o11 :: o12 :: o13 :: o14 :: o15 :: o16 :: o17 :: o18 :: o19 :: o20 :: o21 :: o22 :: o23 :: some t :: ρ) 23 K = K t := rfl
theorem g_24 {o1 o2 o3 o4 o5 o6 o7 o8 o9 o10 o11 o12 o13 o14 o15 o16 o17 o18 o19 o20 o21 o22 o23 o24} : getV (o1 :: o2 :: o3 :: o4 :: o5 :: o6 :: o7 :: o8 :: o9 :: o10 :: o11 :: o12 :: o13 :: o14 :: o15 :: o16 :: o17 :: o18 :: o19 :: o20 :: o21 :: o22 :: o23 :: o24 :: some t :: ρ) 24 K = K t := rfl
theorem g_25 {o1 o2 o3 o4 o5 o6 o7 o8 o9 o10 o11 o12 o13 o14 o15 o16 o17 o18 o19 o20 o21 o22 o23 o24 o25} : getV (o1 :: o2 :: o3 :: o4 :: o5 :: o6 :: o7 :: o8 :: o9 :: o10 :: o11 :: o12 :: o13 :: o14 :: o15 :: o16 :: o17 :: o18 :: o19 :: o20 :: o21 :: o22 :: o23 :: o24 :: o25 :: some t :: ρ) 25 K = K t := rfl
theorem g_26 {o1 o2 o3 o4 o5 o6 o7 o8 o9 o10 o11 o12 o13 o14 o15 o16 o17 o18 o19 o20 o21 o22 o23 o24 o25 o26} : getV (o1 :: o2 :: o3 :: o4 :: o5 :: o6 :: o7 :: o8 :: o9 :: o10 :: o11 :: o12 :: o13 :: o14 :: o15 :: o16 :: o17 :: o18 :: o19 :: o20 :: o21 :: o22 :: o23 :: o24 :: o25 :: o26 :: some t :: ρ) 26 K = K t := rfl
theorem g_27 {o1 o2 o3 o4 o5 o6 o7 o8 o9 o10 o11 o12 o13 o14 o15 o16 o17 o18 o19 o20 o21 o22 o23 o24 o25 o26 o27} : getV (o1 :: o2 :: o3 :: o4 :: o5 :: o6 :: o7 :: o8 :: o9 :: o10 :: o11 :: o12 :: o13 :: o14 :: o15 :: o16 :: o17 :: o18 :: o19 :: o20 :: o21 :: o22 :: o23 :: o24 :: o25 :: o26 :: o27 :: some t :: ρ) 27 K = K t := rfl
theorem g_28 {o1 o2 o3 o4 o5 o6 o7 o8 o9 o10 o11 o12 o13 o14 o15 o16 o17 o18 o19 o20 o21 o22 o23 o24 o25 o26 o27 o28} : getV (o1 :: o2 :: o3 :: o4 :: o5 :: o6 :: o7 :: o8 :: o9 :: o10 :: o11 :: o12 :: o13 :: o14 :: o15 :: o16 :: o17 :: o18 :: o19 :: o20 :: o21 :: o22 :: o23 :: o24 :: o25 :: o26 :: o27 :: o28 :: some t :: ρ) 28 K = K t := rfl
theorem g_29 {o1 o2 o3 o4 o5 o6 o7 o8 o9 o10 o11 o12 o13 o14 o15 o16 o17 o18 o19 o20 o21 o22 o23 o24 o25 o26 o27 o28 o29} : getV (o1 :: o2 :: o3 :: o4 :: o5 :: o6 :: o7 :: o8 :: o9 :: o10 :: o11 :: o12 :: o13 :: o14 :: o15 :: o16 :: o17 :: o18 :: o19 :: o20 :: o21 :: o22 :: o23 :: o24 :: o25 :: o26 :: o27 :: o28 :: o29 :: some t :: ρ) 29 K = K t := rfl
theorem g_30 {o1 o2 o3 o4 o5 o6 o7 o8 o9 o10 o11 o12 o13 o14 o15 o16 o17 o18 o19 o20 o21 o22 o23 o24 o25 o26 o27 o28 o29 o30} : getV (o1 :: o2 :: o3 :: o4 :: o5 :: o6 :: o7 :: o8 :: o9 :: o10 :: o11 :: o12 :: o13 :: o14 :: o15 :: o16 :: o17 :: o18 :: o19 :: o20 :: o21 :: o22 :: o23 :: o24 :: o25 :: o26 :: o27 :: o28 :: o29 :: o30 :: some t :: ρ) 30 K = K t := rfl
theorem a_ok {α : Type} {v : α} {Q : α → Prop} : app (some (True, v)) Q = Q v := by simp [app]
theorem a_add : app (binF .add (.int i) (.int j)) K = K (.int (i + j)) := by simp [app, binF, addF, ok]
theorem a_addS : app (binF .add (.str x) (.str y)) K = (x.length + y.length ≤ line ∧ K (.str (x ++ y))) := by simp [app, binF, addF]
theorem a_addL : app (binF .add (.lst xs) (.lst ys)) K = (xs.length + ys.length ≤ line ∧ K (.lst (xs ++ ys))) := by simp [app, binF, addF]
theorem a_addT : app (binF .add (.tup xs) (.tup ys)) K = (xs.length + ys.length ≤ line ∧ K (.tup (xs ++ ys))) := by simp [app, binF, addF]
theorem a_sub : app (binF .sub (.int i) (.int j)) K = K (.int (i - j)) := by simp [app, binF, ok]
theorem a_mul : app (binF .mul (.int i) (.int j)) K = (mulOk i j ∧ K (.int (i * j))) := by simp [app, binF, mulF]
theorem a_mulL : app (binF .mul (.lst xs) (.int j)) K = ((-(2 ^ 62) < j ∧ j < 2 ^ 62 ∧ xs.length * j.toNat ≤ line) ∧ K (.lst (List.replicate j.toNat xs).flatten)) := by simp only [app, binF, mulF]
theorem a_mulT : app (binF .mul (.tup xs) (.int j)) K = ((-(2 ^ 62) < j ∧ j < 2 ^ 62 ∧ xs.length * j.toNat ≤ line) ∧ K (.tup (List.replicate j.toNat xs).flatten)) := by simp only [app, binF, mulF]
theorem a_mod : app (binF .mod (.int i) (.int j)) K = (0 < j ∧ K (.int (i % j))) := by simp [app, binF]
theorem a_fdiv : app (binF .fdiv (.int i) (.int j)) K = ((0 < j ∧ j < 1073741824) ∧ K (.int (i / j))) := by simp only [app, binF]
theorem a_pow : app (binF .pow (.int i) (.int j)) K = ((0 ≤ j ∧ j ≤ 1000000 ∧ i.natAbs < 2 ^ 64) ∧ K (.int (i ^ j.toNat))) := by simp only [app, binF]
theorem a_augadd : app (augF .add (.int i) (.int j)) K = K (.int (i + j)) := by simp [app, augF, ok]
theorem a_augsub : app (augF .sub (.int i) (.int j)) K = K (.int (i - j)) := by simp [app, augF, ok]
theorem a_neg : app (negF (.int i)) K = K (.int (-i)) := by simp [app, negF, ok]
theorem a_lt : app (cmpF .lt (.int i) (.int j)) B = B (decide (i < j)) := by simp [app, cmpF, ok]
theorem a_le : app (cmpF .le (.int i) (.int j)) B = B (decide (i ≤ j)) := by simp [app, cmpF, ok]
theorem a_gt : app (cmpF .gt (.int i) (.int j)) B = B (decide (j < i)) := by simp [app, cmpF, ok]
theorem a_ge : app (cmpF .ge (.int i) (.int j)) B = B (decide (j ≤ i)) := by simp [app, cmpF, ok]
theorem a_eq : app (cmpF .eq t u) B = ((t.flat 60 = true ∧ u.flat 60 = true) ∧ B (eqv t u)) := by simp only [app, cmpF]
theorem a_ne : app (cmpF .ne t u) B = ((t.flat 60 = true ∧ u.flat 60 = true) ∧ B (!eqv t u)) := by simp only [app, cmpF]
theorem a_isN : app (cmpF .is_ t .non) B = B (isNon t) := by cases t <;> simp [app, cmpF, ok]
theorem a_isnN : app (cmpF .isn t .non) B = B (!isNon t) := by cases t <;> simp [app, cmpF, ok]
theorem a_isB : app (cmpF .is_ (.bl a) (.bl b)) B = B (decide (a = b)) := by simp [app, cmpF, ok]
theorem a_isnB : app (cmpF .isn (.bl a) (.bl b)) B = B (!decide (a = b)) := by simp [app, cmpF, ok]
theorem a_truB : app (truF (.bl b)) B = B b := by simp [app, truF, ok]
theorem a_truI : app (truF (.int i)) B = B (i != 0) := by simp [app, truF, ok]
theorem a_truN : app (truF .non) B = B false := by simp [app, truF, ok]
theorem a_truT : app (truF (.tup xs)) B = B (!xs.isEmpty) := by simp [app, truF, ok]
theorem a_truL : app (truF (.lst xs)) B = B (!xs.isEmpty) := by simp [app, truF, ok]
theorem a_lenT : app (biF .len [.tup xs]) K = K (.int xs.length) := by simp [app, biF, ok]
theorem a_lenL : app (biF .len [.lst xs]) K = K (.int xs.length) := by simp [app, biF, ok]
theorem a_abs : app (biF .abs [.int i]) K = K (.int i.natAbs) := by simp [app, biF, ok]
theorem a_int : app (biF .int [.int i]) K = K (.int i) := by simp [app, biF, ok]
theorem a_strI : app (biF .str [.int i]) K = (i.natAbs.log2 < 1920 ∧ K (.str (toString i))) := by simp [app, biF]
theorem a_max2 : app (biF .max2 [.int i, .int j]) K = K (.int (max i j)) := by simp [app, biF, ok]
theorem a_min2 : app (biF .min2 [.int i, .int j]) K = K (.int (min i j)) := by simp [app, biF, ok]
theorem a_listL : app (biF .list [.lst xs]) K = K (.lst xs) := by simp [app, biF, ok]
theorem a_listT : app (biF .list [.tup xs]) K = K (.lst xs) := by simp [app, biF, ok]
theorem a_tupL : app (biF .tuple [.lst xs]) K = K (.tup xs) := by simp [app, biF, ok]
theorem a_tupT : app (biF .tuple [.tup xs]) K = K (.tup xs) := by simp [app, biF, ok]
theorem a_range1 {Q : List TV → Prop} : app (itF .range [.int i]) Q = ((i ≤ line ∧ small62 i) ∧ Q (rangeL 0 i.toNat)) := by simp only [app, itF]
theorem a_range2 {Q : List TV → Prop} : app (itF .range [.int i, .int j]) Q = ((j - i ≤ line ∧ small62 i ∧ small62 j) ∧ Q (rangeL i (j - i).toNat)) := by simp only [app, itF]
theorem a_seqT {Q : List TV → Prop} : app (itF .seq [.tup xs]) Q = Q xs := by simp [app, itF, ok]
theorem a_seqL {Q : List TV → Prop} : app (itF .seq [.lst xs]) Q = Q xs := by simp [app, itF, ok]
theorem a_enumT {Q : List TV → Prop} : app (itF .enum [.tup xs]) Q = Q (pairsE xs) := by simp [app, itF, ok]
theorem a_enumL {Q : List TV → Prop} : app (itF .enum [.lst xs]) Q = Q (pairsE xs) := by simp [app, itF, ok]
theorem a_zipT {Q : List TV → Prop} : app (itF .zip [.tup xs, .tup ys]) Q = Q (pairsZ xs ys) := by simp [app, itF, ok]
theorem a_zipL {Q : List TV → Prop} : app (itF .zip [.lst xs, .lst ys]) Q = Q (pairsZ xs ys) := by simp [app, itF, ok]
theorem a_idxL : app (idxF (.lst xs) (.int i)) K = app ((atI xs i).bind ok) K := by simp only [idxF]
theorem a_idxT : app (idxF (.tup xs) (.int i)) K = app ((atI xs i).bind ok) K := by simp only [idxF]
theorem a_at {v : TV} (h : atI xs i = some v) : app ((atI xs i).bind ok) K = K v := by rw [h]; simp [app, ok]
theorem a_cutL {l h : Option Int} : app (cutF (.lst xs) l h) K = K (.lst (cut xs l h)) := by simp [app, cutF, ok]
theorem a_cutT {l h : Option Int} : app (cutF (.tup xs) l h) K = K (.tup (cut xs l h)) := by simp [app, cutF, ok]
theorem a_cutS {ns : List Int} {l h : Option Int} : app (cutF (.scr ns) l h) K = K (.lst (cut (ns.map .int) l h)) := by simp [app, cutF, ok]
theorem a_revT : app (revF (.tup xs)) K = K (.tup xs.reverse) := by simp [app, revF, ok]
theorem a_revL : app (revF (.lst xs)) K = K (.lst xs.reverse) := by simp [app, revF, ok]
theorem at_0 : atI (t :: xs) 0 = some t := rfl
theorem at_1 {t1} : atI (t1 :: t :: xs) 1 = some t := rfl
theorem at_2 {t1 t2} : atI (t1 :: t2 :: t :: xs) 2 = some t := rfl
theorem at_3 {t1 t2 t3} : atI (t1 :: t2 :: t3 :: t :: xs) 3 = some t := rfl
theorem at_4 {t1 t2 t3 t4} : atI (t1 :: t2 :: t3 :: t4 :: t :: xs) 4 = some t := rfl
theorem at_5 {t1 t2 t3 t4 t5} : atI (t1 :: t2 :: t3 :: t4 :: t5 :: t :: xs) 5 = some t := rfl
theorem a_okk {α : Type} {v : α} {Q : α → Prop} : app (ok v) Q = Q v := by simp [app, ok]
theorem pu_0 {t1} : putAt (.lst (t1 :: xs)) [.int 0] t = some (.lst (t :: xs)) := by simp [putAt]
theorem pu_1 {t1 t2} : putAt (.lst (t1 :: t2 :: xs)) [.int 1] t = some (.lst (t1 :: t :: xs)) := by simp [putAt]; omega
theorem pu_2 {t1 t2 t3} : putAt (.lst (t1 :: t2 :: t3 :: xs)) [.int 2] t = some (.lst (t1 :: t2 :: t :: xs)) := by simp [putAt]; omega
theorem pu_3 {t1 t2 t3 t4} : putAt (.lst (t1 :: t2 :: t3 :: t4 :: xs)) [.int 3] t = some (.lst (t1 :: t2 :: t3 :: t :: xs)) := by simp [putAt]; omega
theorem pu_4 {t1 t2 t3 t4 t5} : putAt (.lst (t1 :: t2 :: t3 :: t4 :: t5 :: xs)) [.int 4] t = some (.lst (t1 :: t2 :: t3 :: t4 :: t :: xs)) := by simp [putAt]; omega
theorem la_0 : lenAt (.lst xs) [] = xs.length := rfl
theorem ap_0 : appAt (.lst xs) [] t = some (.lst (xs ++ [t])) := rfl
theorem isL_l : isL (.lst xs) = true := rfl
theorem f_int {n : Nat} : TV.flat n (.int i) = true := by simp [TV.flat]
theorem f_bl {n : Nat} : TV.flat n (.bl a) = true := by simp [TV.flat]
theorem f_non {n : Nat} : TV.flat n .non = true := by simp [TV.flat]
theorem e_int : eqv (.int i) (.int j) = decide (i = j) := by rw [Bool.eq_iff_iff]; simp [eqv, TV.dat, PyData.eqv]
theorem e_str : eqv (.str x) (.str y) = decide (x = y) := by rw [Bool.eq_iff_iff]; simp [eqv, TV.dat, PyData.eqv]
theorem e_bl : eqv (.bl a) (.bl b) = decide (a = b) := by cases a <;> cases b <;> rfl
theorem a_all (l : List Bool) : app (biF .all [.lst (l.map .bl)]) K = K (.bl (l.all id)) := by
  have : blsOf (l.map .bl) = some l := by
    induction l with
    | nil => rfl
    | cons b l ih => simp [blsOf, ih]
  simp [app, biF, this, ok]
theorem a_any (l : List Bool) : app (biF .any [.lst (l.map .bl)]) K = K (.bl (l.any id)) := by
  have : blsOf (l.map .bl) = some l := by
    induction l with
    | nil => rfl
    | cons b l ih => simp [blsOf, ih]
  simp [app, biF, this, ok]
theorem ints_map (l : List Int) : intsOf (l.map .int) = some l := by
  induction l with
  | nil => rfl
  | cons b l ih => simp [intsOf, ih]
theorem a_sum (l : List Int) : app (biF .sum [.lst (l.map .int)]) K = K (.int l.sum) := by simp [app, biF, ints_map, ok]
theorem a_min1 (n : Int) (l : List Int) : app (biF .min1 [.lst ((n :: l).map .int)]) K = K (.int (leastI n l)) := by simp only [app, biF, ints_map, ok, true_and]
/-- type tests -/
theorem ty_int {T : Ty} (h : ∀ c, T ≠ .cls c) : app (tyF (.int i) T) B = B (T == .int) := by cases T <;> first | (exact absurd rfl (h _)) | simp [app, tyF, ok]
def isI : TV → Bool
  | .int _ => true
  | _ => false
def isB : TV → Bool
  | .bl _ => true
  | _ => false
/-- things that a test of kinds tells -/
def plainT : TV → Bool
  | .non | .bl _ | .int _ | .str _ | .tup _ | .lst _ => true
  | _ => false
theorem ty_i (h : plainT t = true) : app (tyF t .int) B = B (isI t || isB t) := by cases t <;> first | (simp [plainT] at h; done) | (simp only [app, tyF, ok, true_and]; rfl)
theorem ty_b (h : plainT t = true) : app (tyF t .bool) B = B (isB t) := by cases t <;> first | (simp [plainT] at h; done) | (simp only [app, tyF, ok, true_and]; rfl)
end
theorem wpSs_cut {C : Calls} {G : Nat → TV} (hC : MonoC C) {s : S} {r : List S} {ρ : Env} {D : Dn} (I : Env → Prop) (h1 : wpS C G s ρ { D with nx := I }) (h2 : ∀ ρ', I ρ' → wpSs C G r ρ' D) : wpSs C G (s :: r) ρ D := by
  simp only [wpSs]
  refine wpS_mono hC s ρ ?_ h1
  exact ⟨h2, fun _ _ z => z, fun _ z => z, fun _ z => z, fun _ _ z => z⟩
/-- a comprehension whose turns leave the slots as they were -/
theorem loopC_map {f : TV → Env → List TV → (List TV → Env → Prop) → Prop} {g : TV → Option TV} {ρ : Env} {K : List TV → Env → Prop} : ∀ (items acc : List TV), (∀ x ∈ items, ∀ acc (next : List TV → Env → Prop), next (acc ++ (g x).toList) ρ → f x ρ acc next) → K (acc ++ items.filterMap g) ρ → loopC f items ρ acc K
  | [], acc, _, h => by simpa [loopC] using h
  | x :: items, acc, hf, h => by
    simp only [loopC]
    refine hf x (by simp) acc _ ?_
    refine loopC_map items _ (fun y hy => hf y (by simp [hy])) ?_
    cases e : g x with
    | none => simpa [List.filterMap_cons_none e] using h
    | some y => simpa [List.filterMap_cons_some e] using h
/-- a for with an invariant -/
theorem loopF_inv {f : TV → Env → (Env → Prop) → Prop} {K : Env → Prop} {items : List TV} {ρ : Env} (I : Nat → Env → Prop) (h0 : I 0 ρ) (hs : ∀ i x ρ (next : Env → Prop), items[i]? = some x → I i ρ → (∀ ρ', I (i + 1) ρ' → next ρ') → f x ρ next) (hK : ∀ ρ, I items.length ρ → K ρ) : loopF f items ρ K := by
  have go : ∀ (r : List TV) (k : Nat) (ρ : Env), k ≤ items.length → items.drop k = r → I k ρ → loopF f r ρ K := by
    intro r
    induction r with
    | nil =>
      intro k ρ hk e h
      simp only [loopF]
      have : items.length ≤ k := by simpa using e
      obtain rfl : k = items.length := by omega
      exact hK ρ h
    | cons x r ih =>
      intro k ρ hk' e h
      simp only [loopF]
      have hk : k < items.length := by
        have := congrArg List.length e
        simp at this; omega
      have ex : items[k]? = some x := by
        have := List.getElem?_drop (xs := items) (i := k) (j := 0)
        rw [e] at this; simpa using this.symm
      refine hs k x ρ _ ex h fun ρ' h' => ih (k + 1) ρ' hk ?_ h'
      rw [← List.drop_drop, e]; rfl
  exact go items 0 ρ (Nat.zero_le _) (by simp) h0
section
variable {B : Bool → Prop} {i : Int} {b : Bool} {x : Str} {xs : List TV}
theorem ty_int_int : app (tyF (.int i) .int) B = B true := by simp only [app, tyF, ok, true_and] <;> rfl
theorem ty_int_bool : app (tyF (.int i) .bool) B = B false := by simp only [app, tyF, ok, true_and] <;> rfl
theorem ty_int_str : app (tyF (.int i) .str) B = B false := by simp only [app, tyF, ok, true_and] <;> rfl
theorem ty_int_tuple : app (tyF (.int i) .tuple) B = B false := by simp only [app, tyF, ok, true_and] <;> rfl
theorem ty_int_list : app (tyF (.int i) .list) B = B false := by simp only [app, tyF, ok, true_and] <;> rfl
theorem ty_bl_int : app (tyF (.bl b) .int) B = B true := by simp only [app, tyF, ok, true_and] <;> rfl
theorem ty_bl_bool : app (tyF (.bl b) .bool) B = B true := by simp only [app, tyF, ok, true_and] <;> rfl
theorem ty_bl_str : app (tyF (.bl b) .str) B = B false := by simp only [app, tyF, ok, true_and] <;> rfl
theorem ty_bl_tuple : app (tyF (.bl b) .tuple) B = B false := by simp only [app, tyF, ok, true_and] <;> rfl
theorem ty_bl_list : app (tyF (.bl b) .list) B = B false := by simp only [app, tyF, ok, true_and] <;> rfl
theorem ty_non_int : app (tyF .non .int) B = B false := by simp only [app, tyF, ok, true_and] <;> rfl
theorem ty_non_bool : app (tyF .non .bool) B = B false := by simp only [app, tyF, ok, true_and] <;> rfl
theorem ty_non_str : app (tyF .non .str) B = B false := by simp only [app, tyF, ok, true_and] <;> rfl
theorem ty_non_tuple : app (tyF .non .tuple) B = B false := by simp only [app, tyF, ok, true_and] <;> rfl
theorem ty_non_list : app (tyF .non .list) B = B false := by simp only [app, tyF, ok, true_and] <;> rfl
theorem ty_str_int : app (tyF (.str x) .int) B = B false := by simp only [app, tyF, ok, true_and] <;> rfl
theorem ty_str_bool : app (tyF (.str x) .bool) B = B false := by simp only [app, tyF, ok, true_and] <;> rfl
theorem ty_str_str : app (tyF (.str x) .str) B = B true := by simp only [app, tyF, ok, true_and] <;> rfl
theorem ty_str_tuple : app (tyF (.str x) .tuple) B = B false := by simp only [app, tyF, ok, true_and] <;> rfl
theorem ty_str_list : app (tyF (.str x) .list) B = B false := by simp only [app, tyF, ok, true_and] <;> rfl
theorem ty_tup_int : app (tyF (.tup xs) .int) B = B false := by simp only [app, tyF, ok, true_and] <;> rfl
theorem ty_tup_bool : app (tyF (.tup xs) .bool) B = B false := by simp only [app, tyF, ok, true_and] <;> rfl
theorem ty_tup_str : app (tyF (.tup xs) .str) B = B false := by simp only [app, tyF, ok, true_and] <;> rfl
theorem ty_tup_tuple : app (tyF (.tup xs) .tuple) B = B true := by simp only [app, tyF, ok, true_and] <;> rfl
theorem ty_tup_list : app (tyF (.tup xs) .list) B = B false := by simp only [app, tyF, ok, true_and] <;> rfl
theorem ty_lst_int : app (tyF (.lst xs) .int) B = B false := by simp only [app, tyF, ok, true_and] <;> rfl
theorem ty_lst_bool : app (tyF (.lst xs) .bool) B = B false := by simp only [app, tyF, ok, true_and] <;> rfl
theorem ty_lst_str : app (tyF (.lst xs) .str) B = B false := by simp only [app, tyF, ok, true_and] <;> rfl
theorem ty_lst_tuple : app (tyF (.lst xs) .tuple) B = B false := by simp only [app, tyF, ok, true_and] <;> rfl
theorem ty_lst_list : app (tyF (.lst xs) .list) B = B true := by simp only [app, tyF, ok, true_and] <;> rfl
end
/-! ### ints in a row -/
def rangeI (a : Int) (n : Nat) : List Int := (List.range n).map fun (k : Nat) => a + (k : Int)
theorem rangeL_eq (a : Int) (n : Nat) : rangeL a n = (rangeI a n).map .int := by simp [rangeL, rangeI, Function.comp_def]
theorem mem_rangeI {a x : Int} {n : Nat} : x ∈ rangeI a n ↔ a ≤ x ∧ x < a + n := by
  unfold rangeI
  simp only [List.mem_map, List.mem_range]
  constructor
  · rintro ⟨k, hk, rfl⟩; omega
  · rintro ⟨h1, h2⟩; exact ⟨(x - a).toNat, by omega, by omega⟩
theorem rangeI_len (a : Int) (n : Nat) : (rangeI a n).length = n := by simp [rangeI]
theorem rangeI_get {a : Int} {n k : Nat} (h : k < n) : (rangeI a n)[k]? = some (a + k) := by simp [rangeI, h]
theorem loopC_all {α : Type} {f : TV → Env → List TV → (List TV → Env → Prop) → Prop} {ρ : Env} {K : List TV → Env → Prop} (v g : α → TV) : ∀ (l : List α) (acc : List TV), (∀ x ∈ l, ∀ acc (next : List TV → Env → Prop), next (acc ++ [g x]) ρ → f (v x) ρ acc next) → K (acc ++ l.map g) ρ → loopC f (l.map v) ρ acc K
  | [], acc, _, h => by simpa [loopC] using h
  | x :: l, acc, hf, h => by
    simp only [List.map_cons, loopC]
    refine hf x (by simp) acc _ (loopC_all v g l _ (fun y hy => hf y (by simp [hy])) ?_)
    simpa using h
theorem loopC_fil {α : Type} {f : TV → Env → List TV → (List TV → Env → Prop) → Prop} {ρ : Env} {K : List TV → Env → Prop} (v g : α → TV) (p : α → Bool) : ∀ (l : List α) (acc : List TV), (∀ x ∈ l, ∀ acc (next : List TV → Env → Prop), (p x = true → next (acc ++ [g x]) ρ) → (p x = false → next acc ρ) → f (v x) ρ acc next) → K (acc ++ (l.filter p).map g) ρ → loopC f (l.map v) ρ acc K
  | [], acc, _, h => by simpa [loopC] using h
  | x :: l, acc, hf, h => by
    simp only [List.map_cons, loopC]
    refine hf x (by simp) acc _ (fun e => loopC_fil v g p l _ (fun y hy => hf y (by simp [hy])) ?_) (fun e => loopC_fil v g p l _ (fun y hy => hf y (by simp [hy])) ?_)
    · simpa [List.filter_cons, e] using h
    · simpa [List.filter_cons, e] using h
theorem loopF_all {α : Type} {f : TV → Env → (Env → Prop) → Prop} {K : Env → Prop} (v : α → TV) {l : List α} {ρ : Env} (I : Nat → Env → Prop) (h0 : I 0 ρ) (hs : ∀ i x ρ (next : Env → Prop), l[i]? = some x → I i ρ → (∀ ρ', I (i + 1) ρ' → next ρ') → f (v x) ρ next) (hK : ∀ ρ, I l.length ρ → K ρ) : loopF f (l.map v) ρ K :=
  loopF_inv I h0 (fun i x ρ next e h hn => by
    rw [List.getElem?_map] at e
    cases q : l[i]? with
    | none => rw [q] at e; cases e
    | some y => rw [q] at e; cases e; exact hs i y ρ next q h hn) fun ρ h => hK ρ (by simpa using h)
section
variable {K : TV → Prop} {α : Type}
theorem a_allF (l : List α) (b : α → Bool) : app (biF .all [.lst (l.map fun x => .bl (b x))]) K = K (.bl (l.all b)) := by
  have := a_all (K := K) (l.map b)
  rw [List.map_map] at this
  rw [show (l.map fun x => TV.bl (b x)) = l.map (TV.bl ∘ b) from rfl, this]
  simp [List.all_map]
theorem a_anyF (l : List α) (b : α → Bool) : app (biF .any [.lst (l.map fun x => .bl (b x))]) K = K (.bl (l.any b)) := by
  have := a_any (K := K) (l.map b)
  rw [List.map_map] at this
  rw [show (l.map fun x => TV.bl (b x)) = l.map (TV.bl ∘ b) from rfl, this]
  simp [List.any_map]
theorem a_min1I {l : List Int} {n : Int} {r : List Int} (h : l = n :: r) : app (biF .min1 [.lst (l.map .int)]) K = K (.int (leastI n r)) := by subst h; exact a_min1 n r
theorem a_sumF (l : List α) (g : α → Int) : app (biF .sum [.lst (l.map fun x => .int (g x))]) K = K (.int (l.map g).sum) := by
  have := a_sum (K := K) (l.map g)
  rw [List.map_map] at this
  exact this
theorem flats_int (l : List α) (g : α → Int) (n : Nat) : TV.flats n (l.map fun z => .int (g z)) = true := by
  induction l with
  | nil => simp [TV.flats]
  | cons a l ih => simp [TV.flats, TV.flat, ih]
theorem a_index {l : List α} {g : α → Int} {c : Int} {j : Nat} (h : (l.findIdx? fun z => decide (g z = c)) = some j) : app (indexF (.lst (l.map fun z => .int (g z))) (.int c)) K = K (.int j) := by
  have e : ((l.map fun z => TV.int (g z)).findIdx? fun z => eqv z (.int c)) = some j := by
    rw [List.findIdx?_map]
    simpa only [Function.comp_def, e_int] using h
  simp only [indexF, e, Option.bind_some, app, flats_int, f_int, true_and]
theorem at_get {l : List α} {v : α → TV} {i : Int} {x : α} (h0 : 0 ≤ i) (h : l[i.toNat]? = some x) : atI (l.map v) i = some (v x) := by
  unfold atI
  rw [if_pos h0, List.getElem?_map, h]; rfl
end
theorem set_0 {α : Type} {a b : α} {l : List α} : (a :: l).set 0 b = b :: l := rfl
theorem mulOk_r {i j : Int} (h : -(2 ^ 64) < j ∧ j < 2 ^ 64) : mulOk i j := .inr h
theorem mulOk_l {i j : Int} (h : -(2 ^ 64) < i ∧ i < 2 ^ 64) : mulOk i j := .inl h
/-- a while of so many turns -/
theorem loopW_run {c : Env → (Bool → Env → Prop) → Prop} {b : Env → (Env → Prop) → Prop} {K : Env → Prop} (I : Nat → Env → Prop) (hs : ∀ j ρ (next : Env → Prop), I (j + 1) ρ → (∀ ρ', I j ρ' → next ρ') → c ρ fun t ρ1 => if t = true then b ρ1 next else K ρ1)
    (h0 : ∀ ρ (next : Env → Prop), I 0 ρ → c ρ fun t ρ1 => if t = true then b ρ1 next else K ρ1) (j : Nat) {ρ : Env} (h : I j ρ) : ∃ m, loopW c b m ρ K := by
  refine ⟨j + 1, ?_⟩
  induction j generalizing ρ with
  | zero => exact h0 ρ _ h
  | succ j ih => exact hs j ρ _ h fun ρ' h' => ih h'
/-- two roads that meet -/
theorem ite_two {c : Prop} [Decidable c] {A B R : Prop} (ha : c → R → A) (hb : ¬ c → R → B) (hr : R) : if c then A else B := by
  split
  · exact ha (by assumption) hr
  · exact hb (by assumption) hr
end TL
end -- TLLaw

section -- data
set_option linter.all false
set_option maxRecDepth 100000
set_option maxHeartbeats 0
namespace K01
open PySem PySem.Spec PyProof.Rows TL
def top (i : Nat) : Stmt := PySem.Challenge.pw_proofplay_k01_whole_primes_and_powers.main.body.getD i (.Pass ⟨0, 0, 0, 0⟩)
abbrev s0 : Stmt := top 6
def n0 : List Str := ["thing"]
def b0 : List S := [
  .ret (.bop true [.isi (.var 0) .int, .not_ (.isi (.var 0) .bool)])]
def d0 : Def := ⟨1, [], 9, 1, b0⟩
def D0 : He.DefD := mkD "is_integer" s0
abbrev s1 : Stmt := top 7
def n1 : List Str := ["thing", "least", "greatest"]
def b1 : List S := [
  .ret (.bop true [.call 0 [.var 0], .cmp2 .le .le (.var 1) (.var 0) (.var 2)])]
def d1 : Def := ⟨3, [], 9, 3, b1⟩
def D1 : He.DefD := mkD "is_between" s1
abbrev s2 : Stmt := top 8
def n2 : List Str := ["thing", "number"]
def b2 : List S := [
  .ret (.bop true [.call 1 [.var 0, .int 3, .glob 0], .bi .all [.comp (.cmp .ne (.bin .mod (.var 0) (.var 1)) (.int 0)) (.name 1) .range [.int 2, .var 0] none [1]]])]
def d2 : Def := ⟨1, [], 1, 2, b2⟩
def D2 : He.DefD := mkD "is_prime" s2
abbrev s3 : Stmt := top 9
def n3 : List Str := ["thing"]
def b3 : List S := [
  .ife (.not_ (.call 2 [.var 0])) [.raise_ 1 []] []]
def d3 : Def := ⟨1, [], 9, 1, b3⟩
def D3 : He.DefD := mkD "need_prime" s3
abbrev s4 : Stmt := top 10
def n4 : List Str := ["p", "thing"]
def b4 : List S := [
  .ret (.call 1 [.var 1, .int 0, .bin .sub (.var 0) (.int 1)])]
def d4 : Def := ⟨2, [], 9, 2, b4⟩
def D4 : He.DefD := mkD "is_number" s4
abbrev s5 : Stmt := top 11
def n5 : List Str := ["p", "things", "thing"]
def b5 : List S := [
  .ife (.not_ (.bi .all [.comp (.call 4 [.var 0, .var 2]) (.name 2) .seq [.var 1] none [2]])) [.raise_ 2 []] []]
def d5 : Def := ⟨2, [], 9, 3, b5⟩
def D5 : He.DefD := mkD "need_numbers" s5
abbrev s6 : Stmt := top 12
def n6 : List Str := ["p", "number", "many", "found", "_"]
def b6 : List S := [
  .asg 3 (.int 1),
  .for_ (.name 4) .range [.var 2] [.asg 3 (.bin .mod (.bin .mul (.var 3) (.var 1)) (.var 0))],
  .ret (.var 3)]
def d6 : Def := ⟨3, [], 0, 5, b6⟩
def D6 : He.DefD := mkD "power_of" s6
abbrev s7 : Stmt := top 13
def n7 : List Str := ["p", "number"]
def b7 : List S := [
  .ret (.call 6 [.var 0, .var 1, .bin .sub (.var 0) (.int 2)])]
def d7 : Def := ⟨2, [], 0, 2, b7⟩
def D7 : He.DefD := mkD "inverse_of" s7
abbrev s8 : Stmt := top 14
def n8 : List Str := ["p", "number", "many"]
def b8 : List S := [
  .expr (.call 3 [.var 0]),
  .expr (.call 5 [.var 0, .lst [.var 1]]),
  .ife (.not_ (.call 1 [.var 2, .int 0, .int 1000])) [.raise_ 2 []] [],
  .ret (.call 6 [.var 0, .var 1, .var 2])]
def d8 : Def := ⟨3, [], 0, 3, b8⟩
def D8 : He.DefD := mkD "power" s8
abbrev s9 : Stmt := top 15
def n9 : List Str := ["p", "number"]
def b9 : List S := [
  .expr (.call 3 [.var 0]),
  .expr (.call 5 [.var 0, .lst [.var 1]]),
  .ret (.ife (.cmp .eq (.var 1) (.int 0)) (.non) (.call 7 [.var 0, .var 1]))]
def d9 : Def := ⟨2, [], 0, 2, b9⟩
def D9 : He.DefD := mkD "inverse" s9
abbrev s10 : Stmt := top 16
def n10 : List Str := ["p", "number", "many"]
def b10 : List S := [
  .expr (.call 3 [.var 0]),
  .expr (.call 5 [.var 0, .lst [.var 1]]),
  .ife (.cmp .eq (.var 1) (.int 0)) [.ret (.non)] [],
  .ret (.bi .min1 [.comp (.var 2) (.name 2) .range [.int 1, .var 0] (some (.cmp .eq (.call 6 [.var 0, .var 1, .var 2]) (.int 1))) [2]])]
def d10 : Def := ⟨2, [], 1, 3, b10⟩
def D10 : He.DefD := mkD "order_of" s10
abbrev s11 : Stmt := top 17
def n11 : List Str := ["p", "number"]
def b11 : List S := [
  .expr (.call 3 [.var 0]),
  .ret (.bi .min1 [.comp (.var 1) (.name 1) .range [.int 1, .var 0] (some (.cmp .eq (.call 10 [.var 0, .var 1]) (.bin .sub (.var 0) (.int 1)))) [1]])]
def d11 : Def := ⟨1, [], 1, 2, b11⟩
def D11 : He.DefD := mkD "least_maker" s11
abbrev s12 : Stmt := top 19
def n12 : List Str := ["script", "cells", "cell"]
def b12 : List S := [
  .asg 1 (.comp (.bi .abs [.bi .int [.var 2]]) (.name 2) .seq [.slc (.var 0) none (some (.int 63))] none [2]),
  .ret (.lst [.var 1, .int 0, .int 0, .bin .add (.int 31) (.bin .mul (.int 7) (.bi .len [.var 1])), .int 0])]
def d12 : Def := ⟨1, [], 1, 3, b12⟩
def D12 : He.DefD := mkD "_law_hand" s12
abbrev s13 : Stmt := top 20
def n13 : List Str := ["hand", "many", "cell", "digit", "number"]
def b13 : List S := [
  .ife (.bop true [.cmp .eq (.idx (.var 0) (.int 2)) (.int 0), .cmp .lt (.idx (.var 0) (.int 1)) (.bi .len [.idx (.var 0) (.int 0)])]) [.asg 2 (.idx (.idx (.var 0) (.int 0)) (.idx (.var 0) (.int 1))), .setI 0 [.int 1] (.bin .add (.idx (.var 0) (.int 1)) (.int 1)), .setI 0 [.int 3] (.bin .mod (.bi .int [.bin .add (.bin .add (.bin .mul (.idx (.var 0) (.int 3)) (.int 48271)) (.var 2)) (.int 11)]) (.int 2147483647)), .ife (.cmp .ge (.var 2) (.bin .pow (.int 10) (.int 18))) [.setI 0 [.int 2] (.var 2)] []] [],
  .ife (.cmp .gt (.idx (.var 0) (.int 2)) (.int 0)) [.asg 3 (.bin .mod (.bi .int [.idx (.var 0) (.int 2)]) (.var 1)), .setI 0 [.int 2] (.bin .fdiv (.idx (.var 0) (.int 2)) (.var 1)), .ret (.var 3)] [],
  .setI 0 [.int 4] (.bin .add (.idx (.var 0) (.int 4)) (.int 1)),
  .asg 4 (.bin .mod (.bi .int [.bin .mul (.bi .int [.bin .add (.idx (.var 0) (.int 3)) (.bin .mul (.int 6007) (.idx (.var 0) (.int 4)))]) (.int 69621)]) (.int 2147483629)),
  .asg 4 (.bin .mod (.bi .int [.bin .mul (.var 4) (.bin .add (.bin .fdiv (.var 4) (.int 1013)) (.int 48271))]) (.int 2147483647)),
  .asg 4 (.bin .mod (.bi .int [.bin .mul (.var 4) (.bin .add (.bin .fdiv (.var 4) (.int 2011)) (.int 16807))]) (.int 2147483587)),
  .ret (.bin .mod (.bi .int [.bin .fdiv (.var 4) (.int 32)]) (.var 1))]
def d13 : Def := ⟨2, [(0, 1)], 0, 5, b13⟩
def D13 : He.DefD := mkD "_law_draw" s13
abbrev s14 : Stmt := top 21
def n14 : List Str := ["hand", "things"]
def b14 : List S := [
  .ret (.idx (.var 1) (.call 13 [.io 0, .bi .len [.var 1]]))]
def d14 : Def := ⟨2, [(0, 1)], 0, 2, b14⟩
def D14 : He.DefD := mkD "_law_some" s14
abbrev s15 : Stmt := top 22
def n15 : List Str := ["told", "due", "at"]
def b15 : List S := [
  .ife (.bop false [.isi (.var 1) .tuple, .isi (.var 1) .list]) [.ife (.bop false [.cmp .ne (.isi (.var 0) .tuple) (.isi (.var 1) .tuple), .cmp .ne (.isi (.var 0) .list) (.isi (.var 1) .list)]) [.ret (.bl false)] [], .ret (.bop true [.cmp .eq (.bi .len [.var 0]) (.bi .len [.var 1]), .bi .all [.comp (.call 15 [.idx (.var 0) (.var 2), .idx (.var 1) (.var 2)]) (.name 2) .range [.bi .len [.var 1]] none [2]]])] [],
  .ife (.cmp .is_ (.var 1) (.non)) [.ret (.cmp .is_ (.var 0) (.non))] [],
  .ife (.isi (.var 1) .bool) [.ret (.ife (.var 1) (.cmp .is_ (.var 0) (.bl true)) (.cmp .is_ (.var 0) (.bl false)))] [],
  .ife (.isi (.var 1) .int) [.ret (.bop true [.isi (.var 0) .int, .not_ (.isi (.var 0) .bool), .cmp .eq (.var 0) (.var 1)])] [],
  .ret (.bop true [.isi (.var 0) .str, .cmp .eq (.var 0) (.var 1)])]
def d15 : Def := ⟨2, [], 1, 3, b15⟩
def D15 : He.DefD := mkD "_law_kept" s15
abbrev s16 : Stmt := top 23
def n16 : List Str := ["hand"]
def b16 : List S := [
  .ret (.call 14 [.io 0, .lst [.int 0, .int 1, .int 2, .int 4, .int 9, .int 91, .int 95, .int 101, .int 103, .neg (.int 3), .bl true, .non, .str "5", .tup [.int 5], .bin .mul (.int 3) (.bin .pow (.int 10) (.int 20))]])]
def d16 : Def := ⟨1, [(0, 1)], 0, 1, b16⟩
def D16 : He.DefD := mkD "_law_no_prime" s16
abbrev s17 : Stmt := top 24
def n17 : List Str := ["hand", "p"]
def b17 : List S := [
  .ret (.call 14 [.io 0, .lst [.neg (.int 1), .var 1, .bin .add (.var 1) (.int 1), .bl true, .non, .str "0", .tup [.int 0], .bin .pow (.int 10) (.int 30)]])]
def d17 : Def := ⟨2, [(0, 1)], 0, 2, b17⟩
def D17 : He.DefD := mkD "_law_no_number" s17
abbrev s18 : Stmt := top 25
def n18 : List Str := ["p", "number"]
def b18 : List S := [
  .ret (.bin .mod (.bi .int [.var 1]) (.var 0))]
def d18 : Def := ⟨2, [], 1, 2, b18⟩
def D18 : He.DefD := mkD "_law_rest" s18
abbrev s19 : Stmt := top 26
def n19 : List Str := ["p", "number", "other"]
def b19 : List S := [
  .ret (.idx (.comp (.var 2) (.name 2) .range [.var 0] (some (.cmp .eq (.call 18 [.var 0, .bin .mul (.var 1) (.var 2)]) (.int 1))) [2]) (.int 0))]
def d19 : Def := ⟨2, [], 0, 3, b19⟩
def D19 : He.DefD := mkD "_law_inverse" s19
abbrev s20 : Stmt := top 27
def n20 : List Str := ["kind", "p", "number", "many", "e"]
def b20 : List S := [
  .try_ [.ife (.cmp .eq (.var 0) (.int 0)) [.expr (.call 8 [.var 1, .var 2, .var 3])] [.ife (.cmp .eq (.var 0) (.int 1)) [.expr (.call 9 [.var 1, .var 2])] [.ife (.cmp .eq (.var 0) (.int 2)) [.expr (.call 10 [.var 1, .var 2])] [.expr (.call 11 [.var 1])]]], .ret (.str "none")] [(1, some 4, [.ret (.str "prime")]), (2, some 4, [.ret (.str "number")]), (0, none, [.ret (.str "other")])]]
def d20 : Def := ⟨4, [], 9, 5, b20⟩
def D20 : He.DefD := mkD "_law_refusal" s20
abbrev s21 : Stmt := top 28
def n21 : List Str := ["script", "hand", "primes", "turn", "p", "number", "many", "due", "step", "orders", "other", "here", "count", "bad", "odd", "thing", "kind"]
def b21 : List S := [
  .asg 1 (.call 12 [.var 0]),
  .asg 2 (.comp (.var 4) (.name 4) .range [.int 3, .int 98] (some (.bi .all [.comp (.cmp .ne (.call 18 [.var 10, .var 4]) (.int 0)) (.name 10) .range [.int 2, .var 4] none [10]])) [4]),
  .for_ (.name 3) .range [.int 6] [.asg 4 (.call 14 [.io 1, .var 2]), .par [5, 6] [.call 13 [.io 1, .var 4], .call 13 [.io 1, .idx (.lst [.int 20, .int 1001]) (.call 13 [.io 1, .int 2])]], .asg 7 (.int 1), .for_ (.name 8) .range [.var 6] [.asg 7 (.call 18 [.var 4, .bin .mul (.var 7) (.var 5)])], .ife (.bop false [.not_ (.call 15 [.call 8 [.var 4, .var 5, .var 6], .var 7]), .cmp .isn (.call 2 [.var 4]) (.bl true)]) [.ret (.bl false)] [], .ife (.not_ (.call 15 [.call 9 [.var 4, .var 5], .ife (.cmp .eq (.var 5) (.int 0)) (.non) (.call 19 [.var 4, .var 5])])) [.ret (.bl false)] [], .asg 9 (.lst []), .for_ (.name 10) .range [.int 1, .var 4] [.par [11, 12] [.var 10, .int 1], .while_ (.cmp .ne (.var 11) (.int 1)) [.par [11, 12] [.call 18 [.var 4, .bin .mul (.var 11) (.var 10)], .bin .add (.var 12) (.int 1)]], .append 9 [] (.var 12)], .ife (.bop false [.not_ (.call 15 [.call 10 [.var 4, .var 5], .ife (.cmp .eq (.var 5) (.int 0)) (.non) (.idx (.var 9) (.bin .sub (.var 5) (.int 1)))]), .not_ (.call 15 [.call 11 [.var 4], .bin .add (.index (.var 9) (.bin .sub (.var 4) (.int 1))) (.int 1)])]) [.ret (.bl false)] [], .asgT (.tup [.name 13, .name 14]) (.tup [.call 16 [.io 1], .call 17 [.io 1, .var 4]]), .ife (.bop false [.cmp .isn (.call 2 [.var 13]) (.bl false), .cmp .ne (.comp (.call 20 [.var 16, .var 13, .non, .non]) (.name 16) .range [.int 4] none [16]) (.bin .mul (.lst [.str "prime"]) (.int 4))]) [.ret (.bl false)] [], .ife (.bop false [.cmp .ne (.comp (.call 20 [.var 16, .var 4, .var 14, .int 1]) (.name 16) .range [.int 3] none [16]) (.bin .mul (.lst [.str "number"]) (.int 3)), .cmp .ne (.call 20 [.int 0, .var 4, .int 0, .call 14 [.io 1, .lst [.neg (.int 1), .int 1001, .bl true, .non]]]) (.str "number")]) [.ret (.bl false)] []],
  .ret (.cmp .eq (.comp (.var 15) (.name 15) .range [.neg (.int 3), .int 120] (some (.call 2 [.var 15])) [15]) (.var 2))]
def d21 : Def := ⟨1, [], 9, 17, b21⟩
def D21 : He.DefD := mkD "law" s21
def fnNames : List Str := ["is_integer", "is_between", "is_prime", "need_prime", "is_number", "need_numbers", "power_of", "inverse_of", "power", "inverse", "order_of", "least_maker", "_law_hand", "_law_draw", "_law_some", "_law_kept", "_law_no_prime", "_law_no_number", "_law_rest", "_law_inverse", "_law_refusal", "law"]
def T : Tab := ⟨fnNames, ["MOST_PRIME"], ["PlayError", "NoPrime", "NoNumber"], ["", "", ""]⟩
def Pr : Prog := ⟨[d0, d1, d2, d3, d4, d5, d6, d7, d8, d9, d10, d11, d12, d13, d14, d15, d16, d17, d18, d19, d20, d21], [.int 97]⟩
def fn : List He.DefD := [D0, D1, D2, D3, D4, D5, D6, D7, D8, D9, D10, D11, D12, D13, D14, D15, D16, D17, D18, D19, D20, D21]
theorem c0 : ckDef T Pr.defs n0 d0 D0 = true := by decide +kernel
theorem c1 : ckDef T Pr.defs n1 d1 D1 = true := by decide +kernel
theorem c2 : ckDef T Pr.defs n2 d2 D2 = true := by decide +kernel
theorem c3 : ckDef T Pr.defs n3 d3 D3 = true := by decide +kernel
theorem c4 : ckDef T Pr.defs n4 d4 D4 = true := by decide +kernel
theorem c5 : ckDef T Pr.defs n5 d5 D5 = true := by decide +kernel
theorem c6 : ckDef T Pr.defs n6 d6 D6 = true := by decide +kernel
theorem c7 : ckDef T Pr.defs n7 d7 D7 = true := by decide +kernel
theorem c8 : ckDef T Pr.defs n8 d8 D8 = true := by decide +kernel
theorem c9 : ckDef T Pr.defs n9 d9 D9 = true := by decide +kernel
theorem c10 : ckDef T Pr.defs n10 d10 D10 = true := by decide +kernel
theorem c11 : ckDef T Pr.defs n11 d11 D11 = true := by decide +kernel
theorem c12 : ckDef T Pr.defs n12 d12 D12 = true := by decide +kernel
theorem c13 : ckDef T Pr.defs n13 d13 D13 = true := by decide +kernel
theorem c14 : ckDef T Pr.defs n14 d14 D14 = true := by decide +kernel
theorem c15 : ckDef T Pr.defs n15 d15 D15 = true := by decide +kernel
theorem c16 : ckDef T Pr.defs n16 d16 D16 = true := by decide +kernel
theorem c17 : ckDef T Pr.defs n17 d17 D17 = true := by decide +kernel
theorem c18 : ckDef T Pr.defs n18 d18 D18 = true := by decide +kernel
theorem c19 : ckDef T Pr.defs n19 d19 D19 = true := by decide +kernel
theorem c20 : ckDef T Pr.defs n20 d20 D20 = true := by decide +kernel
theorem c21 : ckDef T Pr.defs n21 d21 D21 = true := by decide +kernel
section
variable {K : PySem.W.Frag} {fd : FuncData} {a : Addr}
theorem B0 (F : L2.FunD K D0.name D0.qual D0.params D0.body D0.scope [] [] a fd) : L2.Binds K fd (n0.take d0.ar) [] := F.bindsN fun _ _ _ _ _ _ us hl => match us, hl with | [_], _ => rfl
theorem B1 (F : L2.FunD K D1.name D1.qual D1.params D1.body D1.scope [] [] a fd) : L2.Binds K fd (n1.take d1.ar) [] := F.bindsN fun _ _ _ _ _ _ us hl => match us, hl with | [_, _, _], _ => rfl
theorem B2 (F : L2.FunD K D2.name D2.qual D2.params D2.body D2.scope [] [] a fd) : L2.Binds K fd (n2.take d2.ar) [] := F.bindsN fun _ _ _ _ _ _ us hl => match us, hl with | [_], _ => rfl
theorem B3 (F : L2.FunD K D3.name D3.qual D3.params D3.body D3.scope [] [] a fd) : L2.Binds K fd (n3.take d3.ar) [] := F.bindsN fun _ _ _ _ _ _ us hl => match us, hl with | [_], _ => rfl
theorem B4 (F : L2.FunD K D4.name D4.qual D4.params D4.body D4.scope [] [] a fd) : L2.Binds K fd (n4.take d4.ar) [] := F.bindsN fun _ _ _ _ _ _ us hl => match us, hl with | [_, _], _ => rfl
theorem B5 (F : L2.FunD K D5.name D5.qual D5.params D5.body D5.scope [] [] a fd) : L2.Binds K fd (n5.take d5.ar) [] := F.bindsN fun _ _ _ _ _ _ us hl => match us, hl with | [_, _], _ => rfl
theorem B6 (F : L2.FunD K D6.name D6.qual D6.params D6.body D6.scope [] [] a fd) : L2.Binds K fd (n6.take d6.ar) [] := F.bindsN fun _ _ _ _ _ _ us hl => match us, hl with | [_, _, _], _ => rfl
theorem B7 (F : L2.FunD K D7.name D7.qual D7.params D7.body D7.scope [] [] a fd) : L2.Binds K fd (n7.take d7.ar) [] := F.bindsN fun _ _ _ _ _ _ us hl => match us, hl with | [_, _], _ => rfl
theorem B8 (F : L2.FunD K D8.name D8.qual D8.params D8.body D8.scope [] [] a fd) : L2.Binds K fd (n8.take d8.ar) [] := F.bindsN fun _ _ _ _ _ _ us hl => match us, hl with | [_, _, _], _ => rfl
theorem B9 (F : L2.FunD K D9.name D9.qual D9.params D9.body D9.scope [] [] a fd) : L2.Binds K fd (n9.take d9.ar) [] := F.bindsN fun _ _ _ _ _ _ us hl => match us, hl with | [_, _], _ => rfl
theorem B10 (F : L2.FunD K D10.name D10.qual D10.params D10.body D10.scope [] [] a fd) : L2.Binds K fd (n10.take d10.ar) [] := F.bindsN fun _ _ _ _ _ _ us hl => match us, hl with | [_, _], _ => rfl
theorem B11 (F : L2.FunD K D11.name D11.qual D11.params D11.body D11.scope [] [] a fd) : L2.Binds K fd (n11.take d11.ar) [] := F.bindsN fun _ _ _ _ _ _ us hl => match us, hl with | [_], _ => rfl
theorem B12 (F : L2.FunD K D12.name D12.qual D12.params D12.body D12.scope [] [] a fd) : L2.Binds K fd (n12.take d12.ar) [] := F.bindsN fun _ _ _ _ _ _ us hl => match us, hl with | [_], _ => rfl
theorem B13 (F : L2.FunD K D13.name D13.qual D13.params D13.body D13.scope [] [] a fd) : L2.Binds K fd (n13.take d13.ar) [] := F.bindsN fun _ _ _ _ _ _ us hl => match us, hl with | [_, _], _ => rfl
theorem B14 (F : L2.FunD K D14.name D14.qual D14.params D14.body D14.scope [] [] a fd) : L2.Binds K fd (n14.take d14.ar) [] := F.bindsN fun _ _ _ _ _ _ us hl => match us, hl with | [_, _], _ => rfl
theorem B15 (F : L2.FunD K D15.name D15.qual D15.params D15.body D15.scope [] [] a fd) : L2.Binds K fd (n15.take d15.ar) [] := F.bindsN fun _ _ _ _ _ _ us hl => match us, hl with | [_, _], _ => rfl
theorem B16 (F : L2.FunD K D16.name D16.qual D16.params D16.body D16.scope [] [] a fd) : L2.Binds K fd (n16.take d16.ar) [] := F.bindsN fun _ _ _ _ _ _ us hl => match us, hl with | [_], _ => rfl
theorem B17 (F : L2.FunD K D17.name D17.qual D17.params D17.body D17.scope [] [] a fd) : L2.Binds K fd (n17.take d17.ar) [] := F.bindsN fun _ _ _ _ _ _ us hl => match us, hl with | [_, _], _ => rfl
theorem B18 (F : L2.FunD K D18.name D18.qual D18.params D18.body D18.scope [] [] a fd) : L2.Binds K fd (n18.take d18.ar) [] := F.bindsN fun _ _ _ _ _ _ us hl => match us, hl with | [_, _], _ => rfl
theorem B19 (F : L2.FunD K D19.name D19.qual D19.params D19.body D19.scope [] [] a fd) : L2.Binds K fd (n19.take d19.ar) [] := F.bindsN fun _ _ _ _ _ _ us hl => match us, hl with | [_, _], _ => rfl
theorem B20 (F : L2.FunD K D20.name D20.qual D20.params D20.body D20.scope [] [] a fd) : L2.Binds K fd (n20.take d20.ar) [] := F.bindsN fun _ _ _ _ _ _ us hl => match us, hl with | [_, _, _, _], _ => rfl
theorem B21 (F : L2.FunD K D21.name D21.qual D21.params D21.body D21.scope [] [] a fd) : L2.Binds K fd (n21.take d21.ar) [] := F.bindsN fun _ _ _ _ _ _ us hl => match us, hl with | [_], _ => rfl
end
theorem alld (f : Nat) (d : Def) (x : Str) (h1 : Pr.defs[f]? = some d) (h2 : T.fn[f]? = some x) : ∃ (dd : He.DefD) (N : List Str), dd ∈ fn ∧ dd.at_ = (x, none) ∧ dd.dfl = [] ∧ dd.kwd = [] ∧ ckDef T Pr.defs N d dd = true ∧ ∀ (K : PySem.W.Frag) fd a, L2.FunD K dd.name dd.qual dd.params dd.body dd.scope [] [] a fd → L2.Binds K fd (N.take d.ar) [] := by
  match f, h1, h2 with
  | 0, h1, h2 => cases h1; cases h2; exact ⟨D0, n0, by simp [fn], rfl, rfl, rfl, c0, fun K fd a F => B0 F⟩
  | 1, h1, h2 => cases h1; cases h2; exact ⟨D1, n1, by simp [fn], rfl, rfl, rfl, c1, fun K fd a F => B1 F⟩
  | 2, h1, h2 => cases h1; cases h2; exact ⟨D2, n2, by simp [fn], rfl, rfl, rfl, c2, fun K fd a F => B2 F⟩
  | 3, h1, h2 => cases h1; cases h2; exact ⟨D3, n3, by simp [fn], rfl, rfl, rfl, c3, fun K fd a F => B3 F⟩
  | 4, h1, h2 => cases h1; cases h2; exact ⟨D4, n4, by simp [fn], rfl, rfl, rfl, c4, fun K fd a F => B4 F⟩
  | 5, h1, h2 => cases h1; cases h2; exact ⟨D5, n5, by simp [fn], rfl, rfl, rfl, c5, fun K fd a F => B5 F⟩
  | 6, h1, h2 => cases h1; cases h2; exact ⟨D6, n6, by simp [fn], rfl, rfl, rfl, c6, fun K fd a F => B6 F⟩
  | 7, h1, h2 => cases h1; cases h2; exact ⟨D7, n7, by simp [fn], rfl, rfl, rfl, c7, fun K fd a F => B7 F⟩
  | 8, h1, h2 => cases h1; cases h2; exact ⟨D8, n8, by simp [fn], rfl, rfl, rfl, c8, fun K fd a F => B8 F⟩
  | 9, h1, h2 => cases h1; cases h2; exact ⟨D9, n9, by simp [fn], rfl, rfl, rfl, c9, fun K fd a F => B9 F⟩
  | 10, h1, h2 => cases h1; cases h2; exact ⟨D10, n10, by simp [fn], rfl, rfl, rfl, c10, fun K fd a F => B10 F⟩
  | 11, h1, h2 => cases h1; cases h2; exact ⟨D11, n11, by simp [fn], rfl, rfl, rfl, c11, fun K fd a F => B11 F⟩
  | 12, h1, h2 => cases h1; cases h2; exact ⟨D12, n12, by simp [fn], rfl, rfl, rfl, c12, fun K fd a F => B12 F⟩
  | 13, h1, h2 => cases h1; cases h2; exact ⟨D13, n13, by simp [fn], rfl, rfl, rfl, c13, fun K fd a F => B13 F⟩
  | 14, h1, h2 => cases h1; cases h2; exact ⟨D14, n14, by simp [fn], rfl, rfl, rfl, c14, fun K fd a F => B14 F⟩
  | 15, h1, h2 => cases h1; cases h2; exact ⟨D15, n15, by simp [fn], rfl, rfl, rfl, c15, fun K fd a F => B15 F⟩
  | 16, h1, h2 => cases h1; cases h2; exact ⟨D16, n16, by simp [fn], rfl, rfl, rfl, c16, fun K fd a F => B16 F⟩
  | 17, h1, h2 => cases h1; cases h2; exact ⟨D17, n17, by simp [fn], rfl, rfl, rfl, c17, fun K fd a F => B17 F⟩
  | 18, h1, h2 => cases h1; cases h2; exact ⟨D18, n18, by simp [fn], rfl, rfl, rfl, c18, fun K fd a F => B18 F⟩
  | 19, h1, h2 => cases h1; cases h2; exact ⟨D19, n19, by simp [fn], rfl, rfl, rfl, c19, fun K fd a F => B19 F⟩
  | 20, h1, h2 => cases h1; cases h2; exact ⟨D20, n20, by simp [fn], rfl, rfl, rfl, c20, fun K fd a F => B20 F⟩
  | 21, h1, h2 => cases h1; cases h2; exact ⟨D21, n21, by simp [fn], rfl, rfl, rfl, c21, fun K fd a F => B21 F⟩
  | n + 22, h1, h2 => cases h1
end K01
end -- data

section -- specs
set_option linter.all false
set_option maxRecDepth 100000
set_option maxHeartbeats 0
namespace K01
open PySem TL
/-! ### kinds, bounds -/
theorem sp0 {t : TV} (ht : plainT t = true) : Does Pr 1 0 [t] (.bl (isI t)) [] := by
  refine does_of rfl rfl fun n hn K X hK => ?_
  simp only [d0, b0, ty_i ht, ty_b ht, wpSs, wpS, wpE, wpT, wpV, wpB, wpEs, wpO, wpC, fillIo, backIo, finals, bindTg, bindTgs, List.map_cons, List.map_nil, List.replicate_succ, List.replicate_zero, List.cons_append, List.nil_append, List.set_cons_zero, List.set_cons_succ, Nat.reduceSub, Nat.reduceAdd, g_0, g_1, g_2, g_3, g_4, g_5, g_6, g_7, g_8, g_9, a_ok, a_add, a_addS, a_addL, a_addT, a_sub, a_mul, a_mulL, a_mulT, a_mod, a_fdiv, a_pow, a_augadd, a_augsub, a_neg, a_lt, a_le, a_gt, a_ge, a_eq, a_ne, a_isN, a_isnN, a_isB, a_isnB, a_truB, a_truI, a_truN, a_truT, a_truL, a_lenT, a_lenL, a_abs, a_int, a_strI, a_max2, a_min2, a_listL, a_listT, a_tupL, a_tupT, a_range1, a_range2, a_seqT, a_seqL, a_enumT, a_enumL, a_zipT, a_zipL, a_idxL, a_idxT, a_cutL, a_cutT, a_cutS, a_revT, a_revL, at_0, at_1, at_2, at_3, at_4, at_5, a_okk, Option.bind_some, pu_0, pu_1, pu_2, pu_3, pu_4, f_int, f_bl, f_non, e_int, e_bl, e_str, true_and, and_true, and_self, decide_eq_true_eq, if_true, if_false, wipe, restore, List.getElem?_cons_zero, List.getElem?_cons_succ, Option.getD_some, Option.getD_none, Bool.not_true, Bool.not_false, Bool.true_and, Bool.false_and, Bool.and_true, Bool.and_false, Bool.or_true, Bool.true_or, Bool.or_false, Bool.false_or, if_true, if_false, Bool.false_eq_true, Bool.true_eq_false, Bool.not_eq_true', decide_eq_false_iff_not, ty_int_int, ty_int_bool, ty_int_str, ty_int_tuple, ty_int_list, ty_bl_int, ty_bl_bool, ty_bl_str, ty_bl_tuple, ty_bl_list, ty_non_int, ty_non_bool, ty_non_str, ty_non_tuple, ty_non_list, ty_str_int, ty_str_bool, ty_str_str, ty_str_tuple, ty_str_list, ty_tup_int, ty_tup_bool, ty_tup_str, ty_tup_tuple, ty_tup_list, ty_lst_int, ty_lst_bool, ty_lst_str, ty_lst_tuple, ty_lst_list, wpH, isSub, Nat.reduceBEq, beq_self_eq_true, isNon, g_10, g_11, g_12, g_13, g_14, g_15, g_16, g_17, g_18, g_19, g_20, g_21, g_22, g_23, g_24, g_25, g_26, g_27, g_28, g_29, g_30, setAll, la_0, ap_0, isL_l]
  cases t <;> simp_all [isI, isB, plainT]
def betw (t : TV) (lo hi : Int) : Bool := match t with
  | .int i => decide (lo ≤ i) && decide (i ≤ hi)
  | _ => false
theorem sp1 {t : TV} {lo hi : Int} (ht : plainT t = true) : Does Pr 2 1 [t, .int lo, .int hi] (.bl (betw t lo hi)) [] := by
  refine does_of rfl rfl fun n hn K X hK => ?_
  simp only [d1, b1, wpSs, wpS, wpE, wpT, wpV, wpB, wpEs, wpO, wpC, fillIo, backIo, finals, bindTg, bindTgs, List.map_cons, List.map_nil, List.replicate_succ, List.replicate_zero, List.cons_append, List.nil_append, List.set_cons_zero, List.set_cons_succ, Nat.reduceSub, Nat.reduceAdd, g_0, g_1, g_2, g_3, g_4, g_5, g_6, g_7, g_8, g_9, a_ok, a_add, a_addS, a_addL, a_addT, a_sub, a_mul, a_mulL, a_mulT, a_mod, a_fdiv, a_pow, a_augadd, a_augsub, a_neg, a_lt, a_le, a_gt, a_ge, a_eq, a_ne, a_isN, a_isnN, a_isB, a_isnB, a_truB, a_truI, a_truN, a_truT, a_truL, a_lenT, a_lenL, a_abs, a_int, a_strI, a_max2, a_min2, a_listL, a_listT, a_tupL, a_tupT, a_range1, a_range2, a_seqT, a_seqL, a_enumT, a_enumL, a_zipT, a_zipL, a_idxL, a_idxT, a_cutL, a_cutT, a_cutS, a_revT, a_revL, at_0, at_1, at_2, at_3, at_4, at_5, a_okk, Option.bind_some, pu_0, pu_1, pu_2, pu_3, pu_4, f_int, f_bl, f_non, e_int, e_bl, e_str, true_and, and_true, and_self, decide_eq_true_eq, if_true, if_false, wipe, restore, List.getElem?_cons_zero, List.getElem?_cons_succ, Option.getD_some, Option.getD_none, Bool.not_true, Bool.not_false, Bool.true_and, Bool.false_and, Bool.and_true, Bool.and_false, Bool.or_true, Bool.true_or, Bool.or_false, Bool.false_or, if_true, if_false, Bool.false_eq_true, Bool.true_eq_false, Bool.not_eq_true', decide_eq_false_iff_not, ty_int_int, ty_int_bool, ty_int_str, ty_int_tuple, ty_int_list, ty_bl_int, ty_bl_bool, ty_bl_str, ty_bl_tuple, ty_bl_list, ty_non_int, ty_non_bool, ty_non_str, ty_non_tuple, ty_non_list, ty_str_int, ty_str_bool, ty_str_str, ty_str_tuple, ty_str_list, ty_tup_int, ty_tup_bool, ty_tup_str, ty_tup_tuple, ty_tup_list, ty_lst_int, ty_lst_bool, ty_lst_str, ty_lst_tuple, ty_lst_list, wpH, isSub, Nat.reduceBEq, beq_self_eq_true, isNon, g_10, g_11, g_12, g_13, g_14, g_15, g_16, g_17, g_18, g_19, g_20, g_21, g_22, g_23, g_24, g_25, g_26, g_27, g_28, g_29, g_30, setAll, la_0, ap_0, isL_l]
  refine sp0 ht n (by omega) _ _ ?_
  simp only [wpSs, wpS, wpE, wpT, wpV, wpB, wpEs, wpO, wpC, fillIo, backIo, finals, bindTg, bindTgs, List.map_cons, List.map_nil, List.replicate_succ, List.replicate_zero, List.cons_append, List.nil_append, List.set_cons_zero, List.set_cons_succ, Nat.reduceSub, Nat.reduceAdd, g_0, g_1, g_2, g_3, g_4, g_5, g_6, g_7, g_8, g_9, a_ok, a_add, a_addS, a_addL, a_addT, a_sub, a_mul, a_mulL, a_mulT, a_mod, a_fdiv, a_pow, a_augadd, a_augsub, a_neg, a_lt, a_le, a_gt, a_ge, a_eq, a_ne, a_isN, a_isnN, a_isB, a_isnB, a_truB, a_truI, a_truN, a_truT, a_truL, a_lenT, a_lenL, a_abs, a_int, a_strI, a_max2, a_min2, a_listL, a_listT, a_tupL, a_tupT, a_range1, a_range2, a_seqT, a_seqL, a_enumT, a_enumL, a_zipT, a_zipL, a_idxL, a_idxT, a_cutL, a_cutT, a_cutS, a_revT, a_revL, at_0, at_1, at_2, at_3, at_4, at_5, a_okk, Option.bind_some, pu_0, pu_1, pu_2, pu_3, pu_4, f_int, f_bl, f_non, e_int, e_bl, e_str, true_and, and_true, and_self, decide_eq_true_eq, if_true, if_false, wipe, restore, List.getElem?_cons_zero, List.getElem?_cons_succ, Option.getD_some, Option.getD_none, Bool.not_true, Bool.not_false, Bool.true_and, Bool.false_and, Bool.and_true, Bool.and_false, Bool.or_true, Bool.true_or, Bool.or_false, Bool.false_or, if_true, if_false, Bool.false_eq_true, Bool.true_eq_false, Bool.not_eq_true', decide_eq_false_iff_not, ty_int_int, ty_int_bool, ty_int_str, ty_int_tuple, ty_int_list, ty_bl_int, ty_bl_bool, ty_bl_str, ty_bl_tuple, ty_bl_list, ty_non_int, ty_non_bool, ty_non_str, ty_non_tuple, ty_non_list, ty_str_int, ty_str_bool, ty_str_str, ty_str_tuple, ty_str_list, ty_tup_int, ty_tup_bool, ty_tup_str, ty_tup_tuple, ty_tup_list, ty_lst_int, ty_lst_bool, ty_lst_str, ty_lst_tuple, ty_lst_list, wpH, isSub, Nat.reduceBEq, beq_self_eq_true, isNon, g_10, g_11, g_12, g_13, g_14, g_15, g_16, g_17, g_18, g_19, g_20, g_21, g_22, g_23, g_24, g_25, g_26, g_27, g_28, g_29, g_30, setAll, la_0, ap_0, isL_l]
  cases t <;> simp only [isI, betw, wpSs, wpS, wpE, wpT, wpV, wpB, wpEs, wpO, wpC, fillIo, backIo, finals, bindTg, bindTgs, List.map_cons, List.map_nil, List.replicate_succ, List.replicate_zero, List.cons_append, List.nil_append, List.set_cons_zero, List.set_cons_succ, Nat.reduceSub, Nat.reduceAdd, g_0, g_1, g_2, g_3, g_4, g_5, g_6, g_7, g_8, g_9, a_ok, a_add, a_addS, a_addL, a_addT, a_sub, a_mul, a_mulL, a_mulT, a_mod, a_fdiv, a_pow, a_augadd, a_augsub, a_neg, a_lt, a_le, a_gt, a_ge, a_eq, a_ne, a_isN, a_isnN, a_isB, a_isnB, a_truB, a_truI, a_truN, a_truT, a_truL, a_lenT, a_lenL, a_abs, a_int, a_strI, a_max2, a_min2, a_listL, a_listT, a_tupL, a_tupT, a_range1, a_range2, a_seqT, a_seqL, a_enumT, a_enumL, a_zipT, a_zipL, a_idxL, a_idxT, a_cutL, a_cutT, a_cutS, a_revT, a_revL, at_0, at_1, at_2, at_3, at_4, at_5, a_okk, Option.bind_some, pu_0, pu_1, pu_2, pu_3, pu_4, f_int, f_bl, f_non, e_int, e_bl, e_str, true_and, and_true, and_self, decide_eq_true_eq, if_true, if_false, wipe, restore, List.getElem?_cons_zero, List.getElem?_cons_succ, Option.getD_some, Option.getD_none, Bool.not_true, Bool.not_false, Bool.true_and, Bool.false_and, Bool.and_true, Bool.and_false, Bool.or_true, Bool.true_or, Bool.or_false, Bool.false_or, if_true, if_false, Bool.false_eq_true, Bool.true_eq_false, Bool.not_eq_true', decide_eq_false_iff_not, ty_int_int, ty_int_bool, ty_int_str, ty_int_tuple, ty_int_list, ty_bl_int, ty_bl_bool, ty_bl_str, ty_bl_tuple, ty_bl_list, ty_non_int, ty_non_bool, ty_non_str, ty_non_tuple, ty_non_list, ty_str_int, ty_str_bool, ty_str_str, ty_str_tuple, ty_str_list, ty_tup_int, ty_tup_bool, ty_tup_str, ty_tup_tuple, ty_tup_list, ty_lst_int, ty_lst_bool, ty_lst_str, ty_lst_tuple, ty_lst_list, wpH, isSub, Nat.reduceBEq, beq_self_eq_true, isNon, g_10, g_11, g_12, g_13, g_14, g_15, g_16, g_17, g_18, g_19, g_20, g_21, g_22, g_23, g_24, g_25, g_26, g_27, g_28, g_29, g_30, setAll, la_0, ap_0, isL_l] at * <;> try exact hK
  split
  · rename_i h; simpa [h] using hK
  · rename_i h; simpa [h] using hK
def primeB (t : TV) : Bool := match t with
  | .int i => decide (3 ≤ i) && decide (i ≤ 97) && (rangeI 2 (i - 2).toNat).all fun x => !decide (i % x = 0)
  | _ => false
theorem betw_int {t : TV} {lo hi : Int} (h : betw t lo hi = true) : ∃ i, t = .int i ∧ lo ≤ i ∧ i ≤ hi := by
  cases t <;> simp [betw] at h
  exact ⟨_, rfl, h⟩
theorem sp2 {t : TV} (ht : plainT t = true) : Does Pr 3 2 [t] (.bl (primeB t)) [] := by
  refine does_of rfl rfl fun n hn K X hK => ?_
  simp only [d2, b2, wpSs, wpS, wpE, wpT, wpV, wpB, wpEs, wpO, wpC, fillIo, backIo, finals, bindTg, bindTgs, List.map_cons, List.map_nil, List.replicate_succ, List.replicate_zero, List.cons_append, List.nil_append, List.set_cons_zero, List.set_cons_succ, Nat.reduceSub, Nat.reduceAdd, g_0, g_1, g_2, g_3, g_4, g_5, g_6, g_7, g_8, g_9, a_ok, a_add, a_addS, a_addL, a_addT, a_sub, a_mul, a_mulL, a_mulT, a_mod, a_fdiv, a_pow, a_augadd, a_augsub, a_neg, a_lt, a_le, a_gt, a_ge, a_eq, a_ne, a_isN, a_isnN, a_isB, a_isnB, a_truB, a_truI, a_truN, a_truT, a_truL, a_lenT, a_lenL, a_abs, a_int, a_strI, a_max2, a_min2, a_listL, a_listT, a_tupL, a_tupT, a_range1, a_range2, a_seqT, a_seqL, a_enumT, a_enumL, a_zipT, a_zipL, a_idxL, a_idxT, a_cutL, a_cutT, a_cutS, a_revT, a_revL, at_0, at_1, at_2, at_3, at_4, at_5, a_okk, Option.bind_some, pu_0, pu_1, pu_2, pu_3, pu_4, f_int, f_bl, f_non, e_int, e_bl, e_str, true_and, and_true, and_self, decide_eq_true_eq, if_true, if_false, wipe, restore, List.getElem?_cons_zero, List.getElem?_cons_succ, Option.getD_some, Option.getD_none, Bool.not_true, Bool.not_false, Bool.true_and, Bool.false_and, Bool.and_true, Bool.and_false, Bool.or_true, Bool.true_or, Bool.or_false, Bool.false_or, if_true, if_false, Bool.false_eq_true, Bool.true_eq_false, Bool.not_eq_true', decide_eq_false_iff_not, ty_int_int, ty_int_bool, ty_int_str, ty_int_tuple, ty_int_list, ty_bl_int, ty_bl_bool, ty_bl_str, ty_bl_tuple, ty_bl_list, ty_non_int, ty_non_bool, ty_non_str, ty_non_tuple, ty_non_list, ty_str_int, ty_str_bool, ty_str_str, ty_str_tuple, ty_str_list, ty_tup_int, ty_tup_bool, ty_tup_str, ty_tup_tuple, ty_tup_list, ty_lst_int, ty_lst_bool, ty_lst_str, ty_lst_tuple, ty_lst_list, wpH, isSub, Nat.reduceBEq, beq_self_eq_true, isNon, g_10, g_11, g_12, g_13, g_14, g_15, g_16, g_17, g_18, g_19, g_20, g_21, g_22, g_23, g_24, g_25, g_26, g_27, g_28, g_29, g_30, setAll, la_0, ap_0, isL_l]
  refine sp1 ht n (by omega) _ _ ?_
  simp only [wpSs, wpS, wpE, wpT, wpV, wpB, wpEs, wpO, wpC, fillIo, backIo, finals, bindTg, bindTgs, List.map_cons, List.map_nil, List.replicate_succ, List.replicate_zero, List.cons_append, List.nil_append, List.set_cons_zero, List.set_cons_succ, Nat.reduceSub, Nat.reduceAdd, g_0, g_1, g_2, g_3, g_4, g_5, g_6, g_7, g_8, g_9, a_ok, a_add, a_addS, a_addL, a_addT, a_sub, a_mul, a_mulL, a_mulT, a_mod, a_fdiv, a_pow, a_augadd, a_augsub, a_neg, a_lt, a_le, a_gt, a_ge, a_eq, a_ne, a_isN, a_isnN, a_isB, a_isnB, a_truB, a_truI, a_truN, a_truT, a_truL, a_lenT, a_lenL, a_abs, a_int, a_strI, a_max2, a_min2, a_listL, a_listT, a_tupL, a_tupT, a_range1, a_range2, a_seqT, a_seqL, a_enumT, a_enumL, a_zipT, a_zipL, a_idxL, a_idxT, a_cutL, a_cutT, a_cutS, a_revT, a_revL, at_0, at_1, at_2, at_3, at_4, at_5, a_okk, Option.bind_some, pu_0, pu_1, pu_2, pu_3, pu_4, f_int, f_bl, f_non, e_int, e_bl, e_str, true_and, and_true, and_self, decide_eq_true_eq, if_true, if_false, wipe, restore, List.getElem?_cons_zero, List.getElem?_cons_succ, Option.getD_some, Option.getD_none, Bool.not_true, Bool.not_false, Bool.true_and, Bool.false_and, Bool.and_true, Bool.and_false, Bool.or_true, Bool.true_or, Bool.or_false, Bool.false_or, if_true, if_false, Bool.false_eq_true, Bool.true_eq_false, Bool.not_eq_true', decide_eq_false_iff_not, ty_int_int, ty_int_bool, ty_int_str, ty_int_tuple, ty_int_list, ty_bl_int, ty_bl_bool, ty_bl_str, ty_bl_tuple, ty_bl_list, ty_non_int, ty_non_bool, ty_non_str, ty_non_tuple, ty_non_list, ty_str_int, ty_str_bool, ty_str_str, ty_str_tuple, ty_str_list, ty_tup_int, ty_tup_bool, ty_tup_str, ty_tup_tuple, ty_tup_list, ty_lst_int, ty_lst_bool, ty_lst_str, ty_lst_tuple, ty_lst_list, wpH, isSub, Nat.reduceBEq, beq_self_eq_true, isNon, g_10, g_11, g_12, g_13, g_14, g_15, g_16, g_17, g_18, g_19, g_20, g_21, g_22, g_23, g_24, g_25, g_26, g_27, g_28, g_29, g_30, setAll, la_0, ap_0, isL_l]
  cases hb : betw t 3 97 with
  | false =>
    simp only [wpSs, wpS, wpE, wpT, wpV, wpB, wpEs, wpO, wpC, fillIo, backIo, finals, bindTg, bindTgs, List.map_cons, List.map_nil, List.replicate_succ, List.replicate_zero, List.cons_append, List.nil_append, List.set_cons_zero, List.set_cons_succ, Nat.reduceSub, Nat.reduceAdd, g_0, g_1, g_2, g_3, g_4, g_5, g_6, g_7, g_8, g_9, a_ok, a_add, a_addS, a_addL, a_addT, a_sub, a_mul, a_mulL, a_mulT, a_mod, a_fdiv, a_pow, a_augadd, a_augsub, a_neg, a_lt, a_le, a_gt, a_ge, a_eq, a_ne, a_isN, a_isnN, a_isB, a_isnB, a_truB, a_truI, a_truN, a_truT, a_truL, a_lenT, a_lenL, a_abs, a_int, a_strI, a_max2, a_min2, a_listL, a_listT, a_tupL, a_tupT, a_range1, a_range2, a_seqT, a_seqL, a_enumT, a_enumL, a_zipT, a_zipL, a_idxL, a_idxT, a_cutL, a_cutT, a_cutS, a_revT, a_revL, at_0, at_1, at_2, at_3, at_4, at_5, a_okk, Option.bind_some, pu_0, pu_1, pu_2, pu_3, pu_4, f_int, f_bl, f_non, e_int, e_bl, e_str, true_and, and_true, and_self, decide_eq_true_eq, if_true, if_false, wipe, restore, List.getElem?_cons_zero, List.getElem?_cons_succ, Option.getD_some, Option.getD_none, Bool.not_true, Bool.not_false, Bool.true_and, Bool.false_and, Bool.and_true, Bool.and_false, Bool.or_true, Bool.true_or, Bool.or_false, Bool.false_or, if_true, if_false, Bool.false_eq_true, Bool.true_eq_false, Bool.not_eq_true', decide_eq_false_iff_not, ty_int_int, ty_int_bool, ty_int_str, ty_int_tuple, ty_int_list, ty_bl_int, ty_bl_bool, ty_bl_str, ty_bl_tuple, ty_bl_list, ty_non_int, ty_non_bool, ty_non_str, ty_non_tuple, ty_non_list, ty_str_int, ty_str_bool, ty_str_str, ty_str_tuple, ty_str_list, ty_tup_int, ty_tup_bool, ty_tup_str, ty_tup_tuple, ty_tup_list, ty_lst_int, ty_lst_bool, ty_lst_str, ty_lst_tuple, ty_lst_list, wpH, isSub, Nat.reduceBEq, beq_self_eq_true, isNon, g_10, g_11, g_12, g_13, g_14, g_15, g_16, g_17, g_18, g_19, g_20, g_21, g_22, g_23, g_24, g_25, g_26, g_27, g_28, g_29, g_30, setAll, la_0, ap_0, isL_l]
    have : primeB t = false := by
      cases t <;> simp [betw, primeB] at hb ⊢
      intro h1 h2; omega
    rw [this] at hK
    exact hK
  | true =>
    obtain ⟨i, rfl, h3, h97⟩ := betw_int hb
    simp only [wpSs, wpS, wpE, wpT, wpV, wpB, wpEs, wpO, wpC, fillIo, backIo, finals, bindTg, bindTgs, List.map_cons, List.map_nil, List.replicate_succ, List.replicate_zero, List.cons_append, List.nil_append, List.set_cons_zero, List.set_cons_succ, Nat.reduceSub, Nat.reduceAdd, g_0, g_1, g_2, g_3, g_4, g_5, g_6, g_7, g_8, g_9, a_ok, a_add, a_addS, a_addL, a_addT, a_sub, a_mul, a_mulL, a_mulT, a_mod, a_fdiv, a_pow, a_augadd, a_augsub, a_neg, a_lt, a_le, a_gt, a_ge, a_eq, a_ne, a_isN, a_isnN, a_isB, a_isnB, a_truB, a_truI, a_truN, a_truT, a_truL, a_lenT, a_lenL, a_abs, a_int, a_strI, a_max2, a_min2, a_listL, a_listT, a_tupL, a_tupT, a_range1, a_range2, a_seqT, a_seqL, a_enumT, a_enumL, a_zipT, a_zipL, a_idxL, a_idxT, a_cutL, a_cutT, a_cutS, a_revT, a_revL, at_0, at_1, at_2, at_3, at_4, at_5, a_okk, Option.bind_some, pu_0, pu_1, pu_2, pu_3, pu_4, f_int, f_bl, f_non, e_int, e_bl, e_str, true_and, and_true, and_self, decide_eq_true_eq, if_true, if_false, wipe, restore, List.getElem?_cons_zero, List.getElem?_cons_succ, Option.getD_some, Option.getD_none, Bool.not_true, Bool.not_false, Bool.true_and, Bool.false_and, Bool.and_true, Bool.and_false, Bool.or_true, Bool.true_or, Bool.or_false, Bool.false_or, if_true, if_false, Bool.false_eq_true, Bool.true_eq_false, Bool.not_eq_true', decide_eq_false_iff_not, ty_int_int, ty_int_bool, ty_int_str, ty_int_tuple, ty_int_list, ty_bl_int, ty_bl_bool, ty_bl_str, ty_bl_tuple, ty_bl_list, ty_non_int, ty_non_bool, ty_non_str, ty_non_tuple, ty_non_list, ty_str_int, ty_str_bool, ty_str_str, ty_str_tuple, ty_str_list, ty_tup_int, ty_tup_bool, ty_tup_str, ty_tup_tuple, ty_tup_list, ty_lst_int, ty_lst_bool, ty_lst_str, ty_lst_tuple, ty_lst_list, wpH, isSub, Nat.reduceBEq, beq_self_eq_true, isNon, g_10, g_11, g_12, g_13, g_14, g_15, g_16, g_17, g_18, g_19, g_20, g_21, g_22, g_23, g_24, g_25, g_26, g_27, g_28, g_29, g_30, setAll, la_0, ap_0, isL_l, rangeL_eq]
    refine ⟨by unfold small62 line; omega, ?_⟩
    refine loopC_all .int (fun x => .bl (!decide (i % x = 0))) _ _ (fun x hx acc next hn => ?_) ?_
    · simp only [wpSs, wpS, wpE, wpT, wpV, wpB, wpEs, wpO, wpC, fillIo, backIo, finals, bindTg, bindTgs, List.map_cons, List.map_nil, List.replicate_succ, List.replicate_zero, List.cons_append, List.nil_append, List.set_cons_zero, List.set_cons_succ, Nat.reduceSub, Nat.reduceAdd, g_0, g_1, g_2, g_3, g_4, g_5, g_6, g_7, g_8, g_9, a_ok, a_add, a_addS, a_addL, a_addT, a_sub, a_mul, a_mulL, a_mulT, a_mod, a_fdiv, a_pow, a_augadd, a_augsub, a_neg, a_lt, a_le, a_gt, a_ge, a_eq, a_ne, a_isN, a_isnN, a_isB, a_isnB, a_truB, a_truI, a_truN, a_truT, a_truL, a_lenT, a_lenL, a_abs, a_int, a_strI, a_max2, a_min2, a_listL, a_listT, a_tupL, a_tupT, a_range1, a_range2, a_seqT, a_seqL, a_enumT, a_enumL, a_zipT, a_zipL, a_idxL, a_idxT, a_cutL, a_cutT, a_cutS, a_revT, a_revL, at_0, at_1, at_2, at_3, at_4, at_5, a_okk, Option.bind_some, pu_0, pu_1, pu_2, pu_3, pu_4, f_int, f_bl, f_non, e_int, e_bl, e_str, true_and, and_true, and_self, decide_eq_true_eq, if_true, if_false, wipe, restore, List.getElem?_cons_zero, List.getElem?_cons_succ, Option.getD_some, Option.getD_none, Bool.not_true, Bool.not_false, Bool.true_and, Bool.false_and, Bool.and_true, Bool.and_false, Bool.or_true, Bool.true_or, Bool.or_false, Bool.false_or, if_true, if_false, Bool.false_eq_true, Bool.true_eq_false, Bool.not_eq_true', decide_eq_false_iff_not, ty_int_int, ty_int_bool, ty_int_str, ty_int_tuple, ty_int_list, ty_bl_int, ty_bl_bool, ty_bl_str, ty_bl_tuple, ty_bl_list, ty_non_int, ty_non_bool, ty_non_str, ty_non_tuple, ty_non_list, ty_str_int, ty_str_bool, ty_str_str, ty_str_tuple, ty_str_list, ty_tup_int, ty_tup_bool, ty_tup_str, ty_tup_tuple, ty_tup_list, ty_lst_int, ty_lst_bool, ty_lst_str, ty_lst_tuple, ty_lst_list, wpH, isSub, Nat.reduceBEq, beq_self_eq_true, isNon, g_10, g_11, g_12, g_13, g_14, g_15, g_16, g_17, g_18, g_19, g_20, g_21, g_22, g_23, g_24, g_25, g_26, g_27, g_28, g_29, g_30, setAll, la_0, ap_0, isL_l]
      have := mem_rangeI.mp hx
      exact ⟨by omega, hn⟩
    · simp only [wpSs, wpS, wpE, wpT, wpV, wpB, wpEs, wpO, wpC, fillIo, backIo, finals, bindTg, bindTgs, List.map_cons, List.map_nil, List.replicate_succ, List.replicate_zero, List.cons_append, List.nil_append, List.set_cons_zero, List.set_cons_succ, Nat.reduceSub, Nat.reduceAdd, g_0, g_1, g_2, g_3, g_4, g_5, g_6, g_7, g_8, g_9, a_ok, a_add, a_addS, a_addL, a_addT, a_sub, a_mul, a_mulL, a_mulT, a_mod, a_fdiv, a_pow, a_augadd, a_augsub, a_neg, a_lt, a_le, a_gt, a_ge, a_eq, a_ne, a_isN, a_isnN, a_isB, a_isnB, a_truB, a_truI, a_truN, a_truT, a_truL, a_lenT, a_lenL, a_abs, a_int, a_strI, a_max2, a_min2, a_listL, a_listT, a_tupL, a_tupT, a_range1, a_range2, a_seqT, a_seqL, a_enumT, a_enumL, a_zipT, a_zipL, a_idxL, a_idxT, a_cutL, a_cutT, a_cutS, a_revT, a_revL, at_0, at_1, at_2, at_3, at_4, at_5, a_okk, Option.bind_some, pu_0, pu_1, pu_2, pu_3, pu_4, f_int, f_bl, f_non, e_int, e_bl, e_str, true_and, and_true, and_self, decide_eq_true_eq, if_true, if_false, wipe, restore, List.getElem?_cons_zero, List.getElem?_cons_succ, Option.getD_some, Option.getD_none, Bool.not_true, Bool.not_false, Bool.true_and, Bool.false_and, Bool.and_true, Bool.and_false, Bool.or_true, Bool.true_or, Bool.or_false, Bool.false_or, if_true, if_false, Bool.false_eq_true, Bool.true_eq_false, Bool.not_eq_true', decide_eq_false_iff_not, ty_int_int, ty_int_bool, ty_int_str, ty_int_tuple, ty_int_list, ty_bl_int, ty_bl_bool, ty_bl_str, ty_bl_tuple, ty_bl_list, ty_non_int, ty_non_bool, ty_non_str, ty_non_tuple, ty_non_list, ty_str_int, ty_str_bool, ty_str_str, ty_str_tuple, ty_str_list, ty_tup_int, ty_tup_bool, ty_tup_str, ty_tup_tuple, ty_tup_list, ty_lst_int, ty_lst_bool, ty_lst_str, ty_lst_tuple, ty_lst_list, wpH, isSub, Nat.reduceBEq, beq_self_eq_true, isNon, g_10, g_11, g_12, g_13, g_14, g_15, g_16, g_17, g_18, g_19, g_20, g_21, g_22, g_23, g_24, g_25, g_26, g_27, g_28, g_29, g_30, setAll, la_0, ap_0, isL_l, a_allF]
      have : primeB (.int i) = (rangeI 2 (i - 2).toNat).all fun x => !decide (i % x = 0) := by simp [primeB, h3, h97]
      rw [this] at hK
      exact hK
theorem sp3 {t : TV} (ht : plainT t = true) (hp : primeB t = true) : Does Pr 4 3 [t] .non [] := by
  refine does_of rfl rfl fun n hn K X hK => ?_
  simp only [d3, b3, wpSs, wpS, wpE, wpT, wpV, wpB, wpEs, wpO, wpC, fillIo, backIo, finals, bindTg, bindTgs, List.map_cons, List.map_nil, List.replicate_succ, List.replicate_zero, List.cons_append, List.nil_append, List.set_cons_zero, List.set_cons_succ, Nat.reduceSub, Nat.reduceAdd, g_0, g_1, g_2, g_3, g_4, g_5, g_6, g_7, g_8, g_9, a_ok, a_add, a_addS, a_addL, a_addT, a_sub, a_mul, a_mulL, a_mulT, a_mod, a_fdiv, a_pow, a_augadd, a_augsub, a_neg, a_lt, a_le, a_gt, a_ge, a_eq, a_ne, a_isN, a_isnN, a_isB, a_isnB, a_truB, a_truI, a_truN, a_truT, a_truL, a_lenT, a_lenL, a_abs, a_int, a_strI, a_max2, a_min2, a_listL, a_listT, a_tupL, a_tupT, a_range1, a_range2, a_seqT, a_seqL, a_enumT, a_enumL, a_zipT, a_zipL, a_idxL, a_idxT, a_cutL, a_cutT, a_cutS, a_revT, a_revL, at_0, at_1, at_2, at_3, at_4, at_5, a_okk, Option.bind_some, pu_0, pu_1, pu_2, pu_3, pu_4, f_int, f_bl, f_non, e_int, e_bl, e_str, true_and, and_true, and_self, decide_eq_true_eq, if_true, if_false, wipe, restore, List.getElem?_cons_zero, List.getElem?_cons_succ, Option.getD_some, Option.getD_none, Bool.not_true, Bool.not_false, Bool.true_and, Bool.false_and, Bool.and_true, Bool.and_false, Bool.or_true, Bool.true_or, Bool.or_false, Bool.false_or, if_true, if_false, Bool.false_eq_true, Bool.true_eq_false, Bool.not_eq_true', decide_eq_false_iff_not, ty_int_int, ty_int_bool, ty_int_str, ty_int_tuple, ty_int_list, ty_bl_int, ty_bl_bool, ty_bl_str, ty_bl_tuple, ty_bl_list, ty_non_int, ty_non_bool, ty_non_str, ty_non_tuple, ty_non_list, ty_str_int, ty_str_bool, ty_str_str, ty_str_tuple, ty_str_list, ty_tup_int, ty_tup_bool, ty_tup_str, ty_tup_tuple, ty_tup_list, ty_lst_int, ty_lst_bool, ty_lst_str, ty_lst_tuple, ty_lst_list, wpH, isSub, Nat.reduceBEq, beq_self_eq_true, isNon, g_10, g_11, g_12, g_13, g_14, g_15, g_16, g_17, g_18, g_19, g_20, g_21, g_22, g_23, g_24, g_25, g_26, g_27, g_28, g_29, g_30, setAll, la_0, ap_0, isL_l]
  refine sp2 ht n (by omega) _ _ ?_
  simp only [hp, wpSs, wpS, wpE, wpT, wpV, wpB, wpEs, wpO, wpC, fillIo, backIo, finals, bindTg, bindTgs, List.map_cons, List.map_nil, List.replicate_succ, List.replicate_zero, List.cons_append, List.nil_append, List.set_cons_zero, List.set_cons_succ, Nat.reduceSub, Nat.reduceAdd, g_0, g_1, g_2, g_3, g_4, g_5, g_6, g_7, g_8, g_9, a_ok, a_add, a_addS, a_addL, a_addT, a_sub, a_mul, a_mulL, a_mulT, a_mod, a_fdiv, a_pow, a_augadd, a_augsub, a_neg, a_lt, a_le, a_gt, a_ge, a_eq, a_ne, a_isN, a_isnN, a_isB, a_isnB, a_truB, a_truI, a_truN, a_truT, a_truL, a_lenT, a_lenL, a_abs, a_int, a_strI, a_max2, a_min2, a_listL, a_listT, a_tupL, a_tupT, a_range1, a_range2, a_seqT, a_seqL, a_enumT, a_enumL, a_zipT, a_zipL, a_idxL, a_idxT, a_cutL, a_cutT, a_cutS, a_revT, a_revL, at_0, at_1, at_2, at_3, at_4, at_5, a_okk, Option.bind_some, pu_0, pu_1, pu_2, pu_3, pu_4, f_int, f_bl, f_non, e_int, e_bl, e_str, true_and, and_true, and_self, decide_eq_true_eq, if_true, if_false, wipe, restore, List.getElem?_cons_zero, List.getElem?_cons_succ, Option.getD_some, Option.getD_none, Bool.not_true, Bool.not_false, Bool.true_and, Bool.false_and, Bool.and_true, Bool.and_false, Bool.or_true, Bool.true_or, Bool.or_false, Bool.false_or, if_true, if_false, Bool.false_eq_true, Bool.true_eq_false, Bool.not_eq_true', decide_eq_false_iff_not, ty_int_int, ty_int_bool, ty_int_str, ty_int_tuple, ty_int_list, ty_bl_int, ty_bl_bool, ty_bl_str, ty_bl_tuple, ty_bl_list, ty_non_int, ty_non_bool, ty_non_str, ty_non_tuple, ty_non_list, ty_str_int, ty_str_bool, ty_str_str, ty_str_tuple, ty_str_list, ty_tup_int, ty_tup_bool, ty_tup_str, ty_tup_tuple, ty_tup_list, ty_lst_int, ty_lst_bool, ty_lst_str, ty_lst_tuple, ty_lst_list, wpH, isSub, Nat.reduceBEq, beq_self_eq_true, isNon, g_10, g_11, g_12, g_13, g_14, g_15, g_16, g_17, g_18, g_19, g_20, g_21, g_22, g_23, g_24, g_25, g_26, g_27, g_28, g_29, g_30, setAll, la_0, ap_0, isL_l]
  exact hK
theorem sp3x {t : TV} (ht : plainT t = true) (hp : primeB t = false) : Throws Pr 4 3 [t] 1 [] := by
  refine throws_of rfl rfl fun n hn K X hK => ?_
  simp only [d3, b3, wpSs, wpS, wpE, wpT, wpV, wpB, wpEs, wpO, wpC, fillIo, backIo, finals, bindTg, bindTgs, List.map_cons, List.map_nil, List.replicate_succ, List.replicate_zero, List.cons_append, List.nil_append, List.set_cons_zero, List.set_cons_succ, Nat.reduceSub, Nat.reduceAdd, g_0, g_1, g_2, g_3, g_4, g_5, g_6, g_7, g_8, g_9, a_ok, a_add, a_addS, a_addL, a_addT, a_sub, a_mul, a_mulL, a_mulT, a_mod, a_fdiv, a_pow, a_augadd, a_augsub, a_neg, a_lt, a_le, a_gt, a_ge, a_eq, a_ne, a_isN, a_isnN, a_isB, a_isnB, a_truB, a_truI, a_truN, a_truT, a_truL, a_lenT, a_lenL, a_abs, a_int, a_strI, a_max2, a_min2, a_listL, a_listT, a_tupL, a_tupT, a_range1, a_range2, a_seqT, a_seqL, a_enumT, a_enumL, a_zipT, a_zipL, a_idxL, a_idxT, a_cutL, a_cutT, a_cutS, a_revT, a_revL, at_0, at_1, at_2, at_3, at_4, at_5, a_okk, Option.bind_some, pu_0, pu_1, pu_2, pu_3, pu_4, f_int, f_bl, f_non, e_int, e_bl, e_str, true_and, and_true, and_self, decide_eq_true_eq, if_true, if_false, wipe, restore, List.getElem?_cons_zero, List.getElem?_cons_succ, Option.getD_some, Option.getD_none, Bool.not_true, Bool.not_false, Bool.true_and, Bool.false_and, Bool.and_true, Bool.and_false, Bool.or_true, Bool.true_or, Bool.or_false, Bool.false_or, if_true, if_false, Bool.false_eq_true, Bool.true_eq_false, Bool.not_eq_true', decide_eq_false_iff_not, ty_int_int, ty_int_bool, ty_int_str, ty_int_tuple, ty_int_list, ty_bl_int, ty_bl_bool, ty_bl_str, ty_bl_tuple, ty_bl_list, ty_non_int, ty_non_bool, ty_non_str, ty_non_tuple, ty_non_list, ty_str_int, ty_str_bool, ty_str_str, ty_str_tuple, ty_str_list, ty_tup_int, ty_tup_bool, ty_tup_str, ty_tup_tuple, ty_tup_list, ty_lst_int, ty_lst_bool, ty_lst_str, ty_lst_tuple, ty_lst_list, wpH, isSub, Nat.reduceBEq, beq_self_eq_true, isNon, g_10, g_11, g_12, g_13, g_14, g_15, g_16, g_17, g_18, g_19, g_20, g_21, g_22, g_23, g_24, g_25, g_26, g_27, g_28, g_29, g_30, setAll, la_0, ap_0, isL_l]
  refine sp2 ht n (by omega) _ _ ?_
  simp only [hp, wpSs, wpS, wpE, wpT, wpV, wpB, wpEs, wpO, wpC, fillIo, backIo, finals, bindTg, bindTgs, List.map_cons, List.map_nil, List.replicate_succ, List.replicate_zero, List.cons_append, List.nil_append, List.set_cons_zero, List.set_cons_succ, Nat.reduceSub, Nat.reduceAdd, g_0, g_1, g_2, g_3, g_4, g_5, g_6, g_7, g_8, g_9, a_ok, a_add, a_addS, a_addL, a_addT, a_sub, a_mul, a_mulL, a_mulT, a_mod, a_fdiv, a_pow, a_augadd, a_augsub, a_neg, a_lt, a_le, a_gt, a_ge, a_eq, a_ne, a_isN, a_isnN, a_isB, a_isnB, a_truB, a_truI, a_truN, a_truT, a_truL, a_lenT, a_lenL, a_abs, a_int, a_strI, a_max2, a_min2, a_listL, a_listT, a_tupL, a_tupT, a_range1, a_range2, a_seqT, a_seqL, a_enumT, a_enumL, a_zipT, a_zipL, a_idxL, a_idxT, a_cutL, a_cutT, a_cutS, a_revT, a_revL, at_0, at_1, at_2, at_3, at_4, at_5, a_okk, Option.bind_some, pu_0, pu_1, pu_2, pu_3, pu_4, f_int, f_bl, f_non, e_int, e_bl, e_str, true_and, and_true, and_self, decide_eq_true_eq, if_true, if_false, wipe, restore, List.getElem?_cons_zero, List.getElem?_cons_succ, Option.getD_some, Option.getD_none, Bool.not_true, Bool.not_false, Bool.true_and, Bool.false_and, Bool.and_true, Bool.and_false, Bool.or_true, Bool.true_or, Bool.or_false, Bool.false_or, if_true, if_false, Bool.false_eq_true, Bool.true_eq_false, Bool.not_eq_true', decide_eq_false_iff_not, ty_int_int, ty_int_bool, ty_int_str, ty_int_tuple, ty_int_list, ty_bl_int, ty_bl_bool, ty_bl_str, ty_bl_tuple, ty_bl_list, ty_non_int, ty_non_bool, ty_non_str, ty_non_tuple, ty_non_list, ty_str_int, ty_str_bool, ty_str_str, ty_str_tuple, ty_str_list, ty_tup_int, ty_tup_bool, ty_tup_str, ty_tup_tuple, ty_tup_list, ty_lst_int, ty_lst_bool, ty_lst_str, ty_lst_tuple, ty_lst_list, wpH, isSub, Nat.reduceBEq, beq_self_eq_true, isNon, g_10, g_11, g_12, g_13, g_14, g_15, g_16, g_17, g_18, g_19, g_20, g_21, g_22, g_23, g_24, g_25, g_26, g_27, g_28, g_29, g_30, setAll, la_0, ap_0, isL_l]
  exact hK
theorem sp4 {t : TV} {p : Int} (ht : plainT t = true) : Does Pr 3 4 [.int p, t] (.bl (betw t 0 (p - 1))) [] := by
  refine does_of rfl rfl fun n hn K X hK => ?_
  simp only [d4, b4, wpSs, wpS, wpE, wpT, wpV, wpB, wpEs, wpO, wpC, fillIo, backIo, finals, bindTg, bindTgs, List.map_cons, List.map_nil, List.replicate_succ, List.replicate_zero, List.cons_append, List.nil_append, List.set_cons_zero, List.set_cons_succ, Nat.reduceSub, Nat.reduceAdd, g_0, g_1, g_2, g_3, g_4, g_5, g_6, g_7, g_8, g_9, a_ok, a_add, a_addS, a_addL, a_addT, a_sub, a_mul, a_mulL, a_mulT, a_mod, a_fdiv, a_pow, a_augadd, a_augsub, a_neg, a_lt, a_le, a_gt, a_ge, a_eq, a_ne, a_isN, a_isnN, a_isB, a_isnB, a_truB, a_truI, a_truN, a_truT, a_truL, a_lenT, a_lenL, a_abs, a_int, a_strI, a_max2, a_min2, a_listL, a_listT, a_tupL, a_tupT, a_range1, a_range2, a_seqT, a_seqL, a_enumT, a_enumL, a_zipT, a_zipL, a_idxL, a_idxT, a_cutL, a_cutT, a_cutS, a_revT, a_revL, at_0, at_1, at_2, at_3, at_4, at_5, a_okk, Option.bind_some, pu_0, pu_1, pu_2, pu_3, pu_4, f_int, f_bl, f_non, e_int, e_bl, e_str, true_and, and_true, and_self, decide_eq_true_eq, if_true, if_false, wipe, restore, List.getElem?_cons_zero, List.getElem?_cons_succ, Option.getD_some, Option.getD_none, Bool.not_true, Bool.not_false, Bool.true_and, Bool.false_and, Bool.and_true, Bool.and_false, Bool.or_true, Bool.true_or, Bool.or_false, Bool.false_or, if_true, if_false, Bool.false_eq_true, Bool.true_eq_false, Bool.not_eq_true', decide_eq_false_iff_not, ty_int_int, ty_int_bool, ty_int_str, ty_int_tuple, ty_int_list, ty_bl_int, ty_bl_bool, ty_bl_str, ty_bl_tuple, ty_bl_list, ty_non_int, ty_non_bool, ty_non_str, ty_non_tuple, ty_non_list, ty_str_int, ty_str_bool, ty_str_str, ty_str_tuple, ty_str_list, ty_tup_int, ty_tup_bool, ty_tup_str, ty_tup_tuple, ty_tup_list, ty_lst_int, ty_lst_bool, ty_lst_str, ty_lst_tuple, ty_lst_list, wpH, isSub, Nat.reduceBEq, beq_self_eq_true, isNon, g_10, g_11, g_12, g_13, g_14, g_15, g_16, g_17, g_18, g_19, g_20, g_21, g_22, g_23, g_24, g_25, g_26, g_27, g_28, g_29, g_30, setAll, la_0, ap_0, isL_l]
  exact sp1 ht n (by omega) _ _ hK
theorem sp5 {t : TV} {p : Int} (ht : plainT t = true) (hb : betw t 0 (p - 1) = true) : Does Pr 4 5 [.int p, .lst [t]] .non [] := by
  refine does_of rfl rfl fun n hn K X hK => ?_
  simp only [d5, b5, wpSs, wpS, wpE, wpT, wpV, wpB, wpEs, wpO, wpC, fillIo, backIo, finals, bindTg, bindTgs, List.map_cons, List.map_nil, List.replicate_succ, List.replicate_zero, List.cons_append, List.nil_append, List.set_cons_zero, List.set_cons_succ, Nat.reduceSub, Nat.reduceAdd, g_0, g_1, g_2, g_3, g_4, g_5, g_6, g_7, g_8, g_9, a_ok, a_add, a_addS, a_addL, a_addT, a_sub, a_mul, a_mulL, a_mulT, a_mod, a_fdiv, a_pow, a_augadd, a_augsub, a_neg, a_lt, a_le, a_gt, a_ge, a_eq, a_ne, a_isN, a_isnN, a_isB, a_isnB, a_truB, a_truI, a_truN, a_truT, a_truL, a_lenT, a_lenL, a_abs, a_int, a_strI, a_max2, a_min2, a_listL, a_listT, a_tupL, a_tupT, a_range1, a_range2, a_seqT, a_seqL, a_enumT, a_enumL, a_zipT, a_zipL, a_idxL, a_idxT, a_cutL, a_cutT, a_cutS, a_revT, a_revL, at_0, at_1, at_2, at_3, at_4, at_5, a_okk, Option.bind_some, pu_0, pu_1, pu_2, pu_3, pu_4, f_int, f_bl, f_non, e_int, e_bl, e_str, true_and, and_true, and_self, decide_eq_true_eq, if_true, if_false, wipe, restore, List.getElem?_cons_zero, List.getElem?_cons_succ, Option.getD_some, Option.getD_none, Bool.not_true, Bool.not_false, Bool.true_and, Bool.false_and, Bool.and_true, Bool.and_false, Bool.or_true, Bool.true_or, Bool.or_false, Bool.false_or, if_true, if_false, Bool.false_eq_true, Bool.true_eq_false, Bool.not_eq_true', decide_eq_false_iff_not, ty_int_int, ty_int_bool, ty_int_str, ty_int_tuple, ty_int_list, ty_bl_int, ty_bl_bool, ty_bl_str, ty_bl_tuple, ty_bl_list, ty_non_int, ty_non_bool, ty_non_str, ty_non_tuple, ty_non_list, ty_str_int, ty_str_bool, ty_str_str, ty_str_tuple, ty_str_list, ty_tup_int, ty_tup_bool, ty_tup_str, ty_tup_tuple, ty_tup_list, ty_lst_int, ty_lst_bool, ty_lst_str, ty_lst_tuple, ty_lst_list, wpH, isSub, Nat.reduceBEq, beq_self_eq_true, isNon, g_10, g_11, g_12, g_13, g_14, g_15, g_16, g_17, g_18, g_19, g_20, g_21, g_22, g_23, g_24, g_25, g_26, g_27, g_28, g_29, g_30, setAll, la_0, ap_0, isL_l, loopC]
  refine sp4 ht n (by omega) _ _ ?_
  simp only [wpSs, wpS, wpE, wpT, wpV, wpB, wpEs, wpO, wpC, fillIo, backIo, finals, bindTg, bindTgs, List.map_cons, List.map_nil, List.replicate_succ, List.replicate_zero, List.cons_append, List.nil_append, List.set_cons_zero, List.set_cons_succ, Nat.reduceSub, Nat.reduceAdd, g_0, g_1, g_2, g_3, g_4, g_5, g_6, g_7, g_8, g_9, a_ok, a_add, a_addS, a_addL, a_addT, a_sub, a_mul, a_mulL, a_mulT, a_mod, a_fdiv, a_pow, a_augadd, a_augsub, a_neg, a_lt, a_le, a_gt, a_ge, a_eq, a_ne, a_isN, a_isnN, a_isB, a_isnB, a_truB, a_truI, a_truN, a_truT, a_truL, a_lenT, a_lenL, a_abs, a_int, a_strI, a_max2, a_min2, a_listL, a_listT, a_tupL, a_tupT, a_range1, a_range2, a_seqT, a_seqL, a_enumT, a_enumL, a_zipT, a_zipL, a_idxL, a_idxT, a_cutL, a_cutT, a_cutS, a_revT, a_revL, at_0, at_1, at_2, at_3, at_4, at_5, a_okk, Option.bind_some, pu_0, pu_1, pu_2, pu_3, pu_4, f_int, f_bl, f_non, e_int, e_bl, e_str, true_and, and_true, and_self, decide_eq_true_eq, if_true, if_false, wipe, restore, List.getElem?_cons_zero, List.getElem?_cons_succ, Option.getD_some, Option.getD_none, Bool.not_true, Bool.not_false, Bool.true_and, Bool.false_and, Bool.and_true, Bool.and_false, Bool.or_true, Bool.true_or, Bool.or_false, Bool.false_or, if_true, if_false, Bool.false_eq_true, Bool.true_eq_false, Bool.not_eq_true', decide_eq_false_iff_not, ty_int_int, ty_int_bool, ty_int_str, ty_int_tuple, ty_int_list, ty_bl_int, ty_bl_bool, ty_bl_str, ty_bl_tuple, ty_bl_list, ty_non_int, ty_non_bool, ty_non_str, ty_non_tuple, ty_non_list, ty_str_int, ty_str_bool, ty_str_str, ty_str_tuple, ty_str_list, ty_tup_int, ty_tup_bool, ty_tup_str, ty_tup_tuple, ty_tup_list, ty_lst_int, ty_lst_bool, ty_lst_str, ty_lst_tuple, ty_lst_list, wpH, isSub, Nat.reduceBEq, beq_self_eq_true, isNon, g_10, g_11, g_12, g_13, g_14, g_15, g_16, g_17, g_18, g_19, g_20, g_21, g_22, g_23, g_24, g_25, g_26, g_27, g_28, g_29, g_30, setAll, la_0, ap_0, isL_l, hb]
  rw [show [TV.bl true] = [true].map .bl from rfl, a_all]
  simp only [wpSs, wpS, wpE, wpT, wpV, wpB, wpEs, wpO, wpC, fillIo, backIo, finals, bindTg, bindTgs, List.map_cons, List.map_nil, List.replicate_succ, List.replicate_zero, List.cons_append, List.nil_append, List.set_cons_zero, List.set_cons_succ, Nat.reduceSub, Nat.reduceAdd, g_0, g_1, g_2, g_3, g_4, g_5, g_6, g_7, g_8, g_9, a_ok, a_add, a_addS, a_addL, a_addT, a_sub, a_mul, a_mulL, a_mulT, a_mod, a_fdiv, a_pow, a_augadd, a_augsub, a_neg, a_lt, a_le, a_gt, a_ge, a_eq, a_ne, a_isN, a_isnN, a_isB, a_isnB, a_truB, a_truI, a_truN, a_truT, a_truL, a_lenT, a_lenL, a_abs, a_int, a_strI, a_max2, a_min2, a_listL, a_listT, a_tupL, a_tupT, a_range1, a_range2, a_seqT, a_seqL, a_enumT, a_enumL, a_zipT, a_zipL, a_idxL, a_idxT, a_cutL, a_cutT, a_cutS, a_revT, a_revL, at_0, at_1, at_2, at_3, at_4, at_5, a_okk, Option.bind_some, pu_0, pu_1, pu_2, pu_3, pu_4, f_int, f_bl, f_non, e_int, e_bl, e_str, true_and, and_true, and_self, decide_eq_true_eq, if_true, if_false, wipe, restore, List.getElem?_cons_zero, List.getElem?_cons_succ, Option.getD_some, Option.getD_none, Bool.not_true, Bool.not_false, Bool.true_and, Bool.false_and, Bool.and_true, Bool.and_false, Bool.or_true, Bool.true_or, Bool.or_false, Bool.false_or, if_true, if_false, Bool.false_eq_true, Bool.true_eq_false, Bool.not_eq_true', decide_eq_false_iff_not, ty_int_int, ty_int_bool, ty_int_str, ty_int_tuple, ty_int_list, ty_bl_int, ty_bl_bool, ty_bl_str, ty_bl_tuple, ty_bl_list, ty_non_int, ty_non_bool, ty_non_str, ty_non_tuple, ty_non_list, ty_str_int, ty_str_bool, ty_str_str, ty_str_tuple, ty_str_list, ty_tup_int, ty_tup_bool, ty_tup_str, ty_tup_tuple, ty_tup_list, ty_lst_int, ty_lst_bool, ty_lst_str, ty_lst_tuple, ty_lst_list, wpH, isSub, Nat.reduceBEq, beq_self_eq_true, isNon, g_10, g_11, g_12, g_13, g_14, g_15, g_16, g_17, g_18, g_19, g_20, g_21, g_22, g_23, g_24, g_25, g_26, g_27, g_28, g_29, g_30, setAll, la_0, ap_0, isL_l]
  exact hK
theorem sp5x {t : TV} {p : Int} (ht : plainT t = true) (hb : betw t 0 (p - 1) = false) : Throws Pr 4 5 [.int p, .lst [t]] 2 [] := by
  refine throws_of rfl rfl fun n hn K X hK => ?_
  simp only [d5, b5, wpSs, wpS, wpE, wpT, wpV, wpB, wpEs, wpO, wpC, fillIo, backIo, finals, bindTg, bindTgs, List.map_cons, List.map_nil, List.replicate_succ, List.replicate_zero, List.cons_append, List.nil_append, List.set_cons_zero, List.set_cons_succ, Nat.reduceSub, Nat.reduceAdd, g_0, g_1, g_2, g_3, g_4, g_5, g_6, g_7, g_8, g_9, a_ok, a_add, a_addS, a_addL, a_addT, a_sub, a_mul, a_mulL, a_mulT, a_mod, a_fdiv, a_pow, a_augadd, a_augsub, a_neg, a_lt, a_le, a_gt, a_ge, a_eq, a_ne, a_isN, a_isnN, a_isB, a_isnB, a_truB, a_truI, a_truN, a_truT, a_truL, a_lenT, a_lenL, a_abs, a_int, a_strI, a_max2, a_min2, a_listL, a_listT, a_tupL, a_tupT, a_range1, a_range2, a_seqT, a_seqL, a_enumT, a_enumL, a_zipT, a_zipL, a_idxL, a_idxT, a_cutL, a_cutT, a_cutS, a_revT, a_revL, at_0, at_1, at_2, at_3, at_4, at_5, a_okk, Option.bind_some, pu_0, pu_1, pu_2, pu_3, pu_4, f_int, f_bl, f_non, e_int, e_bl, e_str, true_and, and_true, and_self, decide_eq_true_eq, if_true, if_false, wipe, restore, List.getElem?_cons_zero, List.getElem?_cons_succ, Option.getD_some, Option.getD_none, Bool.not_true, Bool.not_false, Bool.true_and, Bool.false_and, Bool.and_true, Bool.and_false, Bool.or_true, Bool.true_or, Bool.or_false, Bool.false_or, if_true, if_false, Bool.false_eq_true, Bool.true_eq_false, Bool.not_eq_true', decide_eq_false_iff_not, ty_int_int, ty_int_bool, ty_int_str, ty_int_tuple, ty_int_list, ty_bl_int, ty_bl_bool, ty_bl_str, ty_bl_tuple, ty_bl_list, ty_non_int, ty_non_bool, ty_non_str, ty_non_tuple, ty_non_list, ty_str_int, ty_str_bool, ty_str_str, ty_str_tuple, ty_str_list, ty_tup_int, ty_tup_bool, ty_tup_str, ty_tup_tuple, ty_tup_list, ty_lst_int, ty_lst_bool, ty_lst_str, ty_lst_tuple, ty_lst_list, wpH, isSub, Nat.reduceBEq, beq_self_eq_true, isNon, g_10, g_11, g_12, g_13, g_14, g_15, g_16, g_17, g_18, g_19, g_20, g_21, g_22, g_23, g_24, g_25, g_26, g_27, g_28, g_29, g_30, setAll, la_0, ap_0, isL_l, loopC]
  refine sp4 ht n (by omega) _ _ ?_
  simp only [wpSs, wpS, wpE, wpT, wpV, wpB, wpEs, wpO, wpC, fillIo, backIo, finals, bindTg, bindTgs, List.map_cons, List.map_nil, List.replicate_succ, List.replicate_zero, List.cons_append, List.nil_append, List.set_cons_zero, List.set_cons_succ, Nat.reduceSub, Nat.reduceAdd, g_0, g_1, g_2, g_3, g_4, g_5, g_6, g_7, g_8, g_9, a_ok, a_add, a_addS, a_addL, a_addT, a_sub, a_mul, a_mulL, a_mulT, a_mod, a_fdiv, a_pow, a_augadd, a_augsub, a_neg, a_lt, a_le, a_gt, a_ge, a_eq, a_ne, a_isN, a_isnN, a_isB, a_isnB, a_truB, a_truI, a_truN, a_truT, a_truL, a_lenT, a_lenL, a_abs, a_int, a_strI, a_max2, a_min2, a_listL, a_listT, a_tupL, a_tupT, a_range1, a_range2, a_seqT, a_seqL, a_enumT, a_enumL, a_zipT, a_zipL, a_idxL, a_idxT, a_cutL, a_cutT, a_cutS, a_revT, a_revL, at_0, at_1, at_2, at_3, at_4, at_5, a_okk, Option.bind_some, pu_0, pu_1, pu_2, pu_3, pu_4, f_int, f_bl, f_non, e_int, e_bl, e_str, true_and, and_true, and_self, decide_eq_true_eq, if_true, if_false, wipe, restore, List.getElem?_cons_zero, List.getElem?_cons_succ, Option.getD_some, Option.getD_none, Bool.not_true, Bool.not_false, Bool.true_and, Bool.false_and, Bool.and_true, Bool.and_false, Bool.or_true, Bool.true_or, Bool.or_false, Bool.false_or, if_true, if_false, Bool.false_eq_true, Bool.true_eq_false, Bool.not_eq_true', decide_eq_false_iff_not, ty_int_int, ty_int_bool, ty_int_str, ty_int_tuple, ty_int_list, ty_bl_int, ty_bl_bool, ty_bl_str, ty_bl_tuple, ty_bl_list, ty_non_int, ty_non_bool, ty_non_str, ty_non_tuple, ty_non_list, ty_str_int, ty_str_bool, ty_str_str, ty_str_tuple, ty_str_list, ty_tup_int, ty_tup_bool, ty_tup_str, ty_tup_tuple, ty_tup_list, ty_lst_int, ty_lst_bool, ty_lst_str, ty_lst_tuple, ty_lst_list, wpH, isSub, Nat.reduceBEq, beq_self_eq_true, isNon, g_10, g_11, g_12, g_13, g_14, g_15, g_16, g_17, g_18, g_19, g_20, g_21, g_22, g_23, g_24, g_25, g_26, g_27, g_28, g_29, g_30, setAll, la_0, ap_0, isL_l, hb]
  rw [show [TV.bl false] = [false].map .bl from rfl, a_all]
  simp only [wpSs, wpS, wpE, wpT, wpV, wpB, wpEs, wpO, wpC, fillIo, backIo, finals, bindTg, bindTgs, List.map_cons, List.map_nil, List.replicate_succ, List.replicate_zero, List.cons_append, List.nil_append, List.set_cons_zero, List.set_cons_succ, Nat.reduceSub, Nat.reduceAdd, g_0, g_1, g_2, g_3, g_4, g_5, g_6, g_7, g_8, g_9, a_ok, a_add, a_addS, a_addL, a_addT, a_sub, a_mul, a_mulL, a_mulT, a_mod, a_fdiv, a_pow, a_augadd, a_augsub, a_neg, a_lt, a_le, a_gt, a_ge, a_eq, a_ne, a_isN, a_isnN, a_isB, a_isnB, a_truB, a_truI, a_truN, a_truT, a_truL, a_lenT, a_lenL, a_abs, a_int, a_strI, a_max2, a_min2, a_listL, a_listT, a_tupL, a_tupT, a_range1, a_range2, a_seqT, a_seqL, a_enumT, a_enumL, a_zipT, a_zipL, a_idxL, a_idxT, a_cutL, a_cutT, a_cutS, a_revT, a_revL, at_0, at_1, at_2, at_3, at_4, at_5, a_okk, Option.bind_some, pu_0, pu_1, pu_2, pu_3, pu_4, f_int, f_bl, f_non, e_int, e_bl, e_str, true_and, and_true, and_self, decide_eq_true_eq, if_true, if_false, wipe, restore, List.getElem?_cons_zero, List.getElem?_cons_succ, Option.getD_some, Option.getD_none, Bool.not_true, Bool.not_false, Bool.true_and, Bool.false_and, Bool.and_true, Bool.and_false, Bool.or_true, Bool.true_or, Bool.or_false, Bool.false_or, if_true, if_false, Bool.false_eq_true, Bool.true_eq_false, Bool.not_eq_true', decide_eq_false_iff_not, ty_int_int, ty_int_bool, ty_int_str, ty_int_tuple, ty_int_list, ty_bl_int, ty_bl_bool, ty_bl_str, ty_bl_tuple, ty_bl_list, ty_non_int, ty_non_bool, ty_non_str, ty_non_tuple, ty_non_list, ty_str_int, ty_str_bool, ty_str_str, ty_str_tuple, ty_str_list, ty_tup_int, ty_tup_bool, ty_tup_str, ty_tup_tuple, ty_tup_list, ty_lst_int, ty_lst_bool, ty_lst_str, ty_lst_tuple, ty_lst_list, wpH, isSub, Nat.reduceBEq, beq_self_eq_true, isNon, g_10, g_11, g_12, g_13, g_14, g_15, g_16, g_17, g_18, g_19, g_20, g_21, g_22, g_23, g_24, g_25, g_26, g_27, g_28, g_29, g_30, setAll, la_0, ap_0, isL_l]
  exact hK
theorem sp6 {p x m : Int} (hp : 2 ≤ p) (hp2 : p ≤ 97) (hx : 0 ≤ x) (hx2 : x < p) (hm : 0 ≤ m) (hm2 : m ≤ 1000) : Does Pr 1 6 [.int p, .int x, .int m] (.int (x ^ m.toNat % p)) [] := by
  refine does_of rfl rfl fun n hn K X hK => ?_
  simp only [d6, b6, wpSs, wpS, wpE, wpT, wpV, wpB, wpEs, wpO, wpC, fillIo, backIo, finals, bindTg, bindTgs, List.map_cons, List.map_nil, List.replicate_succ, List.replicate_zero, List.cons_append, List.nil_append, List.set_cons_zero, List.set_cons_succ, Nat.reduceSub, Nat.reduceAdd, g_0, g_1, g_2, g_3, g_4, g_5, g_6, g_7, g_8, g_9, a_ok, a_add, a_addS, a_addL, a_addT, a_sub, a_mul, a_mulL, a_mulT, a_mod, a_fdiv, a_pow, a_augadd, a_augsub, a_neg, a_lt, a_le, a_gt, a_ge, a_eq, a_ne, a_isN, a_isnN, a_isB, a_isnB, a_truB, a_truI, a_truN, a_truT, a_truL, a_lenT, a_lenL, a_abs, a_int, a_strI, a_max2, a_min2, a_listL, a_listT, a_tupL, a_tupT, a_range1, a_range2, a_seqT, a_seqL, a_enumT, a_enumL, a_zipT, a_zipL, a_idxL, a_idxT, a_cutL, a_cutT, a_cutS, a_revT, a_revL, at_0, at_1, at_2, at_3, at_4, at_5, a_okk, Option.bind_some, pu_0, pu_1, pu_2, pu_3, pu_4, f_int, f_bl, f_non, e_int, e_bl, e_str, true_and, and_true, and_self, decide_eq_true_eq, if_true, if_false, wipe, restore, List.getElem?_cons_zero, List.getElem?_cons_succ, Option.getD_some, Option.getD_none, Bool.not_true, Bool.not_false, Bool.true_and, Bool.false_and, Bool.and_true, Bool.and_false, Bool.or_true, Bool.true_or, Bool.or_false, Bool.false_or, if_true, if_false, Bool.false_eq_true, Bool.true_eq_false, Bool.not_eq_true', decide_eq_false_iff_not, ty_int_int, ty_int_bool, ty_int_str, ty_int_tuple, ty_int_list, ty_bl_int, ty_bl_bool, ty_bl_str, ty_bl_tuple, ty_bl_list, ty_non_int, ty_non_bool, ty_non_str, ty_non_tuple, ty_non_list, ty_str_int, ty_str_bool, ty_str_str, ty_str_tuple, ty_str_list, ty_tup_int, ty_tup_bool, ty_tup_str, ty_tup_tuple, ty_tup_list, ty_lst_int, ty_lst_bool, ty_lst_str, ty_lst_tuple, ty_lst_list, wpH, isSub, Nat.reduceBEq, beq_self_eq_true, isNon, g_10, g_11, g_12, g_13, g_14, g_15, g_16, g_17, g_18, g_19, g_20, g_21, g_22, g_23, g_24, g_25, g_26, g_27, g_28, g_29, g_30, setAll, la_0, ap_0, isL_l, rangeL_eq]
  refine ⟨by unfold small62 line; omega, ?_⟩
  refine loopF_all .int (fun k ρ => ∃ o, ρ = [some (.int p), some (.int x), some (.int m), some (.int (x ^ k % p)), o]) ⟨none, ?_⟩ ?_ ?_
  · rw [Int.pow_zero, Int.emod_eq_of_lt (by omega) (by omega)]
  · rintro k y _ next e ⟨o, rfl⟩ hnext
    simp only [wpSs, wpS, wpE, wpT, wpV, wpB, wpEs, wpO, wpC, fillIo, backIo, finals, bindTg, bindTgs, List.map_cons, List.map_nil, List.replicate_succ, List.replicate_zero, List.cons_append, List.nil_append, List.set_cons_zero, List.set_cons_succ, Nat.reduceSub, Nat.reduceAdd, g_0, g_1, g_2, g_3, g_4, g_5, g_6, g_7, g_8, g_9, a_ok, a_add, a_addS, a_addL, a_addT, a_sub, a_mul, a_mulL, a_mulT, a_mod, a_fdiv, a_pow, a_augadd, a_augsub, a_neg, a_lt, a_le, a_gt, a_ge, a_eq, a_ne, a_isN, a_isnN, a_isB, a_isnB, a_truB, a_truI, a_truN, a_truT, a_truL, a_lenT, a_lenL, a_abs, a_int, a_strI, a_max2, a_min2, a_listL, a_listT, a_tupL, a_tupT, a_range1, a_range2, a_seqT, a_seqL, a_enumT, a_enumL, a_zipT, a_zipL, a_idxL, a_idxT, a_cutL, a_cutT, a_cutS, a_revT, a_revL, at_0, at_1, at_2, at_3, at_4, at_5, a_okk, Option.bind_some, pu_0, pu_1, pu_2, pu_3, pu_4, f_int, f_bl, f_non, e_int, e_bl, e_str, true_and, and_true, and_self, decide_eq_true_eq, if_true, if_false, wipe, restore, List.getElem?_cons_zero, List.getElem?_cons_succ, Option.getD_some, Option.getD_none, Bool.not_true, Bool.not_false, Bool.true_and, Bool.false_and, Bool.and_true, Bool.and_false, Bool.or_true, Bool.true_or, Bool.or_false, Bool.false_or, if_true, if_false, Bool.false_eq_true, Bool.true_eq_false, Bool.not_eq_true', decide_eq_false_iff_not, ty_int_int, ty_int_bool, ty_int_str, ty_int_tuple, ty_int_list, ty_bl_int, ty_bl_bool, ty_bl_str, ty_bl_tuple, ty_bl_list, ty_non_int, ty_non_bool, ty_non_str, ty_non_tuple, ty_non_list, ty_str_int, ty_str_bool, ty_str_str, ty_str_tuple, ty_str_list, ty_tup_int, ty_tup_bool, ty_tup_str, ty_tup_tuple, ty_tup_list, ty_lst_int, ty_lst_bool, ty_lst_str, ty_lst_tuple, ty_lst_list, wpH, isSub, Nat.reduceBEq, beq_self_eq_true, isNon, g_10, g_11, g_12, g_13, g_14, g_15, g_16, g_17, g_18, g_19, g_20, g_21, g_22, g_23, g_24, g_25, g_26, g_27, g_28, g_29, g_30, setAll, la_0, ap_0, isL_l]
    have b1 := Int.emod_nonneg (x ^ k) (show p ≠ 0 by omega)
    have b2 := Int.emod_lt_of_pos (x ^ k) (show 0 < p by omega)
    refine ⟨mulOk_l (by omega), by omega, hnext _ ⟨some (.int y), ?_⟩⟩
    rw [Int.pow_succ, Int.mul_emod (x ^ k) x, Int.mul_emod (x ^ k % p), Int.emod_emod_of_dvd _ (Int.dvd_refl p)]
  · rintro _ ⟨o, rfl⟩
    rw [rangeI_len]
    simp only [wpSs, wpS, wpE, wpT, wpV, wpB, wpEs, wpO, wpC, fillIo, backIo, finals, bindTg, bindTgs, List.map_cons, List.map_nil, List.replicate_succ, List.replicate_zero, List.cons_append, List.nil_append, List.set_cons_zero, List.set_cons_succ, Nat.reduceSub, Nat.reduceAdd, g_0, g_1, g_2, g_3, g_4, g_5, g_6, g_7, g_8, g_9, a_ok, a_add, a_addS, a_addL, a_addT, a_sub, a_mul, a_mulL, a_mulT, a_mod, a_fdiv, a_pow, a_augadd, a_augsub, a_neg, a_lt, a_le, a_gt, a_ge, a_eq, a_ne, a_isN, a_isnN, a_isB, a_isnB, a_truB, a_truI, a_truN, a_truT, a_truL, a_lenT, a_lenL, a_abs, a_int, a_strI, a_max2, a_min2, a_listL, a_listT, a_tupL, a_tupT, a_range1, a_range2, a_seqT, a_seqL, a_enumT, a_enumL, a_zipT, a_zipL, a_idxL, a_idxT, a_cutL, a_cutT, a_cutS, a_revT, a_revL, at_0, at_1, at_2, at_3, at_4, at_5, a_okk, Option.bind_some, pu_0, pu_1, pu_2, pu_3, pu_4, f_int, f_bl, f_non, e_int, e_bl, e_str, true_and, and_true, and_self, decide_eq_true_eq, if_true, if_false, wipe, restore, List.getElem?_cons_zero, List.getElem?_cons_succ, Option.getD_some, Option.getD_none, Bool.not_true, Bool.not_false, Bool.true_and, Bool.false_and, Bool.and_true, Bool.and_false, Bool.or_true, Bool.true_or, Bool.or_false, Bool.false_or, if_true, if_false, Bool.false_eq_true, Bool.true_eq_false, Bool.not_eq_true', decide_eq_false_iff_not, ty_int_int, ty_int_bool, ty_int_str, ty_int_tuple, ty_int_list, ty_bl_int, ty_bl_bool, ty_bl_str, ty_bl_tuple, ty_bl_list, ty_non_int, ty_non_bool, ty_non_str, ty_non_tuple, ty_non_list, ty_str_int, ty_str_bool, ty_str_str, ty_str_tuple, ty_str_list, ty_tup_int, ty_tup_bool, ty_tup_str, ty_tup_tuple, ty_tup_list, ty_lst_int, ty_lst_bool, ty_lst_str, ty_lst_tuple, ty_lst_list, wpH, isSub, Nat.reduceBEq, beq_self_eq_true, isNon, g_10, g_11, g_12, g_13, g_14, g_15, g_16, g_17, g_18, g_19, g_20, g_21, g_22, g_23, g_24, g_25, g_26, g_27, g_28, g_29, g_30, setAll, la_0, ap_0, isL_l]
    have : (m - 0).toNat = m.toNat := by omega
    exact hK
/-! ### powers, inverses, orders -/
theorem sp7 {p x : Int} (hp : 3 ≤ p) (hp2 : p ≤ 97) (hx : 0 ≤ x) (hx2 : x < p) : Does Pr 2 7 [.int p, .int x] (.int (x ^ (p - 2).toNat % p)) [] := by
  refine does_of rfl rfl fun n hn K X hK => ?_
  simp only [d7, b7, wpSs, wpS, wpE, wpT, wpV, wpB, wpEs, wpO, wpC, fillIo, backIo, finals, bindTg, bindTgs, List.map_cons, List.map_nil, List.replicate_succ, List.replicate_zero, List.cons_append, List.nil_append, List.set_cons_zero, List.set_cons_succ, Nat.reduceSub, Nat.reduceAdd, g_0, g_1, g_2, g_3, g_4, g_5, g_6, g_7, g_8, g_9, a_ok, a_add, a_addS, a_addL, a_addT, a_sub, a_mul, a_mulL, a_mulT, a_mod, a_fdiv, a_pow, a_augadd, a_augsub, a_neg, a_lt, a_le, a_gt, a_ge, a_eq, a_ne, a_isN, a_isnN, a_isB, a_isnB, a_truB, a_truI, a_truN, a_truT, a_truL, a_lenT, a_lenL, a_abs, a_int, a_strI, a_max2, a_min2, a_listL, a_listT, a_tupL, a_tupT, a_range1, a_range2, a_seqT, a_seqL, a_enumT, a_enumL, a_zipT, a_zipL, a_idxL, a_idxT, a_cutL, a_cutT, a_cutS, a_revT, a_revL, at_0, at_1, at_2, at_3, at_4, at_5, a_okk, Option.bind_some, pu_0, pu_1, pu_2, pu_3, pu_4, f_int, f_bl, f_non, e_int, e_bl, e_str, true_and, and_true, and_self, decide_eq_true_eq, if_true, if_false, wipe, restore, List.getElem?_cons_zero, List.getElem?_cons_succ, Option.getD_some, Option.getD_none, Bool.not_true, Bool.not_false, Bool.true_and, Bool.false_and, Bool.and_true, Bool.and_false, Bool.or_true, Bool.true_or, Bool.or_false, Bool.false_or, if_true, if_false, Bool.false_eq_true, Bool.true_eq_false, Bool.not_eq_true', decide_eq_false_iff_not, ty_int_int, ty_int_bool, ty_int_str, ty_int_tuple, ty_int_list, ty_bl_int, ty_bl_bool, ty_bl_str, ty_bl_tuple, ty_bl_list, ty_non_int, ty_non_bool, ty_non_str, ty_non_tuple, ty_non_list, ty_str_int, ty_str_bool, ty_str_str, ty_str_tuple, ty_str_list, ty_tup_int, ty_tup_bool, ty_tup_str, ty_tup_tuple, ty_tup_list, ty_lst_int, ty_lst_bool, ty_lst_str, ty_lst_tuple, ty_lst_list, wpH, isSub, Nat.reduceBEq, beq_self_eq_true, isNon, g_10, g_11, g_12, g_13, g_14, g_15, g_16, g_17, g_18, g_19, g_20, g_21, g_22, g_23, g_24, g_25, g_26, g_27, g_28, g_29, g_30, setAll, la_0, ap_0, isL_l]
  exact sp6 (by omega) hp2 hx hx2 (by omega) (by omega) n (by omega) _ _ hK
theorem num_betw {x p : Int} (hx : 0 ≤ x) (hx2 : x < p) : betw (.int x) 0 (p - 1) = true := by simp only [betw, Bool.and_eq_true, decide_eq_true_eq]; omega
theorem prime_ge {p : Int} (hp : primeB (.int p) = true) : 3 ≤ p ∧ p ≤ 97 := by
  simp only [primeB, Bool.and_eq_true, decide_eq_true_eq] at hp
  exact hp.1
theorem sp8 {p x m : Int} (hp : primeB (.int p) = true) (hx : 0 ≤ x) (hx2 : x < p) (hm : 0 ≤ m) (hm2 : m ≤ 1000) : Does Pr 5 8 [.int p, .int x, .int m] (.int (x ^ m.toNat % p)) [] := by
  have hg := prime_ge hp
  refine does_of rfl rfl fun n hn K X hK => ?_
  simp only [d8, b8, wpSs, wpS, wpE, wpT, wpV, wpB, wpEs, wpO, wpC, fillIo, backIo, finals, bindTg, bindTgs, List.map_cons, List.map_nil, List.replicate_succ, List.replicate_zero, List.cons_append, List.nil_append, List.set_cons_zero, List.set_cons_succ, Nat.reduceSub, Nat.reduceAdd, g_0, g_1, g_2, g_3, g_4, g_5, g_6, g_7, g_8, g_9, a_ok, a_add, a_addS, a_addL, a_addT, a_sub, a_mul, a_mulL, a_mulT, a_mod, a_fdiv, a_pow, a_augadd, a_augsub, a_neg, a_lt, a_le, a_gt, a_ge, a_eq, a_ne, a_isN, a_isnN, a_isB, a_isnB, a_truB, a_truI, a_truN, a_truT, a_truL, a_lenT, a_lenL, a_abs, a_int, a_strI, a_max2, a_min2, a_listL, a_listT, a_tupL, a_tupT, a_range1, a_range2, a_seqT, a_seqL, a_enumT, a_enumL, a_zipT, a_zipL, a_idxL, a_idxT, a_cutL, a_cutT, a_cutS, a_revT, a_revL, at_0, at_1, at_2, at_3, at_4, at_5, a_okk, Option.bind_some, pu_0, pu_1, pu_2, pu_3, pu_4, f_int, f_bl, f_non, e_int, e_bl, e_str, true_and, and_true, and_self, decide_eq_true_eq, if_true, if_false, wipe, restore, List.getElem?_cons_zero, List.getElem?_cons_succ, Option.getD_some, Option.getD_none, Bool.not_true, Bool.not_false, Bool.true_and, Bool.false_and, Bool.and_true, Bool.and_false, Bool.or_true, Bool.true_or, Bool.or_false, Bool.false_or, if_true, if_false, Bool.false_eq_true, Bool.true_eq_false, Bool.not_eq_true', decide_eq_false_iff_not, ty_int_int, ty_int_bool, ty_int_str, ty_int_tuple, ty_int_list, ty_bl_int, ty_bl_bool, ty_bl_str, ty_bl_tuple, ty_bl_list, ty_non_int, ty_non_bool, ty_non_str, ty_non_tuple, ty_non_list, ty_str_int, ty_str_bool, ty_str_str, ty_str_tuple, ty_str_list, ty_tup_int, ty_tup_bool, ty_tup_str, ty_tup_tuple, ty_tup_list, ty_lst_int, ty_lst_bool, ty_lst_str, ty_lst_tuple, ty_lst_list, wpH, isSub, Nat.reduceBEq, beq_self_eq_true, isNon, g_10, g_11, g_12, g_13, g_14, g_15, g_16, g_17, g_18, g_19, g_20, g_21, g_22, g_23, g_24, g_25, g_26, g_27, g_28, g_29, g_30, setAll, la_0, ap_0, isL_l]
  refine sp3 rfl hp n (by omega) _ _ ⟨(by decide : 1 ≤ 16777216), ?_⟩
  refine sp5 rfl (num_betw hx hx2) n (by omega) _ _ ?_
  refine sp1 rfl n (by omega) _ _ ?_
  have : betw (.int m) 0 1000 = true := by simp only [betw, Bool.and_eq_true, decide_eq_true_eq]; omega
  simp only [this, wpSs, wpS, wpE, wpT, wpV, wpB, wpEs, wpO, wpC, fillIo, backIo, finals, bindTg, bindTgs, List.map_cons, List.map_nil, List.replicate_succ, List.replicate_zero, List.cons_append, List.nil_append, List.set_cons_zero, List.set_cons_succ, Nat.reduceSub, Nat.reduceAdd, g_0, g_1, g_2, g_3, g_4, g_5, g_6, g_7, g_8, g_9, a_ok, a_add, a_addS, a_addL, a_addT, a_sub, a_mul, a_mulL, a_mulT, a_mod, a_fdiv, a_pow, a_augadd, a_augsub, a_neg, a_lt, a_le, a_gt, a_ge, a_eq, a_ne, a_isN, a_isnN, a_isB, a_isnB, a_truB, a_truI, a_truN, a_truT, a_truL, a_lenT, a_lenL, a_abs, a_int, a_strI, a_max2, a_min2, a_listL, a_listT, a_tupL, a_tupT, a_range1, a_range2, a_seqT, a_seqL, a_enumT, a_enumL, a_zipT, a_zipL, a_idxL, a_idxT, a_cutL, a_cutT, a_cutS, a_revT, a_revL, at_0, at_1, at_2, at_3, at_4, at_5, a_okk, Option.bind_some, pu_0, pu_1, pu_2, pu_3, pu_4, f_int, f_bl, f_non, e_int, e_bl, e_str, true_and, and_true, and_self, decide_eq_true_eq, if_true, if_false, wipe, restore, List.getElem?_cons_zero, List.getElem?_cons_succ, Option.getD_some, Option.getD_none, Bool.not_true, Bool.not_false, Bool.true_and, Bool.false_and, Bool.and_true, Bool.and_false, Bool.or_true, Bool.true_or, Bool.or_false, Bool.false_or, if_true, if_false, Bool.false_eq_true, Bool.true_eq_false, Bool.not_eq_true', decide_eq_false_iff_not, ty_int_int, ty_int_bool, ty_int_str, ty_int_tuple, ty_int_list, ty_bl_int, ty_bl_bool, ty_bl_str, ty_bl_tuple, ty_bl_list, ty_non_int, ty_non_bool, ty_non_str, ty_non_tuple, ty_non_list, ty_str_int, ty_str_bool, ty_str_str, ty_str_tuple, ty_str_list, ty_tup_int, ty_tup_bool, ty_tup_str, ty_tup_tuple, ty_tup_list, ty_lst_int, ty_lst_bool, ty_lst_str, ty_lst_tuple, ty_lst_list, wpH, isSub, Nat.reduceBEq, beq_self_eq_true, isNon, g_10, g_11, g_12, g_13, g_14, g_15, g_16, g_17, g_18, g_19, g_20, g_21, g_22, g_23, g_24, g_25, g_26, g_27, g_28, g_29, g_30, setAll, la_0, ap_0, isL_l]
  exact sp6 (by omega) hg.2 hx hx2 hm hm2 n (by omega) _ _ hK
theorem sp9 {p x : Int} (hp : primeB (.int p) = true) (hx : 0 ≤ x) (hx2 : x < p) : Does Pr 5 9 [.int p, .int x] (if x = 0 then .non else .int (x ^ (p - 2).toNat % p)) [] := by
  have hg := prime_ge hp
  refine does_of rfl rfl fun n hn K X hK => ?_
  simp only [d9, b9, wpSs, wpS, wpE, wpT, wpV, wpB, wpEs, wpO, wpC, fillIo, backIo, finals, bindTg, bindTgs, List.map_cons, List.map_nil, List.replicate_succ, List.replicate_zero, List.cons_append, List.nil_append, List.set_cons_zero, List.set_cons_succ, Nat.reduceSub, Nat.reduceAdd, g_0, g_1, g_2, g_3, g_4, g_5, g_6, g_7, g_8, g_9, a_ok, a_add, a_addS, a_addL, a_addT, a_sub, a_mul, a_mulL, a_mulT, a_mod, a_fdiv, a_pow, a_augadd, a_augsub, a_neg, a_lt, a_le, a_gt, a_ge, a_eq, a_ne, a_isN, a_isnN, a_isB, a_isnB, a_truB, a_truI, a_truN, a_truT, a_truL, a_lenT, a_lenL, a_abs, a_int, a_strI, a_max2, a_min2, a_listL, a_listT, a_tupL, a_tupT, a_range1, a_range2, a_seqT, a_seqL, a_enumT, a_enumL, a_zipT, a_zipL, a_idxL, a_idxT, a_cutL, a_cutT, a_cutS, a_revT, a_revL, at_0, at_1, at_2, at_3, at_4, at_5, a_okk, Option.bind_some, pu_0, pu_1, pu_2, pu_3, pu_4, f_int, f_bl, f_non, e_int, e_bl, e_str, true_and, and_true, and_self, decide_eq_true_eq, if_true, if_false, wipe, restore, List.getElem?_cons_zero, List.getElem?_cons_succ, Option.getD_some, Option.getD_none, Bool.not_true, Bool.not_false, Bool.true_and, Bool.false_and, Bool.and_true, Bool.and_false, Bool.or_true, Bool.true_or, Bool.or_false, Bool.false_or, if_true, if_false, Bool.false_eq_true, Bool.true_eq_false, Bool.not_eq_true', decide_eq_false_iff_not, ty_int_int, ty_int_bool, ty_int_str, ty_int_tuple, ty_int_list, ty_bl_int, ty_bl_bool, ty_bl_str, ty_bl_tuple, ty_bl_list, ty_non_int, ty_non_bool, ty_non_str, ty_non_tuple, ty_non_list, ty_str_int, ty_str_bool, ty_str_str, ty_str_tuple, ty_str_list, ty_tup_int, ty_tup_bool, ty_tup_str, ty_tup_tuple, ty_tup_list, ty_lst_int, ty_lst_bool, ty_lst_str, ty_lst_tuple, ty_lst_list, wpH, isSub, Nat.reduceBEq, beq_self_eq_true, isNon, g_10, g_11, g_12, g_13, g_14, g_15, g_16, g_17, g_18, g_19, g_20, g_21, g_22, g_23, g_24, g_25, g_26, g_27, g_28, g_29, g_30, setAll, la_0, ap_0, isL_l]
  refine sp3 rfl hp n (by omega) _ _ ⟨(by decide : 1 ≤ 16777216), ?_⟩
  refine sp5 rfl (num_betw hx hx2) n (by omega) _ _ ?_
  show (if x = 0 then _ else _ : Prop)
  split
  · rename_i h; rw [if_pos h] at hK; exact hK
  · rename_i h; rw [if_neg h] at hK
    exact sp7 hg.1 hg.2 hx hx2 n (by omega) _ _ hK
/-- the powers that make 1 -/
def ones (p x : Int) : List Int := (rangeI 1 (p - 1).toNat).filter fun m => decide (x ^ m.toNat % p = 1)
theorem sp10 {p x m : Int} {r : List Int} (hp : primeB (.int p) = true) (hx : 0 < x) (hx2 : x < p) (ho : ones p x = m :: r) : Does Pr 5 10 [.int p, .int x] (.int (leastI m r)) [] := by
  have hg := prime_ge hp
  refine does_of rfl rfl fun n hn K X hK => ?_
  simp only [d10, b10, wpSs, wpS, wpE, wpT, wpV, wpB, wpEs, wpO, wpC, fillIo, backIo, finals, bindTg, bindTgs, List.map_cons, List.map_nil, List.replicate_succ, List.replicate_zero, List.cons_append, List.nil_append, List.set_cons_zero, List.set_cons_succ, Nat.reduceSub, Nat.reduceAdd, g_0, g_1, g_2, g_3, g_4, g_5, g_6, g_7, g_8, g_9, a_ok, a_add, a_addS, a_addL, a_addT, a_sub, a_mul, a_mulL, a_mulT, a_mod, a_fdiv, a_pow, a_augadd, a_augsub, a_neg, a_lt, a_le, a_gt, a_ge, a_eq, a_ne, a_isN, a_isnN, a_isB, a_isnB, a_truB, a_truI, a_truN, a_truT, a_truL, a_lenT, a_lenL, a_abs, a_int, a_strI, a_max2, a_min2, a_listL, a_listT, a_tupL, a_tupT, a_range1, a_range2, a_seqT, a_seqL, a_enumT, a_enumL, a_zipT, a_zipL, a_idxL, a_idxT, a_cutL, a_cutT, a_cutS, a_revT, a_revL, at_0, at_1, at_2, at_3, at_4, at_5, a_okk, Option.bind_some, pu_0, pu_1, pu_2, pu_3, pu_4, f_int, f_bl, f_non, e_int, e_bl, e_str, true_and, and_true, and_self, decide_eq_true_eq, if_true, if_false, wipe, restore, List.getElem?_cons_zero, List.getElem?_cons_succ, Option.getD_some, Option.getD_none, Bool.not_true, Bool.not_false, Bool.true_and, Bool.false_and, Bool.and_true, Bool.and_false, Bool.or_true, Bool.true_or, Bool.or_false, Bool.false_or, if_true, if_false, Bool.false_eq_true, Bool.true_eq_false, Bool.not_eq_true', decide_eq_false_iff_not, ty_int_int, ty_int_bool, ty_int_str, ty_int_tuple, ty_int_list, ty_bl_int, ty_bl_bool, ty_bl_str, ty_bl_tuple, ty_bl_list, ty_non_int, ty_non_bool, ty_non_str, ty_non_tuple, ty_non_list, ty_str_int, ty_str_bool, ty_str_str, ty_str_tuple, ty_str_list, ty_tup_int, ty_tup_bool, ty_tup_str, ty_tup_tuple, ty_tup_list, ty_lst_int, ty_lst_bool, ty_lst_str, ty_lst_tuple, ty_lst_list, wpH, isSub, Nat.reduceBEq, beq_self_eq_true, isNon, g_10, g_11, g_12, g_13, g_14, g_15, g_16, g_17, g_18, g_19, g_20, g_21, g_22, g_23, g_24, g_25, g_26, g_27, g_28, g_29, g_30, setAll, la_0, ap_0, isL_l]
  refine sp3 rfl hp n (by omega) _ _ ⟨(by decide : 1 ≤ 16777216), ?_⟩
  refine sp5 rfl (num_betw (by omega) hx2) n (by omega) _ _ ?_
  show (if x = 0 then _ else _ : Prop)
  rw [if_neg (by omega)]
  simp only [rangeL_eq]
  refine ⟨by unfold small62 line; omega, ?_⟩
  refine loopC_fil .int .int (fun m => decide (x ^ m.toNat % p = 1)) _ _ (fun y hy acc next h1 h2 => ?_) ?_
  · simp only [wpSs, wpS, wpE, wpT, wpV, wpB, wpEs, wpO, wpC, fillIo, backIo, finals, bindTg, bindTgs, List.map_cons, List.map_nil, List.replicate_succ, List.replicate_zero, List.cons_append, List.nil_append, List.set_cons_zero, List.set_cons_succ, Nat.reduceSub, Nat.reduceAdd, g_0, g_1, g_2, g_3, g_4, g_5, g_6, g_7, g_8, g_9, a_ok, a_add, a_addS, a_addL, a_addT, a_sub, a_mul, a_mulL, a_mulT, a_mod, a_fdiv, a_pow, a_augadd, a_augsub, a_neg, a_lt, a_le, a_gt, a_ge, a_eq, a_ne, a_isN, a_isnN, a_isB, a_isnB, a_truB, a_truI, a_truN, a_truT, a_truL, a_lenT, a_lenL, a_abs, a_int, a_strI, a_max2, a_min2, a_listL, a_listT, a_tupL, a_tupT, a_range1, a_range2, a_seqT, a_seqL, a_enumT, a_enumL, a_zipT, a_zipL, a_idxL, a_idxT, a_cutL, a_cutT, a_cutS, a_revT, a_revL, at_0, at_1, at_2, at_3, at_4, at_5, a_okk, Option.bind_some, pu_0, pu_1, pu_2, pu_3, pu_4, f_int, f_bl, f_non, e_int, e_bl, e_str, true_and, and_true, and_self, decide_eq_true_eq, if_true, if_false, wipe, restore, List.getElem?_cons_zero, List.getElem?_cons_succ, Option.getD_some, Option.getD_none, Bool.not_true, Bool.not_false, Bool.true_and, Bool.false_and, Bool.and_true, Bool.and_false, Bool.or_true, Bool.true_or, Bool.or_false, Bool.false_or, if_true, if_false, Bool.false_eq_true, Bool.true_eq_false, Bool.not_eq_true', decide_eq_false_iff_not, ty_int_int, ty_int_bool, ty_int_str, ty_int_tuple, ty_int_list, ty_bl_int, ty_bl_bool, ty_bl_str, ty_bl_tuple, ty_bl_list, ty_non_int, ty_non_bool, ty_non_str, ty_non_tuple, ty_non_list, ty_str_int, ty_str_bool, ty_str_str, ty_str_tuple, ty_str_list, ty_tup_int, ty_tup_bool, ty_tup_str, ty_tup_tuple, ty_tup_list, ty_lst_int, ty_lst_bool, ty_lst_str, ty_lst_tuple, ty_lst_list, wpH, isSub, Nat.reduceBEq, beq_self_eq_true, isNon, g_10, g_11, g_12, g_13, g_14, g_15, g_16, g_17, g_18, g_19, g_20, g_21, g_22, g_23, g_24, g_25, g_26, g_27, g_28, g_29, g_30, setAll, la_0, ap_0, isL_l]
    have hy' := mem_rangeI.mp hy
    refine sp6 (by omega) hg.2 (by omega) hx2 (by omega) (by omega) n (by omega) _ _ ?_
    simp only [wpSs, wpS, wpE, wpT, wpV, wpB, wpEs, wpO, wpC, fillIo, backIo, finals, bindTg, bindTgs, List.map_cons, List.map_nil, List.replicate_succ, List.replicate_zero, List.cons_append, List.nil_append, List.set_cons_zero, List.set_cons_succ, Nat.reduceSub, Nat.reduceAdd, g_0, g_1, g_2, g_3, g_4, g_5, g_6, g_7, g_8, g_9, a_ok, a_add, a_addS, a_addL, a_addT, a_sub, a_mul, a_mulL, a_mulT, a_mod, a_fdiv, a_pow, a_augadd, a_augsub, a_neg, a_lt, a_le, a_gt, a_ge, a_eq, a_ne, a_isN, a_isnN, a_isB, a_isnB, a_truB, a_truI, a_truN, a_truT, a_truL, a_lenT, a_lenL, a_abs, a_int, a_strI, a_max2, a_min2, a_listL, a_listT, a_tupL, a_tupT, a_range1, a_range2, a_seqT, a_seqL, a_enumT, a_enumL, a_zipT, a_zipL, a_idxL, a_idxT, a_cutL, a_cutT, a_cutS, a_revT, a_revL, at_0, at_1, at_2, at_3, at_4, at_5, a_okk, Option.bind_some, pu_0, pu_1, pu_2, pu_3, pu_4, f_int, f_bl, f_non, e_int, e_bl, e_str, true_and, and_true, and_self, decide_eq_true_eq, if_true, if_false, wipe, restore, List.getElem?_cons_zero, List.getElem?_cons_succ, Option.getD_some, Option.getD_none, Bool.not_true, Bool.not_false, Bool.true_and, Bool.false_and, Bool.and_true, Bool.and_false, Bool.or_true, Bool.true_or, Bool.or_false, Bool.false_or, if_true, if_false, Bool.false_eq_true, Bool.true_eq_false, Bool.not_eq_true', decide_eq_false_iff_not, ty_int_int, ty_int_bool, ty_int_str, ty_int_tuple, ty_int_list, ty_bl_int, ty_bl_bool, ty_bl_str, ty_bl_tuple, ty_bl_list, ty_non_int, ty_non_bool, ty_non_str, ty_non_tuple, ty_non_list, ty_str_int, ty_str_bool, ty_str_str, ty_str_tuple, ty_str_list, ty_tup_int, ty_tup_bool, ty_tup_str, ty_tup_tuple, ty_tup_list, ty_lst_int, ty_lst_bool, ty_lst_str, ty_lst_tuple, ty_lst_list, wpH, isSub, Nat.reduceBEq, beq_self_eq_true, isNon, g_10, g_11, g_12, g_13, g_14, g_15, g_16, g_17, g_18, g_19, g_20, g_21, g_22, g_23, g_24, g_25, g_26, g_27, g_28, g_29, g_30, setAll, la_0, ap_0, isL_l]
    split
    · rename_i h; exact h1 (decide_eq_true h)
    · rename_i h; exact h2 (decide_eq_false h)
  · simp only [wpSs, wpS, wpE, wpT, wpV, wpB, wpEs, wpO, wpC, fillIo, backIo, finals, bindTg, bindTgs, List.map_cons, List.map_nil, List.replicate_succ, List.replicate_zero, List.cons_append, List.nil_append, List.set_cons_zero, List.set_cons_succ, Nat.reduceSub, Nat.reduceAdd, g_0, g_1, g_2, g_3, g_4, g_5, g_6, g_7, g_8, g_9, a_ok, a_add, a_addS, a_addL, a_addT, a_sub, a_mul, a_mulL, a_mulT, a_mod, a_fdiv, a_pow, a_augadd, a_augsub, a_neg, a_lt, a_le, a_gt, a_ge, a_eq, a_ne, a_isN, a_isnN, a_isB, a_isnB, a_truB, a_truI, a_truN, a_truT, a_truL, a_lenT, a_lenL, a_abs, a_int, a_strI, a_max2, a_min2, a_listL, a_listT, a_tupL, a_tupT, a_range1, a_range2, a_seqT, a_seqL, a_enumT, a_enumL, a_zipT, a_zipL, a_idxL, a_idxT, a_cutL, a_cutT, a_cutS, a_revT, a_revL, at_0, at_1, at_2, at_3, at_4, at_5, a_okk, Option.bind_some, pu_0, pu_1, pu_2, pu_3, pu_4, f_int, f_bl, f_non, e_int, e_bl, e_str, true_and, and_true, and_self, decide_eq_true_eq, if_true, if_false, wipe, restore, List.getElem?_cons_zero, List.getElem?_cons_succ, Option.getD_some, Option.getD_none, Bool.not_true, Bool.not_false, Bool.true_and, Bool.false_and, Bool.and_true, Bool.and_false, Bool.or_true, Bool.true_or, Bool.or_false, Bool.false_or, if_true, if_false, Bool.false_eq_true, Bool.true_eq_false, Bool.not_eq_true', decide_eq_false_iff_not, ty_int_int, ty_int_bool, ty_int_str, ty_int_tuple, ty_int_list, ty_bl_int, ty_bl_bool, ty_bl_str, ty_bl_tuple, ty_bl_list, ty_non_int, ty_non_bool, ty_non_str, ty_non_tuple, ty_non_list, ty_str_int, ty_str_bool, ty_str_str, ty_str_tuple, ty_str_list, ty_tup_int, ty_tup_bool, ty_tup_str, ty_tup_tuple, ty_tup_list, ty_lst_int, ty_lst_bool, ty_lst_str, ty_lst_tuple, ty_lst_list, wpH, isSub, Nat.reduceBEq, beq_self_eq_true, isNon, g_10, g_11, g_12, g_13, g_14, g_15, g_16, g_17, g_18, g_19, g_20, g_21, g_22, g_23, g_24, g_25, g_26, g_27, g_28, g_29, g_30, setAll, la_0, ap_0, isL_l]
    rw [show (List.filter (fun m => decide (x ^ m.toNat % p = 1)) (rangeI 1 (p - 1).toNat)) = ones p x from rfl, a_min1I ho]
    exact hK
theorem sp18 {p i : Int} (hp : 0 < p) : Does Pr 1 18 [.int p, .int i] (.int (i % p)) [] := by
  refine does_of rfl rfl fun n hn K X hK => ?_
  simp only [d18, b18, wpSs, wpS, wpE, wpT, wpV, wpB, wpEs, wpO, wpC, fillIo, backIo, finals, bindTg, bindTgs, List.map_cons, List.map_nil, List.replicate_succ, List.replicate_zero, List.cons_append, List.nil_append, List.set_cons_zero, List.set_cons_succ, Nat.reduceSub, Nat.reduceAdd, g_0, g_1, g_2, g_3, g_4, g_5, g_6, g_7, g_8, g_9, a_ok, a_add, a_addS, a_addL, a_addT, a_sub, a_mul, a_mulL, a_mulT, a_mod, a_fdiv, a_pow, a_augadd, a_augsub, a_neg, a_lt, a_le, a_gt, a_ge, a_eq, a_ne, a_isN, a_isnN, a_isB, a_isnB, a_truB, a_truI, a_truN, a_truT, a_truL, a_lenT, a_lenL, a_abs, a_int, a_strI, a_max2, a_min2, a_listL, a_listT, a_tupL, a_tupT, a_range1, a_range2, a_seqT, a_seqL, a_enumT, a_enumL, a_zipT, a_zipL, a_idxL, a_idxT, a_cutL, a_cutT, a_cutS, a_revT, a_revL, at_0, at_1, at_2, at_3, at_4, at_5, a_okk, Option.bind_some, pu_0, pu_1, pu_2, pu_3, pu_4, f_int, f_bl, f_non, e_int, e_bl, e_str, true_and, and_true, and_self, decide_eq_true_eq, if_true, if_false, wipe, restore, List.getElem?_cons_zero, List.getElem?_cons_succ, Option.getD_some, Option.getD_none, Bool.not_true, Bool.not_false, Bool.true_and, Bool.false_and, Bool.and_true, Bool.and_false, Bool.or_true, Bool.true_or, Bool.or_false, Bool.false_or, if_true, if_false, Bool.false_eq_true, Bool.true_eq_false, Bool.not_eq_true', decide_eq_false_iff_not, ty_int_int, ty_int_bool, ty_int_str, ty_int_tuple, ty_int_list, ty_bl_int, ty_bl_bool, ty_bl_str, ty_bl_tuple, ty_bl_list, ty_non_int, ty_non_bool, ty_non_str, ty_non_tuple, ty_non_list, ty_str_int, ty_str_bool, ty_str_str, ty_str_tuple, ty_str_list, ty_tup_int, ty_tup_bool, ty_tup_str, ty_tup_tuple, ty_tup_list, ty_lst_int, ty_lst_bool, ty_lst_str, ty_lst_tuple, ty_lst_list, wpH, isSub, Nat.reduceBEq, beq_self_eq_true, isNon, g_10, g_11, g_12, g_13, g_14, g_15, g_16, g_17, g_18, g_19, g_20, g_21, g_22, g_23, g_24, g_25, g_26, g_27, g_28, g_29, g_30, setAll, la_0, ap_0, isL_l]
  exact ⟨hp, hK⟩
theorem sp15 {a b : Int} : Does Pr 1 15 [.int a, .int b] (.bl (decide (a = b))) [] := by
  refine does_of rfl rfl fun n hn K X hK => ?_
  simp only [d15, b15, isNon, wpSs, wpS, wpE, wpT, wpV, wpB, wpEs, wpO, wpC, fillIo, backIo, finals, bindTg, bindTgs, List.map_cons, List.map_nil, List.replicate_succ, List.replicate_zero, List.cons_append, List.nil_append, List.set_cons_zero, List.set_cons_succ, Nat.reduceSub, Nat.reduceAdd, g_0, g_1, g_2, g_3, g_4, g_5, g_6, g_7, g_8, g_9, a_ok, a_add, a_addS, a_addL, a_addT, a_sub, a_mul, a_mulL, a_mulT, a_mod, a_fdiv, a_pow, a_augadd, a_augsub, a_neg, a_lt, a_le, a_gt, a_ge, a_eq, a_ne, a_isN, a_isnN, a_isB, a_isnB, a_truB, a_truI, a_truN, a_truT, a_truL, a_lenT, a_lenL, a_abs, a_int, a_strI, a_max2, a_min2, a_listL, a_listT, a_tupL, a_tupT, a_range1, a_range2, a_seqT, a_seqL, a_enumT, a_enumL, a_zipT, a_zipL, a_idxL, a_idxT, a_cutL, a_cutT, a_cutS, a_revT, a_revL, at_0, at_1, at_2, at_3, at_4, at_5, a_okk, Option.bind_some, pu_0, pu_1, pu_2, pu_3, pu_4, f_int, f_bl, f_non, e_int, e_bl, e_str, true_and, and_true, and_self, decide_eq_true_eq, if_true, if_false, wipe, restore, List.getElem?_cons_zero, List.getElem?_cons_succ, Option.getD_some, Option.getD_none, Bool.not_true, Bool.not_false, Bool.true_and, Bool.false_and, Bool.and_true, Bool.and_false, Bool.or_true, Bool.true_or, Bool.or_false, Bool.false_or, if_true, if_false, Bool.false_eq_true, Bool.true_eq_false, Bool.not_eq_true', decide_eq_false_iff_not, ty_int_int, ty_int_bool, ty_int_str, ty_int_tuple, ty_int_list, ty_bl_int, ty_bl_bool, ty_bl_str, ty_bl_tuple, ty_bl_list, ty_non_int, ty_non_bool, ty_non_str, ty_non_tuple, ty_non_list, ty_str_int, ty_str_bool, ty_str_str, ty_str_tuple, ty_str_list, ty_tup_int, ty_tup_bool, ty_tup_str, ty_tup_tuple, ty_tup_list, ty_lst_int, ty_lst_bool, ty_lst_str, ty_lst_tuple, ty_lst_list, wpH, isSub, Nat.reduceBEq, beq_self_eq_true, isNon, g_10, g_11, g_12, g_13, g_14, g_15, g_16, g_17, g_18, g_19, g_20, g_21, g_22, g_23, g_24, g_25, g_26, g_27, g_28, g_29, g_30, setAll, la_0, ap_0, isL_l]
  exact hK
theorem sp15e {a : Int} : Does Pr 1 15 [.int a, .int a] (.bl true) [] := by
  have := sp15 (a := a) (b := a)
  rwa [decide_eq_true rfl] at this
theorem sp15n : Does Pr 1 15 [.non, .non] (.bl true) [] := by
  refine does_of rfl rfl fun n hn K X hK => ?_
  simp only [d15, b15, isNon, wpSs, wpS, wpE, wpT, wpV, wpB, wpEs, wpO, wpC, fillIo, backIo, finals, bindTg, bindTgs, List.map_cons, List.map_nil, List.replicate_succ, List.replicate_zero, List.cons_append, List.nil_append, List.set_cons_zero, List.set_cons_succ, Nat.reduceSub, Nat.reduceAdd, g_0, g_1, g_2, g_3, g_4, g_5, g_6, g_7, g_8, g_9, a_ok, a_add, a_addS, a_addL, a_addT, a_sub, a_mul, a_mulL, a_mulT, a_mod, a_fdiv, a_pow, a_augadd, a_augsub, a_neg, a_lt, a_le, a_gt, a_ge, a_eq, a_ne, a_isN, a_isnN, a_isB, a_isnB, a_truB, a_truI, a_truN, a_truT, a_truL, a_lenT, a_lenL, a_abs, a_int, a_strI, a_max2, a_min2, a_listL, a_listT, a_tupL, a_tupT, a_range1, a_range2, a_seqT, a_seqL, a_enumT, a_enumL, a_zipT, a_zipL, a_idxL, a_idxT, a_cutL, a_cutT, a_cutS, a_revT, a_revL, at_0, at_1, at_2, at_3, at_4, at_5, a_okk, Option.bind_some, pu_0, pu_1, pu_2, pu_3, pu_4, f_int, f_bl, f_non, e_int, e_bl, e_str, true_and, and_true, and_self, decide_eq_true_eq, if_true, if_false, wipe, restore, List.getElem?_cons_zero, List.getElem?_cons_succ, Option.getD_some, Option.getD_none, Bool.not_true, Bool.not_false, Bool.true_and, Bool.false_and, Bool.and_true, Bool.and_false, Bool.or_true, Bool.true_or, Bool.or_false, Bool.false_or, if_true, if_false, Bool.false_eq_true, Bool.true_eq_false, Bool.not_eq_true', decide_eq_false_iff_not, ty_int_int, ty_int_bool, ty_int_str, ty_int_tuple, ty_int_list, ty_bl_int, ty_bl_bool, ty_bl_str, ty_bl_tuple, ty_bl_list, ty_non_int, ty_non_bool, ty_non_str, ty_non_tuple, ty_non_list, ty_str_int, ty_str_bool, ty_str_str, ty_str_tuple, ty_str_list, ty_tup_int, ty_tup_bool, ty_tup_str, ty_tup_tuple, ty_tup_list, ty_lst_int, ty_lst_bool, ty_lst_str, ty_lst_tuple, ty_lst_list, wpH, isSub, Nat.reduceBEq, beq_self_eq_true, isNon, g_10, g_11, g_12, g_13, g_14, g_15, g_16, g_17, g_18, g_19, g_20, g_21, g_22, g_23, g_24, g_25, g_26, g_27, g_28, g_29, g_30, setAll, la_0, ap_0, isL_l]
  exact hK
/-! ### the hand -/
def Hand (t : TV) : Prop := ∃ (cs : List Int) (a b c d : Int), t = .lst [.lst (cs.map .int), .int a, .int b, .int c, .int d] ∧ (∀ x ∈ cs, 0 ≤ x) ∧ 0 ≤ a ∧ 0 ≤ b ∧ 0 ≤ c ∧ c < 2147483647 ∧ 0 ≤ d
theorem sp12 {ns : List Int} (hl : ns.length ≤ 63) : DoesS Pr 1 12 [.scr ns] (fun r os => Hand r ∧ os = []) := by
  refine doesS_of rfl rfl fun n hn K X hK => ?_
  have ec : cut (ns.map TV.int) none (some 63) = ns.map .int := by
    unfold cut cutIx
    simp only [Nat.sub_zero, List.drop_zero, List.length_map]
    rw [if_neg (by omega)]
    exact List.take_of_length_le (by simp; omega)
  simp only [d12, b12, wpSs, wpS, wpE, wpT, wpV, wpB, wpEs, wpO, wpC, fillIo, backIo, finals, bindTg, bindTgs, List.map_cons, List.map_nil, List.replicate_succ, List.replicate_zero, List.cons_append, List.nil_append, List.set_cons_zero, List.set_cons_succ, Nat.reduceSub, Nat.reduceAdd, g_0, g_1, g_2, g_3, g_4, g_5, g_6, g_7, g_8, g_9, a_ok, a_add, a_addS, a_addL, a_addT, a_sub, a_mul, a_mulL, a_mulT, a_mod, a_fdiv, a_pow, a_augadd, a_augsub, a_neg, a_lt, a_le, a_gt, a_ge, a_eq, a_ne, a_isN, a_isnN, a_isB, a_isnB, a_truB, a_truI, a_truN, a_truT, a_truL, a_lenT, a_lenL, a_abs, a_int, a_strI, a_max2, a_min2, a_listL, a_listT, a_tupL, a_tupT, a_range1, a_range2, a_seqT, a_seqL, a_enumT, a_enumL, a_zipT, a_zipL, a_idxL, a_idxT, a_cutL, a_cutT, a_cutS, a_revT, a_revL, at_0, at_1, at_2, at_3, at_4, at_5, a_okk, Option.bind_some, pu_0, pu_1, pu_2, pu_3, pu_4, f_int, f_bl, f_non, e_int, e_bl, e_str, true_and, and_true, and_self, decide_eq_true_eq, if_true, if_false, wipe, restore, List.getElem?_cons_zero, List.getElem?_cons_succ, Option.getD_some, Option.getD_none, Bool.not_true, Bool.not_false, Bool.true_and, Bool.false_and, Bool.and_true, Bool.and_false, Bool.or_true, Bool.true_or, Bool.or_false, Bool.false_or, if_true, if_false, Bool.false_eq_true, Bool.true_eq_false, Bool.not_eq_true', decide_eq_false_iff_not, ty_int_int, ty_int_bool, ty_int_str, ty_int_tuple, ty_int_list, ty_bl_int, ty_bl_bool, ty_bl_str, ty_bl_tuple, ty_bl_list, ty_non_int, ty_non_bool, ty_non_str, ty_non_tuple, ty_non_list, ty_str_int, ty_str_bool, ty_str_str, ty_str_tuple, ty_str_list, ty_tup_int, ty_tup_bool, ty_tup_str, ty_tup_tuple, ty_tup_list, ty_lst_int, ty_lst_bool, ty_lst_str, ty_lst_tuple, ty_lst_list, wpH, isSub, Nat.reduceBEq, beq_self_eq_true, isNon, g_10, g_11, g_12, g_13, g_14, g_15, g_16, g_17, g_18, g_19, g_20, g_21, g_22, g_23, g_24, g_25, g_26, g_27, g_28, g_29, g_30, setAll, la_0, ap_0, isL_l, ec]
  refine loopC_all .int (fun x => .int x.natAbs) _ _ (fun x hx acc next hn => ?_) ?_
  · simp only [wpSs, wpS, wpE, wpT, wpV, wpB, wpEs, wpO, wpC, fillIo, backIo, finals, bindTg, bindTgs, List.map_cons, List.map_nil, List.replicate_succ, List.replicate_zero, List.cons_append, List.nil_append, List.set_cons_zero, List.set_cons_succ, Nat.reduceSub, Nat.reduceAdd, g_0, g_1, g_2, g_3, g_4, g_5, g_6, g_7, g_8, g_9, a_ok, a_add, a_addS, a_addL, a_addT, a_sub, a_mul, a_mulL, a_mulT, a_mod, a_fdiv, a_pow, a_augadd, a_augsub, a_neg, a_lt, a_le, a_gt, a_ge, a_eq, a_ne, a_isN, a_isnN, a_isB, a_isnB, a_truB, a_truI, a_truN, a_truT, a_truL, a_lenT, a_lenL, a_abs, a_int, a_strI, a_max2, a_min2, a_listL, a_listT, a_tupL, a_tupT, a_range1, a_range2, a_seqT, a_seqL, a_enumT, a_enumL, a_zipT, a_zipL, a_idxL, a_idxT, a_cutL, a_cutT, a_cutS, a_revT, a_revL, at_0, at_1, at_2, at_3, at_4, at_5, a_okk, Option.bind_some, pu_0, pu_1, pu_2, pu_3, pu_4, f_int, f_bl, f_non, e_int, e_bl, e_str, true_and, and_true, and_self, decide_eq_true_eq, if_true, if_false, wipe, restore, List.getElem?_cons_zero, List.getElem?_cons_succ, Option.getD_some, Option.getD_none, Bool.not_true, Bool.not_false, Bool.true_and, Bool.false_and, Bool.and_true, Bool.and_false, Bool.or_true, Bool.true_or, Bool.or_false, Bool.false_or, if_true, if_false, Bool.false_eq_true, Bool.true_eq_false, Bool.not_eq_true', decide_eq_false_iff_not, ty_int_int, ty_int_bool, ty_int_str, ty_int_tuple, ty_int_list, ty_bl_int, ty_bl_bool, ty_bl_str, ty_bl_tuple, ty_bl_list, ty_non_int, ty_non_bool, ty_non_str, ty_non_tuple, ty_non_list, ty_str_int, ty_str_bool, ty_str_str, ty_str_tuple, ty_str_list, ty_tup_int, ty_tup_bool, ty_tup_str, ty_tup_tuple, ty_tup_list, ty_lst_int, ty_lst_bool, ty_lst_str, ty_lst_tuple, ty_lst_list, wpH, isSub, Nat.reduceBEq, beq_self_eq_true, isNon, g_10, g_11, g_12, g_13, g_14, g_15, g_16, g_17, g_18, g_19, g_20, g_21, g_22, g_23, g_24, g_25, g_26, g_27, g_28, g_29, g_30, setAll, la_0, ap_0, isL_l]
    exact hn
  · simp only [wpSs, wpS, wpE, wpT, wpV, wpB, wpEs, wpO, wpC, fillIo, backIo, finals, bindTg, bindTgs, List.map_cons, List.map_nil, List.replicate_succ, List.replicate_zero, List.cons_append, List.nil_append, List.set_cons_zero, List.set_cons_succ, Nat.reduceSub, Nat.reduceAdd, g_0, g_1, g_2, g_3, g_4, g_5, g_6, g_7, g_8, g_9, a_ok, a_add, a_addS, a_addL, a_addT, a_sub, a_mul, a_mulL, a_mulT, a_mod, a_fdiv, a_pow, a_augadd, a_augsub, a_neg, a_lt, a_le, a_gt, a_ge, a_eq, a_ne, a_isN, a_isnN, a_isB, a_isnB, a_truB, a_truI, a_truN, a_truT, a_truL, a_lenT, a_lenL, a_abs, a_int, a_strI, a_max2, a_min2, a_listL, a_listT, a_tupL, a_tupT, a_range1, a_range2, a_seqT, a_seqL, a_enumT, a_enumL, a_zipT, a_zipL, a_idxL, a_idxT, a_cutL, a_cutT, a_cutS, a_revT, a_revL, at_0, at_1, at_2, at_3, at_4, at_5, a_okk, Option.bind_some, pu_0, pu_1, pu_2, pu_3, pu_4, f_int, f_bl, f_non, e_int, e_bl, e_str, true_and, and_true, and_self, decide_eq_true_eq, if_true, if_false, wipe, restore, List.getElem?_cons_zero, List.getElem?_cons_succ, Option.getD_some, Option.getD_none, Bool.not_true, Bool.not_false, Bool.true_and, Bool.false_and, Bool.and_true, Bool.and_false, Bool.or_true, Bool.true_or, Bool.or_false, Bool.false_or, if_true, if_false, Bool.false_eq_true, Bool.true_eq_false, Bool.not_eq_true', decide_eq_false_iff_not, ty_int_int, ty_int_bool, ty_int_str, ty_int_tuple, ty_int_list, ty_bl_int, ty_bl_bool, ty_bl_str, ty_bl_tuple, ty_bl_list, ty_non_int, ty_non_bool, ty_non_str, ty_non_tuple, ty_non_list, ty_str_int, ty_str_bool, ty_str_str, ty_str_tuple, ty_str_list, ty_tup_int, ty_tup_bool, ty_tup_str, ty_tup_tuple, ty_tup_list, ty_lst_int, ty_lst_bool, ty_lst_str, ty_lst_tuple, ty_lst_list, wpH, isSub, Nat.reduceBEq, beq_self_eq_true, isNon, g_10, g_11, g_12, g_13, g_14, g_15, g_16, g_17, g_18, g_19, g_20, g_21, g_22, g_23, g_24, g_25, g_26, g_27, g_28, g_29, g_30, setAll, la_0, ap_0, isL_l]
    refine ⟨mulOk_l (by omega), by simp [line], ?_⟩
    rw [show (ns.map fun x : Int => TV.int x.natAbs) = (ns.map fun x : Int => (x.natAbs : Int)).map .int by simp]
    refine hK _ _ ⟨⟨_, 0, 0, _, 0, rfl, ?_, by omega, by omega, ?_, ?_, by omega⟩, rfl⟩
    · intro x hx
      obtain ⟨y, _, rfl⟩ := List.mem_map.mp hx
      omega
    · simp only [List.length_map]; omega
    · simp only [List.length_map]; omega
theorem sp13 {h : TV} {many : Int} (hh : Hand h) (h0 : 0 < many) (h1 : many < 1073741824) : DoesS Pr 1 13 [h, .int many] (fun r os => ∃ i h', r = .int i ∧ 0 ≤ i ∧ i < many ∧ os = [h'] ∧ Hand h') := by
  obtain ⟨cs, a, b, c, d, rfl, p1, p2, p3, p4, p5, p6⟩ := hh
  refine doesS_of rfl rfl fun n hn K X hK => ?_
  refine wpSs_cut (Prog.call_mono Pr n) (fun ρ => ∃ h' o, Hand h' ∧ ρ = [some h', some (.int many), o, none, none]) ?_ ?_
  · simp only [d13, b13, wpSs, wpS, wpE, wpT, wpV, wpB, wpEs, wpO, wpC, fillIo, backIo, finals, bindTg, bindTgs, List.map_cons, List.map_nil, List.replicate_succ, List.replicate_zero, List.cons_append, List.nil_append, List.set_cons_zero, List.set_cons_succ, Nat.reduceSub, Nat.reduceAdd, g_0, g_1, g_2, g_3, g_4, g_5, g_6, g_7, g_8, g_9, a_ok, a_add, a_addS, a_addL, a_addT, a_sub, a_mul, a_mulL, a_mulT, a_mod, a_fdiv, a_pow, a_augadd, a_augsub, a_neg, a_lt, a_le, a_gt, a_ge, a_eq, a_ne, a_isN, a_isnN, a_isB, a_isnB, a_truB, a_truI, a_truN, a_truT, a_truL, a_lenT, a_lenL, a_abs, a_int, a_strI, a_max2, a_min2, a_listL, a_listT, a_tupL, a_tupT, a_range1, a_range2, a_seqT, a_seqL, a_enumT, a_enumL, a_zipT, a_zipL, a_idxL, a_idxT, a_cutL, a_cutT, a_cutS, a_revT, a_revL, at_0, at_1, at_2, at_3, at_4, at_5, a_okk, Option.bind_some, pu_0, pu_1, pu_2, pu_3, pu_4, f_int, f_bl, f_non, e_int, e_bl, e_str, true_and, and_true, and_self, decide_eq_true_eq, if_true, if_false, wipe, restore, List.getElem?_cons_zero, List.getElem?_cons_succ, Option.getD_some, Option.getD_none, Bool.not_true, Bool.not_false, Bool.true_and, Bool.false_and, Bool.and_true, Bool.and_false, Bool.or_true, Bool.true_or, Bool.or_false, Bool.false_or, if_true, if_false, Bool.false_eq_true, Bool.true_eq_false, Bool.not_eq_true', decide_eq_false_iff_not, ty_int_int, ty_int_bool, ty_int_str, ty_int_tuple, ty_int_list, ty_bl_int, ty_bl_bool, ty_bl_str, ty_bl_tuple, ty_bl_list, ty_non_int, ty_non_bool, ty_non_str, ty_non_tuple, ty_non_list, ty_str_int, ty_str_bool, ty_str_str, ty_str_tuple, ty_str_list, ty_tup_int, ty_tup_bool, ty_tup_str, ty_tup_tuple, ty_tup_list, ty_lst_int, ty_lst_bool, ty_lst_str, ty_lst_tuple, ty_lst_list, wpH, isSub, Nat.reduceBEq, beq_self_eq_true, isNon, g_10, g_11, g_12, g_13, g_14, g_15, g_16, g_17, g_18, g_19, g_20, g_21, g_22, g_23, g_24, g_25, g_26, g_27, g_28, g_29, g_30, setAll, la_0, ap_0, isL_l]
    have stay : ∃ h' o, Hand h' ∧ [some (.lst [.lst (cs.map .int), .int a, .int b, .int c, .int d]), some (.int many), none, none, none] = [some h', some (.int many), o, none, none] := ⟨_, _, ⟨cs, a, b, c, d, rfl, p1, p2, p3, p4, p5, p6⟩, rfl⟩
    split
    · split
      · rename_i hb ha
        have hlen : a.toNat < cs.length := by simp at ha; omega
        have e : atI (cs.map TV.int) a = some (.int cs[a.toNat]) := by
          unfold atI
          rw [if_pos p2]
          simp [hlen]
        have hx : 0 ≤ cs[a.toNat] := p1 _ (List.getElem_mem _)
        simp only [e, wpSs, wpS, wpE, wpT, wpV, wpB, wpEs, wpO, wpC, fillIo, backIo, finals, bindTg, bindTgs, List.map_cons, List.map_nil, List.replicate_succ, List.replicate_zero, List.cons_append, List.nil_append, List.set_cons_zero, List.set_cons_succ, Nat.reduceSub, Nat.reduceAdd, g_0, g_1, g_2, g_3, g_4, g_5, g_6, g_7, g_8, g_9, a_ok, a_add, a_addS, a_addL, a_addT, a_sub, a_mul, a_mulL, a_mulT, a_mod, a_fdiv, a_pow, a_augadd, a_augsub, a_neg, a_lt, a_le, a_gt, a_ge, a_eq, a_ne, a_isN, a_isnN, a_isB, a_isnB, a_truB, a_truI, a_truN, a_truT, a_truL, a_lenT, a_lenL, a_abs, a_int, a_strI, a_max2, a_min2, a_listL, a_listT, a_tupL, a_tupT, a_range1, a_range2, a_seqT, a_seqL, a_enumT, a_enumL, a_zipT, a_zipL, a_idxL, a_idxT, a_cutL, a_cutT, a_cutS, a_revT, a_revL, at_0, at_1, at_2, at_3, at_4, at_5, a_okk, Option.bind_some, pu_0, pu_1, pu_2, pu_3, pu_4, f_int, f_bl, f_non, e_int, e_bl, e_str, true_and, and_true, and_self, decide_eq_true_eq, if_true, if_false, wipe, restore, List.getElem?_cons_zero, List.getElem?_cons_succ, Option.getD_some, Option.getD_none, Bool.not_true, Bool.not_false, Bool.true_and, Bool.false_and, Bool.and_true, Bool.and_false, Bool.or_true, Bool.true_or, Bool.or_false, Bool.false_or, if_true, if_false, Bool.false_eq_true, Bool.true_eq_false, Bool.not_eq_true', decide_eq_false_iff_not, ty_int_int, ty_int_bool, ty_int_str, ty_int_tuple, ty_int_list, ty_bl_int, ty_bl_bool, ty_bl_str, ty_bl_tuple, ty_bl_list, ty_non_int, ty_non_bool, ty_non_str, ty_non_tuple, ty_non_list, ty_str_int, ty_str_bool, ty_str_str, ty_str_tuple, ty_str_list, ty_tup_int, ty_tup_bool, ty_tup_str, ty_tup_tuple, ty_tup_list, ty_lst_int, ty_lst_bool, ty_lst_str, ty_lst_tuple, ty_lst_list, wpH, isSub, Nat.reduceBEq, beq_self_eq_true, isNon, g_10, g_11, g_12, g_13, g_14, g_15, g_16, g_17, g_18, g_19, g_20, g_21, g_22, g_23, g_24, g_25, g_26, g_27, g_28, g_29, g_30, setAll, la_0, ap_0, isL_l]
        refine ⟨by unfold mulOk; omega, by decide, by decide, ?_⟩
        split
        · exact ⟨_, _, ⟨cs, a + 1, cs[a.toNat], _, d, rfl, p1, by omega, hx, by omega, by omega, p6⟩, rfl⟩
        · exact ⟨_, _, ⟨cs, a + 1, b, _, d, rfl, p1, by omega, p3, by omega, by omega, p6⟩, rfl⟩
      · exact stay
    · exact stay
  · rintro _ ⟨h', o, ⟨cs, a, b, c, d, rfl, p1, p2, p3, p4, p5, p6⟩, rfl⟩
    simp only [d13, b13, wpSs, wpS, wpE, wpT, wpV, wpB, wpEs, wpO, wpC, fillIo, backIo, finals, bindTg, bindTgs, List.map_cons, List.map_nil, List.replicate_succ, List.replicate_zero, List.cons_append, List.nil_append, List.set_cons_zero, List.set_cons_succ, Nat.reduceSub, Nat.reduceAdd, g_0, g_1, g_2, g_3, g_4, g_5, g_6, g_7, g_8, g_9, a_ok, a_add, a_addS, a_addL, a_addT, a_sub, a_mul, a_mulL, a_mulT, a_mod, a_fdiv, a_pow, a_augadd, a_augsub, a_neg, a_lt, a_le, a_gt, a_ge, a_eq, a_ne, a_isN, a_isnN, a_isB, a_isnB, a_truB, a_truI, a_truN, a_truT, a_truL, a_lenT, a_lenL, a_abs, a_int, a_strI, a_max2, a_min2, a_listL, a_listT, a_tupL, a_tupT, a_range1, a_range2, a_seqT, a_seqL, a_enumT, a_enumL, a_zipT, a_zipL, a_idxL, a_idxT, a_cutL, a_cutT, a_cutS, a_revT, a_revL, at_0, at_1, at_2, at_3, at_4, at_5, a_okk, Option.bind_some, pu_0, pu_1, pu_2, pu_3, pu_4, f_int, f_bl, f_non, e_int, e_bl, e_str, true_and, and_true, and_self, decide_eq_true_eq, if_true, if_false, wipe, restore, List.getElem?_cons_zero, List.getElem?_cons_succ, Option.getD_some, Option.getD_none, Bool.not_true, Bool.not_false, Bool.true_and, Bool.false_and, Bool.and_true, Bool.and_false, Bool.or_true, Bool.true_or, Bool.or_false, Bool.false_or, if_true, if_false, Bool.false_eq_true, Bool.true_eq_false, Bool.not_eq_true', decide_eq_false_iff_not, ty_int_int, ty_int_bool, ty_int_str, ty_int_tuple, ty_int_list, ty_bl_int, ty_bl_bool, ty_bl_str, ty_bl_tuple, ty_bl_list, ty_non_int, ty_non_bool, ty_non_str, ty_non_tuple, ty_non_list, ty_str_int, ty_str_bool, ty_str_str, ty_str_tuple, ty_str_list, ty_tup_int, ty_tup_bool, ty_tup_str, ty_tup_tuple, ty_tup_list, ty_lst_int, ty_lst_bool, ty_lst_str, ty_lst_tuple, ty_lst_list, wpH, isSub, Nat.reduceBEq, beq_self_eq_true, isNon, g_10, g_11, g_12, g_13, g_14, g_15, g_16, g_17, g_18, g_19, g_20, g_21, g_22, g_23, g_24, g_25, g_26, g_27, g_28, g_29, g_30, setAll, la_0, ap_0, isL_l]
    split
    · refine ⟨h0, ⟨h0, h1⟩, hK _ _ ⟨_, _, rfl, Int.emod_nonneg _ (by omega), Int.emod_lt_of_pos _ h0, rfl, cs, a, b / many, c, d, rfl, p1, p2, Int.ediv_nonneg p3 (by omega), p4, p5, p6⟩⟩
    · refine ⟨?_, ?_, ?_, ?_, ?_, ?_, ?_, ?_, ?_, ?_, h0, hK _ _ ⟨_, _, rfl, Int.emod_nonneg _ (by omega), Int.emod_lt_of_pos _ h0, rfl, cs, a, b, c, d + 1, rfl, p1, p2, p3, p4, p5, by omega⟩⟩
      all_goals first | decide | (unfold mulOk; omega)
theorem sp14 {h : TV} {xs : List TV} (hh : Hand h) (h0 : xs ≠ []) (h1 : xs.length < 1073741824) : DoesS Pr 2 14 [h, .lst xs] (fun r os => r ∈ xs ∧ ∃ h', os = [h'] ∧ Hand h') := by
  refine doesS_of rfl rfl fun n hn K X hK => ?_
  have hpos : 0 < xs.length := List.length_pos_iff.mpr h0
  simp only [d14, b14, wpSs, wpS, wpE, wpT, wpV, wpB, wpEs, wpO, wpC, fillIo, backIo, finals, bindTg, bindTgs, List.map_cons, List.map_nil, List.replicate_succ, List.replicate_zero, List.cons_append, List.nil_append, List.set_cons_zero, List.set_cons_succ, Nat.reduceSub, Nat.reduceAdd, g_0, g_1, g_2, g_3, g_4, g_5, g_6, g_7, g_8, g_9, a_ok, a_add, a_addS, a_addL, a_addT, a_sub, a_mul, a_mulL, a_mulT, a_mod, a_fdiv, a_pow, a_augadd, a_augsub, a_neg, a_lt, a_le, a_gt, a_ge, a_eq, a_ne, a_isN, a_isnN, a_isB, a_isnB, a_truB, a_truI, a_truN, a_truT, a_truL, a_lenT, a_lenL, a_abs, a_int, a_strI, a_max2, a_min2, a_listL, a_listT, a_tupL, a_tupT, a_range1, a_range2, a_seqT, a_seqL, a_enumT, a_enumL, a_zipT, a_zipL, a_idxL, a_idxT, a_cutL, a_cutT, a_cutS, a_revT, a_revL, at_0, at_1, at_2, at_3, at_4, at_5, a_okk, Option.bind_some, pu_0, pu_1, pu_2, pu_3, pu_4, f_int, f_bl, f_non, e_int, e_bl, e_str, true_and, and_true, and_self, decide_eq_true_eq, if_true, if_false, wipe, restore, List.getElem?_cons_zero, List.getElem?_cons_succ, Option.getD_some, Option.getD_none, Bool.not_true, Bool.not_false, Bool.true_and, Bool.false_and, Bool.and_true, Bool.and_false, Bool.or_true, Bool.true_or, Bool.or_false, Bool.false_or, if_true, if_false, Bool.false_eq_true, Bool.true_eq_false, Bool.not_eq_true', decide_eq_false_iff_not, ty_int_int, ty_int_bool, ty_int_str, ty_int_tuple, ty_int_list, ty_bl_int, ty_bl_bool, ty_bl_str, ty_bl_tuple, ty_bl_list, ty_non_int, ty_non_bool, ty_non_str, ty_non_tuple, ty_non_list, ty_str_int, ty_str_bool, ty_str_str, ty_str_tuple, ty_str_list, ty_tup_int, ty_tup_bool, ty_tup_str, ty_tup_tuple, ty_tup_list, ty_lst_int, ty_lst_bool, ty_lst_str, ty_lst_tuple, ty_lst_list, wpH, isSub, Nat.reduceBEq, beq_self_eq_true, isNon, g_10, g_11, g_12, g_13, g_14, g_15, g_16, g_17, g_18, g_19, g_20, g_21, g_22, g_23, g_24, g_25, g_26, g_27, g_28, g_29, g_30, setAll, la_0, ap_0, isL_l]
  refine sp13 hh (by omega) (by omega) n (by omega) _ _ ?_
  rintro r os ⟨i, h', rfl, hi, hi2, rfl, hh'⟩
  have hlt : i.toNat < xs.length := by omega
  have e : atI xs i = some xs[i.toNat] := by
    unfold atI
    rw [if_pos hi]
    exact List.getElem?_eq_getElem hlt
  simp only [e, wpSs, wpS, wpE, wpT, wpV, wpB, wpEs, wpO, wpC, fillIo, backIo, finals, bindTg, bindTgs, List.map_cons, List.map_nil, List.replicate_succ, List.replicate_zero, List.cons_append, List.nil_append, List.set_cons_zero, List.set_cons_succ, Nat.reduceSub, Nat.reduceAdd, g_0, g_1, g_2, g_3, g_4, g_5, g_6, g_7, g_8, g_9, a_ok, a_add, a_addS, a_addL, a_addT, a_sub, a_mul, a_mulL, a_mulT, a_mod, a_fdiv, a_pow, a_augadd, a_augsub, a_neg, a_lt, a_le, a_gt, a_ge, a_eq, a_ne, a_isN, a_isnN, a_isB, a_isnB, a_truB, a_truI, a_truN, a_truT, a_truL, a_lenT, a_lenL, a_abs, a_int, a_strI, a_max2, a_min2, a_listL, a_listT, a_tupL, a_tupT, a_range1, a_range2, a_seqT, a_seqL, a_enumT, a_enumL, a_zipT, a_zipL, a_idxL, a_idxT, a_cutL, a_cutT, a_cutS, a_revT, a_revL, at_0, at_1, at_2, at_3, at_4, at_5, a_okk, Option.bind_some, pu_0, pu_1, pu_2, pu_3, pu_4, f_int, f_bl, f_non, e_int, e_bl, e_str, true_and, and_true, and_self, decide_eq_true_eq, if_true, if_false, wipe, restore, List.getElem?_cons_zero, List.getElem?_cons_succ, Option.getD_some, Option.getD_none, Bool.not_true, Bool.not_false, Bool.true_and, Bool.false_and, Bool.and_true, Bool.and_false, Bool.or_true, Bool.true_or, Bool.or_false, Bool.false_or, if_true, if_false, Bool.false_eq_true, Bool.true_eq_false, Bool.not_eq_true', decide_eq_false_iff_not, ty_int_int, ty_int_bool, ty_int_str, ty_int_tuple, ty_int_list, ty_bl_int, ty_bl_bool, ty_bl_str, ty_bl_tuple, ty_bl_list, ty_non_int, ty_non_bool, ty_non_str, ty_non_tuple, ty_non_list, ty_str_int, ty_str_bool, ty_str_str, ty_str_tuple, ty_str_list, ty_tup_int, ty_tup_bool, ty_tup_str, ty_tup_tuple, ty_tup_list, ty_lst_int, ty_lst_bool, ty_lst_str, ty_lst_tuple, ty_lst_list, wpH, isSub, Nat.reduceBEq, beq_self_eq_true, isNon, g_10, g_11, g_12, g_13, g_14, g_15, g_16, g_17, g_18, g_19, g_20, g_21, g_22, g_23, g_24, g_25, g_26, g_27, g_28, g_29, g_30, setAll, la_0, ap_0, isL_l]
  exact hK _ _ ⟨List.getElem_mem _, h', rfl, hh'⟩
theorem sp16 {h : TV} (hh : Hand h) : DoesS Pr 3 16 [h] (fun r os => (plainT r = true ∧ primeB r = false) ∧ ∃ h', os = [h'] ∧ Hand h') := by
  refine doesS_of rfl rfl fun n hn K X hK => ?_
  simp only [d16, b16, wpSs, wpS, wpE, wpT, wpV, wpB, wpEs, wpO, wpC, fillIo, backIo, finals, bindTg, bindTgs, List.map_cons, List.map_nil, List.replicate_succ, List.replicate_zero, List.cons_append, List.nil_append, List.set_cons_zero, List.set_cons_succ, Nat.reduceSub, Nat.reduceAdd, g_0, g_1, g_2, g_3, g_4, g_5, g_6, g_7, g_8, g_9, a_ok, a_add, a_addS, a_addL, a_addT, a_sub, a_mul, a_mulL, a_mulT, a_mod, a_fdiv, a_pow, a_augadd, a_augsub, a_neg, a_lt, a_le, a_gt, a_ge, a_eq, a_ne, a_isN, a_isnN, a_isB, a_isnB, a_truB, a_truI, a_truN, a_truT, a_truL, a_lenT, a_lenL, a_abs, a_int, a_strI, a_max2, a_min2, a_listL, a_listT, a_tupL, a_tupT, a_range1, a_range2, a_seqT, a_seqL, a_enumT, a_enumL, a_zipT, a_zipL, a_idxL, a_idxT, a_cutL, a_cutT, a_cutS, a_revT, a_revL, at_0, at_1, at_2, at_3, at_4, at_5, a_okk, Option.bind_some, pu_0, pu_1, pu_2, pu_3, pu_4, f_int, f_bl, f_non, e_int, e_bl, e_str, true_and, and_true, and_self, decide_eq_true_eq, if_true, if_false, wipe, restore, List.getElem?_cons_zero, List.getElem?_cons_succ, Option.getD_some, Option.getD_none, Bool.not_true, Bool.not_false, Bool.true_and, Bool.false_and, Bool.and_true, Bool.and_false, Bool.or_true, Bool.true_or, Bool.or_false, Bool.false_or, if_true, if_false, Bool.false_eq_true, Bool.true_eq_false, Bool.not_eq_true', decide_eq_false_iff_not, ty_int_int, ty_int_bool, ty_int_str, ty_int_tuple, ty_int_list, ty_bl_int, ty_bl_bool, ty_bl_str, ty_bl_tuple, ty_bl_list, ty_non_int, ty_non_bool, ty_non_str, ty_non_tuple, ty_non_list, ty_str_int, ty_str_bool, ty_str_str, ty_str_tuple, ty_str_list, ty_tup_int, ty_tup_bool, ty_tup_str, ty_tup_tuple, ty_tup_list, ty_lst_int, ty_lst_bool, ty_lst_str, ty_lst_tuple, ty_lst_list, wpH, isSub, Nat.reduceBEq, beq_self_eq_true, isNon, g_10, g_11, g_12, g_13, g_14, g_15, g_16, g_17, g_18, g_19, g_20, g_21, g_22, g_23, g_24, g_25, g_26, g_27, g_28, g_29, g_30, setAll, la_0, ap_0, isL_l]
  refine ⟨by decide, by decide, mulOk_l (by decide), by decide, ?_⟩
  refine sp14 hh (by simp) (by simp) n (by omega) _ _ ?_
  rintro r os ⟨hr, h', rfl, hh'⟩
  refine hK _ _ ⟨?_, h', rfl, hh'⟩
  simp only [List.mem_cons, List.not_mem_nil, or_false] at hr
  rcases hr with rfl | rfl | rfl | rfl | rfl | rfl | rfl | rfl | rfl | rfl | rfl | rfl | rfl | rfl | rfl <;> decide +kernel
theorem sp17 {h : TV} {p : Int} (hh : Hand h) (hp : 0 < p) (hp2 : p ≤ 97) : DoesS Pr 3 17 [h, .int p] (fun r os => (plainT r = true ∧ betw r 0 (p - 1) = false) ∧ ∃ h', os = [h'] ∧ Hand h') := by
  refine doesS_of rfl rfl fun n hn K X hK => ?_
  simp only [d17, b17, wpSs, wpS, wpE, wpT, wpV, wpB, wpEs, wpO, wpC, fillIo, backIo, finals, bindTg, bindTgs, List.map_cons, List.map_nil, List.replicate_succ, List.replicate_zero, List.cons_append, List.nil_append, List.set_cons_zero, List.set_cons_succ, Nat.reduceSub, Nat.reduceAdd, g_0, g_1, g_2, g_3, g_4, g_5, g_6, g_7, g_8, g_9, a_ok, a_add, a_addS, a_addL, a_addT, a_sub, a_mul, a_mulL, a_mulT, a_mod, a_fdiv, a_pow, a_augadd, a_augsub, a_neg, a_lt, a_le, a_gt, a_ge, a_eq, a_ne, a_isN, a_isnN, a_isB, a_isnB, a_truB, a_truI, a_truN, a_truT, a_truL, a_lenT, a_lenL, a_abs, a_int, a_strI, a_max2, a_min2, a_listL, a_listT, a_tupL, a_tupT, a_range1, a_range2, a_seqT, a_seqL, a_enumT, a_enumL, a_zipT, a_zipL, a_idxL, a_idxT, a_cutL, a_cutT, a_cutS, a_revT, a_revL, at_0, at_1, at_2, at_3, at_4, at_5, a_okk, Option.bind_some, pu_0, pu_1, pu_2, pu_3, pu_4, f_int, f_bl, f_non, e_int, e_bl, e_str, true_and, and_true, and_self, decide_eq_true_eq, if_true, if_false, wipe, restore, List.getElem?_cons_zero, List.getElem?_cons_succ, Option.getD_some, Option.getD_none, Bool.not_true, Bool.not_false, Bool.true_and, Bool.false_and, Bool.and_true, Bool.and_false, Bool.or_true, Bool.true_or, Bool.or_false, Bool.false_or, if_true, if_false, Bool.false_eq_true, Bool.true_eq_false, Bool.not_eq_true', decide_eq_false_iff_not, ty_int_int, ty_int_bool, ty_int_str, ty_int_tuple, ty_int_list, ty_bl_int, ty_bl_bool, ty_bl_str, ty_bl_tuple, ty_bl_list, ty_non_int, ty_non_bool, ty_non_str, ty_non_tuple, ty_non_list, ty_str_int, ty_str_bool, ty_str_str, ty_str_tuple, ty_str_list, ty_tup_int, ty_tup_bool, ty_tup_str, ty_tup_tuple, ty_tup_list, ty_lst_int, ty_lst_bool, ty_lst_str, ty_lst_tuple, ty_lst_list, wpH, isSub, Nat.reduceBEq, beq_self_eq_true, isNon, g_10, g_11, g_12, g_13, g_14, g_15, g_16, g_17, g_18, g_19, g_20, g_21, g_22, g_23, g_24, g_25, g_26, g_27, g_28, g_29, g_30, setAll, la_0, ap_0, isL_l]
  refine ⟨by decide, by decide, (by decide : 8 ≤ 16777216), ?_⟩
  refine sp14 hh (by simp) (by simp) n (by omega) _ _ ?_
  rintro r os ⟨hr, h', rfl, hh'⟩
  refine hK _ _ ⟨?_, h', rfl, hh'⟩
  simp only [List.mem_cons, List.not_mem_nil, or_false] at hr
  rcases hr with rfl | rfl | rfl | rfl | rfl | rfl | rfl | rfl <;> (refine ⟨rfl, ?_⟩; simp only [betw, Bool.and_eq_false_iff, decide_eq_false_iff_not]; try omega)
  right
  have : (10 : Int) ^ Int.toNat 30 = 1000000000000000000000000000000 := by decide +kernel
  omega
/-! ### plain facts of primes -/
def primesL : List Int := [3, 5, 7, 11, 13, 17, 19, 23, 29, 31, 37, 41, 43, 47, 53, 59, 61, 67, 71, 73, 79, 83, 89, 97]
theorem primes_all : (rangeI 3 95).filter (fun p => (rangeI 2 (p - 2).toNat).all fun o => !decide (p % o = 0)) = primesL := by decide +kernel
theorem primes_prime : ∀ p ∈ primesL, primeB (.int p) = true := by decide +kernel
theorem primes_told : (rangeI (-3) 123).filter (fun p => primeB (.int p)) = primesL := by decide +kernel
theorem fermat : ∀ p ∈ primesL, ∀ x ∈ rangeI 1 (p - 1).toNat, x ^ (p - 1).toNat % p = 1 := by decide +kernel
theorem prime_ge' {p : Int} (hp : p ∈ primesL) : 3 ≤ p ∧ p ≤ 97 := prime_ge (primes_prime p hp)
theorem fermat' {p x : Int} (hp : p ∈ primesL) (hx : 0 < x) (hx2 : x < p) : x ^ (p - 1).toNat % p = 1 := fermat p hp x (mem_rangeI.mpr ⟨by omega, by omega⟩)
def ordI (p x : Int) : Int := match ones p x with
  | m :: r => leastI m r
  | [] => 0
theorem ones_ne {p x : Int} (hp : p ∈ primesL) (hx : 0 < x) (hx2 : x < p) : ∃ m r, ones p x = m :: r := by
  have hg := prime_ge' hp
  have : p - 1 ∈ ones p x := List.mem_filter.mpr ⟨mem_rangeI.mpr ⟨by omega, by omega⟩, decide_eq_true (fermat' hp hx hx2)⟩
  cases e : ones p x with
  | nil => rw [e] at this; cases this
  | cons m r => exact ⟨m, r, rfl⟩
theorem ord_mem {p x : Int} (hp : p ∈ primesL) (hx : 0 < x) (hx2 : x < p) : (1 ≤ ordI p x ∧ ordI p x ≤ p - 1) ∧ x ^ (ordI p x).toNat % p = 1 ∧ ∀ k : Int, 1 ≤ k → k < ordI p x → x ^ k.toNat % p ≠ 1 := by
  have hg := prime_ge' hp
  obtain ⟨m, r, e⟩ := ones_ne hp hx hx2
  obtain ⟨h1, h2, h3⟩ := leastI_spec r m
  have eo : ordI p x = leastI m r := by unfold ordI; rw [e]
  have mem : leastI m r ∈ ones p x := by
    rw [e]
    rcases h1 with h | h
    · rw [h]; simp
    · simp [h]
  obtain ⟨q1, q2⟩ := List.mem_filter.mp mem
  have q1 := mem_rangeI.mp q1
  rw [eo]
  refine ⟨by omega, of_decide_eq_true q2, fun k k1 k2 z => ?_⟩
  have : k ∈ ones p x := List.mem_filter.mpr ⟨mem_rangeI.mpr ⟨by omega, by omega⟩, decide_eq_true z⟩
  rw [e] at this
  rcases List.mem_cons.mp this with w | w
  · omega
  · have := h3 k w; omega
theorem sp10' {p x : Int} (hp : p ∈ primesL) (hx : 0 < x) (hx2 : x < p) : Does Pr 5 10 [.int p, .int x] (.int (ordI p x)) [] := by
  obtain ⟨m, r, e⟩ := ones_ne hp hx hx2
  have eo : ordI p x = leastI m r := by unfold ordI; rw [e]
  rw [eo]
  exact sp10 (primes_prime p hp) hx hx2 e
theorem sp10n {p : Int} (hp : p ∈ primesL) : Does Pr 5 10 [.int p, .int 0] .non [] := by
  have hg := prime_ge' hp
  refine does_of rfl rfl fun n hn K X hK => ?_
  simp only [d10, b10, wpSs, wpS, wpE, wpT, wpV, wpB, wpEs, wpO, wpC, fillIo, backIo, finals, bindTg, bindTgs, List.map_cons, List.map_nil, List.replicate_succ, List.replicate_zero, List.cons_append, List.nil_append, List.set_cons_zero, List.set_cons_succ, Nat.reduceSub, Nat.reduceAdd, g_0, g_1, g_2, g_3, g_4, g_5, g_6, g_7, g_8, g_9, a_ok, a_add, a_addS, a_addL, a_addT, a_sub, a_mul, a_mulL, a_mulT, a_mod, a_fdiv, a_pow, a_augadd, a_augsub, a_neg, a_lt, a_le, a_gt, a_ge, a_eq, a_ne, a_isN, a_isnN, a_isB, a_isnB, a_truB, a_truI, a_truN, a_truT, a_truL, a_lenT, a_lenL, a_abs, a_int, a_strI, a_max2, a_min2, a_listL, a_listT, a_tupL, a_tupT, a_range1, a_range2, a_seqT, a_seqL, a_enumT, a_enumL, a_zipT, a_zipL, a_idxL, a_idxT, a_cutL, a_cutT, a_cutS, a_revT, a_revL, at_0, at_1, at_2, at_3, at_4, at_5, a_okk, Option.bind_some, pu_0, pu_1, pu_2, pu_3, pu_4, f_int, f_bl, f_non, e_int, e_bl, e_str, true_and, and_true, and_self, decide_eq_true_eq, if_true, if_false, wipe, restore, List.getElem?_cons_zero, List.getElem?_cons_succ, Option.getD_some, Option.getD_none, Bool.not_true, Bool.not_false, Bool.true_and, Bool.false_and, Bool.and_true, Bool.and_false, Bool.or_true, Bool.true_or, Bool.or_false, Bool.false_or, if_true, if_false, Bool.false_eq_true, Bool.true_eq_false, Bool.not_eq_true', decide_eq_false_iff_not, ty_int_int, ty_int_bool, ty_int_str, ty_int_tuple, ty_int_list, ty_bl_int, ty_bl_bool, ty_bl_str, ty_bl_tuple, ty_bl_list, ty_non_int, ty_non_bool, ty_non_str, ty_non_tuple, ty_non_list, ty_str_int, ty_str_bool, ty_str_str, ty_str_tuple, ty_str_list, ty_tup_int, ty_tup_bool, ty_tup_str, ty_tup_tuple, ty_tup_list, ty_lst_int, ty_lst_bool, ty_lst_str, ty_lst_tuple, ty_lst_list, wpH, isSub, Nat.reduceBEq, beq_self_eq_true, isNon, g_10, g_11, g_12, g_13, g_14, g_15, g_16, g_17, g_18, g_19, g_20, g_21, g_22, g_23, g_24, g_25, g_26, g_27, g_28, g_29, g_30, setAll, la_0, ap_0, isL_l]
  refine sp3 rfl (primes_prime p hp) n (by omega) _ _ ⟨(by decide : 1 ≤ 16777216), ?_⟩
  refine sp5 rfl (num_betw (by omega) (by omega)) n (by omega) _ _ ?_
  exact hK
theorem sp10u {p x : Int} (hp : p ∈ primesL) (hx : 0 ≤ x) (hx2 : x < p) : Does Pr 5 10 [.int p, .int x] (if x = 0 then .non else .int (ordI p x)) [] := by
  split
  · rename_i h; subst h; exact sp10n hp
  · exact sp10' hp (by omega) hx2
def gens (p : Int) : List Int := (rangeI 1 (p - 1).toNat).filter fun x => decide (ordI p x = p - 1)
theorem makers : ∀ q ∈ primesL.zip [2, 2, 3, 2, 2, 3, 2, 5, 2, 3, 2, 6, 3, 5, 2, 2, 2, 2, 7, 5, 3, 2, 3, 5], 1 ≤ q.2 ∧ q.2 < q.1 ∧ ordI q.1 q.2 = q.1 - 1 := by decide +kernel
theorem gens_ne {p : Int} (hp : p ∈ primesL) : ∃ m r, gens p = m :: r := by
  obtain ⟨g, hg⟩ : ∃ g : Int, (p, g) ∈ primesL.zip [2, 2, 3, 2, 2, 3, 2, 5, 2, 3, 2, 6, 3, 5, 2, 2, 2, 2, 7, 5, 3, 2, 3, 5] := by
    obtain ⟨i, hi, e⟩ := List.mem_iff_getElem.mp hp
    exact ⟨_, List.mem_iff_getElem.mpr ⟨i, by simpa [primesL] using hi, by rw [List.getElem_zip, e]⟩⟩
  obtain ⟨h1, h2, h3⟩ := makers _ hg
  have : g ∈ gens p := List.mem_filter.mpr ⟨mem_rangeI.mpr ⟨h1, by simp only at *; omega⟩, decide_eq_true h3⟩
  cases e : gens p with
  | nil => rw [e] at this; cases this
  | cons m r => exact ⟨m, r, rfl⟩
theorem sp11 {p m : Int} {r : List Int} (hp : p ∈ primesL) (e : gens p = m :: r) : Does Pr 6 11 [.int p] (.int (leastI m r)) [] := by
  have hg := prime_ge' hp
  refine does_of rfl rfl fun n hn K X hK => ?_
  simp only [d11, b11, wpSs, wpS, wpE, wpT, wpV, wpB, wpEs, wpO, wpC, fillIo, backIo, finals, bindTg, bindTgs, List.map_cons, List.map_nil, List.replicate_succ, List.replicate_zero, List.cons_append, List.nil_append, List.set_cons_zero, List.set_cons_succ, Nat.reduceSub, Nat.reduceAdd, g_0, g_1, g_2, g_3, g_4, g_5, g_6, g_7, g_8, g_9, a_ok, a_add, a_addS, a_addL, a_addT, a_sub, a_mul, a_mulL, a_mulT, a_mod, a_fdiv, a_pow, a_augadd, a_augsub, a_neg, a_lt, a_le, a_gt, a_ge, a_eq, a_ne, a_isN, a_isnN, a_isB, a_isnB, a_truB, a_truI, a_truN, a_truT, a_truL, a_lenT, a_lenL, a_abs, a_int, a_strI, a_max2, a_min2, a_listL, a_listT, a_tupL, a_tupT, a_range1, a_range2, a_seqT, a_seqL, a_enumT, a_enumL, a_zipT, a_zipL, a_idxL, a_idxT, a_cutL, a_cutT, a_cutS, a_revT, a_revL, at_0, at_1, at_2, at_3, at_4, at_5, a_okk, Option.bind_some, pu_0, pu_1, pu_2, pu_3, pu_4, f_int, f_bl, f_non, e_int, e_bl, e_str, true_and, and_true, and_self, decide_eq_true_eq, if_true, if_false, wipe, restore, List.getElem?_cons_zero, List.getElem?_cons_succ, Option.getD_some, Option.getD_none, Bool.not_true, Bool.not_false, Bool.true_and, Bool.false_and, Bool.and_true, Bool.and_false, Bool.or_true, Bool.true_or, Bool.or_false, Bool.false_or, if_true, if_false, Bool.false_eq_true, Bool.true_eq_false, Bool.not_eq_true', decide_eq_false_iff_not, ty_int_int, ty_int_bool, ty_int_str, ty_int_tuple, ty_int_list, ty_bl_int, ty_bl_bool, ty_bl_str, ty_bl_tuple, ty_bl_list, ty_non_int, ty_non_bool, ty_non_str, ty_non_tuple, ty_non_list, ty_str_int, ty_str_bool, ty_str_str, ty_str_tuple, ty_str_list, ty_tup_int, ty_tup_bool, ty_tup_str, ty_tup_tuple, ty_tup_list, ty_lst_int, ty_lst_bool, ty_lst_str, ty_lst_tuple, ty_lst_list, wpH, isSub, Nat.reduceBEq, beq_self_eq_true, isNon, g_10, g_11, g_12, g_13, g_14, g_15, g_16, g_17, g_18, g_19, g_20, g_21, g_22, g_23, g_24, g_25, g_26, g_27, g_28, g_29, g_30, setAll, la_0, ap_0, isL_l, rangeL_eq]
  refine sp3 rfl (primes_prime p hp) n (by omega) _ _ ⟨by unfold small62 line; omega, ?_⟩
  refine loopC_fil .int .int (fun x => decide (ordI p x = p - 1)) _ _ (fun y hy acc next h1 h2 => ?_) ?_
  · simp only [wpSs, wpS, wpE, wpT, wpV, wpB, wpEs, wpO, wpC, fillIo, backIo, finals, bindTg, bindTgs, List.map_cons, List.map_nil, List.replicate_succ, List.replicate_zero, List.cons_append, List.nil_append, List.set_cons_zero, List.set_cons_succ, Nat.reduceSub, Nat.reduceAdd, g_0, g_1, g_2, g_3, g_4, g_5, g_6, g_7, g_8, g_9, a_ok, a_add, a_addS, a_addL, a_addT, a_sub, a_mul, a_mulL, a_mulT, a_mod, a_fdiv, a_pow, a_augadd, a_augsub, a_neg, a_lt, a_le, a_gt, a_ge, a_eq, a_ne, a_isN, a_isnN, a_isB, a_isnB, a_truB, a_truI, a_truN, a_truT, a_truL, a_lenT, a_lenL, a_abs, a_int, a_strI, a_max2, a_min2, a_listL, a_listT, a_tupL, a_tupT, a_range1, a_range2, a_seqT, a_seqL, a_enumT, a_enumL, a_zipT, a_zipL, a_idxL, a_idxT, a_cutL, a_cutT, a_cutS, a_revT, a_revL, at_0, at_1, at_2, at_3, at_4, at_5, a_okk, Option.bind_some, pu_0, pu_1, pu_2, pu_3, pu_4, f_int, f_bl, f_non, e_int, e_bl, e_str, true_and, and_true, and_self, decide_eq_true_eq, if_true, if_false, wipe, restore, List.getElem?_cons_zero, List.getElem?_cons_succ, Option.getD_some, Option.getD_none, Bool.not_true, Bool.not_false, Bool.true_and, Bool.false_and, Bool.and_true, Bool.and_false, Bool.or_true, Bool.true_or, Bool.or_false, Bool.false_or, if_true, if_false, Bool.false_eq_true, Bool.true_eq_false, Bool.not_eq_true', decide_eq_false_iff_not, ty_int_int, ty_int_bool, ty_int_str, ty_int_tuple, ty_int_list, ty_bl_int, ty_bl_bool, ty_bl_str, ty_bl_tuple, ty_bl_list, ty_non_int, ty_non_bool, ty_non_str, ty_non_tuple, ty_non_list, ty_str_int, ty_str_bool, ty_str_str, ty_str_tuple, ty_str_list, ty_tup_int, ty_tup_bool, ty_tup_str, ty_tup_tuple, ty_tup_list, ty_lst_int, ty_lst_bool, ty_lst_str, ty_lst_tuple, ty_lst_list, wpH, isSub, Nat.reduceBEq, beq_self_eq_true, isNon, g_10, g_11, g_12, g_13, g_14, g_15, g_16, g_17, g_18, g_19, g_20, g_21, g_22, g_23, g_24, g_25, g_26, g_27, g_28, g_29, g_30, setAll, la_0, ap_0, isL_l]
    have hy' := mem_rangeI.mp hy
    refine sp10' hp (by omega) (by omega) n (by omega) _ _ ?_
    simp only [wpSs, wpS, wpE, wpT, wpV, wpB, wpEs, wpO, wpC, fillIo, backIo, finals, bindTg, bindTgs, List.map_cons, List.map_nil, List.replicate_succ, List.replicate_zero, List.cons_append, List.nil_append, List.set_cons_zero, List.set_cons_succ, Nat.reduceSub, Nat.reduceAdd, g_0, g_1, g_2, g_3, g_4, g_5, g_6, g_7, g_8, g_9, a_ok, a_add, a_addS, a_addL, a_addT, a_sub, a_mul, a_mulL, a_mulT, a_mod, a_fdiv, a_pow, a_augadd, a_augsub, a_neg, a_lt, a_le, a_gt, a_ge, a_eq, a_ne, a_isN, a_isnN, a_isB, a_isnB, a_truB, a_truI, a_truN, a_truT, a_truL, a_lenT, a_lenL, a_abs, a_int, a_strI, a_max2, a_min2, a_listL, a_listT, a_tupL, a_tupT, a_range1, a_range2, a_seqT, a_seqL, a_enumT, a_enumL, a_zipT, a_zipL, a_idxL, a_idxT, a_cutL, a_cutT, a_cutS, a_revT, a_revL, at_0, at_1, at_2, at_3, at_4, at_5, a_okk, Option.bind_some, pu_0, pu_1, pu_2, pu_3, pu_4, f_int, f_bl, f_non, e_int, e_bl, e_str, true_and, and_true, and_self, decide_eq_true_eq, if_true, if_false, wipe, restore, List.getElem?_cons_zero, List.getElem?_cons_succ, Option.getD_some, Option.getD_none, Bool.not_true, Bool.not_false, Bool.true_and, Bool.false_and, Bool.and_true, Bool.and_false, Bool.or_true, Bool.true_or, Bool.or_false, Bool.false_or, if_true, if_false, Bool.false_eq_true, Bool.true_eq_false, Bool.not_eq_true', decide_eq_false_iff_not, ty_int_int, ty_int_bool, ty_int_str, ty_int_tuple, ty_int_list, ty_bl_int, ty_bl_bool, ty_bl_str, ty_bl_tuple, ty_bl_list, ty_non_int, ty_non_bool, ty_non_str, ty_non_tuple, ty_non_list, ty_str_int, ty_str_bool, ty_str_str, ty_str_tuple, ty_str_list, ty_tup_int, ty_tup_bool, ty_tup_str, ty_tup_tuple, ty_tup_list, ty_lst_int, ty_lst_bool, ty_lst_str, ty_lst_tuple, ty_lst_list, wpH, isSub, Nat.reduceBEq, beq_self_eq_true, isNon, g_10, g_11, g_12, g_13, g_14, g_15, g_16, g_17, g_18, g_19, g_20, g_21, g_22, g_23, g_24, g_25, g_26, g_27, g_28, g_29, g_30, setAll, la_0, ap_0, isL_l]
    split
    · rename_i h; exact h1 (decide_eq_true h)
    · rename_i h; exact h2 (decide_eq_false h)
  · simp only [wpSs, wpS, wpE, wpT, wpV, wpB, wpEs, wpO, wpC, fillIo, backIo, finals, bindTg, bindTgs, List.map_cons, List.map_nil, List.replicate_succ, List.replicate_zero, List.cons_append, List.nil_append, List.set_cons_zero, List.set_cons_succ, Nat.reduceSub, Nat.reduceAdd, g_0, g_1, g_2, g_3, g_4, g_5, g_6, g_7, g_8, g_9, a_ok, a_add, a_addS, a_addL, a_addT, a_sub, a_mul, a_mulL, a_mulT, a_mod, a_fdiv, a_pow, a_augadd, a_augsub, a_neg, a_lt, a_le, a_gt, a_ge, a_eq, a_ne, a_isN, a_isnN, a_isB, a_isnB, a_truB, a_truI, a_truN, a_truT, a_truL, a_lenT, a_lenL, a_abs, a_int, a_strI, a_max2, a_min2, a_listL, a_listT, a_tupL, a_tupT, a_range1, a_range2, a_seqT, a_seqL, a_enumT, a_enumL, a_zipT, a_zipL, a_idxL, a_idxT, a_cutL, a_cutT, a_cutS, a_revT, a_revL, at_0, at_1, at_2, at_3, at_4, at_5, a_okk, Option.bind_some, pu_0, pu_1, pu_2, pu_3, pu_4, f_int, f_bl, f_non, e_int, e_bl, e_str, true_and, and_true, and_self, decide_eq_true_eq, if_true, if_false, wipe, restore, List.getElem?_cons_zero, List.getElem?_cons_succ, Option.getD_some, Option.getD_none, Bool.not_true, Bool.not_false, Bool.true_and, Bool.false_and, Bool.and_true, Bool.and_false, Bool.or_true, Bool.true_or, Bool.or_false, Bool.false_or, if_true, if_false, Bool.false_eq_true, Bool.true_eq_false, Bool.not_eq_true', decide_eq_false_iff_not, ty_int_int, ty_int_bool, ty_int_str, ty_int_tuple, ty_int_list, ty_bl_int, ty_bl_bool, ty_bl_str, ty_bl_tuple, ty_bl_list, ty_non_int, ty_non_bool, ty_non_str, ty_non_tuple, ty_non_list, ty_str_int, ty_str_bool, ty_str_str, ty_str_tuple, ty_str_list, ty_tup_int, ty_tup_bool, ty_tup_str, ty_tup_tuple, ty_tup_list, ty_lst_int, ty_lst_bool, ty_lst_str, ty_lst_tuple, ty_lst_list, wpH, isSub, Nat.reduceBEq, beq_self_eq_true, isNon, g_10, g_11, g_12, g_13, g_14, g_15, g_16, g_17, g_18, g_19, g_20, g_21, g_22, g_23, g_24, g_25, g_26, g_27, g_28, g_29, g_30, setAll, la_0, ap_0, isL_l]
    rw [show (List.filter (fun x => decide (ordI p x = p - 1)) (rangeI 1 (p - 1).toNat)) = gens p from rfl, a_min1I e]
    exact hK
/-- where the least maker stands -/
theorem gens_ix {p m : Int} {r : List Int} (e : gens p = m :: r) : ∃ j : Nat, ((rangeI 1 (p - 1).toNat).findIdx? fun x => decide (ordI p x = p - 1)) = some j ∧ leastI m r = j + 1 := by
  obtain ⟨h1, h2, h3⟩ := leastI_spec r m
  have mem : leastI m r ∈ gens p := by
    rw [e]
    rcases h1 with h | h
    · rw [h]; simp
    · simp [h]
  obtain ⟨q1, q2⟩ := List.mem_filter.mp mem
  cases ef : (rangeI 1 (p - 1).toNat).findIdx? (fun x => decide (ordI p x = p - 1)) with
  | none =>
    rw [List.findIdx?_eq_none_iff] at ef
    have := ef _ q1
    rw [q2] at this; cases this
  | some j =>
    obtain ⟨hj, hj1, hj2⟩ := List.findIdx?_eq_some_iff_getElem.mp ef
    refine ⟨j, rfl, ?_⟩
    have gj : (rangeI 1 (p - 1).toNat)[j] = 1 + j := by simp [rangeI]
    rw [gj] at hj1
    have mj : (1 + (j : Int)) ∈ gens p := List.mem_filter.mpr ⟨by rw [← gj]; exact List.getElem_mem _, hj1⟩
    have le : leastI m r ≤ 1 + j := by
      rw [e] at mj
      rcases List.mem_cons.mp mj with w | w
      · omega
      · exact h3 _ w
    have q1 := mem_rangeI.mp q1
    by_cases hlt : leastI m r < 1 + j
    · exfalso
      have hk : (leastI m r - 1).toNat < j := by omega
      have := hj2 (leastI m r - 1).toNat hk
      apply this
      have gk : (rangeI 1 (p - 1).toNat)[(leastI m r - 1).toNat]'(by omega) = leastI m r := by simp [rangeI]; omega
      rw [gk]
      exact q2
    · omega
theorem inv_mul {p x : Int} (hp : p ∈ primesL) (hx : 0 < x) (hx2 : x < p) : x * (x ^ (p - 2).toNat % p) % p = 1 := by
  have hg := prime_ge' hp
  have e : (p - 1).toNat = (p - 2).toNat + 1 := by omega
  have := fermat' hp hx hx2
  rw [e, Int.pow_succ, Int.mul_comm] at this
  rw [Int.mul_emod, Int.emod_emod_of_dvd _ (Int.dvd_refl p), ← Int.mul_emod]
  exact this
theorem inv_one {p x a b : Int} (hp : 0 < p) (ha : 0 ≤ a) (ha2 : a < p) (hb : 0 ≤ b) (hb2 : b < p) (h1 : x * a % p = 1) (h2 : x * b % p = 1) : a = b := by
  have e1 : a * (x * b) % p = a % p := by
    rw [Int.mul_emod, h2, Int.mul_one, Int.emod_emod_of_dvd _ (Int.dvd_refl p)]
  have e2 : b * (x * a) % p = b % p := by
    rw [Int.mul_emod, h1, Int.mul_one, Int.emod_emod_of_dvd _ (Int.dvd_refl p)]
  have e3 : a * (x * b) = b * (x * a) := by rw [Int.mul_left_comm, Int.mul_comm a b, Int.mul_left_comm x b a]
  rw [e3] at e1
  rw [e1] at e2
  rw [Int.emod_eq_of_lt ha ha2, Int.emod_eq_of_lt hb hb2] at e2
  exact e2
theorem sp19 {p x : Int} (hp : p ∈ primesL) (hx : 0 < x) (hx2 : x < p) : Does Pr 2 19 [.int p, .int x] (.int (x ^ (p - 2).toNat % p)) [] := by
  have hg := prime_ge' hp
  have b1 := Int.emod_nonneg (x ^ (p - 2).toNat) (show p ≠ 0 by omega)
  have b2 := Int.emod_lt_of_pos (x ^ (p - 2).toNat) (show 0 < p by omega)
  refine does_of rfl rfl fun n hn K X hK => ?_
  simp only [d19, b19, wpSs, wpS, wpE, wpT, wpV, wpB, wpEs, wpO, wpC, fillIo, backIo, finals, bindTg, bindTgs, List.map_cons, List.map_nil, List.replicate_succ, List.replicate_zero, List.cons_append, List.nil_append, List.set_cons_zero, List.set_cons_succ, Nat.reduceSub, Nat.reduceAdd, g_0, g_1, g_2, g_3, g_4, g_5, g_6, g_7, g_8, g_9, a_ok, a_add, a_addS, a_addL, a_addT, a_sub, a_mul, a_mulL, a_mulT, a_mod, a_fdiv, a_pow, a_augadd, a_augsub, a_neg, a_lt, a_le, a_gt, a_ge, a_eq, a_ne, a_isN, a_isnN, a_isB, a_isnB, a_truB, a_truI, a_truN, a_truT, a_truL, a_lenT, a_lenL, a_abs, a_int, a_strI, a_max2, a_min2, a_listL, a_listT, a_tupL, a_tupT, a_range1, a_range2, a_seqT, a_seqL, a_enumT, a_enumL, a_zipT, a_zipL, a_idxL, a_idxT, a_cutL, a_cutT, a_cutS, a_revT, a_revL, at_0, at_1, at_2, at_3, at_4, at_5, a_okk, Option.bind_some, pu_0, pu_1, pu_2, pu_3, pu_4, f_int, f_bl, f_non, e_int, e_bl, e_str, true_and, and_true, and_self, decide_eq_true_eq, if_true, if_false, wipe, restore, List.getElem?_cons_zero, List.getElem?_cons_succ, Option.getD_some, Option.getD_none, Bool.not_true, Bool.not_false, Bool.true_and, Bool.false_and, Bool.and_true, Bool.and_false, Bool.or_true, Bool.true_or, Bool.or_false, Bool.false_or, if_true, if_false, Bool.false_eq_true, Bool.true_eq_false, Bool.not_eq_true', decide_eq_false_iff_not, ty_int_int, ty_int_bool, ty_int_str, ty_int_tuple, ty_int_list, ty_bl_int, ty_bl_bool, ty_bl_str, ty_bl_tuple, ty_bl_list, ty_non_int, ty_non_bool, ty_non_str, ty_non_tuple, ty_non_list, ty_str_int, ty_str_bool, ty_str_str, ty_str_tuple, ty_str_list, ty_tup_int, ty_tup_bool, ty_tup_str, ty_tup_tuple, ty_tup_list, ty_lst_int, ty_lst_bool, ty_lst_str, ty_lst_tuple, ty_lst_list, wpH, isSub, Nat.reduceBEq, beq_self_eq_true, isNon, g_10, g_11, g_12, g_13, g_14, g_15, g_16, g_17, g_18, g_19, g_20, g_21, g_22, g_23, g_24, g_25, g_26, g_27, g_28, g_29, g_30, setAll, la_0, ap_0, isL_l, rangeL_eq]
  refine ⟨by unfold small62 line; omega, ?_⟩
  refine loopC_fil .int .int (fun o => decide (x * o % p = 1)) _ _ (fun y hy acc next h1 h2 => ?_) ?_
  · simp only [wpSs, wpS, wpE, wpT, wpV, wpB, wpEs, wpO, wpC, fillIo, backIo, finals, bindTg, bindTgs, List.map_cons, List.map_nil, List.replicate_succ, List.replicate_zero, List.cons_append, List.nil_append, List.set_cons_zero, List.set_cons_succ, Nat.reduceSub, Nat.reduceAdd, g_0, g_1, g_2, g_3, g_4, g_5, g_6, g_7, g_8, g_9, a_ok, a_add, a_addS, a_addL, a_addT, a_sub, a_mul, a_mulL, a_mulT, a_mod, a_fdiv, a_pow, a_augadd, a_augsub, a_neg, a_lt, a_le, a_gt, a_ge, a_eq, a_ne, a_isN, a_isnN, a_isB, a_isnB, a_truB, a_truI, a_truN, a_truT, a_truL, a_lenT, a_lenL, a_abs, a_int, a_strI, a_max2, a_min2, a_listL, a_listT, a_tupL, a_tupT, a_range1, a_range2, a_seqT, a_seqL, a_enumT, a_enumL, a_zipT, a_zipL, a_idxL, a_idxT, a_cutL, a_cutT, a_cutS, a_revT, a_revL, at_0, at_1, at_2, at_3, at_4, at_5, a_okk, Option.bind_some, pu_0, pu_1, pu_2, pu_3, pu_4, f_int, f_bl, f_non, e_int, e_bl, e_str, true_and, and_true, and_self, decide_eq_true_eq, if_true, if_false, wipe, restore, List.getElem?_cons_zero, List.getElem?_cons_succ, Option.getD_some, Option.getD_none, Bool.not_true, Bool.not_false, Bool.true_and, Bool.false_and, Bool.and_true, Bool.and_false, Bool.or_true, Bool.true_or, Bool.or_false, Bool.false_or, if_true, if_false, Bool.false_eq_true, Bool.true_eq_false, Bool.not_eq_true', decide_eq_false_iff_not, ty_int_int, ty_int_bool, ty_int_str, ty_int_tuple, ty_int_list, ty_bl_int, ty_bl_bool, ty_bl_str, ty_bl_tuple, ty_bl_list, ty_non_int, ty_non_bool, ty_non_str, ty_non_tuple, ty_non_list, ty_str_int, ty_str_bool, ty_str_str, ty_str_tuple, ty_str_list, ty_tup_int, ty_tup_bool, ty_tup_str, ty_tup_tuple, ty_tup_list, ty_lst_int, ty_lst_bool, ty_lst_str, ty_lst_tuple, ty_lst_list, wpH, isSub, Nat.reduceBEq, beq_self_eq_true, isNon, g_10, g_11, g_12, g_13, g_14, g_15, g_16, g_17, g_18, g_19, g_20, g_21, g_22, g_23, g_24, g_25, g_26, g_27, g_28, g_29, g_30, setAll, la_0, ap_0, isL_l]
    have hy' := mem_rangeI.mp hy
    refine ⟨mulOk_l (by omega), sp18 (by omega) n (by omega) _ _ ?_⟩
    simp only [wpSs, wpS, wpE, wpT, wpV, wpB, wpEs, wpO, wpC, fillIo, backIo, finals, bindTg, bindTgs, List.map_cons, List.map_nil, List.replicate_succ, List.replicate_zero, List.cons_append, List.nil_append, List.set_cons_zero, List.set_cons_succ, Nat.reduceSub, Nat.reduceAdd, g_0, g_1, g_2, g_3, g_4, g_5, g_6, g_7, g_8, g_9, a_ok, a_add, a_addS, a_addL, a_addT, a_sub, a_mul, a_mulL, a_mulT, a_mod, a_fdiv, a_pow, a_augadd, a_augsub, a_neg, a_lt, a_le, a_gt, a_ge, a_eq, a_ne, a_isN, a_isnN, a_isB, a_isnB, a_truB, a_truI, a_truN, a_truT, a_truL, a_lenT, a_lenL, a_abs, a_int, a_strI, a_max2, a_min2, a_listL, a_listT, a_tupL, a_tupT, a_range1, a_range2, a_seqT, a_seqL, a_enumT, a_enumL, a_zipT, a_zipL, a_idxL, a_idxT, a_cutL, a_cutT, a_cutS, a_revT, a_revL, at_0, at_1, at_2, at_3, at_4, at_5, a_okk, Option.bind_some, pu_0, pu_1, pu_2, pu_3, pu_4, f_int, f_bl, f_non, e_int, e_bl, e_str, true_and, and_true, and_self, decide_eq_true_eq, if_true, if_false, wipe, restore, List.getElem?_cons_zero, List.getElem?_cons_succ, Option.getD_some, Option.getD_none, Bool.not_true, Bool.not_false, Bool.true_and, Bool.false_and, Bool.and_true, Bool.and_false, Bool.or_true, Bool.true_or, Bool.or_false, Bool.false_or, if_true, if_false, Bool.false_eq_true, Bool.true_eq_false, Bool.not_eq_true', decide_eq_false_iff_not, ty_int_int, ty_int_bool, ty_int_str, ty_int_tuple, ty_int_list, ty_bl_int, ty_bl_bool, ty_bl_str, ty_bl_tuple, ty_bl_list, ty_non_int, ty_non_bool, ty_non_str, ty_non_tuple, ty_non_list, ty_str_int, ty_str_bool, ty_str_str, ty_str_tuple, ty_str_list, ty_tup_int, ty_tup_bool, ty_tup_str, ty_tup_tuple, ty_tup_list, ty_lst_int, ty_lst_bool, ty_lst_str, ty_lst_tuple, ty_lst_list, wpH, isSub, Nat.reduceBEq, beq_self_eq_true, isNon, g_10, g_11, g_12, g_13, g_14, g_15, g_16, g_17, g_18, g_19, g_20, g_21, g_22, g_23, g_24, g_25, g_26, g_27, g_28, g_29, g_30, setAll, la_0, ap_0, isL_l]
    split
    · rename_i h; exact h1 (decide_eq_true h)
    · rename_i h; exact h2 (decide_eq_false h)
  · have mem : x ^ (p - 2).toNat % p ∈ (rangeI 0 p.toNat).filter fun o => decide (x * o % p = 1) := List.mem_filter.mpr ⟨mem_rangeI.mpr ⟨b1, by omega⟩, decide_eq_true (inv_mul hp hx hx2)⟩
    cases e : (rangeI 0 p.toNat).filter fun o => decide (x * o % p = 1) with
    | nil => rw [e] at mem; cases mem
    | cons y r =>
      have my : y ∈ (rangeI 0 p.toNat).filter fun o => decide (x * o % p = 1) := by rw [e]; simp
      obtain ⟨q1, q2⟩ := List.mem_filter.mp my
      have q1 := mem_rangeI.mp q1
      obtain rfl : y = x ^ (p - 2).toNat % p := inv_one (by omega) (by omega) (by omega) b1 b2 (of_decide_eq_true q2) (inv_mul hp hx hx2)
      simp only [wpSs, wpS, wpE, wpT, wpV, wpB, wpEs, wpO, wpC, fillIo, backIo, finals, bindTg, bindTgs, List.map_cons, List.map_nil, List.replicate_succ, List.replicate_zero, List.cons_append, List.nil_append, List.set_cons_zero, List.set_cons_succ, Nat.reduceSub, Nat.reduceAdd, g_0, g_1, g_2, g_3, g_4, g_5, g_6, g_7, g_8, g_9, a_ok, a_add, a_addS, a_addL, a_addT, a_sub, a_mul, a_mulL, a_mulT, a_mod, a_fdiv, a_pow, a_augadd, a_augsub, a_neg, a_lt, a_le, a_gt, a_ge, a_eq, a_ne, a_isN, a_isnN, a_isB, a_isnB, a_truB, a_truI, a_truN, a_truT, a_truL, a_lenT, a_lenL, a_abs, a_int, a_strI, a_max2, a_min2, a_listL, a_listT, a_tupL, a_tupT, a_range1, a_range2, a_seqT, a_seqL, a_enumT, a_enumL, a_zipT, a_zipL, a_idxL, a_idxT, a_cutL, a_cutT, a_cutS, a_revT, a_revL, at_0, at_1, at_2, at_3, at_4, at_5, a_okk, Option.bind_some, pu_0, pu_1, pu_2, pu_3, pu_4, f_int, f_bl, f_non, e_int, e_bl, e_str, true_and, and_true, and_self, decide_eq_true_eq, if_true, if_false, wipe, restore, List.getElem?_cons_zero, List.getElem?_cons_succ, Option.getD_some, Option.getD_none, Bool.not_true, Bool.not_false, Bool.true_and, Bool.false_and, Bool.and_true, Bool.and_false, Bool.or_true, Bool.true_or, Bool.or_false, Bool.false_or, if_true, if_false, Bool.false_eq_true, Bool.true_eq_false, Bool.not_eq_true', decide_eq_false_iff_not, ty_int_int, ty_int_bool, ty_int_str, ty_int_tuple, ty_int_list, ty_bl_int, ty_bl_bool, ty_bl_str, ty_bl_tuple, ty_bl_list, ty_non_int, ty_non_bool, ty_non_str, ty_non_tuple, ty_non_list, ty_str_int, ty_str_bool, ty_str_str, ty_str_tuple, ty_str_list, ty_tup_int, ty_tup_bool, ty_tup_str, ty_tup_tuple, ty_tup_list, ty_lst_int, ty_lst_bool, ty_lst_str, ty_lst_tuple, ty_lst_list, wpH, isSub, Nat.reduceBEq, beq_self_eq_true, isNon, g_10, g_11, g_12, g_13, g_14, g_15, g_16, g_17, g_18, g_19, g_20, g_21, g_22, g_23, g_24, g_25, g_26, g_27, g_28, g_29, g_30, setAll, la_0, ap_0, isL_l]
      exact hK
/-! ### refusals -/
theorem sp8x {t u v : TV} (ht : plainT t = true) (hp : primeB t = false) : Throws Pr 5 8 [t, u, v] 1 [] := by
  refine throws_of rfl rfl fun n hn K X hK => ?_
  simp only [d8, b8, wpSs, wpS, wpE, wpT, wpV, wpB, wpEs, wpO, wpC, fillIo, backIo, finals, bindTg, bindTgs, List.map_cons, List.map_nil, List.replicate_succ, List.replicate_zero, List.cons_append, List.nil_append, List.set_cons_zero, List.set_cons_succ, Nat.reduceSub, Nat.reduceAdd, g_0, g_1, g_2, g_3, g_4, g_5, g_6, g_7, g_8, g_9, a_ok, a_add, a_addS, a_addL, a_addT, a_sub, a_mul, a_mulL, a_mulT, a_mod, a_fdiv, a_pow, a_augadd, a_augsub, a_neg, a_lt, a_le, a_gt, a_ge, a_eq, a_ne, a_isN, a_isnN, a_isB, a_isnB, a_truB, a_truI, a_truN, a_truT, a_truL, a_lenT, a_lenL, a_abs, a_int, a_strI, a_max2, a_min2, a_listL, a_listT, a_tupL, a_tupT, a_range1, a_range2, a_seqT, a_seqL, a_enumT, a_enumL, a_zipT, a_zipL, a_idxL, a_idxT, a_cutL, a_cutT, a_cutS, a_revT, a_revL, at_0, at_1, at_2, at_3, at_4, at_5, a_okk, Option.bind_some, pu_0, pu_1, pu_2, pu_3, pu_4, f_int, f_bl, f_non, e_int, e_bl, e_str, true_and, and_true, and_self, decide_eq_true_eq, if_true, if_false, wipe, restore, List.getElem?_cons_zero, List.getElem?_cons_succ, Option.getD_some, Option.getD_none, Bool.not_true, Bool.not_false, Bool.true_and, Bool.false_and, Bool.and_true, Bool.and_false, Bool.or_true, Bool.true_or, Bool.or_false, Bool.false_or, if_true, if_false, Bool.false_eq_true, Bool.true_eq_false, Bool.not_eq_true', decide_eq_false_iff_not, ty_int_int, ty_int_bool, ty_int_str, ty_int_tuple, ty_int_list, ty_bl_int, ty_bl_bool, ty_bl_str, ty_bl_tuple, ty_bl_list, ty_non_int, ty_non_bool, ty_non_str, ty_non_tuple, ty_non_list, ty_str_int, ty_str_bool, ty_str_str, ty_str_tuple, ty_str_list, ty_tup_int, ty_tup_bool, ty_tup_str, ty_tup_tuple, ty_tup_list, ty_lst_int, ty_lst_bool, ty_lst_str, ty_lst_tuple, ty_lst_list, wpH, isSub, Nat.reduceBEq, beq_self_eq_true, isNon, g_10, g_11, g_12, g_13, g_14, g_15, g_16, g_17, g_18, g_19, g_20, g_21, g_22, g_23, g_24, g_25, g_26, g_27, g_28, g_29, g_30, setAll, la_0, ap_0, isL_l]
  exact sp3x ht hp n (by omega) _ _ hK
theorem sp9x {t u : TV} (ht : plainT t = true) (hp : primeB t = false) : Throws Pr 5 9 [t, u] 1 [] := by
  refine throws_of rfl rfl fun n hn K X hK => ?_
  simp only [d9, b9, wpSs, wpS, wpE, wpT, wpV, wpB, wpEs, wpO, wpC, fillIo, backIo, finals, bindTg, bindTgs, List.map_cons, List.map_nil, List.replicate_succ, List.replicate_zero, List.cons_append, List.nil_append, List.set_cons_zero, List.set_cons_succ, Nat.reduceSub, Nat.reduceAdd, g_0, g_1, g_2, g_3, g_4, g_5, g_6, g_7, g_8, g_9, a_ok, a_add, a_addS, a_addL, a_addT, a_sub, a_mul, a_mulL, a_mulT, a_mod, a_fdiv, a_pow, a_augadd, a_augsub, a_neg, a_lt, a_le, a_gt, a_ge, a_eq, a_ne, a_isN, a_isnN, a_isB, a_isnB, a_truB, a_truI, a_truN, a_truT, a_truL, a_lenT, a_lenL, a_abs, a_int, a_strI, a_max2, a_min2, a_listL, a_listT, a_tupL, a_tupT, a_range1, a_range2, a_seqT, a_seqL, a_enumT, a_enumL, a_zipT, a_zipL, a_idxL, a_idxT, a_cutL, a_cutT, a_cutS, a_revT, a_revL, at_0, at_1, at_2, at_3, at_4, at_5, a_okk, Option.bind_some, pu_0, pu_1, pu_2, pu_3, pu_4, f_int, f_bl, f_non, e_int, e_bl, e_str, true_and, and_true, and_self, decide_eq_true_eq, if_true, if_false, wipe, restore, List.getElem?_cons_zero, List.getElem?_cons_succ, Option.getD_some, Option.getD_none, Bool.not_true, Bool.not_false, Bool.true_and, Bool.false_and, Bool.and_true, Bool.and_false, Bool.or_true, Bool.true_or, Bool.or_false, Bool.false_or, if_true, if_false, Bool.false_eq_true, Bool.true_eq_false, Bool.not_eq_true', decide_eq_false_iff_not, ty_int_int, ty_int_bool, ty_int_str, ty_int_tuple, ty_int_list, ty_bl_int, ty_bl_bool, ty_bl_str, ty_bl_tuple, ty_bl_list, ty_non_int, ty_non_bool, ty_non_str, ty_non_tuple, ty_non_list, ty_str_int, ty_str_bool, ty_str_str, ty_str_tuple, ty_str_list, ty_tup_int, ty_tup_bool, ty_tup_str, ty_tup_tuple, ty_tup_list, ty_lst_int, ty_lst_bool, ty_lst_str, ty_lst_tuple, ty_lst_list, wpH, isSub, Nat.reduceBEq, beq_self_eq_true, isNon, g_10, g_11, g_12, g_13, g_14, g_15, g_16, g_17, g_18, g_19, g_20, g_21, g_22, g_23, g_24, g_25, g_26, g_27, g_28, g_29, g_30, setAll, la_0, ap_0, isL_l]
  exact sp3x ht hp n (by omega) _ _ hK
theorem sp10x {t u : TV} (ht : plainT t = true) (hp : primeB t = false) : Throws Pr 5 10 [t, u] 1 [] := by
  refine throws_of rfl rfl fun n hn K X hK => ?_
  simp only [d10, b10, wpSs, wpS, wpE, wpT, wpV, wpB, wpEs, wpO, wpC, fillIo, backIo, finals, bindTg, bindTgs, List.map_cons, List.map_nil, List.replicate_succ, List.replicate_zero, List.cons_append, List.nil_append, List.set_cons_zero, List.set_cons_succ, Nat.reduceSub, Nat.reduceAdd, g_0, g_1, g_2, g_3, g_4, g_5, g_6, g_7, g_8, g_9, a_ok, a_add, a_addS, a_addL, a_addT, a_sub, a_mul, a_mulL, a_mulT, a_mod, a_fdiv, a_pow, a_augadd, a_augsub, a_neg, a_lt, a_le, a_gt, a_ge, a_eq, a_ne, a_isN, a_isnN, a_isB, a_isnB, a_truB, a_truI, a_truN, a_truT, a_truL, a_lenT, a_lenL, a_abs, a_int, a_strI, a_max2, a_min2, a_listL, a_listT, a_tupL, a_tupT, a_range1, a_range2, a_seqT, a_seqL, a_enumT, a_enumL, a_zipT, a_zipL, a_idxL, a_idxT, a_cutL, a_cutT, a_cutS, a_revT, a_revL, at_0, at_1, at_2, at_3, at_4, at_5, a_okk, Option.bind_some, pu_0, pu_1, pu_2, pu_3, pu_4, f_int, f_bl, f_non, e_int, e_bl, e_str, true_and, and_true, and_self, decide_eq_true_eq, if_true, if_false, wipe, restore, List.getElem?_cons_zero, List.getElem?_cons_succ, Option.getD_some, Option.getD_none, Bool.not_true, Bool.not_false, Bool.true_and, Bool.false_and, Bool.and_true, Bool.and_false, Bool.or_true, Bool.true_or, Bool.or_false, Bool.false_or, if_true, if_false, Bool.false_eq_true, Bool.true_eq_false, Bool.not_eq_true', decide_eq_false_iff_not, ty_int_int, ty_int_bool, ty_int_str, ty_int_tuple, ty_int_list, ty_bl_int, ty_bl_bool, ty_bl_str, ty_bl_tuple, ty_bl_list, ty_non_int, ty_non_bool, ty_non_str, ty_non_tuple, ty_non_list, ty_str_int, ty_str_bool, ty_str_str, ty_str_tuple, ty_str_list, ty_tup_int, ty_tup_bool, ty_tup_str, ty_tup_tuple, ty_tup_list, ty_lst_int, ty_lst_bool, ty_lst_str, ty_lst_tuple, ty_lst_list, wpH, isSub, Nat.reduceBEq, beq_self_eq_true, isNon, g_10, g_11, g_12, g_13, g_14, g_15, g_16, g_17, g_18, g_19, g_20, g_21, g_22, g_23, g_24, g_25, g_26, g_27, g_28, g_29, g_30, setAll, la_0, ap_0, isL_l]
  exact sp3x ht hp n (by omega) _ _ hK
theorem sp11x {t : TV} (ht : plainT t = true) (hp : primeB t = false) : Throws Pr 5 11 [t] 1 [] := by
  refine throws_of rfl rfl fun n hn K X hK => ?_
  simp only [d11, b11, wpSs, wpS, wpE, wpT, wpV, wpB, wpEs, wpO, wpC, fillIo, backIo, finals, bindTg, bindTgs, List.map_cons, List.map_nil, List.replicate_succ, List.replicate_zero, List.cons_append, List.nil_append, List.set_cons_zero, List.set_cons_succ, Nat.reduceSub, Nat.reduceAdd, g_0, g_1, g_2, g_3, g_4, g_5, g_6, g_7, g_8, g_9, a_ok, a_add, a_addS, a_addL, a_addT, a_sub, a_mul, a_mulL, a_mulT, a_mod, a_fdiv, a_pow, a_augadd, a_augsub, a_neg, a_lt, a_le, a_gt, a_ge, a_eq, a_ne, a_isN, a_isnN, a_isB, a_isnB, a_truB, a_truI, a_truN, a_truT, a_truL, a_lenT, a_lenL, a_abs, a_int, a_strI, a_max2, a_min2, a_listL, a_listT, a_tupL, a_tupT, a_range1, a_range2, a_seqT, a_seqL, a_enumT, a_enumL, a_zipT, a_zipL, a_idxL, a_idxT, a_cutL, a_cutT, a_cutS, a_revT, a_revL, at_0, at_1, at_2, at_3, at_4, at_5, a_okk, Option.bind_some, pu_0, pu_1, pu_2, pu_3, pu_4, f_int, f_bl, f_non, e_int, e_bl, e_str, true_and, and_true, and_self, decide_eq_true_eq, if_true, if_false, wipe, restore, List.getElem?_cons_zero, List.getElem?_cons_succ, Option.getD_some, Option.getD_none, Bool.not_true, Bool.not_false, Bool.true_and, Bool.false_and, Bool.and_true, Bool.and_false, Bool.or_true, Bool.true_or, Bool.or_false, Bool.false_or, if_true, if_false, Bool.false_eq_true, Bool.true_eq_false, Bool.not_eq_true', decide_eq_false_iff_not, ty_int_int, ty_int_bool, ty_int_str, ty_int_tuple, ty_int_list, ty_bl_int, ty_bl_bool, ty_bl_str, ty_bl_tuple, ty_bl_list, ty_non_int, ty_non_bool, ty_non_str, ty_non_tuple, ty_non_list, ty_str_int, ty_str_bool, ty_str_str, ty_str_tuple, ty_str_list, ty_tup_int, ty_tup_bool, ty_tup_str, ty_tup_tuple, ty_tup_list, ty_lst_int, ty_lst_bool, ty_lst_str, ty_lst_tuple, ty_lst_list, wpH, isSub, Nat.reduceBEq, beq_self_eq_true, isNon, g_10, g_11, g_12, g_13, g_14, g_15, g_16, g_17, g_18, g_19, g_20, g_21, g_22, g_23, g_24, g_25, g_26, g_27, g_28, g_29, g_30, setAll, la_0, ap_0, isL_l]
  exact sp3x ht hp n (by omega) _ _ hK
theorem sp8y {p : Int} {u v : TV} (hp : primeB (.int p) = true) (hu : plainT u = true) (hb : betw u 0 (p - 1) = false) : Throws Pr 5 8 [.int p, u, v] 2 [] := by
  refine throws_of rfl rfl fun n hn K X hK => ?_
  simp only [d8, b8, wpSs, wpS, wpE, wpT, wpV, wpB, wpEs, wpO, wpC, fillIo, backIo, finals, bindTg, bindTgs, List.map_cons, List.map_nil, List.replicate_succ, List.replicate_zero, List.cons_append, List.nil_append, List.set_cons_zero, List.set_cons_succ, Nat.reduceSub, Nat.reduceAdd, g_0, g_1, g_2, g_3, g_4, g_5, g_6, g_7, g_8, g_9, a_ok, a_add, a_addS, a_addL, a_addT, a_sub, a_mul, a_mulL, a_mulT, a_mod, a_fdiv, a_pow, a_augadd, a_augsub, a_neg, a_lt, a_le, a_gt, a_ge, a_eq, a_ne, a_isN, a_isnN, a_isB, a_isnB, a_truB, a_truI, a_truN, a_truT, a_truL, a_lenT, a_lenL, a_abs, a_int, a_strI, a_max2, a_min2, a_listL, a_listT, a_tupL, a_tupT, a_range1, a_range2, a_seqT, a_seqL, a_enumT, a_enumL, a_zipT, a_zipL, a_idxL, a_idxT, a_cutL, a_cutT, a_cutS, a_revT, a_revL, at_0, at_1, at_2, at_3, at_4, at_5, a_okk, Option.bind_some, pu_0, pu_1, pu_2, pu_3, pu_4, f_int, f_bl, f_non, e_int, e_bl, e_str, true_and, and_true, and_self, decide_eq_true_eq, if_true, if_false, wipe, restore, List.getElem?_cons_zero, List.getElem?_cons_succ, Option.getD_some, Option.getD_none, Bool.not_true, Bool.not_false, Bool.true_and, Bool.false_and, Bool.and_true, Bool.and_false, Bool.or_true, Bool.true_or, Bool.or_false, Bool.false_or, if_true, if_false, Bool.false_eq_true, Bool.true_eq_false, Bool.not_eq_true', decide_eq_false_iff_not, ty_int_int, ty_int_bool, ty_int_str, ty_int_tuple, ty_int_list, ty_bl_int, ty_bl_bool, ty_bl_str, ty_bl_tuple, ty_bl_list, ty_non_int, ty_non_bool, ty_non_str, ty_non_tuple, ty_non_list, ty_str_int, ty_str_bool, ty_str_str, ty_str_tuple, ty_str_list, ty_tup_int, ty_tup_bool, ty_tup_str, ty_tup_tuple, ty_tup_list, ty_lst_int, ty_lst_bool, ty_lst_str, ty_lst_tuple, ty_lst_list, wpH, isSub, Nat.reduceBEq, beq_self_eq_true, isNon, g_10, g_11, g_12, g_13, g_14, g_15, g_16, g_17, g_18, g_19, g_20, g_21, g_22, g_23, g_24, g_25, g_26, g_27, g_28, g_29, g_30, setAll, la_0, ap_0, isL_l]
  refine sp3 rfl hp n (by omega) _ _ ⟨(by decide : 1 ≤ 16777216), ?_⟩
  exact sp5x hu hb n (by omega) _ _ hK
theorem sp9y {p : Int} {u : TV} (hp : primeB (.int p) = true) (hu : plainT u = true) (hb : betw u 0 (p - 1) = false) : Throws Pr 5 9 [.int p, u] 2 [] := by
  refine throws_of rfl rfl fun n hn K X hK => ?_
  simp only [d9, b9, wpSs, wpS, wpE, wpT, wpV, wpB, wpEs, wpO, wpC, fillIo, backIo, finals, bindTg, bindTgs, List.map_cons, List.map_nil, List.replicate_succ, List.replicate_zero, List.cons_append, List.nil_append, List.set_cons_zero, List.set_cons_succ, Nat.reduceSub, Nat.reduceAdd, g_0, g_1, g_2, g_3, g_4, g_5, g_6, g_7, g_8, g_9, a_ok, a_add, a_addS, a_addL, a_addT, a_sub, a_mul, a_mulL, a_mulT, a_mod, a_fdiv, a_pow, a_augadd, a_augsub, a_neg, a_lt, a_le, a_gt, a_ge, a_eq, a_ne, a_isN, a_isnN, a_isB, a_isnB, a_truB, a_truI, a_truN, a_truT, a_truL, a_lenT, a_lenL, a_abs, a_int, a_strI, a_max2, a_min2, a_listL, a_listT, a_tupL, a_tupT, a_range1, a_range2, a_seqT, a_seqL, a_enumT, a_enumL, a_zipT, a_zipL, a_idxL, a_idxT, a_cutL, a_cutT, a_cutS, a_revT, a_revL, at_0, at_1, at_2, at_3, at_4, at_5, a_okk, Option.bind_some, pu_0, pu_1, pu_2, pu_3, pu_4, f_int, f_bl, f_non, e_int, e_bl, e_str, true_and, and_true, and_self, decide_eq_true_eq, if_true, if_false, wipe, restore, List.getElem?_cons_zero, List.getElem?_cons_succ, Option.getD_some, Option.getD_none, Bool.not_true, Bool.not_false, Bool.true_and, Bool.false_and, Bool.and_true, Bool.and_false, Bool.or_true, Bool.true_or, Bool.or_false, Bool.false_or, if_true, if_false, Bool.false_eq_true, Bool.true_eq_false, Bool.not_eq_true', decide_eq_false_iff_not, ty_int_int, ty_int_bool, ty_int_str, ty_int_tuple, ty_int_list, ty_bl_int, ty_bl_bool, ty_bl_str, ty_bl_tuple, ty_bl_list, ty_non_int, ty_non_bool, ty_non_str, ty_non_tuple, ty_non_list, ty_str_int, ty_str_bool, ty_str_str, ty_str_tuple, ty_str_list, ty_tup_int, ty_tup_bool, ty_tup_str, ty_tup_tuple, ty_tup_list, ty_lst_int, ty_lst_bool, ty_lst_str, ty_lst_tuple, ty_lst_list, wpH, isSub, Nat.reduceBEq, beq_self_eq_true, isNon, g_10, g_11, g_12, g_13, g_14, g_15, g_16, g_17, g_18, g_19, g_20, g_21, g_22, g_23, g_24, g_25, g_26, g_27, g_28, g_29, g_30, setAll, la_0, ap_0, isL_l]
  refine sp3 rfl hp n (by omega) _ _ ⟨(by decide : 1 ≤ 16777216), ?_⟩
  exact sp5x hu hb n (by omega) _ _ hK
theorem sp10y {p : Int} {u : TV} (hp : primeB (.int p) = true) (hu : plainT u = true) (hb : betw u 0 (p - 1) = false) : Throws Pr 5 10 [.int p, u] 2 [] := by
  refine throws_of rfl rfl fun n hn K X hK => ?_
  simp only [d10, b10, wpSs, wpS, wpE, wpT, wpV, wpB, wpEs, wpO, wpC, fillIo, backIo, finals, bindTg, bindTgs, List.map_cons, List.map_nil, List.replicate_succ, List.replicate_zero, List.cons_append, List.nil_append, List.set_cons_zero, List.set_cons_succ, Nat.reduceSub, Nat.reduceAdd, g_0, g_1, g_2, g_3, g_4, g_5, g_6, g_7, g_8, g_9, a_ok, a_add, a_addS, a_addL, a_addT, a_sub, a_mul, a_mulL, a_mulT, a_mod, a_fdiv, a_pow, a_augadd, a_augsub, a_neg, a_lt, a_le, a_gt, a_ge, a_eq, a_ne, a_isN, a_isnN, a_isB, a_isnB, a_truB, a_truI, a_truN, a_truT, a_truL, a_lenT, a_lenL, a_abs, a_int, a_strI, a_max2, a_min2, a_listL, a_listT, a_tupL, a_tupT, a_range1, a_range2, a_seqT, a_seqL, a_enumT, a_enumL, a_zipT, a_zipL, a_idxL, a_idxT, a_cutL, a_cutT, a_cutS, a_revT, a_revL, at_0, at_1, at_2, at_3, at_4, at_5, a_okk, Option.bind_some, pu_0, pu_1, pu_2, pu_3, pu_4, f_int, f_bl, f_non, e_int, e_bl, e_str, true_and, and_true, and_self, decide_eq_true_eq, if_true, if_false, wipe, restore, List.getElem?_cons_zero, List.getElem?_cons_succ, Option.getD_some, Option.getD_none, Bool.not_true, Bool.not_false, Bool.true_and, Bool.false_and, Bool.and_true, Bool.and_false, Bool.or_true, Bool.true_or, Bool.or_false, Bool.false_or, if_true, if_false, Bool.false_eq_true, Bool.true_eq_false, Bool.not_eq_true', decide_eq_false_iff_not, ty_int_int, ty_int_bool, ty_int_str, ty_int_tuple, ty_int_list, ty_bl_int, ty_bl_bool, ty_bl_str, ty_bl_tuple, ty_bl_list, ty_non_int, ty_non_bool, ty_non_str, ty_non_tuple, ty_non_list, ty_str_int, ty_str_bool, ty_str_str, ty_str_tuple, ty_str_list, ty_tup_int, ty_tup_bool, ty_tup_str, ty_tup_tuple, ty_tup_list, ty_lst_int, ty_lst_bool, ty_lst_str, ty_lst_tuple, ty_lst_list, wpH, isSub, Nat.reduceBEq, beq_self_eq_true, isNon, g_10, g_11, g_12, g_13, g_14, g_15, g_16, g_17, g_18, g_19, g_20, g_21, g_22, g_23, g_24, g_25, g_26, g_27, g_28, g_29, g_30, setAll, la_0, ap_0, isL_l]
  refine sp3 rfl hp n (by omega) _ _ ⟨(by decide : 1 ≤ 16777216), ?_⟩
  exact sp5x hu hb n (by omega) _ _ hK
theorem sp8z {p : Int} {v : TV} (hp : primeB (.int p) = true) (hv : plainT v = true) (hb : betw v 0 1000 = false) : Throws Pr 5 8 [.int p, .int 0, v] 2 [] := by
  have hg := prime_ge hp
  refine throws_of rfl rfl fun n hn K X hK => ?_
  simp only [d8, b8, wpSs, wpS, wpE, wpT, wpV, wpB, wpEs, wpO, wpC, fillIo, backIo, finals, bindTg, bindTgs, List.map_cons, List.map_nil, List.replicate_succ, List.replicate_zero, List.cons_append, List.nil_append, List.set_cons_zero, List.set_cons_succ, Nat.reduceSub, Nat.reduceAdd, g_0, g_1, g_2, g_3, g_4, g_5, g_6, g_7, g_8, g_9, a_ok, a_add, a_addS, a_addL, a_addT, a_sub, a_mul, a_mulL, a_mulT, a_mod, a_fdiv, a_pow, a_augadd, a_augsub, a_neg, a_lt, a_le, a_gt, a_ge, a_eq, a_ne, a_isN, a_isnN, a_isB, a_isnB, a_truB, a_truI, a_truN, a_truT, a_truL, a_lenT, a_lenL, a_abs, a_int, a_strI, a_max2, a_min2, a_listL, a_listT, a_tupL, a_tupT, a_range1, a_range2, a_seqT, a_seqL, a_enumT, a_enumL, a_zipT, a_zipL, a_idxL, a_idxT, a_cutL, a_cutT, a_cutS, a_revT, a_revL, at_0, at_1, at_2, at_3, at_4, at_5, a_okk, Option.bind_some, pu_0, pu_1, pu_2, pu_3, pu_4, f_int, f_bl, f_non, e_int, e_bl, e_str, true_and, and_true, and_self, decide_eq_true_eq, if_true, if_false, wipe, restore, List.getElem?_cons_zero, List.getElem?_cons_succ, Option.getD_some, Option.getD_none, Bool.not_true, Bool.not_false, Bool.true_and, Bool.false_and, Bool.and_true, Bool.and_false, Bool.or_true, Bool.true_or, Bool.or_false, Bool.false_or, if_true, if_false, Bool.false_eq_true, Bool.true_eq_false, Bool.not_eq_true', decide_eq_false_iff_not, ty_int_int, ty_int_bool, ty_int_str, ty_int_tuple, ty_int_list, ty_bl_int, ty_bl_bool, ty_bl_str, ty_bl_tuple, ty_bl_list, ty_non_int, ty_non_bool, ty_non_str, ty_non_tuple, ty_non_list, ty_str_int, ty_str_bool, ty_str_str, ty_str_tuple, ty_str_list, ty_tup_int, ty_tup_bool, ty_tup_str, ty_tup_tuple, ty_tup_list, ty_lst_int, ty_lst_bool, ty_lst_str, ty_lst_tuple, ty_lst_list, wpH, isSub, Nat.reduceBEq, beq_self_eq_true, isNon, g_10, g_11, g_12, g_13, g_14, g_15, g_16, g_17, g_18, g_19, g_20, g_21, g_22, g_23, g_24, g_25, g_26, g_27, g_28, g_29, g_30, setAll, la_0, ap_0, isL_l]
  refine sp3 rfl hp n (by omega) _ _ ⟨(by decide : 1 ≤ 16777216), ?_⟩
  refine sp5 rfl (num_betw (by omega) (by omega)) n (by omega) _ _ ?_
  refine sp1 hv n (by omega) _ _ ?_
  simp only [hb, wpSs, wpS, wpE, wpT, wpV, wpB, wpEs, wpO, wpC, fillIo, backIo, finals, bindTg, bindTgs, List.map_cons, List.map_nil, List.replicate_succ, List.replicate_zero, List.cons_append, List.nil_append, List.set_cons_zero, List.set_cons_succ, Nat.reduceSub, Nat.reduceAdd, g_0, g_1, g_2, g_3, g_4, g_5, g_6, g_7, g_8, g_9, a_ok, a_add, a_addS, a_addL, a_addT, a_sub, a_mul, a_mulL, a_mulT, a_mod, a_fdiv, a_pow, a_augadd, a_augsub, a_neg, a_lt, a_le, a_gt, a_ge, a_eq, a_ne, a_isN, a_isnN, a_isB, a_isnB, a_truB, a_truI, a_truN, a_truT, a_truL, a_lenT, a_lenL, a_abs, a_int, a_strI, a_max2, a_min2, a_listL, a_listT, a_tupL, a_tupT, a_range1, a_range2, a_seqT, a_seqL, a_enumT, a_enumL, a_zipT, a_zipL, a_idxL, a_idxT, a_cutL, a_cutT, a_cutS, a_revT, a_revL, at_0, at_1, at_2, at_3, at_4, at_5, a_okk, Option.bind_some, pu_0, pu_1, pu_2, pu_3, pu_4, f_int, f_bl, f_non, e_int, e_bl, e_str, true_and, and_true, and_self, decide_eq_true_eq, if_true, if_false, wipe, restore, List.getElem?_cons_zero, List.getElem?_cons_succ, Option.getD_some, Option.getD_none, Bool.not_true, Bool.not_false, Bool.true_and, Bool.false_and, Bool.and_true, Bool.and_false, Bool.or_true, Bool.true_or, Bool.or_false, Bool.false_or, if_true, if_false, Bool.false_eq_true, Bool.true_eq_false, Bool.not_eq_true', decide_eq_false_iff_not, ty_int_int, ty_int_bool, ty_int_str, ty_int_tuple, ty_int_list, ty_bl_int, ty_bl_bool, ty_bl_str, ty_bl_tuple, ty_bl_list, ty_non_int, ty_non_bool, ty_non_str, ty_non_tuple, ty_non_list, ty_str_int, ty_str_bool, ty_str_str, ty_str_tuple, ty_str_list, ty_tup_int, ty_tup_bool, ty_tup_str, ty_tup_tuple, ty_tup_list, ty_lst_int, ty_lst_bool, ty_lst_str, ty_lst_tuple, ty_lst_list, wpH, isSub, Nat.reduceBEq, beq_self_eq_true, isNon, g_10, g_11, g_12, g_13, g_14, g_15, g_16, g_17, g_18, g_19, g_20, g_21, g_22, g_23, g_24, g_25, g_26, g_27, g_28, g_29, g_30, setAll, la_0, ap_0, isL_l]
  exact hK
theorem sp20p {t : TV} {k : Int} (hk : k = 0 ∨ k = 1 ∨ k = 2 ∨ k = 3) (ht : plainT t = true) (hp : primeB t = false) : Does Pr 6 20 [.int k, t, .non, .non] (.str "prime") [] := by
  refine does_of rfl rfl fun n hn K X hK => ?_
  rcases hk with rfl | rfl | rfl | rfl
  · simp only [d20, b20, wpSs, wpS, wpE, wpT, wpV, wpB, wpEs, wpO, wpC, fillIo, backIo, finals, bindTg, bindTgs, List.map_cons, List.map_nil, List.replicate_succ, List.replicate_zero, List.cons_append, List.nil_append, List.set_cons_zero, List.set_cons_succ, Nat.reduceSub, Nat.reduceAdd, g_0, g_1, g_2, g_3, g_4, g_5, g_6, g_7, g_8, g_9, a_ok, a_add, a_addS, a_addL, a_addT, a_sub, a_mul, a_mulL, a_mulT, a_mod, a_fdiv, a_pow, a_augadd, a_augsub, a_neg, a_lt, a_le, a_gt, a_ge, a_eq, a_ne, a_isN, a_isnN, a_isB, a_isnB, a_truB, a_truI, a_truN, a_truT, a_truL, a_lenT, a_lenL, a_abs, a_int, a_strI, a_max2, a_min2, a_listL, a_listT, a_tupL, a_tupT, a_range1, a_range2, a_seqT, a_seqL, a_enumT, a_enumL, a_zipT, a_zipL, a_idxL, a_idxT, a_cutL, a_cutT, a_cutS, a_revT, a_revL, at_0, at_1, at_2, at_3, at_4, at_5, a_okk, Option.bind_some, pu_0, pu_1, pu_2, pu_3, pu_4, f_int, f_bl, f_non, e_int, e_bl, e_str, true_and, and_true, and_self, decide_eq_true_eq, if_true, if_false, wipe, restore, List.getElem?_cons_zero, List.getElem?_cons_succ, Option.getD_some, Option.getD_none, Bool.not_true, Bool.not_false, Bool.true_and, Bool.false_and, Bool.and_true, Bool.and_false, Bool.or_true, Bool.true_or, Bool.or_false, Bool.false_or, if_true, if_false, Bool.false_eq_true, Bool.true_eq_false, Bool.not_eq_true', decide_eq_false_iff_not, ty_int_int, ty_int_bool, ty_int_str, ty_int_tuple, ty_int_list, ty_bl_int, ty_bl_bool, ty_bl_str, ty_bl_tuple, ty_bl_list, ty_non_int, ty_non_bool, ty_non_str, ty_non_tuple, ty_non_list, ty_str_int, ty_str_bool, ty_str_str, ty_str_tuple, ty_str_list, ty_tup_int, ty_tup_bool, ty_tup_str, ty_tup_tuple, ty_tup_list, ty_lst_int, ty_lst_bool, ty_lst_str, ty_lst_tuple, ty_lst_list, wpH, isSub, Nat.reduceBEq, beq_self_eq_true, isNon, g_10, g_11, g_12, g_13, g_14, g_15, g_16, g_17, g_18, g_19, g_20, g_21, g_22, g_23, g_24, g_25, g_26, g_27, g_28, g_29, g_30, setAll, la_0, ap_0, isL_l]
    exact sp8x ht hp n (by omega) _ _ hK
  · simp only [d20, b20, wpSs, wpS, wpE, wpT, wpV, wpB, wpEs, wpO, wpC, fillIo, backIo, finals, bindTg, bindTgs, List.map_cons, List.map_nil, List.replicate_succ, List.replicate_zero, List.cons_append, List.nil_append, List.set_cons_zero, List.set_cons_succ, Nat.reduceSub, Nat.reduceAdd, g_0, g_1, g_2, g_3, g_4, g_5, g_6, g_7, g_8, g_9, a_ok, a_add, a_addS, a_addL, a_addT, a_sub, a_mul, a_mulL, a_mulT, a_mod, a_fdiv, a_pow, a_augadd, a_augsub, a_neg, a_lt, a_le, a_gt, a_ge, a_eq, a_ne, a_isN, a_isnN, a_isB, a_isnB, a_truB, a_truI, a_truN, a_truT, a_truL, a_lenT, a_lenL, a_abs, a_int, a_strI, a_max2, a_min2, a_listL, a_listT, a_tupL, a_tupT, a_range1, a_range2, a_seqT, a_seqL, a_enumT, a_enumL, a_zipT, a_zipL, a_idxL, a_idxT, a_cutL, a_cutT, a_cutS, a_revT, a_revL, at_0, at_1, at_2, at_3, at_4, at_5, a_okk, Option.bind_some, pu_0, pu_1, pu_2, pu_3, pu_4, f_int, f_bl, f_non, e_int, e_bl, e_str, true_and, and_true, and_self, decide_eq_true_eq, if_true, if_false, wipe, restore, List.getElem?_cons_zero, List.getElem?_cons_succ, Option.getD_some, Option.getD_none, Bool.not_true, Bool.not_false, Bool.true_and, Bool.false_and, Bool.and_true, Bool.and_false, Bool.or_true, Bool.true_or, Bool.or_false, Bool.false_or, if_true, if_false, Bool.false_eq_true, Bool.true_eq_false, Bool.not_eq_true', decide_eq_false_iff_not, ty_int_int, ty_int_bool, ty_int_str, ty_int_tuple, ty_int_list, ty_bl_int, ty_bl_bool, ty_bl_str, ty_bl_tuple, ty_bl_list, ty_non_int, ty_non_bool, ty_non_str, ty_non_tuple, ty_non_list, ty_str_int, ty_str_bool, ty_str_str, ty_str_tuple, ty_str_list, ty_tup_int, ty_tup_bool, ty_tup_str, ty_tup_tuple, ty_tup_list, ty_lst_int, ty_lst_bool, ty_lst_str, ty_lst_tuple, ty_lst_list, wpH, isSub, Nat.reduceBEq, beq_self_eq_true, isNon, g_10, g_11, g_12, g_13, g_14, g_15, g_16, g_17, g_18, g_19, g_20, g_21, g_22, g_23, g_24, g_25, g_26, g_27, g_28, g_29, g_30, setAll, la_0, ap_0, isL_l]
    exact sp9x ht hp n (by omega) _ _ hK
  · simp only [d20, b20, wpSs, wpS, wpE, wpT, wpV, wpB, wpEs, wpO, wpC, fillIo, backIo, finals, bindTg, bindTgs, List.map_cons, List.map_nil, List.replicate_succ, List.replicate_zero, List.cons_append, List.nil_append, List.set_cons_zero, List.set_cons_succ, Nat.reduceSub, Nat.reduceAdd, g_0, g_1, g_2, g_3, g_4, g_5, g_6, g_7, g_8, g_9, a_ok, a_add, a_addS, a_addL, a_addT, a_sub, a_mul, a_mulL, a_mulT, a_mod, a_fdiv, a_pow, a_augadd, a_augsub, a_neg, a_lt, a_le, a_gt, a_ge, a_eq, a_ne, a_isN, a_isnN, a_isB, a_isnB, a_truB, a_truI, a_truN, a_truT, a_truL, a_lenT, a_lenL, a_abs, a_int, a_strI, a_max2, a_min2, a_listL, a_listT, a_tupL, a_tupT, a_range1, a_range2, a_seqT, a_seqL, a_enumT, a_enumL, a_zipT, a_zipL, a_idxL, a_idxT, a_cutL, a_cutT, a_cutS, a_revT, a_revL, at_0, at_1, at_2, at_3, at_4, at_5, a_okk, Option.bind_some, pu_0, pu_1, pu_2, pu_3, pu_4, f_int, f_bl, f_non, e_int, e_bl, e_str, true_and, and_true, and_self, decide_eq_true_eq, if_true, if_false, wipe, restore, List.getElem?_cons_zero, List.getElem?_cons_succ, Option.getD_some, Option.getD_none, Bool.not_true, Bool.not_false, Bool.true_and, Bool.false_and, Bool.and_true, Bool.and_false, Bool.or_true, Bool.true_or, Bool.or_false, Bool.false_or, if_true, if_false, Bool.false_eq_true, Bool.true_eq_false, Bool.not_eq_true', decide_eq_false_iff_not, ty_int_int, ty_int_bool, ty_int_str, ty_int_tuple, ty_int_list, ty_bl_int, ty_bl_bool, ty_bl_str, ty_bl_tuple, ty_bl_list, ty_non_int, ty_non_bool, ty_non_str, ty_non_tuple, ty_non_list, ty_str_int, ty_str_bool, ty_str_str, ty_str_tuple, ty_str_list, ty_tup_int, ty_tup_bool, ty_tup_str, ty_tup_tuple, ty_tup_list, ty_lst_int, ty_lst_bool, ty_lst_str, ty_lst_tuple, ty_lst_list, wpH, isSub, Nat.reduceBEq, beq_self_eq_true, isNon, g_10, g_11, g_12, g_13, g_14, g_15, g_16, g_17, g_18, g_19, g_20, g_21, g_22, g_23, g_24, g_25, g_26, g_27, g_28, g_29, g_30, setAll, la_0, ap_0, isL_l]
    exact sp10x ht hp n (by omega) _ _ hK
  · simp only [d20, b20, wpSs, wpS, wpE, wpT, wpV, wpB, wpEs, wpO, wpC, fillIo, backIo, finals, bindTg, bindTgs, List.map_cons, List.map_nil, List.replicate_succ, List.replicate_zero, List.cons_append, List.nil_append, List.set_cons_zero, List.set_cons_succ, Nat.reduceSub, Nat.reduceAdd, g_0, g_1, g_2, g_3, g_4, g_5, g_6, g_7, g_8, g_9, a_ok, a_add, a_addS, a_addL, a_addT, a_sub, a_mul, a_mulL, a_mulT, a_mod, a_fdiv, a_pow, a_augadd, a_augsub, a_neg, a_lt, a_le, a_gt, a_ge, a_eq, a_ne, a_isN, a_isnN, a_isB, a_isnB, a_truB, a_truI, a_truN, a_truT, a_truL, a_lenT, a_lenL, a_abs, a_int, a_strI, a_max2, a_min2, a_listL, a_listT, a_tupL, a_tupT, a_range1, a_range2, a_seqT, a_seqL, a_enumT, a_enumL, a_zipT, a_zipL, a_idxL, a_idxT, a_cutL, a_cutT, a_cutS, a_revT, a_revL, at_0, at_1, at_2, at_3, at_4, at_5, a_okk, Option.bind_some, pu_0, pu_1, pu_2, pu_3, pu_4, f_int, f_bl, f_non, e_int, e_bl, e_str, true_and, and_true, and_self, decide_eq_true_eq, if_true, if_false, wipe, restore, List.getElem?_cons_zero, List.getElem?_cons_succ, Option.getD_some, Option.getD_none, Bool.not_true, Bool.not_false, Bool.true_and, Bool.false_and, Bool.and_true, Bool.and_false, Bool.or_true, Bool.true_or, Bool.or_false, Bool.false_or, if_true, if_false, Bool.false_eq_true, Bool.true_eq_false, Bool.not_eq_true', decide_eq_false_iff_not, ty_int_int, ty_int_bool, ty_int_str, ty_int_tuple, ty_int_list, ty_bl_int, ty_bl_bool, ty_bl_str, ty_bl_tuple, ty_bl_list, ty_non_int, ty_non_bool, ty_non_str, ty_non_tuple, ty_non_list, ty_str_int, ty_str_bool, ty_str_str, ty_str_tuple, ty_str_list, ty_tup_int, ty_tup_bool, ty_tup_str, ty_tup_tuple, ty_tup_list, ty_lst_int, ty_lst_bool, ty_lst_str, ty_lst_tuple, ty_lst_list, wpH, isSub, Nat.reduceBEq, beq_self_eq_true, isNon, g_10, g_11, g_12, g_13, g_14, g_15, g_16, g_17, g_18, g_19, g_20, g_21, g_22, g_23, g_24, g_25, g_26, g_27, g_28, g_29, g_30, setAll, la_0, ap_0, isL_l]
    exact sp11x ht hp n (by omega) _ _ hK
theorem sp20n {u : TV} {p k : Int} (hk : k = 0 ∨ k = 1 ∨ k = 2) (hp : primeB (.int p) = true) (hu : plainT u = true) (hb : betw u 0 (p - 1) = false) : Does Pr 6 20 [.int k, .int p, u, .int 1] (.str "number") [] := by
  refine does_of rfl rfl fun n hn K X hK => ?_
  rcases hk with rfl | rfl | rfl
  · simp only [d20, b20, wpSs, wpS, wpE, wpT, wpV, wpB, wpEs, wpO, wpC, fillIo, backIo, finals, bindTg, bindTgs, List.map_cons, List.map_nil, List.replicate_succ, List.replicate_zero, List.cons_append, List.nil_append, List.set_cons_zero, List.set_cons_succ, Nat.reduceSub, Nat.reduceAdd, g_0, g_1, g_2, g_3, g_4, g_5, g_6, g_7, g_8, g_9, a_ok, a_add, a_addS, a_addL, a_addT, a_sub, a_mul, a_mulL, a_mulT, a_mod, a_fdiv, a_pow, a_augadd, a_augsub, a_neg, a_lt, a_le, a_gt, a_ge, a_eq, a_ne, a_isN, a_isnN, a_isB, a_isnB, a_truB, a_truI, a_truN, a_truT, a_truL, a_lenT, a_lenL, a_abs, a_int, a_strI, a_max2, a_min2, a_listL, a_listT, a_tupL, a_tupT, a_range1, a_range2, a_seqT, a_seqL, a_enumT, a_enumL, a_zipT, a_zipL, a_idxL, a_idxT, a_cutL, a_cutT, a_cutS, a_revT, a_revL, at_0, at_1, at_2, at_3, at_4, at_5, a_okk, Option.bind_some, pu_0, pu_1, pu_2, pu_3, pu_4, f_int, f_bl, f_non, e_int, e_bl, e_str, true_and, and_true, and_self, decide_eq_true_eq, if_true, if_false, wipe, restore, List.getElem?_cons_zero, List.getElem?_cons_succ, Option.getD_some, Option.getD_none, Bool.not_true, Bool.not_false, Bool.true_and, Bool.false_and, Bool.and_true, Bool.and_false, Bool.or_true, Bool.true_or, Bool.or_false, Bool.false_or, if_true, if_false, Bool.false_eq_true, Bool.true_eq_false, Bool.not_eq_true', decide_eq_false_iff_not, ty_int_int, ty_int_bool, ty_int_str, ty_int_tuple, ty_int_list, ty_bl_int, ty_bl_bool, ty_bl_str, ty_bl_tuple, ty_bl_list, ty_non_int, ty_non_bool, ty_non_str, ty_non_tuple, ty_non_list, ty_str_int, ty_str_bool, ty_str_str, ty_str_tuple, ty_str_list, ty_tup_int, ty_tup_bool, ty_tup_str, ty_tup_tuple, ty_tup_list, ty_lst_int, ty_lst_bool, ty_lst_str, ty_lst_tuple, ty_lst_list, wpH, isSub, Nat.reduceBEq, beq_self_eq_true, isNon, g_10, g_11, g_12, g_13, g_14, g_15, g_16, g_17, g_18, g_19, g_20, g_21, g_22, g_23, g_24, g_25, g_26, g_27, g_28, g_29, g_30, setAll, la_0, ap_0, isL_l]
    exact sp8y hp hu hb n (by omega) _ _ hK
  · simp only [d20, b20, wpSs, wpS, wpE, wpT, wpV, wpB, wpEs, wpO, wpC, fillIo, backIo, finals, bindTg, bindTgs, List.map_cons, List.map_nil, List.replicate_succ, List.replicate_zero, List.cons_append, List.nil_append, List.set_cons_zero, List.set_cons_succ, Nat.reduceSub, Nat.reduceAdd, g_0, g_1, g_2, g_3, g_4, g_5, g_6, g_7, g_8, g_9, a_ok, a_add, a_addS, a_addL, a_addT, a_sub, a_mul, a_mulL, a_mulT, a_mod, a_fdiv, a_pow, a_augadd, a_augsub, a_neg, a_lt, a_le, a_gt, a_ge, a_eq, a_ne, a_isN, a_isnN, a_isB, a_isnB, a_truB, a_truI, a_truN, a_truT, a_truL, a_lenT, a_lenL, a_abs, a_int, a_strI, a_max2, a_min2, a_listL, a_listT, a_tupL, a_tupT, a_range1, a_range2, a_seqT, a_seqL, a_enumT, a_enumL, a_zipT, a_zipL, a_idxL, a_idxT, a_cutL, a_cutT, a_cutS, a_revT, a_revL, at_0, at_1, at_2, at_3, at_4, at_5, a_okk, Option.bind_some, pu_0, pu_1, pu_2, pu_3, pu_4, f_int, f_bl, f_non, e_int, e_bl, e_str, true_and, and_true, and_self, decide_eq_true_eq, if_true, if_false, wipe, restore, List.getElem?_cons_zero, List.getElem?_cons_succ, Option.getD_some, Option.getD_none, Bool.not_true, Bool.not_false, Bool.true_and, Bool.false_and, Bool.and_true, Bool.and_false, Bool.or_true, Bool.true_or, Bool.or_false, Bool.false_or, if_true, if_false, Bool.false_eq_true, Bool.true_eq_false, Bool.not_eq_true', decide_eq_false_iff_not, ty_int_int, ty_int_bool, ty_int_str, ty_int_tuple, ty_int_list, ty_bl_int, ty_bl_bool, ty_bl_str, ty_bl_tuple, ty_bl_list, ty_non_int, ty_non_bool, ty_non_str, ty_non_tuple, ty_non_list, ty_str_int, ty_str_bool, ty_str_str, ty_str_tuple, ty_str_list, ty_tup_int, ty_tup_bool, ty_tup_str, ty_tup_tuple, ty_tup_list, ty_lst_int, ty_lst_bool, ty_lst_str, ty_lst_tuple, ty_lst_list, wpH, isSub, Nat.reduceBEq, beq_self_eq_true, isNon, g_10, g_11, g_12, g_13, g_14, g_15, g_16, g_17, g_18, g_19, g_20, g_21, g_22, g_23, g_24, g_25, g_26, g_27, g_28, g_29, g_30, setAll, la_0, ap_0, isL_l]
    exact sp9y hp hu hb n (by omega) _ _ hK
  · simp only [d20, b20, wpSs, wpS, wpE, wpT, wpV, wpB, wpEs, wpO, wpC, fillIo, backIo, finals, bindTg, bindTgs, List.map_cons, List.map_nil, List.replicate_succ, List.replicate_zero, List.cons_append, List.nil_append, List.set_cons_zero, List.set_cons_succ, Nat.reduceSub, Nat.reduceAdd, g_0, g_1, g_2, g_3, g_4, g_5, g_6, g_7, g_8, g_9, a_ok, a_add, a_addS, a_addL, a_addT, a_sub, a_mul, a_mulL, a_mulT, a_mod, a_fdiv, a_pow, a_augadd, a_augsub, a_neg, a_lt, a_le, a_gt, a_ge, a_eq, a_ne, a_isN, a_isnN, a_isB, a_isnB, a_truB, a_truI, a_truN, a_truT, a_truL, a_lenT, a_lenL, a_abs, a_int, a_strI, a_max2, a_min2, a_listL, a_listT, a_tupL, a_tupT, a_range1, a_range2, a_seqT, a_seqL, a_enumT, a_enumL, a_zipT, a_zipL, a_idxL, a_idxT, a_cutL, a_cutT, a_cutS, a_revT, a_revL, at_0, at_1, at_2, at_3, at_4, at_5, a_okk, Option.bind_some, pu_0, pu_1, pu_2, pu_3, pu_4, f_int, f_bl, f_non, e_int, e_bl, e_str, true_and, and_true, and_self, decide_eq_true_eq, if_true, if_false, wipe, restore, List.getElem?_cons_zero, List.getElem?_cons_succ, Option.getD_some, Option.getD_none, Bool.not_true, Bool.not_false, Bool.true_and, Bool.false_and, Bool.and_true, Bool.and_false, Bool.or_true, Bool.true_or, Bool.or_false, Bool.false_or, if_true, if_false, Bool.false_eq_true, Bool.true_eq_false, Bool.not_eq_true', decide_eq_false_iff_not, ty_int_int, ty_int_bool, ty_int_str, ty_int_tuple, ty_int_list, ty_bl_int, ty_bl_bool, ty_bl_str, ty_bl_tuple, ty_bl_list, ty_non_int, ty_non_bool, ty_non_str, ty_non_tuple, ty_non_list, ty_str_int, ty_str_bool, ty_str_str, ty_str_tuple, ty_str_list, ty_tup_int, ty_tup_bool, ty_tup_str, ty_tup_tuple, ty_tup_list, ty_lst_int, ty_lst_bool, ty_lst_str, ty_lst_tuple, ty_lst_list, wpH, isSub, Nat.reduceBEq, beq_self_eq_true, isNon, g_10, g_11, g_12, g_13, g_14, g_15, g_16, g_17, g_18, g_19, g_20, g_21, g_22, g_23, g_24, g_25, g_26, g_27, g_28, g_29, g_30, setAll, la_0, ap_0, isL_l]
    exact sp10y hp hu hb n (by omega) _ _ hK
theorem sp20m {v : TV} {p : Int} (hp : primeB (.int p) = true) (hv : plainT v = true) (hb : betw v 0 1000 = false) : Does Pr 6 20 [.int 0, .int p, .int 0, v] (.str "number") [] := by
  refine does_of rfl rfl fun n hn K X hK => ?_
  simp only [d20, b20, wpSs, wpS, wpE, wpT, wpV, wpB, wpEs, wpO, wpC, fillIo, backIo, finals, bindTg, bindTgs, List.map_cons, List.map_nil, List.replicate_succ, List.replicate_zero, List.cons_append, List.nil_append, List.set_cons_zero, List.set_cons_succ, Nat.reduceSub, Nat.reduceAdd, g_0, g_1, g_2, g_3, g_4, g_5, g_6, g_7, g_8, g_9, a_ok, a_add, a_addS, a_addL, a_addT, a_sub, a_mul, a_mulL, a_mulT, a_mod, a_fdiv, a_pow, a_augadd, a_augsub, a_neg, a_lt, a_le, a_gt, a_ge, a_eq, a_ne, a_isN, a_isnN, a_isB, a_isnB, a_truB, a_truI, a_truN, a_truT, a_truL, a_lenT, a_lenL, a_abs, a_int, a_strI, a_max2, a_min2, a_listL, a_listT, a_tupL, a_tupT, a_range1, a_range2, a_seqT, a_seqL, a_enumT, a_enumL, a_zipT, a_zipL, a_idxL, a_idxT, a_cutL, a_cutT, a_cutS, a_revT, a_revL, at_0, at_1, at_2, at_3, at_4, at_5, a_okk, Option.bind_some, pu_0, pu_1, pu_2, pu_3, pu_4, f_int, f_bl, f_non, e_int, e_bl, e_str, true_and, and_true, and_self, decide_eq_true_eq, if_true, if_false, wipe, restore, List.getElem?_cons_zero, List.getElem?_cons_succ, Option.getD_some, Option.getD_none, Bool.not_true, Bool.not_false, Bool.true_and, Bool.false_and, Bool.and_true, Bool.and_false, Bool.or_true, Bool.true_or, Bool.or_false, Bool.false_or, if_true, if_false, Bool.false_eq_true, Bool.true_eq_false, Bool.not_eq_true', decide_eq_false_iff_not, ty_int_int, ty_int_bool, ty_int_str, ty_int_tuple, ty_int_list, ty_bl_int, ty_bl_bool, ty_bl_str, ty_bl_tuple, ty_bl_list, ty_non_int, ty_non_bool, ty_non_str, ty_non_tuple, ty_non_list, ty_str_int, ty_str_bool, ty_str_str, ty_str_tuple, ty_str_list, ty_tup_int, ty_tup_bool, ty_tup_str, ty_tup_tuple, ty_tup_list, ty_lst_int, ty_lst_bool, ty_lst_str, ty_lst_tuple, ty_lst_list, wpH, isSub, Nat.reduceBEq, beq_self_eq_true, isNon, g_10, g_11, g_12, g_13, g_14, g_15, g_16, g_17, g_18, g_19, g_20, g_21, g_22, g_23, g_24, g_25, g_26, g_27, g_28, g_29, g_30, setAll, la_0, ap_0, isL_l]
  exact sp8z hp hv hb n (by omega) _ _ hK
set_option maxHeartbeats 4000000 in
theorem law_true (ns : List Int) (hl : ns.length ≤ 63) : Pr.call 20 21 [.scr ns] (fun r _ => r = .bl true) fun _ _ => False := by
  refine call_def (d := d21) rfl rfl ?_
  simp only [d21, b21, wpSs, wpS, wpE, wpT, wpV, wpB, wpEs, wpO, wpC, fillIo, backIo, finals, bindTg, bindTgs, List.map_cons, List.map_nil, List.replicate_succ, List.replicate_zero, List.cons_append, List.nil_append, List.set_cons_zero, List.set_cons_succ, Nat.reduceSub, Nat.reduceAdd, g_0, g_1, g_2, g_3, g_4, g_5, g_6, g_7, g_8, g_9, a_ok, a_add, a_addS, a_addL, a_addT, a_sub, a_mul, a_mulL, a_mulT, a_mod, a_fdiv, a_pow, a_augadd, a_augsub, a_neg, a_lt, a_le, a_gt, a_ge, a_eq, a_ne, a_isN, a_isnN, a_isB, a_isnB, a_truB, a_truI, a_truN, a_truT, a_truL, a_lenT, a_lenL, a_abs, a_int, a_strI, a_max2, a_min2, a_listL, a_listT, a_tupL, a_tupT, a_range1, a_range2, a_seqT, a_seqL, a_enumT, a_enumL, a_zipT, a_zipL, a_idxL, a_idxT, a_cutL, a_cutT, a_cutS, a_revT, a_revL, at_0, at_1, at_2, at_3, at_4, at_5, a_okk, Option.bind_some, pu_0, pu_1, pu_2, pu_3, pu_4, f_int, f_bl, f_non, e_int, e_bl, e_str, true_and, and_true, and_self, decide_eq_true_eq, if_true, if_false, wipe, restore, List.getElem?_cons_zero, List.getElem?_cons_succ, Option.getD_some, Option.getD_none, Bool.not_true, Bool.not_false, Bool.true_and, Bool.false_and, Bool.and_true, Bool.and_false, Bool.or_true, Bool.true_or, Bool.or_false, Bool.false_or, if_true, if_false, Bool.false_eq_true, Bool.true_eq_false, Bool.not_eq_true', decide_eq_false_iff_not, ty_int_int, ty_int_bool, ty_int_str, ty_int_tuple, ty_int_list, ty_bl_int, ty_bl_bool, ty_bl_str, ty_bl_tuple, ty_bl_list, ty_non_int, ty_non_bool, ty_non_str, ty_non_tuple, ty_non_list, ty_str_int, ty_str_bool, ty_str_str, ty_str_tuple, ty_str_list, ty_tup_int, ty_tup_bool, ty_tup_str, ty_tup_tuple, ty_tup_list, ty_lst_int, ty_lst_bool, ty_lst_str, ty_lst_tuple, ty_lst_list, wpH, isSub, Nat.reduceBEq, beq_self_eq_true, isNon, g_10, g_11, g_12, g_13, g_14, g_15, g_16, g_17, g_18, g_19, g_20, g_21, g_22, g_23, g_24, g_25, g_26, g_27, g_28, g_29, g_30, setAll, la_0, ap_0, isL_l, rangeL_eq]
  refine sp12 hl 19 (by omega) _ _ ?_
  rintro r os ⟨hh, rfl⟩
  refine ⟨by unfold small62 line; omega, ?_⟩
  refine loopC_fil .int .int (fun p => (rangeI 2 (p - 2).toNat).all fun o => !decide (p % o = 0)) _ _ (fun p hp acc next h1 h2 => ?_) ?_
  · simp only [wpSs, wpS, wpE, wpT, wpV, wpB, wpEs, wpO, wpC, fillIo, backIo, finals, bindTg, bindTgs, List.map_cons, List.map_nil, List.replicate_succ, List.replicate_zero, List.cons_append, List.nil_append, List.set_cons_zero, List.set_cons_succ, Nat.reduceSub, Nat.reduceAdd, g_0, g_1, g_2, g_3, g_4, g_5, g_6, g_7, g_8, g_9, a_ok, a_add, a_addS, a_addL, a_addT, a_sub, a_mul, a_mulL, a_mulT, a_mod, a_fdiv, a_pow, a_augadd, a_augsub, a_neg, a_lt, a_le, a_gt, a_ge, a_eq, a_ne, a_isN, a_isnN, a_isB, a_isnB, a_truB, a_truI, a_truN, a_truT, a_truL, a_lenT, a_lenL, a_abs, a_int, a_strI, a_max2, a_min2, a_listL, a_listT, a_tupL, a_tupT, a_range1, a_range2, a_seqT, a_seqL, a_enumT, a_enumL, a_zipT, a_zipL, a_idxL, a_idxT, a_cutL, a_cutT, a_cutS, a_revT, a_revL, at_0, at_1, at_2, at_3, at_4, at_5, a_okk, Option.bind_some, pu_0, pu_1, pu_2, pu_3, pu_4, f_int, f_bl, f_non, e_int, e_bl, e_str, true_and, and_true, and_self, decide_eq_true_eq, if_true, if_false, wipe, restore, List.getElem?_cons_zero, List.getElem?_cons_succ, Option.getD_some, Option.getD_none, Bool.not_true, Bool.not_false, Bool.true_and, Bool.false_and, Bool.and_true, Bool.and_false, Bool.or_true, Bool.true_or, Bool.or_false, Bool.false_or, if_true, if_false, Bool.false_eq_true, Bool.true_eq_false, Bool.not_eq_true', decide_eq_false_iff_not, ty_int_int, ty_int_bool, ty_int_str, ty_int_tuple, ty_int_list, ty_bl_int, ty_bl_bool, ty_bl_str, ty_bl_tuple, ty_bl_list, ty_non_int, ty_non_bool, ty_non_str, ty_non_tuple, ty_non_list, ty_str_int, ty_str_bool, ty_str_str, ty_str_tuple, ty_str_list, ty_tup_int, ty_tup_bool, ty_tup_str, ty_tup_tuple, ty_tup_list, ty_lst_int, ty_lst_bool, ty_lst_str, ty_lst_tuple, ty_lst_list, wpH, isSub, Nat.reduceBEq, beq_self_eq_true, isNon, g_10, g_11, g_12, g_13, g_14, g_15, g_16, g_17, g_18, g_19, g_20, g_21, g_22, g_23, g_24, g_25, g_26, g_27, g_28, g_29, g_30, setAll, la_0, ap_0, isL_l, rangeL_eq]
    have hp' := mem_rangeI.mp hp
    refine ⟨by unfold small62 line; omega, ?_⟩
    refine loopC_all .int (fun o => .bl (!decide (p % o = 0))) _ _ (fun o ho acc next hn => ?_) ?_
    · simp only [wpSs, wpS, wpE, wpT, wpV, wpB, wpEs, wpO, wpC, fillIo, backIo, finals, bindTg, bindTgs, List.map_cons, List.map_nil, List.replicate_succ, List.replicate_zero, List.cons_append, List.nil_append, List.set_cons_zero, List.set_cons_succ, Nat.reduceSub, Nat.reduceAdd, g_0, g_1, g_2, g_3, g_4, g_5, g_6, g_7, g_8, g_9, a_ok, a_add, a_addS, a_addL, a_addT, a_sub, a_mul, a_mulL, a_mulT, a_mod, a_fdiv, a_pow, a_augadd, a_augsub, a_neg, a_lt, a_le, a_gt, a_ge, a_eq, a_ne, a_isN, a_isnN, a_isB, a_isnB, a_truB, a_truI, a_truN, a_truT, a_truL, a_lenT, a_lenL, a_abs, a_int, a_strI, a_max2, a_min2, a_listL, a_listT, a_tupL, a_tupT, a_range1, a_range2, a_seqT, a_seqL, a_enumT, a_enumL, a_zipT, a_zipL, a_idxL, a_idxT, a_cutL, a_cutT, a_cutS, a_revT, a_revL, at_0, at_1, at_2, at_3, at_4, at_5, a_okk, Option.bind_some, pu_0, pu_1, pu_2, pu_3, pu_4, f_int, f_bl, f_non, e_int, e_bl, e_str, true_and, and_true, and_self, decide_eq_true_eq, if_true, if_false, wipe, restore, List.getElem?_cons_zero, List.getElem?_cons_succ, Option.getD_some, Option.getD_none, Bool.not_true, Bool.not_false, Bool.true_and, Bool.false_and, Bool.and_true, Bool.and_false, Bool.or_true, Bool.true_or, Bool.or_false, Bool.false_or, if_true, if_false, Bool.false_eq_true, Bool.true_eq_false, Bool.not_eq_true', decide_eq_false_iff_not, ty_int_int, ty_int_bool, ty_int_str, ty_int_tuple, ty_int_list, ty_bl_int, ty_bl_bool, ty_bl_str, ty_bl_tuple, ty_bl_list, ty_non_int, ty_non_bool, ty_non_str, ty_non_tuple, ty_non_list, ty_str_int, ty_str_bool, ty_str_str, ty_str_tuple, ty_str_list, ty_tup_int, ty_tup_bool, ty_tup_str, ty_tup_tuple, ty_tup_list, ty_lst_int, ty_lst_bool, ty_lst_str, ty_lst_tuple, ty_lst_list, wpH, isSub, Nat.reduceBEq, beq_self_eq_true, isNon, g_10, g_11, g_12, g_13, g_14, g_15, g_16, g_17, g_18, g_19, g_20, g_21, g_22, g_23, g_24, g_25, g_26, g_27, g_28, g_29, g_30, setAll, la_0, ap_0, isL_l]
      have ho' := mem_rangeI.mp ho
      refine sp18 (by omega) 19 (by omega) _ _ ?_
      simp only [wpSs, wpS, wpE, wpT, wpV, wpB, wpEs, wpO, wpC, fillIo, backIo, finals, bindTg, bindTgs, List.map_cons, List.map_nil, List.replicate_succ, List.replicate_zero, List.cons_append, List.nil_append, List.set_cons_zero, List.set_cons_succ, Nat.reduceSub, Nat.reduceAdd, g_0, g_1, g_2, g_3, g_4, g_5, g_6, g_7, g_8, g_9, a_ok, a_add, a_addS, a_addL, a_addT, a_sub, a_mul, a_mulL, a_mulT, a_mod, a_fdiv, a_pow, a_augadd, a_augsub, a_neg, a_lt, a_le, a_gt, a_ge, a_eq, a_ne, a_isN, a_isnN, a_isB, a_isnB, a_truB, a_truI, a_truN, a_truT, a_truL, a_lenT, a_lenL, a_abs, a_int, a_strI, a_max2, a_min2, a_listL, a_listT, a_tupL, a_tupT, a_range1, a_range2, a_seqT, a_seqL, a_enumT, a_enumL, a_zipT, a_zipL, a_idxL, a_idxT, a_cutL, a_cutT, a_cutS, a_revT, a_revL, at_0, at_1, at_2, at_3, at_4, at_5, a_okk, Option.bind_some, pu_0, pu_1, pu_2, pu_3, pu_4, f_int, f_bl, f_non, e_int, e_bl, e_str, true_and, and_true, and_self, decide_eq_true_eq, if_true, if_false, wipe, restore, List.getElem?_cons_zero, List.getElem?_cons_succ, Option.getD_some, Option.getD_none, Bool.not_true, Bool.not_false, Bool.true_and, Bool.false_and, Bool.and_true, Bool.and_false, Bool.or_true, Bool.true_or, Bool.or_false, Bool.false_or, if_true, if_false, Bool.false_eq_true, Bool.true_eq_false, Bool.not_eq_true', decide_eq_false_iff_not, ty_int_int, ty_int_bool, ty_int_str, ty_int_tuple, ty_int_list, ty_bl_int, ty_bl_bool, ty_bl_str, ty_bl_tuple, ty_bl_list, ty_non_int, ty_non_bool, ty_non_str, ty_non_tuple, ty_non_list, ty_str_int, ty_str_bool, ty_str_str, ty_str_tuple, ty_str_list, ty_tup_int, ty_tup_bool, ty_tup_str, ty_tup_tuple, ty_tup_list, ty_lst_int, ty_lst_bool, ty_lst_str, ty_lst_tuple, ty_lst_list, wpH, isSub, Nat.reduceBEq, beq_self_eq_true, isNon, g_10, g_11, g_12, g_13, g_14, g_15, g_16, g_17, g_18, g_19, g_20, g_21, g_22, g_23, g_24, g_25, g_26, g_27, g_28, g_29, g_30, setAll, la_0, ap_0, isL_l]
      exact hn
    · simp only [wpSs, wpS, wpE, wpT, wpV, wpB, wpEs, wpO, wpC, fillIo, backIo, finals, bindTg, bindTgs, List.map_cons, List.map_nil, List.replicate_succ, List.replicate_zero, List.cons_append, List.nil_append, List.set_cons_zero, List.set_cons_succ, Nat.reduceSub, Nat.reduceAdd, g_0, g_1, g_2, g_3, g_4, g_5, g_6, g_7, g_8, g_9, a_ok, a_add, a_addS, a_addL, a_addT, a_sub, a_mul, a_mulL, a_mulT, a_mod, a_fdiv, a_pow, a_augadd, a_augsub, a_neg, a_lt, a_le, a_gt, a_ge, a_eq, a_ne, a_isN, a_isnN, a_isB, a_isnB, a_truB, a_truI, a_truN, a_truT, a_truL, a_lenT, a_lenL, a_abs, a_int, a_strI, a_max2, a_min2, a_listL, a_listT, a_tupL, a_tupT, a_range1, a_range2, a_seqT, a_seqL, a_enumT, a_enumL, a_zipT, a_zipL, a_idxL, a_idxT, a_cutL, a_cutT, a_cutS, a_revT, a_revL, at_0, at_1, at_2, at_3, at_4, at_5, a_okk, Option.bind_some, pu_0, pu_1, pu_2, pu_3, pu_4, f_int, f_bl, f_non, e_int, e_bl, e_str, true_and, and_true, and_self, decide_eq_true_eq, if_true, if_false, wipe, restore, List.getElem?_cons_zero, List.getElem?_cons_succ, Option.getD_some, Option.getD_none, Bool.not_true, Bool.not_false, Bool.true_and, Bool.false_and, Bool.and_true, Bool.and_false, Bool.or_true, Bool.true_or, Bool.or_false, Bool.false_or, if_true, if_false, Bool.false_eq_true, Bool.true_eq_false, Bool.not_eq_true', decide_eq_false_iff_not, ty_int_int, ty_int_bool, ty_int_str, ty_int_tuple, ty_int_list, ty_bl_int, ty_bl_bool, ty_bl_str, ty_bl_tuple, ty_bl_list, ty_non_int, ty_non_bool, ty_non_str, ty_non_tuple, ty_non_list, ty_str_int, ty_str_bool, ty_str_str, ty_str_tuple, ty_str_list, ty_tup_int, ty_tup_bool, ty_tup_str, ty_tup_tuple, ty_tup_list, ty_lst_int, ty_lst_bool, ty_lst_str, ty_lst_tuple, ty_lst_list, wpH, isSub, Nat.reduceBEq, beq_self_eq_true, isNon, g_10, g_11, g_12, g_13, g_14, g_15, g_16, g_17, g_18, g_19, g_20, g_21, g_22, g_23, g_24, g_25, g_26, g_27, g_28, g_29, g_30, setAll, la_0, ap_0, isL_l, a_allF]
      split
      · rename_i h; exact h1 h
      · rename_i h; exact h2 (by simpa using h)
  · simp only [wpSs, wpS, wpE, wpT, wpV, wpB, wpEs, wpO, wpC, fillIo, backIo, finals, bindTg, bindTgs, List.map_cons, List.map_nil, List.replicate_succ, List.replicate_zero, List.cons_append, List.nil_append, List.set_cons_zero, List.set_cons_succ, Nat.reduceSub, Nat.reduceAdd, g_0, g_1, g_2, g_3, g_4, g_5, g_6, g_7, g_8, g_9, a_ok, a_add, a_addS, a_addL, a_addT, a_sub, a_mul, a_mulL, a_mulT, a_mod, a_fdiv, a_pow, a_augadd, a_augsub, a_neg, a_lt, a_le, a_gt, a_ge, a_eq, a_ne, a_isN, a_isnN, a_isB, a_isnB, a_truB, a_truI, a_truN, a_truT, a_truL, a_lenT, a_lenL, a_abs, a_int, a_strI, a_max2, a_min2, a_listL, a_listT, a_tupL, a_tupT, a_range1, a_range2, a_seqT, a_seqL, a_enumT, a_enumL, a_zipT, a_zipL, a_idxL, a_idxT, a_cutL, a_cutT, a_cutS, a_revT, a_revL, at_0, at_1, at_2, at_3, at_4, at_5, a_okk, Option.bind_some, pu_0, pu_1, pu_2, pu_3, pu_4, f_int, f_bl, f_non, e_int, e_bl, e_str, true_and, and_true, and_self, decide_eq_true_eq, if_true, if_false, wipe, restore, List.getElem?_cons_zero, List.getElem?_cons_succ, Option.getD_some, Option.getD_none, Bool.not_true, Bool.not_false, Bool.true_and, Bool.false_and, Bool.and_true, Bool.and_false, Bool.or_true, Bool.true_or, Bool.or_false, Bool.false_or, if_true, if_false, Bool.false_eq_true, Bool.true_eq_false, Bool.not_eq_true', decide_eq_false_iff_not, ty_int_int, ty_int_bool, ty_int_str, ty_int_tuple, ty_int_list, ty_bl_int, ty_bl_bool, ty_bl_str, ty_bl_tuple, ty_bl_list, ty_non_int, ty_non_bool, ty_non_str, ty_non_tuple, ty_non_list, ty_str_int, ty_str_bool, ty_str_str, ty_str_tuple, ty_str_list, ty_tup_int, ty_tup_bool, ty_tup_str, ty_tup_tuple, ty_tup_list, ty_lst_int, ty_lst_bool, ty_lst_str, ty_lst_tuple, ty_lst_list, wpH, isSub, Nat.reduceBEq, beq_self_eq_true, isNon, g_10, g_11, g_12, g_13, g_14, g_15, g_16, g_17, g_18, g_19, g_20, g_21, g_22, g_23, g_24, g_25, g_26, g_27, g_28, g_29, g_30, setAll, la_0, ap_0, isL_l, primes_all]
    refine ⟨by unfold small62 line; omega, ?_⟩
    refine loopF_all .int (fun i ρ => ∃ h' o3 o4 o5 o6 o7 o8 o9 o10 o11 o12 o13 o14 o15 o16, Hand h' ∧ ρ = [some (.scr ns), some h', some (.lst (primesL.map .int)), o3, o4, o5, o6, o7, o8, o9, o10, o11, o12, o13, o14, o15, o16]) ⟨r, _, _, _, _, _, _, _, _, _, _, _, _, _, _, hh, rfl⟩ ?_ ?_
    · rintro i y _ next - ⟨h, o3, o4, o5, o6, o7, o8, o9, o10, o11, o12, o13, o14, o15, o16, hh, rfl⟩ hnext
      simp only [wpSs, wpS, wpE, wpT, wpV, wpB, wpEs, wpO, wpC, fillIo, backIo, finals, bindTg, bindTgs, List.map_cons, List.map_nil, List.replicate_succ, List.replicate_zero, List.cons_append, List.nil_append, List.set_cons_zero, List.set_cons_succ, Nat.reduceSub, Nat.reduceAdd, g_0, g_1, g_2, g_3, g_4, g_5, g_6, g_7, g_8, g_9, a_ok, a_add, a_addS, a_addL, a_addT, a_sub, a_mul, a_mulL, a_mulT, a_mod, a_fdiv, a_pow, a_augadd, a_augsub, a_neg, a_lt, a_le, a_gt, a_ge, a_eq, a_ne, a_isN, a_isnN, a_isB, a_isnB, a_truB, a_truI, a_truN, a_truT, a_truL, a_lenT, a_lenL, a_abs, a_int, a_strI, a_max2, a_min2, a_listL, a_listT, a_tupL, a_tupT, a_range1, a_range2, a_seqT, a_seqL, a_enumT, a_enumL, a_zipT, a_zipL, a_idxL, a_idxT, a_cutL, a_cutT, a_cutS, a_revT, a_revL, at_0, at_1, at_2, at_3, at_4, at_5, a_okk, Option.bind_some, pu_0, pu_1, pu_2, pu_3, pu_4, f_int, f_bl, f_non, e_int, e_bl, e_str, true_and, and_true, and_self, decide_eq_true_eq, if_true, if_false, wipe, restore, List.getElem?_cons_zero, List.getElem?_cons_succ, Option.getD_some, Option.getD_none, Bool.not_true, Bool.not_false, Bool.true_and, Bool.false_and, Bool.and_true, Bool.and_false, Bool.or_true, Bool.true_or, Bool.or_false, Bool.false_or, if_true, if_false, Bool.false_eq_true, Bool.true_eq_false, Bool.not_eq_true', decide_eq_false_iff_not, ty_int_int, ty_int_bool, ty_int_str, ty_int_tuple, ty_int_list, ty_bl_int, ty_bl_bool, ty_bl_str, ty_bl_tuple, ty_bl_list, ty_non_int, ty_non_bool, ty_non_str, ty_non_tuple, ty_non_list, ty_str_int, ty_str_bool, ty_str_str, ty_str_tuple, ty_str_list, ty_tup_int, ty_tup_bool, ty_tup_str, ty_tup_tuple, ty_tup_list, ty_lst_int, ty_lst_bool, ty_lst_str, ty_lst_tuple, ty_lst_list, wpH, isSub, Nat.reduceBEq, beq_self_eq_true, isNon, g_10, g_11, g_12, g_13, g_14, g_15, g_16, g_17, g_18, g_19, g_20, g_21, g_22, g_23, g_24, g_25, g_26, g_27, g_28, g_29, g_30, setAll, la_0, ap_0, isL_l]
      refine sp14 hh (by decide) (by decide) 19 (by omega) _ _ ?_
      rintro r os ⟨hr, h1, rfl, hh1⟩
      obtain ⟨p, hp, rfl⟩ := List.mem_map.mp hr
      have hg := prime_ge' hp
      simp only [wpSs, wpS, wpE, wpT, wpV, wpB, wpEs, wpO, wpC, fillIo, backIo, finals, bindTg, bindTgs, List.map_cons, List.map_nil, List.replicate_succ, List.replicate_zero, List.cons_append, List.nil_append, List.set_cons_zero, List.set_cons_succ, Nat.reduceSub, Nat.reduceAdd, g_0, g_1, g_2, g_3, g_4, g_5, g_6, g_7, g_8, g_9, a_ok, a_add, a_addS, a_addL, a_addT, a_sub, a_mul, a_mulL, a_mulT, a_mod, a_fdiv, a_pow, a_augadd, a_augsub, a_neg, a_lt, a_le, a_gt, a_ge, a_eq, a_ne, a_isN, a_isnN, a_isB, a_isnB, a_truB, a_truI, a_truN, a_truT, a_truL, a_lenT, a_lenL, a_abs, a_int, a_strI, a_max2, a_min2, a_listL, a_listT, a_tupL, a_tupT, a_range1, a_range2, a_seqT, a_seqL, a_enumT, a_enumL, a_zipT, a_zipL, a_idxL, a_idxT, a_cutL, a_cutT, a_cutS, a_revT, a_revL, at_0, at_1, at_2, at_3, at_4, at_5, a_okk, Option.bind_some, pu_0, pu_1, pu_2, pu_3, pu_4, f_int, f_bl, f_non, e_int, e_bl, e_str, true_and, and_true, and_self, decide_eq_true_eq, if_true, if_false, wipe, restore, List.getElem?_cons_zero, List.getElem?_cons_succ, Option.getD_some, Option.getD_none, Bool.not_true, Bool.not_false, Bool.true_and, Bool.false_and, Bool.and_true, Bool.and_false, Bool.or_true, Bool.true_or, Bool.or_false, Bool.false_or, if_true, if_false, Bool.false_eq_true, Bool.true_eq_false, Bool.not_eq_true', decide_eq_false_iff_not, ty_int_int, ty_int_bool, ty_int_str, ty_int_tuple, ty_int_list, ty_bl_int, ty_bl_bool, ty_bl_str, ty_bl_tuple, ty_bl_list, ty_non_int, ty_non_bool, ty_non_str, ty_non_tuple, ty_non_list, ty_str_int, ty_str_bool, ty_str_str, ty_str_tuple, ty_str_list, ty_tup_int, ty_tup_bool, ty_tup_str, ty_tup_tuple, ty_tup_list, ty_lst_int, ty_lst_bool, ty_lst_str, ty_lst_tuple, ty_lst_list, wpH, isSub, Nat.reduceBEq, beq_self_eq_true, isNon, g_10, g_11, g_12, g_13, g_14, g_15, g_16, g_17, g_18, g_19, g_20, g_21, g_22, g_23, g_24, g_25, g_26, g_27, g_28, g_29, g_30, setAll, la_0, ap_0, isL_l]
      refine sp13 hh1 (by omega) (by omega) 19 (by omega) _ _ ?_
      rintro r os ⟨x, h2, rfl, hx, hx2, rfl, hh2⟩
      simp only [wpSs, wpS, wpE, wpT, wpV, wpB, wpEs, wpO, wpC, fillIo, backIo, finals, bindTg, bindTgs, List.map_cons, List.map_nil, List.replicate_succ, List.replicate_zero, List.cons_append, List.nil_append, List.set_cons_zero, List.set_cons_succ, Nat.reduceSub, Nat.reduceAdd, g_0, g_1, g_2, g_3, g_4, g_5, g_6, g_7, g_8, g_9, a_ok, a_add, a_addS, a_addL, a_addT, a_sub, a_mul, a_mulL, a_mulT, a_mod, a_fdiv, a_pow, a_augadd, a_augsub, a_neg, a_lt, a_le, a_gt, a_ge, a_eq, a_ne, a_isN, a_isnN, a_isB, a_isnB, a_truB, a_truI, a_truN, a_truT, a_truL, a_lenT, a_lenL, a_abs, a_int, a_strI, a_max2, a_min2, a_listL, a_listT, a_tupL, a_tupT, a_range1, a_range2, a_seqT, a_seqL, a_enumT, a_enumL, a_zipT, a_zipL, a_idxL, a_idxT, a_cutL, a_cutT, a_cutS, a_revT, a_revL, at_0, at_1, at_2, at_3, at_4, at_5, a_okk, Option.bind_some, pu_0, pu_1, pu_2, pu_3, pu_4, f_int, f_bl, f_non, e_int, e_bl, e_str, true_and, and_true, and_self, decide_eq_true_eq, if_true, if_false, wipe, restore, List.getElem?_cons_zero, List.getElem?_cons_succ, Option.getD_some, Option.getD_none, Bool.not_true, Bool.not_false, Bool.true_and, Bool.false_and, Bool.and_true, Bool.and_false, Bool.or_true, Bool.true_or, Bool.or_false, Bool.false_or, if_true, if_false, Bool.false_eq_true, Bool.true_eq_false, Bool.not_eq_true', decide_eq_false_iff_not, ty_int_int, ty_int_bool, ty_int_str, ty_int_tuple, ty_int_list, ty_bl_int, ty_bl_bool, ty_bl_str, ty_bl_tuple, ty_bl_list, ty_non_int, ty_non_bool, ty_non_str, ty_non_tuple, ty_non_list, ty_str_int, ty_str_bool, ty_str_str, ty_str_tuple, ty_str_list, ty_tup_int, ty_tup_bool, ty_tup_str, ty_tup_tuple, ty_tup_list, ty_lst_int, ty_lst_bool, ty_lst_str, ty_lst_tuple, ty_lst_list, wpH, isSub, Nat.reduceBEq, beq_self_eq_true, isNon, g_10, g_11, g_12, g_13, g_14, g_15, g_16, g_17, g_18, g_19, g_20, g_21, g_22, g_23, g_24, g_25, g_26, g_27, g_28, g_29, g_30, setAll, la_0, ap_0, isL_l]
      refine ⟨(by decide : 2 ≤ 16777216), ?_⟩
      refine sp13 hh2 (by omega) (by omega) 19 (by omega) _ _ ?_
      rintro r os ⟨j, h3, rfl, hj, hj2, rfl, hh3⟩
      obtain ⟨mm, em, hm1, hm2⟩ : ∃ mm : Int, atI [TV.int 20, TV.int 1001] j = some (.int mm) ∧ 0 < mm ∧ mm ≤ 1001 := by
        have : j = 0 ∨ j = 1 := by omega
        rcases this with rfl | rfl
        · exact ⟨20, rfl, by omega, by omega⟩
        · exact ⟨1001, rfl, by omega, by omega⟩
      simp only [em, wpSs, wpS, wpE, wpT, wpV, wpB, wpEs, wpO, wpC, fillIo, backIo, finals, bindTg, bindTgs, List.map_cons, List.map_nil, List.replicate_succ, List.replicate_zero, List.cons_append, List.nil_append, List.set_cons_zero, List.set_cons_succ, Nat.reduceSub, Nat.reduceAdd, g_0, g_1, g_2, g_3, g_4, g_5, g_6, g_7, g_8, g_9, a_ok, a_add, a_addS, a_addL, a_addT, a_sub, a_mul, a_mulL, a_mulT, a_mod, a_fdiv, a_pow, a_augadd, a_augsub, a_neg, a_lt, a_le, a_gt, a_ge, a_eq, a_ne, a_isN, a_isnN, a_isB, a_isnB, a_truB, a_truI, a_truN, a_truT, a_truL, a_lenT, a_lenL, a_abs, a_int, a_strI, a_max2, a_min2, a_listL, a_listT, a_tupL, a_tupT, a_range1, a_range2, a_seqT, a_seqL, a_enumT, a_enumL, a_zipT, a_zipL, a_idxL, a_idxT, a_cutL, a_cutT, a_cutS, a_revT, a_revL, at_0, at_1, at_2, at_3, at_4, at_5, a_okk, Option.bind_some, pu_0, pu_1, pu_2, pu_3, pu_4, f_int, f_bl, f_non, e_int, e_bl, e_str, true_and, and_true, and_self, decide_eq_true_eq, if_true, if_false, wipe, restore, List.getElem?_cons_zero, List.getElem?_cons_succ, Option.getD_some, Option.getD_none, Bool.not_true, Bool.not_false, Bool.true_and, Bool.false_and, Bool.and_true, Bool.and_false, Bool.or_true, Bool.true_or, Bool.or_false, Bool.false_or, if_true, if_false, Bool.false_eq_true, Bool.true_eq_false, Bool.not_eq_true', decide_eq_false_iff_not, ty_int_int, ty_int_bool, ty_int_str, ty_int_tuple, ty_int_list, ty_bl_int, ty_bl_bool, ty_bl_str, ty_bl_tuple, ty_bl_list, ty_non_int, ty_non_bool, ty_non_str, ty_non_tuple, ty_non_list, ty_str_int, ty_str_bool, ty_str_str, ty_str_tuple, ty_str_list, ty_tup_int, ty_tup_bool, ty_tup_str, ty_tup_tuple, ty_tup_list, ty_lst_int, ty_lst_bool, ty_lst_str, ty_lst_tuple, ty_lst_list, wpH, isSub, Nat.reduceBEq, beq_self_eq_true, isNon, g_10, g_11, g_12, g_13, g_14, g_15, g_16, g_17, g_18, g_19, g_20, g_21, g_22, g_23, g_24, g_25, g_26, g_27, g_28, g_29, g_30, setAll, la_0, ap_0, isL_l]
      refine sp13 hh3 (by omega) (by omega) 19 (by omega) _ _ ?_
      rintro r os ⟨m, h4, rfl, hm, hm3, rfl, hh4⟩
      simp only [wpSs, wpS, wpE, wpT, wpV, wpB, wpEs, wpO, wpC, fillIo, backIo, finals, bindTg, bindTgs, List.map_cons, List.map_nil, List.replicate_succ, List.replicate_zero, List.cons_append, List.nil_append, List.set_cons_zero, List.set_cons_succ, Nat.reduceSub, Nat.reduceAdd, g_0, g_1, g_2, g_3, g_4, g_5, g_6, g_7, g_8, g_9, a_ok, a_add, a_addS, a_addL, a_addT, a_sub, a_mul, a_mulL, a_mulT, a_mod, a_fdiv, a_pow, a_augadd, a_augsub, a_neg, a_lt, a_le, a_gt, a_ge, a_eq, a_ne, a_isN, a_isnN, a_isB, a_isnB, a_truB, a_truI, a_truN, a_truT, a_truL, a_lenT, a_lenL, a_abs, a_int, a_strI, a_max2, a_min2, a_listL, a_listT, a_tupL, a_tupT, a_range1, a_range2, a_seqT, a_seqL, a_enumT, a_enumL, a_zipT, a_zipL, a_idxL, a_idxT, a_cutL, a_cutT, a_cutS, a_revT, a_revL, at_0, at_1, at_2, at_3, at_4, at_5, a_okk, Option.bind_some, pu_0, pu_1, pu_2, pu_3, pu_4, f_int, f_bl, f_non, e_int, e_bl, e_str, true_and, and_true, and_self, decide_eq_true_eq, if_true, if_false, wipe, restore, List.getElem?_cons_zero, List.getElem?_cons_succ, Option.getD_some, Option.getD_none, Bool.not_true, Bool.not_false, Bool.true_and, Bool.false_and, Bool.and_true, Bool.and_false, Bool.or_true, Bool.true_or, Bool.or_false, Bool.false_or, if_true, if_false, Bool.false_eq_true, Bool.true_eq_false, Bool.not_eq_true', decide_eq_false_iff_not, ty_int_int, ty_int_bool, ty_int_str, ty_int_tuple, ty_int_list, ty_bl_int, ty_bl_bool, ty_bl_str, ty_bl_tuple, ty_bl_list, ty_non_int, ty_non_bool, ty_non_str, ty_non_tuple, ty_non_list, ty_str_int, ty_str_bool, ty_str_str, ty_str_tuple, ty_str_list, ty_tup_int, ty_tup_bool, ty_tup_str, ty_tup_tuple, ty_tup_list, ty_lst_int, ty_lst_bool, ty_lst_str, ty_lst_tuple, ty_lst_list, wpH, isSub, Nat.reduceBEq, beq_self_eq_true, isNon, g_10, g_11, g_12, g_13, g_14, g_15, g_16, g_17, g_18, g_19, g_20, g_21, g_22, g_23, g_24, g_25, g_26, g_27, g_28, g_29, g_30, setAll, la_0, ap_0, isL_l, rangeL_eq]
      refine ⟨by unfold small62 line; omega, ?_⟩
      refine loopF_all .int (fun k ρ => ∃ o, ρ = [some (.scr ns), some h4, some (.lst (primesL.map .int)), some (.int y), some (.int p), some (.int x), some (.int m), some (.int (x ^ k % p)), o, o9, o10, o11, o12, o13, o14, o15, o16]) ⟨o8, ?_⟩ ?_ ?_
      · rw [Int.pow_zero, Int.emod_eq_of_lt (by omega) (by omega)]
      · rintro k z _ next - ⟨o, rfl⟩ hn
        simp only [wpSs, wpS, wpE, wpT, wpV, wpB, wpEs, wpO, wpC, fillIo, backIo, finals, bindTg, bindTgs, List.map_cons, List.map_nil, List.replicate_succ, List.replicate_zero, List.cons_append, List.nil_append, List.set_cons_zero, List.set_cons_succ, Nat.reduceSub, Nat.reduceAdd, g_0, g_1, g_2, g_3, g_4, g_5, g_6, g_7, g_8, g_9, a_ok, a_add, a_addS, a_addL, a_addT, a_sub, a_mul, a_mulL, a_mulT, a_mod, a_fdiv, a_pow, a_augadd, a_augsub, a_neg, a_lt, a_le, a_gt, a_ge, a_eq, a_ne, a_isN, a_isnN, a_isB, a_isnB, a_truB, a_truI, a_truN, a_truT, a_truL, a_lenT, a_lenL, a_abs, a_int, a_strI, a_max2, a_min2, a_listL, a_listT, a_tupL, a_tupT, a_range1, a_range2, a_seqT, a_seqL, a_enumT, a_enumL, a_zipT, a_zipL, a_idxL, a_idxT, a_cutL, a_cutT, a_cutS, a_revT, a_revL, at_0, at_1, at_2, at_3, at_4, at_5, a_okk, Option.bind_some, pu_0, pu_1, pu_2, pu_3, pu_4, f_int, f_bl, f_non, e_int, e_bl, e_str, true_and, and_true, and_self, decide_eq_true_eq, if_true, if_false, wipe, restore, List.getElem?_cons_zero, List.getElem?_cons_succ, Option.getD_some, Option.getD_none, Bool.not_true, Bool.not_false, Bool.true_and, Bool.false_and, Bool.and_true, Bool.and_false, Bool.or_true, Bool.true_or, Bool.or_false, Bool.false_or, if_true, if_false, Bool.false_eq_true, Bool.true_eq_false, Bool.not_eq_true', decide_eq_false_iff_not, ty_int_int, ty_int_bool, ty_int_str, ty_int_tuple, ty_int_list, ty_bl_int, ty_bl_bool, ty_bl_str, ty_bl_tuple, ty_bl_list, ty_non_int, ty_non_bool, ty_non_str, ty_non_tuple, ty_non_list, ty_str_int, ty_str_bool, ty_str_str, ty_str_tuple, ty_str_list, ty_tup_int, ty_tup_bool, ty_tup_str, ty_tup_tuple, ty_tup_list, ty_lst_int, ty_lst_bool, ty_lst_str, ty_lst_tuple, ty_lst_list, wpH, isSub, Nat.reduceBEq, beq_self_eq_true, isNon, g_10, g_11, g_12, g_13, g_14, g_15, g_16, g_17, g_18, g_19, g_20, g_21, g_22, g_23, g_24, g_25, g_26, g_27, g_28, g_29, g_30, setAll, la_0, ap_0, isL_l]
        have b1 := Int.emod_nonneg (x ^ k) (show p ≠ 0 by omega)
        have b2 := Int.emod_lt_of_pos (x ^ k) (show 0 < p by omega)
        refine ⟨mulOk_l (by omega), ?_⟩
        refine sp18 (by omega) 19 (by omega) _ _ ?_
        refine hn _ ⟨some (.int z), ?_⟩
        rw [Int.pow_succ, Int.mul_emod (x ^ k) x, Int.mul_emod (x ^ k % p), Int.emod_emod_of_dvd _ (Int.dvd_refl p)]
      rintro _ ⟨o8, rfl⟩
      rw [rangeI_len]
      simp only [wpSs, wpS, wpE, wpT, wpV, wpB, wpEs, wpO, wpC, fillIo, backIo, finals, bindTg, bindTgs, List.map_cons, List.map_nil, List.replicate_succ, List.replicate_zero, List.cons_append, List.nil_append, List.set_cons_zero, List.set_cons_succ, Nat.reduceSub, Nat.reduceAdd, g_0, g_1, g_2, g_3, g_4, g_5, g_6, g_7, g_8, g_9, a_ok, a_add, a_addS, a_addL, a_addT, a_sub, a_mul, a_mulL, a_mulT, a_mod, a_fdiv, a_pow, a_augadd, a_augsub, a_neg, a_lt, a_le, a_gt, a_ge, a_eq, a_ne, a_isN, a_isnN, a_isB, a_isnB, a_truB, a_truI, a_truN, a_truT, a_truL, a_lenT, a_lenL, a_abs, a_int, a_strI, a_max2, a_min2, a_listL, a_listT, a_tupL, a_tupT, a_range1, a_range2, a_seqT, a_seqL, a_enumT, a_enumL, a_zipT, a_zipL, a_idxL, a_idxT, a_cutL, a_cutT, a_cutS, a_revT, a_revL, at_0, at_1, at_2, at_3, at_4, at_5, a_okk, Option.bind_some, pu_0, pu_1, pu_2, pu_3, pu_4, f_int, f_bl, f_non, e_int, e_bl, e_str, true_and, and_true, and_self, decide_eq_true_eq, if_true, if_false, wipe, restore, List.getElem?_cons_zero, List.getElem?_cons_succ, Option.getD_some, Option.getD_none, Bool.not_true, Bool.not_false, Bool.true_and, Bool.false_and, Bool.and_true, Bool.and_false, Bool.or_true, Bool.true_or, Bool.or_false, Bool.false_or, if_true, if_false, Bool.false_eq_true, Bool.true_eq_false, Bool.not_eq_true', decide_eq_false_iff_not, ty_int_int, ty_int_bool, ty_int_str, ty_int_tuple, ty_int_list, ty_bl_int, ty_bl_bool, ty_bl_str, ty_bl_tuple, ty_bl_list, ty_non_int, ty_non_bool, ty_non_str, ty_non_tuple, ty_non_list, ty_str_int, ty_str_bool, ty_str_str, ty_str_tuple, ty_str_list, ty_tup_int, ty_tup_bool, ty_tup_str, ty_tup_tuple, ty_tup_list, ty_lst_int, ty_lst_bool, ty_lst_str, ty_lst_tuple, ty_lst_list, wpH, isSub, Nat.reduceBEq, beq_self_eq_true, isNon, g_10, g_11, g_12, g_13, g_14, g_15, g_16, g_17, g_18, g_19, g_20, g_21, g_22, g_23, g_24, g_25, g_26, g_27, g_28, g_29, g_30, setAll, la_0, ap_0, isL_l]
      refine sp8 (primes_prime p hp) hx hx2 hm (by omega) 19 (by omega) _ _ ?_
      try simp only [wpSs, wpS, wpE, wpT, wpV, wpB, wpEs, wpO, wpC, fillIo, backIo, finals, bindTg, bindTgs, List.map_cons, List.map_nil, List.replicate_succ, List.replicate_zero, List.cons_append, List.nil_append, List.set_cons_zero, List.set_cons_succ, Nat.reduceSub, Nat.reduceAdd, g_0, g_1, g_2, g_3, g_4, g_5, g_6, g_7, g_8, g_9, a_ok, a_add, a_addS, a_addL, a_addT, a_sub, a_mul, a_mulL, a_mulT, a_mod, a_fdiv, a_pow, a_augadd, a_augsub, a_neg, a_lt, a_le, a_gt, a_ge, a_eq, a_ne, a_isN, a_isnN, a_isB, a_isnB, a_truB, a_truI, a_truN, a_truT, a_truL, a_lenT, a_lenL, a_abs, a_int, a_strI, a_max2, a_min2, a_listL, a_listT, a_tupL, a_tupT, a_range1, a_range2, a_seqT, a_seqL, a_enumT, a_enumL, a_zipT, a_zipL, a_idxL, a_idxT, a_cutL, a_cutT, a_cutS, a_revT, a_revL, at_0, at_1, at_2, at_3, at_4, at_5, a_okk, Option.bind_some, pu_0, pu_1, pu_2, pu_3, pu_4, f_int, f_bl, f_non, e_int, e_bl, e_str, true_and, and_true, and_self, decide_eq_true_eq, if_true, if_false, wipe, restore, List.getElem?_cons_zero, List.getElem?_cons_succ, Option.getD_some, Option.getD_none, Bool.not_true, Bool.not_false, Bool.true_and, Bool.false_and, Bool.and_true, Bool.and_false, Bool.or_true, Bool.true_or, Bool.or_false, Bool.false_or, if_true, if_false, Bool.false_eq_true, Bool.true_eq_false, Bool.not_eq_true', decide_eq_false_iff_not, ty_int_int, ty_int_bool, ty_int_str, ty_int_tuple, ty_int_list, ty_bl_int, ty_bl_bool, ty_bl_str, ty_bl_tuple, ty_bl_list, ty_non_int, ty_non_bool, ty_non_str, ty_non_tuple, ty_non_list, ty_str_int, ty_str_bool, ty_str_str, ty_str_tuple, ty_str_list, ty_tup_int, ty_tup_bool, ty_tup_str, ty_tup_tuple, ty_tup_list, ty_lst_int, ty_lst_bool, ty_lst_str, ty_lst_tuple, ty_lst_list, wpH, isSub, Nat.reduceBEq, beq_self_eq_true, isNon, g_10, g_11, g_12, g_13, g_14, g_15, g_16, g_17, g_18, g_19, g_20, g_21, g_22, g_23, g_24, g_25, g_26, g_27, g_28, g_29, g_30, setAll, la_0, ap_0, isL_l]
      refine sp15 19 (by omega) _ _ ?_
      try simp only [wpSs, wpS, wpE, wpT, wpV, wpB, wpEs, wpO, wpC, fillIo, backIo, finals, bindTg, bindTgs, List.map_cons, List.map_nil, List.replicate_succ, List.replicate_zero, List.cons_append, List.nil_append, List.set_cons_zero, List.set_cons_succ, Nat.reduceSub, Nat.reduceAdd, g_0, g_1, g_2, g_3, g_4, g_5, g_6, g_7, g_8, g_9, a_ok, a_add, a_addS, a_addL, a_addT, a_sub, a_mul, a_mulL, a_mulT, a_mod, a_fdiv, a_pow, a_augadd, a_augsub, a_neg, a_lt, a_le, a_gt, a_ge, a_eq, a_ne, a_isN, a_isnN, a_isB, a_isnB, a_truB, a_truI, a_truN, a_truT, a_truL, a_lenT, a_lenL, a_abs, a_int, a_strI, a_max2, a_min2, a_listL, a_listT, a_tupL, a_tupT, a_range1, a_range2, a_seqT, a_seqL, a_enumT, a_enumL, a_zipT, a_zipL, a_idxL, a_idxT, a_cutL, a_cutT, a_cutS, a_revT, a_revL, at_0, at_1, at_2, at_3, at_4, at_5, a_okk, Option.bind_some, pu_0, pu_1, pu_2, pu_3, pu_4, f_int, f_bl, f_non, e_int, e_bl, e_str, true_and, and_true, and_self, decide_eq_true_eq, if_true, if_false, wipe, restore, List.getElem?_cons_zero, List.getElem?_cons_succ, Option.getD_some, Option.getD_none, Bool.not_true, Bool.not_false, Bool.true_and, Bool.false_and, Bool.and_true, Bool.and_false, Bool.or_true, Bool.true_or, Bool.or_false, Bool.false_or, if_true, if_false, Bool.false_eq_true, Bool.true_eq_false, Bool.not_eq_true', decide_eq_false_iff_not, ty_int_int, ty_int_bool, ty_int_str, ty_int_tuple, ty_int_list, ty_bl_int, ty_bl_bool, ty_bl_str, ty_bl_tuple, ty_bl_list, ty_non_int, ty_non_bool, ty_non_str, ty_non_tuple, ty_non_list, ty_str_int, ty_str_bool, ty_str_str, ty_str_tuple, ty_str_list, ty_tup_int, ty_tup_bool, ty_tup_str, ty_tup_tuple, ty_tup_list, ty_lst_int, ty_lst_bool, ty_lst_str, ty_lst_tuple, ty_lst_list, wpH, isSub, Nat.reduceBEq, beq_self_eq_true, isNon, g_10, g_11, g_12, g_13, g_14, g_15, g_16, g_17, g_18, g_19, g_20, g_21, g_22, g_23, g_24, g_25, g_26, g_27, g_28, g_29, g_30, setAll, la_0, ap_0, isL_l]
      refine sp2 rfl 19 (by omega) _ _ ?_
      try simp only [primes_prime p hp, wpSs, wpS, wpE, wpT, wpV, wpB, wpEs, wpO, wpC, fillIo, backIo, finals, bindTg, bindTgs, List.map_cons, List.map_nil, List.replicate_succ, List.replicate_zero, List.cons_append, List.nil_append, List.set_cons_zero, List.set_cons_succ, Nat.reduceSub, Nat.reduceAdd, g_0, g_1, g_2, g_3, g_4, g_5, g_6, g_7, g_8, g_9, a_ok, a_add, a_addS, a_addL, a_addT, a_sub, a_mul, a_mulL, a_mulT, a_mod, a_fdiv, a_pow, a_augadd, a_augsub, a_neg, a_lt, a_le, a_gt, a_ge, a_eq, a_ne, a_isN, a_isnN, a_isB, a_isnB, a_truB, a_truI, a_truN, a_truT, a_truL, a_lenT, a_lenL, a_abs, a_int, a_strI, a_max2, a_min2, a_listL, a_listT, a_tupL, a_tupT, a_range1, a_range2, a_seqT, a_seqL, a_enumT, a_enumL, a_zipT, a_zipL, a_idxL, a_idxT, a_cutL, a_cutT, a_cutS, a_revT, a_revL, at_0, at_1, at_2, at_3, at_4, at_5, a_okk, Option.bind_some, pu_0, pu_1, pu_2, pu_3, pu_4, f_int, f_bl, f_non, e_int, e_bl, e_str, true_and, and_true, and_self, decide_eq_true_eq, if_true, if_false, wipe, restore, List.getElem?_cons_zero, List.getElem?_cons_succ, Option.getD_some, Option.getD_none, Bool.not_true, Bool.not_false, Bool.true_and, Bool.false_and, Bool.and_true, Bool.and_false, Bool.or_true, Bool.true_or, Bool.or_false, Bool.false_or, if_true, if_false, Bool.false_eq_true, Bool.true_eq_false, Bool.not_eq_true', decide_eq_false_iff_not, ty_int_int, ty_int_bool, ty_int_str, ty_int_tuple, ty_int_list, ty_bl_int, ty_bl_bool, ty_bl_str, ty_bl_tuple, ty_bl_list, ty_non_int, ty_non_bool, ty_non_str, ty_non_tuple, ty_non_list, ty_str_int, ty_str_bool, ty_str_str, ty_str_tuple, ty_str_list, ty_tup_int, ty_tup_bool, ty_tup_str, ty_tup_tuple, ty_tup_list, ty_lst_int, ty_lst_bool, ty_lst_str, ty_lst_tuple, ty_lst_list, wpH, isSub, Nat.reduceBEq, beq_self_eq_true, isNon, g_10, g_11, g_12, g_13, g_14, g_15, g_16, g_17, g_18, g_19, g_20, g_21, g_22, g_23, g_24, g_25, g_26, g_27, g_28, g_29, g_30, setAll, la_0, ap_0, isL_l]
      refine sp9 (primes_prime p hp) hx hx2 19 (by omega) _ _ ?_
      by_cases hc : x = 0
      all_goals first
        | (rw [if_pos hc, if_pos hc]
           refine sp15n 19 (by omega) _ _ ?_)
        | (rw [if_neg hc, if_neg hc]
           refine sp19 hp (by omega) hx2 19 (by omega) _ _ ?_
           refine sp15e 19 (by omega) _ _ ?_)
      all_goals
        simp only [wpSs, wpS, wpE, wpT, wpV, wpB, wpEs, wpO, wpC, fillIo, backIo, finals, bindTg, bindTgs, List.map_cons, List.map_nil, List.replicate_succ, List.replicate_zero, List.cons_append, List.nil_append, List.set_cons_zero, List.set_cons_succ, Nat.reduceSub, Nat.reduceAdd, g_0, g_1, g_2, g_3, g_4, g_5, g_6, g_7, g_8, g_9, a_ok, a_add, a_addS, a_addL, a_addT, a_sub, a_mul, a_mulL, a_mulT, a_mod, a_fdiv, a_pow, a_augadd, a_augsub, a_neg, a_lt, a_le, a_gt, a_ge, a_eq, a_ne, a_isN, a_isnN, a_isB, a_isnB, a_truB, a_truI, a_truN, a_truT, a_truL, a_lenT, a_lenL, a_abs, a_int, a_strI, a_max2, a_min2, a_listL, a_listT, a_tupL, a_tupT, a_range1, a_range2, a_seqT, a_seqL, a_enumT, a_enumL, a_zipT, a_zipL, a_idxL, a_idxT, a_cutL, a_cutT, a_cutS, a_revT, a_revL, at_0, at_1, at_2, at_3, at_4, at_5, a_okk, Option.bind_some, pu_0, pu_1, pu_2, pu_3, pu_4, f_int, f_bl, f_non, e_int, e_bl, e_str, true_and, and_true, and_self, decide_eq_true_eq, if_true, if_false, wipe, restore, List.getElem?_cons_zero, List.getElem?_cons_succ, Option.getD_some, Option.getD_none, Bool.not_true, Bool.not_false, Bool.true_and, Bool.false_and, Bool.and_true, Bool.and_false, Bool.or_true, Bool.true_or, Bool.or_false, Bool.false_or, if_true, if_false, Bool.false_eq_true, Bool.true_eq_false, Bool.not_eq_true', decide_eq_false_iff_not, ty_int_int, ty_int_bool, ty_int_str, ty_int_tuple, ty_int_list, ty_bl_int, ty_bl_bool, ty_bl_str, ty_bl_tuple, ty_bl_list, ty_non_int, ty_non_bool, ty_non_str, ty_non_tuple, ty_non_list, ty_str_int, ty_str_bool, ty_str_str, ty_str_tuple, ty_str_list, ty_tup_int, ty_tup_bool, ty_tup_str, ty_tup_tuple, ty_tup_list, ty_lst_int, ty_lst_bool, ty_lst_str, ty_lst_tuple, ty_lst_list, wpH, isSub, Nat.reduceBEq, beq_self_eq_true, isNon, g_10, g_11, g_12, g_13, g_14, g_15, g_16, g_17, g_18, g_19, g_20, g_21, g_22, g_23, g_24, g_25, g_26, g_27, g_28, g_29, g_30, setAll, la_0, ap_0, isL_l, rangeL_eq]
        refine ⟨(by decide : 0 ≤ 16777216), by unfold small62 line; omega, ?_⟩
        refine loopF_all .int (fun k ρ => ∃ o10 o11 o12, ρ = [some (.scr ns), some h4, some (.lst (primesL.map .int)), some (.int y), some (.int p), some (.int x), some (.int m), some (.int (x ^ m.toNat % p)), o8, some (.lst ((rangeI 1 k).map fun z => .int (ordI p z))), o10, o11, o12, o13, o14, o15, o16]) ⟨o10, o11, o12, rfl⟩ ?_ ?_
        · rintro k z _ next ez ⟨o10, o11, o12, rfl⟩ hn
          have hk : k < (p - 1).toNat := by
            have := (List.getElem?_eq_some_iff.mp ez).1
            rwa [rangeI_len] at this
          rw [rangeI_get hk] at ez
          obtain rfl : 1 + (k : Int) = z := Option.some.inj ez
          obtain ⟨ob, oe, om⟩ := ord_mem hp (x := 1 + (k : Int)) (by omega) (by omega)
          simp only [wpSs, wpS, wpE, wpT, wpV, wpB, wpEs, wpO, wpC, fillIo, backIo, finals, bindTg, bindTgs, List.map_cons, List.map_nil, List.replicate_succ, List.replicate_zero, List.cons_append, List.nil_append, List.set_cons_zero, List.set_cons_succ, Nat.reduceSub, Nat.reduceAdd, g_0, g_1, g_2, g_3, g_4, g_5, g_6, g_7, g_8, g_9, a_ok, a_add, a_addS, a_addL, a_addT, a_sub, a_mul, a_mulL, a_mulT, a_mod, a_fdiv, a_pow, a_augadd, a_augsub, a_neg, a_lt, a_le, a_gt, a_ge, a_eq, a_ne, a_isN, a_isnN, a_isB, a_isnB, a_truB, a_truI, a_truN, a_truT, a_truL, a_lenT, a_lenL, a_abs, a_int, a_strI, a_max2, a_min2, a_listL, a_listT, a_tupL, a_tupT, a_range1, a_range2, a_seqT, a_seqL, a_enumT, a_enumL, a_zipT, a_zipL, a_idxL, a_idxT, a_cutL, a_cutT, a_cutS, a_revT, a_revL, at_0, at_1, at_2, at_3, at_4, at_5, a_okk, Option.bind_some, pu_0, pu_1, pu_2, pu_3, pu_4, f_int, f_bl, f_non, e_int, e_bl, e_str, true_and, and_true, and_self, decide_eq_true_eq, if_true, if_false, wipe, restore, List.getElem?_cons_zero, List.getElem?_cons_succ, Option.getD_some, Option.getD_none, Bool.not_true, Bool.not_false, Bool.true_and, Bool.false_and, Bool.and_true, Bool.and_false, Bool.or_true, Bool.true_or, Bool.or_false, Bool.false_or, if_true, if_false, Bool.false_eq_true, Bool.true_eq_false, Bool.not_eq_true', decide_eq_false_iff_not, ty_int_int, ty_int_bool, ty_int_str, ty_int_tuple, ty_int_list, ty_bl_int, ty_bl_bool, ty_bl_str, ty_bl_tuple, ty_bl_list, ty_non_int, ty_non_bool, ty_non_str, ty_non_tuple, ty_non_list, ty_str_int, ty_str_bool, ty_str_str, ty_str_tuple, ty_str_list, ty_tup_int, ty_tup_bool, ty_tup_str, ty_tup_tuple, ty_tup_list, ty_lst_int, ty_lst_bool, ty_lst_str, ty_lst_tuple, ty_lst_list, wpH, isSub, Nat.reduceBEq, beq_self_eq_true, isNon, g_10, g_11, g_12, g_13, g_14, g_15, g_16, g_17, g_18, g_19, g_20, g_21, g_22, g_23, g_24, g_25, g_26, g_27, g_28, g_29, g_30, setAll, la_0, ap_0, isL_l]
          refine loopW_run (fun j ρ => ∃ q : Nat, 1 ≤ q ∧ (q : Int) + j = ordI p (1 + k) ∧ ρ = [some (.scr ns), some h4, some (.lst (primesL.map .int)), some (.int y), some (.int p), some (.int x), some (.int m), some (.int (x ^ m.toNat % p)), o8, some (.lst ((rangeI 1 k).map fun z => .int (ordI p z))), some (.int (1 + k)), some (.int ((1 + (k : Int)) ^ q % p)), some (.int q), o13, o14, o15, o16])
            ?_ ?_ ((ordI p (1 + k)).toNat - 1) ⟨1, by omega, by omega, ?_⟩
          · rintro j _ nx ⟨q, q1, q2, rfl⟩ hnx
            simp only [wpSs, wpS, wpE, wpT, wpV, wpB, wpEs, wpO, wpC, fillIo, backIo, finals, bindTg, bindTgs, List.map_cons, List.map_nil, List.replicate_succ, List.replicate_zero, List.cons_append, List.nil_append, List.set_cons_zero, List.set_cons_succ, Nat.reduceSub, Nat.reduceAdd, g_0, g_1, g_2, g_3, g_4, g_5, g_6, g_7, g_8, g_9, a_ok, a_add, a_addS, a_addL, a_addT, a_sub, a_mul, a_mulL, a_mulT, a_mod, a_fdiv, a_pow, a_augadd, a_augsub, a_neg, a_lt, a_le, a_gt, a_ge, a_eq, a_ne, a_isN, a_isnN, a_isB, a_isnB, a_truB, a_truI, a_truN, a_truT, a_truL, a_lenT, a_lenL, a_abs, a_int, a_strI, a_max2, a_min2, a_listL, a_listT, a_tupL, a_tupT, a_range1, a_range2, a_seqT, a_seqL, a_enumT, a_enumL, a_zipT, a_zipL, a_idxL, a_idxT, a_cutL, a_cutT, a_cutS, a_revT, a_revL, at_0, at_1, at_2, at_3, at_4, at_5, a_okk, Option.bind_some, pu_0, pu_1, pu_2, pu_3, pu_4, f_int, f_bl, f_non, e_int, e_bl, e_str, true_and, and_true, and_self, decide_eq_true_eq, if_true, if_false, wipe, restore, List.getElem?_cons_zero, List.getElem?_cons_succ, Option.getD_some, Option.getD_none, Bool.not_true, Bool.not_false, Bool.true_and, Bool.false_and, Bool.and_true, Bool.and_false, Bool.or_true, Bool.true_or, Bool.or_false, Bool.false_or, if_true, if_false, Bool.false_eq_true, Bool.true_eq_false, Bool.not_eq_true', decide_eq_false_iff_not, ty_int_int, ty_int_bool, ty_int_str, ty_int_tuple, ty_int_list, ty_bl_int, ty_bl_bool, ty_bl_str, ty_bl_tuple, ty_bl_list, ty_non_int, ty_non_bool, ty_non_str, ty_non_tuple, ty_non_list, ty_str_int, ty_str_bool, ty_str_str, ty_str_tuple, ty_str_list, ty_tup_int, ty_tup_bool, ty_tup_str, ty_tup_tuple, ty_tup_list, ty_lst_int, ty_lst_bool, ty_lst_str, ty_lst_tuple, ty_lst_list, wpH, isSub, Nat.reduceBEq, beq_self_eq_true, isNon, g_10, g_11, g_12, g_13, g_14, g_15, g_16, g_17, g_18, g_19, g_20, g_21, g_22, g_23, g_24, g_25, g_26, g_27, g_28, g_29, g_30, setAll, la_0, ap_0, isL_l]
            have b1 := Int.emod_nonneg ((1 + (k : Int)) ^ q) (show p ≠ 0 by omega)
            have b2 := Int.emod_lt_of_pos ((1 + (k : Int)) ^ q) (show 0 < p by omega)
            have hne := om q (by omega) (by omega)
            rw [Int.toNat_natCast] at hne
            rw [if_pos hne]
            refine ⟨mulOk_l (by omega), ?_⟩
            refine sp18 (by omega) 19 (by omega) _ _ ?_
            refine hnx _ ⟨q + 1, by omega, by omega, ?_⟩
            rw [Int.pow_succ, Int.mul_emod ((1 + (k : Int)) ^ q) (1 + k), Int.mul_emod ((1 + (k : Int)) ^ q % p), Int.emod_emod_of_dvd _ (Int.dvd_refl p)]
            rfl
          · rintro _ nx ⟨q, q1, q2, rfl⟩
            have eq : (ordI p (1 + k)).toNat = q := by omega
            rw [eq] at oe
            simp only [wpSs, wpS, wpE, wpT, wpV, wpB, wpEs, wpO, wpC, fillIo, backIo, finals, bindTg, bindTgs, List.map_cons, List.map_nil, List.replicate_succ, List.replicate_zero, List.cons_append, List.nil_append, List.set_cons_zero, List.set_cons_succ, Nat.reduceSub, Nat.reduceAdd, g_0, g_1, g_2, g_3, g_4, g_5, g_6, g_7, g_8, g_9, a_ok, a_add, a_addS, a_addL, a_addT, a_sub, a_mul, a_mulL, a_mulT, a_mod, a_fdiv, a_pow, a_augadd, a_augsub, a_neg, a_lt, a_le, a_gt, a_ge, a_eq, a_ne, a_isN, a_isnN, a_isB, a_isnB, a_truB, a_truI, a_truN, a_truT, a_truL, a_lenT, a_lenL, a_abs, a_int, a_strI, a_max2, a_min2, a_listL, a_listT, a_tupL, a_tupT, a_range1, a_range2, a_seqT, a_seqL, a_enumT, a_enumL, a_zipT, a_zipL, a_idxL, a_idxT, a_cutL, a_cutT, a_cutS, a_revT, a_revL, at_0, at_1, at_2, at_3, at_4, at_5, a_okk, Option.bind_some, pu_0, pu_1, pu_2, pu_3, pu_4, f_int, f_bl, f_non, e_int, e_bl, e_str, true_and, and_true, and_self, decide_eq_true_eq, if_true, if_false, wipe, restore, List.getElem?_cons_zero, List.getElem?_cons_succ, Option.getD_some, Option.getD_none, Bool.not_true, Bool.not_false, Bool.true_and, Bool.false_and, Bool.and_true, Bool.and_false, Bool.or_true, Bool.true_or, Bool.or_false, Bool.false_or, if_true, if_false, Bool.false_eq_true, Bool.true_eq_false, Bool.not_eq_true', decide_eq_false_iff_not, ty_int_int, ty_int_bool, ty_int_str, ty_int_tuple, ty_int_list, ty_bl_int, ty_bl_bool, ty_bl_str, ty_bl_tuple, ty_bl_list, ty_non_int, ty_non_bool, ty_non_str, ty_non_tuple, ty_non_list, ty_str_int, ty_str_bool, ty_str_str, ty_str_tuple, ty_str_list, ty_tup_int, ty_tup_bool, ty_tup_str, ty_tup_tuple, ty_tup_list, ty_lst_int, ty_lst_bool, ty_lst_str, ty_lst_tuple, ty_lst_list, wpH, isSub, Nat.reduceBEq, beq_self_eq_true, isNon, g_10, g_11, g_12, g_13, g_14, g_15, g_16, g_17, g_18, g_19, g_20, g_21, g_22, g_23, g_24, g_25, g_26, g_27, g_28, g_29, g_30, setAll, la_0, ap_0, isL_l, oe]
            rw [if_neg (by simp)]
            refine ⟨by simp only [List.length_map, rangeI_len]; unfold line; omega, hn _ ⟨some (.int (1 + k)), some (.int 1), some (.int q), ?_⟩⟩
            rw [show (q : Int) = ordI p (1 + k) by omega]
            have : (rangeI 1 (k + 1)).map (fun z => TV.int (ordI p z)) = (rangeI 1 k).map (fun z => TV.int (ordI p z)) ++ [.int (ordI p (1 + k))] := by
              simp only [rangeI, List.range_succ, List.map_append, List.map_cons, List.map_nil]
            rw [this]
          · have e1 : (1 + (k : Int)) ^ 1 % p = 1 + k := by rw [Int.pow_one, Int.emod_eq_of_lt (by omega) (by omega)]
            rw [e1]
            rfl
        · rintro _ ⟨o10, o11, o12, rfl⟩
          rw [rangeI_len]
          simp only [wpSs, wpS, wpE, wpT, wpV, wpB, wpEs, wpO, wpC, fillIo, backIo, finals, bindTg, bindTgs, List.map_cons, List.map_nil, List.replicate_succ, List.replicate_zero, List.cons_append, List.nil_append, List.set_cons_zero, List.set_cons_succ, Nat.reduceSub, Nat.reduceAdd, g_0, g_1, g_2, g_3, g_4, g_5, g_6, g_7, g_8, g_9, a_ok, a_add, a_addS, a_addL, a_addT, a_sub, a_mul, a_mulL, a_mulT, a_mod, a_fdiv, a_pow, a_augadd, a_augsub, a_neg, a_lt, a_le, a_gt, a_ge, a_eq, a_ne, a_isN, a_isnN, a_isB, a_isnB, a_truB, a_truI, a_truN, a_truT, a_truL, a_lenT, a_lenL, a_abs, a_int, a_strI, a_max2, a_min2, a_listL, a_listT, a_tupL, a_tupT, a_range1, a_range2, a_seqT, a_seqL, a_enumT, a_enumL, a_zipT, a_zipL, a_idxL, a_idxT, a_cutL, a_cutT, a_cutS, a_revT, a_revL, at_0, at_1, at_2, at_3, at_4, at_5, a_okk, Option.bind_some, pu_0, pu_1, pu_2, pu_3, pu_4, f_int, f_bl, f_non, e_int, e_bl, e_str, true_and, and_true, and_self, decide_eq_true_eq, if_true, if_false, wipe, restore, List.getElem?_cons_zero, List.getElem?_cons_succ, Option.getD_some, Option.getD_none, Bool.not_true, Bool.not_false, Bool.true_and, Bool.false_and, Bool.and_true, Bool.and_false, Bool.or_true, Bool.true_or, Bool.or_false, Bool.false_or, if_true, if_false, Bool.false_eq_true, Bool.true_eq_false, Bool.not_eq_true', decide_eq_false_iff_not, ty_int_int, ty_int_bool, ty_int_str, ty_int_tuple, ty_int_list, ty_bl_int, ty_bl_bool, ty_bl_str, ty_bl_tuple, ty_bl_list, ty_non_int, ty_non_bool, ty_non_str, ty_non_tuple, ty_non_list, ty_str_int, ty_str_bool, ty_str_str, ty_str_tuple, ty_str_list, ty_tup_int, ty_tup_bool, ty_tup_str, ty_tup_tuple, ty_tup_list, ty_lst_int, ty_lst_bool, ty_lst_str, ty_lst_tuple, ty_lst_list, wpH, isSub, Nat.reduceBEq, beq_self_eq_true, isNon, g_10, g_11, g_12, g_13, g_14, g_15, g_16, g_17, g_18, g_19, g_20, g_21, g_22, g_23, g_24, g_25, g_26, g_27, g_28, g_29, g_30, setAll, la_0, ap_0, isL_l]
          refine sp10u hp hx hx2 19 (by omega) _ _ ?_
          obtain ⟨gm, gr, eg⟩ := gens_ne hp
          obtain ⟨gj, ef, el⟩ := gens_ix eg
          try simp only [wpSs, wpS, wpE, wpT, wpV, wpB, wpEs, wpO, wpC, fillIo, backIo, finals, bindTg, bindTgs, List.map_cons, List.map_nil, List.replicate_succ, List.replicate_zero, List.cons_append, List.nil_append, List.set_cons_zero, List.set_cons_succ, Nat.reduceSub, Nat.reduceAdd, g_0, g_1, g_2, g_3, g_4, g_5, g_6, g_7, g_8, g_9, a_ok, a_add, a_addS, a_addL, a_addT, a_sub, a_mul, a_mulL, a_mulT, a_mod, a_fdiv, a_pow, a_augadd, a_augsub, a_neg, a_lt, a_le, a_gt, a_ge, a_eq, a_ne, a_isN, a_isnN, a_isB, a_isnB, a_truB, a_truI, a_truN, a_truT, a_truL, a_lenT, a_lenL, a_abs, a_int, a_strI, a_max2, a_min2, a_listL, a_listT, a_tupL, a_tupT, a_range1, a_range2, a_seqT, a_seqL, a_enumT, a_enumL, a_zipT, a_zipL, a_idxL, a_idxT, a_cutL, a_cutT, a_cutS, a_revT, a_revL, at_0, at_1, at_2, at_3, at_4, at_5, a_okk, Option.bind_some, pu_0, pu_1, pu_2, pu_3, pu_4, f_int, f_bl, f_non, e_int, e_bl, e_str, true_and, and_true, and_self, decide_eq_true_eq, if_true, if_false, wipe, restore, List.getElem?_cons_zero, List.getElem?_cons_succ, Option.getD_some, Option.getD_none, Bool.not_true, Bool.not_false, Bool.true_and, Bool.false_and, Bool.and_true, Bool.and_false, Bool.or_true, Bool.true_or, Bool.or_false, Bool.false_or, if_true, if_false, Bool.false_eq_true, Bool.true_eq_false, Bool.not_eq_true', decide_eq_false_iff_not, ty_int_int, ty_int_bool, ty_int_str, ty_int_tuple, ty_int_list, ty_bl_int, ty_bl_bool, ty_bl_str, ty_bl_tuple, ty_bl_list, ty_non_int, ty_non_bool, ty_non_str, ty_non_tuple, ty_non_list, ty_str_int, ty_str_bool, ty_str_str, ty_str_tuple, ty_str_list, ty_tup_int, ty_tup_bool, ty_tup_str, ty_tup_tuple, ty_tup_list, ty_lst_int, ty_lst_bool, ty_lst_str, ty_lst_tuple, ty_lst_list, wpH, isSub, Nat.reduceBEq, beq_self_eq_true, isNon, g_10, g_11, g_12, g_13, g_14, g_15, g_16, g_17, g_18, g_19, g_20, g_21, g_22, g_23, g_24, g_25, g_26, g_27, g_28, g_29, g_30, setAll, la_0, ap_0, isL_l]
          all_goals first
            | (rw [if_pos hc, if_pos hc]
               refine sp15n 19 (by omega) _ _ ?_)
            | (rw [if_neg hc, if_neg hc]
               have eo : atI ((rangeI 1 (p - 1).toNat).map fun z => TV.int (ordI p z)) (x - 1) = some (.int (ordI p x)) := by
                 refine at_get (v := fun z => TV.int (ordI p z)) (x := x) (by omega) ?_
                 rw [rangeI_get (by omega)]
                 congr 1; omega
               simp only [eo, wpSs, wpS, wpE, wpT, wpV, wpB, wpEs, wpO, wpC, fillIo, backIo, finals, bindTg, bindTgs, List.map_cons, List.map_nil, List.replicate_succ, List.replicate_zero, List.cons_append, List.nil_append, List.set_cons_zero, List.set_cons_succ, Nat.reduceSub, Nat.reduceAdd, g_0, g_1, g_2, g_3, g_4, g_5, g_6, g_7, g_8, g_9, a_ok, a_add, a_addS, a_addL, a_addT, a_sub, a_mul, a_mulL, a_mulT, a_mod, a_fdiv, a_pow, a_augadd, a_augsub, a_neg, a_lt, a_le, a_gt, a_ge, a_eq, a_ne, a_isN, a_isnN, a_isB, a_isnB, a_truB, a_truI, a_truN, a_truT, a_truL, a_lenT, a_lenL, a_abs, a_int, a_strI, a_max2, a_min2, a_listL, a_listT, a_tupL, a_tupT, a_range1, a_range2, a_seqT, a_seqL, a_enumT, a_enumL, a_zipT, a_zipL, a_idxL, a_idxT, a_cutL, a_cutT, a_cutS, a_revT, a_revL, at_0, at_1, at_2, at_3, at_4, at_5, a_okk, Option.bind_some, pu_0, pu_1, pu_2, pu_3, pu_4, f_int, f_bl, f_non, e_int, e_bl, e_str, true_and, and_true, and_self, decide_eq_true_eq, if_true, if_false, wipe, restore, List.getElem?_cons_zero, List.getElem?_cons_succ, Option.getD_some, Option.getD_none, Bool.not_true, Bool.not_false, Bool.true_and, Bool.false_and, Bool.and_true, Bool.and_false, Bool.or_true, Bool.true_or, Bool.or_false, Bool.false_or, if_true, if_false, Bool.false_eq_true, Bool.true_eq_false, Bool.not_eq_true', decide_eq_false_iff_not, ty_int_int, ty_int_bool, ty_int_str, ty_int_tuple, ty_int_list, ty_bl_int, ty_bl_bool, ty_bl_str, ty_bl_tuple, ty_bl_list, ty_non_int, ty_non_bool, ty_non_str, ty_non_tuple, ty_non_list, ty_str_int, ty_str_bool, ty_str_str, ty_str_tuple, ty_str_list, ty_tup_int, ty_tup_bool, ty_tup_str, ty_tup_tuple, ty_tup_list, ty_lst_int, ty_lst_bool, ty_lst_str, ty_lst_tuple, ty_lst_list, wpH, isSub, Nat.reduceBEq, beq_self_eq_true, isNon, g_10, g_11, g_12, g_13, g_14, g_15, g_16, g_17, g_18, g_19, g_20, g_21, g_22, g_23, g_24, g_25, g_26, g_27, g_28, g_29, g_30, setAll, la_0, ap_0, isL_l]
               refine sp15e 19 (by omega) _ _ ?_)
          try simp only [wpSs, wpS, wpE, wpT, wpV, wpB, wpEs, wpO, wpC, fillIo, backIo, finals, bindTg, bindTgs, List.map_cons, List.map_nil, List.replicate_succ, List.replicate_zero, List.cons_append, List.nil_append, List.set_cons_zero, List.set_cons_succ, Nat.reduceSub, Nat.reduceAdd, g_0, g_1, g_2, g_3, g_4, g_5, g_6, g_7, g_8, g_9, a_ok, a_add, a_addS, a_addL, a_addT, a_sub, a_mul, a_mulL, a_mulT, a_mod, a_fdiv, a_pow, a_augadd, a_augsub, a_neg, a_lt, a_le, a_gt, a_ge, a_eq, a_ne, a_isN, a_isnN, a_isB, a_isnB, a_truB, a_truI, a_truN, a_truT, a_truL, a_lenT, a_lenL, a_abs, a_int, a_strI, a_max2, a_min2, a_listL, a_listT, a_tupL, a_tupT, a_range1, a_range2, a_seqT, a_seqL, a_enumT, a_enumL, a_zipT, a_zipL, a_idxL, a_idxT, a_cutL, a_cutT, a_cutS, a_revT, a_revL, at_0, at_1, at_2, at_3, at_4, at_5, a_okk, Option.bind_some, pu_0, pu_1, pu_2, pu_3, pu_4, f_int, f_bl, f_non, e_int, e_bl, e_str, true_and, and_true, and_self, decide_eq_true_eq, if_true, if_false, wipe, restore, List.getElem?_cons_zero, List.getElem?_cons_succ, Option.getD_some, Option.getD_none, Bool.not_true, Bool.not_false, Bool.true_and, Bool.false_and, Bool.and_true, Bool.and_false, Bool.or_true, Bool.true_or, Bool.or_false, Bool.false_or, if_true, if_false, Bool.false_eq_true, Bool.true_eq_false, Bool.not_eq_true', decide_eq_false_iff_not, ty_int_int, ty_int_bool, ty_int_str, ty_int_tuple, ty_int_list, ty_bl_int, ty_bl_bool, ty_bl_str, ty_bl_tuple, ty_bl_list, ty_non_int, ty_non_bool, ty_non_str, ty_non_tuple, ty_non_list, ty_str_int, ty_str_bool, ty_str_str, ty_str_tuple, ty_str_list, ty_tup_int, ty_tup_bool, ty_tup_str, ty_tup_tuple, ty_tup_list, ty_lst_int, ty_lst_bool, ty_lst_str, ty_lst_tuple, ty_lst_list, wpH, isSub, Nat.reduceBEq, beq_self_eq_true, isNon, g_10, g_11, g_12, g_13, g_14, g_15, g_16, g_17, g_18, g_19, g_20, g_21, g_22, g_23, g_24, g_25, g_26, g_27, g_28, g_29, g_30, setAll, la_0, ap_0, isL_l]
          refine sp11 hp eg 19 (by omega) _ _ ?_
          simp only [a_index ef, wpSs, wpS, wpE, wpT, wpV, wpB, wpEs, wpO, wpC, fillIo, backIo, finals, bindTg, bindTgs, List.map_cons, List.map_nil, List.replicate_succ, List.replicate_zero, List.cons_append, List.nil_append, List.set_cons_zero, List.set_cons_succ, Nat.reduceSub, Nat.reduceAdd, g_0, g_1, g_2, g_3, g_4, g_5, g_6, g_7, g_8, g_9, a_ok, a_add, a_addS, a_addL, a_addT, a_sub, a_mul, a_mulL, a_mulT, a_mod, a_fdiv, a_pow, a_augadd, a_augsub, a_neg, a_lt, a_le, a_gt, a_ge, a_eq, a_ne, a_isN, a_isnN, a_isB, a_isnB, a_truB, a_truI, a_truN, a_truT, a_truL, a_lenT, a_lenL, a_abs, a_int, a_strI, a_max2, a_min2, a_listL, a_listT, a_tupL, a_tupT, a_range1, a_range2, a_seqT, a_seqL, a_enumT, a_enumL, a_zipT, a_zipL, a_idxL, a_idxT, a_cutL, a_cutT, a_cutS, a_revT, a_revL, at_0, at_1, at_2, at_3, at_4, at_5, a_okk, Option.bind_some, pu_0, pu_1, pu_2, pu_3, pu_4, f_int, f_bl, f_non, e_int, e_bl, e_str, true_and, and_true, and_self, decide_eq_true_eq, if_true, if_false, wipe, restore, List.getElem?_cons_zero, List.getElem?_cons_succ, Option.getD_some, Option.getD_none, Bool.not_true, Bool.not_false, Bool.true_and, Bool.false_and, Bool.and_true, Bool.and_false, Bool.or_true, Bool.true_or, Bool.or_false, Bool.false_or, if_true, if_false, Bool.false_eq_true, Bool.true_eq_false, Bool.not_eq_true', decide_eq_false_iff_not, ty_int_int, ty_int_bool, ty_int_str, ty_int_tuple, ty_int_list, ty_bl_int, ty_bl_bool, ty_bl_str, ty_bl_tuple, ty_bl_list, ty_non_int, ty_non_bool, ty_non_str, ty_non_tuple, ty_non_list, ty_str_int, ty_str_bool, ty_str_str, ty_str_tuple, ty_str_list, ty_tup_int, ty_tup_bool, ty_tup_str, ty_tup_tuple, ty_tup_list, ty_lst_int, ty_lst_bool, ty_lst_str, ty_lst_tuple, ty_lst_list, wpH, isSub, Nat.reduceBEq, beq_self_eq_true, isNon, g_10, g_11, g_12, g_13, g_14, g_15, g_16, g_17, g_18, g_19, g_20, g_21, g_22, g_23, g_24, g_25, g_26, g_27, g_28, g_29, g_30, setAll, la_0, ap_0, isL_l]
          rw [el]
          refine sp15e 19 (by omega) _ _ ?_
          try simp only [wpSs, wpS, wpE, wpT, wpV, wpB, wpEs, wpO, wpC, fillIo, backIo, finals, bindTg, bindTgs, List.map_cons, List.map_nil, List.replicate_succ, List.replicate_zero, List.cons_append, List.nil_append, List.set_cons_zero, List.set_cons_succ, Nat.reduceSub, Nat.reduceAdd, g_0, g_1, g_2, g_3, g_4, g_5, g_6, g_7, g_8, g_9, a_ok, a_add, a_addS, a_addL, a_addT, a_sub, a_mul, a_mulL, a_mulT, a_mod, a_fdiv, a_pow, a_augadd, a_augsub, a_neg, a_lt, a_le, a_gt, a_ge, a_eq, a_ne, a_isN, a_isnN, a_isB, a_isnB, a_truB, a_truI, a_truN, a_truT, a_truL, a_lenT, a_lenL, a_abs, a_int, a_strI, a_max2, a_min2, a_listL, a_listT, a_tupL, a_tupT, a_range1, a_range2, a_seqT, a_seqL, a_enumT, a_enumL, a_zipT, a_zipL, a_idxL, a_idxT, a_cutL, a_cutT, a_cutS, a_revT, a_revL, at_0, at_1, at_2, at_3, at_4, at_5, a_okk, Option.bind_some, pu_0, pu_1, pu_2, pu_3, pu_4, f_int, f_bl, f_non, e_int, e_bl, e_str, true_and, and_true, and_self, decide_eq_true_eq, if_true, if_false, wipe, restore, List.getElem?_cons_zero, List.getElem?_cons_succ, Option.getD_some, Option.getD_none, Bool.not_true, Bool.not_false, Bool.true_and, Bool.false_and, Bool.and_true, Bool.and_false, Bool.or_true, Bool.true_or, Bool.or_false, Bool.false_or, if_true, if_false, Bool.false_eq_true, Bool.true_eq_false, Bool.not_eq_true', decide_eq_false_iff_not, ty_int_int, ty_int_bool, ty_int_str, ty_int_tuple, ty_int_list, ty_bl_int, ty_bl_bool, ty_bl_str, ty_bl_tuple, ty_bl_list, ty_non_int, ty_non_bool, ty_non_str, ty_non_tuple, ty_non_list, ty_str_int, ty_str_bool, ty_str_str, ty_str_tuple, ty_str_list, ty_tup_int, ty_tup_bool, ty_tup_str, ty_tup_tuple, ty_tup_list, ty_lst_int, ty_lst_bool, ty_lst_str, ty_lst_tuple, ty_lst_list, wpH, isSub, Nat.reduceBEq, beq_self_eq_true, isNon, g_10, g_11, g_12, g_13, g_14, g_15, g_16, g_17, g_18, g_19, g_20, g_21, g_22, g_23, g_24, g_25, g_26, g_27, g_28, g_29, g_30, setAll, la_0, ap_0, isL_l]
          refine sp16 hh4 19 (by omega) _ _ ?_
          rintro bad os ⟨⟨hb1, hb2⟩, h5, rfl, hh5⟩
          simp only [wpSs, wpS, wpE, wpT, wpV, wpB, wpEs, wpO, wpC, fillIo, backIo, finals, bindTg, bindTgs, List.map_cons, List.map_nil, List.replicate_succ, List.replicate_zero, List.cons_append, List.nil_append, List.set_cons_zero, List.set_cons_succ, Nat.reduceSub, Nat.reduceAdd, g_0, g_1, g_2, g_3, g_4, g_5, g_6, g_7, g_8, g_9, a_ok, a_add, a_addS, a_addL, a_addT, a_sub, a_mul, a_mulL, a_mulT, a_mod, a_fdiv, a_pow, a_augadd, a_augsub, a_neg, a_lt, a_le, a_gt, a_ge, a_eq, a_ne, a_isN, a_isnN, a_isB, a_isnB, a_truB, a_truI, a_truN, a_truT, a_truL, a_lenT, a_lenL, a_abs, a_int, a_strI, a_max2, a_min2, a_listL, a_listT, a_tupL, a_tupT, a_range1, a_range2, a_seqT, a_seqL, a_enumT, a_enumL, a_zipT, a_zipL, a_idxL, a_idxT, a_cutL, a_cutT, a_cutS, a_revT, a_revL, at_0, at_1, at_2, at_3, at_4, at_5, a_okk, Option.bind_some, pu_0, pu_1, pu_2, pu_3, pu_4, f_int, f_bl, f_non, e_int, e_bl, e_str, true_and, and_true, and_self, decide_eq_true_eq, if_true, if_false, wipe, restore, List.getElem?_cons_zero, List.getElem?_cons_succ, Option.getD_some, Option.getD_none, Bool.not_true, Bool.not_false, Bool.true_and, Bool.false_and, Bool.and_true, Bool.and_false, Bool.or_true, Bool.true_or, Bool.or_false, Bool.false_or, if_true, if_false, Bool.false_eq_true, Bool.true_eq_false, Bool.not_eq_true', decide_eq_false_iff_not, ty_int_int, ty_int_bool, ty_int_str, ty_int_tuple, ty_int_list, ty_bl_int, ty_bl_bool, ty_bl_str, ty_bl_tuple, ty_bl_list, ty_non_int, ty_non_bool, ty_non_str, ty_non_tuple, ty_non_list, ty_str_int, ty_str_bool, ty_str_str, ty_str_tuple, ty_str_list, ty_tup_int, ty_tup_bool, ty_tup_str, ty_tup_tuple, ty_tup_list, ty_lst_int, ty_lst_bool, ty_lst_str, ty_lst_tuple, ty_lst_list, wpH, isSub, Nat.reduceBEq, beq_self_eq_true, isNon, g_10, g_11, g_12, g_13, g_14, g_15, g_16, g_17, g_18, g_19, g_20, g_21, g_22, g_23, g_24, g_25, g_26, g_27, g_28, g_29, g_30, setAll, la_0, ap_0, isL_l]
          refine sp17 hh5 (by omega) (by omega) 19 (by omega) _ _ ?_
          rintro odd os ⟨⟨ho1, ho2⟩, h6, rfl, hh6⟩
          simp only [wpSs, wpS, wpE, wpT, wpV, wpB, wpEs, wpO, wpC, fillIo, backIo, finals, bindTg, bindTgs, List.map_cons, List.map_nil, List.replicate_succ, List.replicate_zero, List.cons_append, List.nil_append, List.set_cons_zero, List.set_cons_succ, Nat.reduceSub, Nat.reduceAdd, g_0, g_1, g_2, g_3, g_4, g_5, g_6, g_7, g_8, g_9, a_ok, a_add, a_addS, a_addL, a_addT, a_sub, a_mul, a_mulL, a_mulT, a_mod, a_fdiv, a_pow, a_augadd, a_augsub, a_neg, a_lt, a_le, a_gt, a_ge, a_eq, a_ne, a_isN, a_isnN, a_isB, a_isnB, a_truB, a_truI, a_truN, a_truT, a_truL, a_lenT, a_lenL, a_abs, a_int, a_strI, a_max2, a_min2, a_listL, a_listT, a_tupL, a_tupT, a_range1, a_range2, a_seqT, a_seqL, a_enumT, a_enumL, a_zipT, a_zipL, a_idxL, a_idxT, a_cutL, a_cutT, a_cutS, a_revT, a_revL, at_0, at_1, at_2, at_3, at_4, at_5, a_okk, Option.bind_some, pu_0, pu_1, pu_2, pu_3, pu_4, f_int, f_bl, f_non, e_int, e_bl, e_str, true_and, and_true, and_self, decide_eq_true_eq, if_true, if_false, wipe, restore, List.getElem?_cons_zero, List.getElem?_cons_succ, Option.getD_some, Option.getD_none, Bool.not_true, Bool.not_false, Bool.true_and, Bool.false_and, Bool.and_true, Bool.and_false, Bool.or_true, Bool.true_or, Bool.or_false, Bool.false_or, if_true, if_false, Bool.false_eq_true, Bool.true_eq_false, Bool.not_eq_true', decide_eq_false_iff_not, ty_int_int, ty_int_bool, ty_int_str, ty_int_tuple, ty_int_list, ty_bl_int, ty_bl_bool, ty_bl_str, ty_bl_tuple, ty_bl_list, ty_non_int, ty_non_bool, ty_non_str, ty_non_tuple, ty_non_list, ty_str_int, ty_str_bool, ty_str_str, ty_str_tuple, ty_str_list, ty_tup_int, ty_tup_bool, ty_tup_str, ty_tup_tuple, ty_tup_list, ty_lst_int, ty_lst_bool, ty_lst_str, ty_lst_tuple, ty_lst_list, wpH, isSub, Nat.reduceBEq, beq_self_eq_true, isNon, g_10, g_11, g_12, g_13, g_14, g_15, g_16, g_17, g_18, g_19, g_20, g_21, g_22, g_23, g_24, g_25, g_26, g_27, g_28, g_29, g_30, setAll, la_0, ap_0, isL_l]
          refine ⟨(by decide : 2 ≤ 16777216), ?_⟩
          refine sp2 hb1 19 (by omega) _ _ ?_
          simp only [hb2, wpSs, wpS, wpE, wpT, wpV, wpB, wpEs, wpO, wpC, fillIo, backIo, finals, bindTg, bindTgs, List.map_cons, List.map_nil, List.replicate_succ, List.replicate_zero, List.cons_append, List.nil_append, List.set_cons_zero, List.set_cons_succ, Nat.reduceSub, Nat.reduceAdd, g_0, g_1, g_2, g_3, g_4, g_5, g_6, g_7, g_8, g_9, a_ok, a_add, a_addS, a_addL, a_addT, a_sub, a_mul, a_mulL, a_mulT, a_mod, a_fdiv, a_pow, a_augadd, a_augsub, a_neg, a_lt, a_le, a_gt, a_ge, a_eq, a_ne, a_isN, a_isnN, a_isB, a_isnB, a_truB, a_truI, a_truN, a_truT, a_truL, a_lenT, a_lenL, a_abs, a_int, a_strI, a_max2, a_min2, a_listL, a_listT, a_tupL, a_tupT, a_range1, a_range2, a_seqT, a_seqL, a_enumT, a_enumL, a_zipT, a_zipL, a_idxL, a_idxT, a_cutL, a_cutT, a_cutS, a_revT, a_revL, at_0, at_1, at_2, at_3, at_4, at_5, a_okk, Option.bind_some, pu_0, pu_1, pu_2, pu_3, pu_4, f_int, f_bl, f_non, e_int, e_bl, e_str, true_and, and_true, and_self, decide_eq_true_eq, if_true, if_false, wipe, restore, List.getElem?_cons_zero, List.getElem?_cons_succ, Option.getD_some, Option.getD_none, Bool.not_true, Bool.not_false, Bool.true_and, Bool.false_and, Bool.and_true, Bool.and_false, Bool.or_true, Bool.true_or, Bool.or_false, Bool.false_or, if_true, if_false, Bool.false_eq_true, Bool.true_eq_false, Bool.not_eq_true', decide_eq_false_iff_not, ty_int_int, ty_int_bool, ty_int_str, ty_int_tuple, ty_int_list, ty_bl_int, ty_bl_bool, ty_bl_str, ty_bl_tuple, ty_bl_list, ty_non_int, ty_non_bool, ty_non_str, ty_non_tuple, ty_non_list, ty_str_int, ty_str_bool, ty_str_str, ty_str_tuple, ty_str_list, ty_tup_int, ty_tup_bool, ty_tup_str, ty_tup_tuple, ty_tup_list, ty_lst_int, ty_lst_bool, ty_lst_str, ty_lst_tuple, ty_lst_list, wpH, isSub, Nat.reduceBEq, beq_self_eq_true, isNon, g_10, g_11, g_12, g_13, g_14, g_15, g_16, g_17, g_18, g_19, g_20, g_21, g_22, g_23, g_24, g_25, g_26, g_27, g_28, g_29, g_30, setAll, la_0, ap_0, isL_l]
          refine ⟨by unfold small62 line; omega, ?_⟩
          refine loopC_all .int (fun _ => .str "prime") _ _ (fun k hk acc nx hn => ?_) ?_
          · simp only [wpSs, wpS, wpE, wpT, wpV, wpB, wpEs, wpO, wpC, fillIo, backIo, finals, bindTg, bindTgs, List.map_cons, List.map_nil, List.replicate_succ, List.replicate_zero, List.cons_append, List.nil_append, List.set_cons_zero, List.set_cons_succ, Nat.reduceSub, Nat.reduceAdd, g_0, g_1, g_2, g_3, g_4, g_5, g_6, g_7, g_8, g_9, a_ok, a_add, a_addS, a_addL, a_addT, a_sub, a_mul, a_mulL, a_mulT, a_mod, a_fdiv, a_pow, a_augadd, a_augsub, a_neg, a_lt, a_le, a_gt, a_ge, a_eq, a_ne, a_isN, a_isnN, a_isB, a_isnB, a_truB, a_truI, a_truN, a_truT, a_truL, a_lenT, a_lenL, a_abs, a_int, a_strI, a_max2, a_min2, a_listL, a_listT, a_tupL, a_tupT, a_range1, a_range2, a_seqT, a_seqL, a_enumT, a_enumL, a_zipT, a_zipL, a_idxL, a_idxT, a_cutL, a_cutT, a_cutS, a_revT, a_revL, at_0, at_1, at_2, at_3, at_4, at_5, a_okk, Option.bind_some, pu_0, pu_1, pu_2, pu_3, pu_4, f_int, f_bl, f_non, e_int, e_bl, e_str, true_and, and_true, and_self, decide_eq_true_eq, if_true, if_false, wipe, restore, List.getElem?_cons_zero, List.getElem?_cons_succ, Option.getD_some, Option.getD_none, Bool.not_true, Bool.not_false, Bool.true_and, Bool.false_and, Bool.and_true, Bool.and_false, Bool.or_true, Bool.true_or, Bool.or_false, Bool.false_or, if_true, if_false, Bool.false_eq_true, Bool.true_eq_false, Bool.not_eq_true', decide_eq_false_iff_not, ty_int_int, ty_int_bool, ty_int_str, ty_int_tuple, ty_int_list, ty_bl_int, ty_bl_bool, ty_bl_str, ty_bl_tuple, ty_bl_list, ty_non_int, ty_non_bool, ty_non_str, ty_non_tuple, ty_non_list, ty_str_int, ty_str_bool, ty_str_str, ty_str_tuple, ty_str_list, ty_tup_int, ty_tup_bool, ty_tup_str, ty_tup_tuple, ty_tup_list, ty_lst_int, ty_lst_bool, ty_lst_str, ty_lst_tuple, ty_lst_list, wpH, isSub, Nat.reduceBEq, beq_self_eq_true, isNon, g_10, g_11, g_12, g_13, g_14, g_15, g_16, g_17, g_18, g_19, g_20, g_21, g_22, g_23, g_24, g_25, g_26, g_27, g_28, g_29, g_30, setAll, la_0, ap_0, isL_l]
            have hk' := mem_rangeI.mp hk
            refine sp20p (by omega) hb1 hb2 19 (by omega) _ _ ?_
            exact hn
          simp only [wpSs, wpS, wpE, wpT, wpV, wpB, wpEs, wpO, wpC, fillIo, backIo, finals, bindTg, bindTgs, List.map_cons, List.map_nil, List.replicate_succ, List.replicate_zero, List.cons_append, List.nil_append, List.set_cons_zero, List.set_cons_succ, Nat.reduceSub, Nat.reduceAdd, g_0, g_1, g_2, g_3, g_4, g_5, g_6, g_7, g_8, g_9, a_ok, a_add, a_addS, a_addL, a_addT, a_sub, a_mul, a_mulL, a_mulT, a_mod, a_fdiv, a_pow, a_augadd, a_augsub, a_neg, a_lt, a_le, a_gt, a_ge, a_eq, a_ne, a_isN, a_isnN, a_isB, a_isnB, a_truB, a_truI, a_truN, a_truT, a_truL, a_lenT, a_lenL, a_abs, a_int, a_strI, a_max2, a_min2, a_listL, a_listT, a_tupL, a_tupT, a_range1, a_range2, a_seqT, a_seqL, a_enumT, a_enumL, a_zipT, a_zipL, a_idxL, a_idxT, a_cutL, a_cutT, a_cutS, a_revT, a_revL, at_0, at_1, at_2, at_3, at_4, at_5, a_okk, Option.bind_some, pu_0, pu_1, pu_2, pu_3, pu_4, f_int, f_bl, f_non, e_int, e_bl, e_str, true_and, and_true, and_self, decide_eq_true_eq, if_true, if_false, wipe, restore, List.getElem?_cons_zero, List.getElem?_cons_succ, Option.getD_some, Option.getD_none, Bool.not_true, Bool.not_false, Bool.true_and, Bool.false_and, Bool.and_true, Bool.and_false, Bool.or_true, Bool.true_or, Bool.or_false, Bool.false_or, if_true, if_false, Bool.false_eq_true, Bool.true_eq_false, Bool.not_eq_true', decide_eq_false_iff_not, ty_int_int, ty_int_bool, ty_int_str, ty_int_tuple, ty_int_list, ty_bl_int, ty_bl_bool, ty_bl_str, ty_bl_tuple, ty_bl_list, ty_non_int, ty_non_bool, ty_non_str, ty_non_tuple, ty_non_list, ty_str_int, ty_str_bool, ty_str_str, ty_str_tuple, ty_str_list, ty_tup_int, ty_tup_bool, ty_tup_str, ty_tup_tuple, ty_tup_list, ty_lst_int, ty_lst_bool, ty_lst_str, ty_lst_tuple, ty_lst_list, wpH, isSub, Nat.reduceBEq, beq_self_eq_true, isNon, g_10, g_11, g_12, g_13, g_14, g_15, g_16, g_17, g_18, g_19, g_20, g_21, g_22, g_23, g_24, g_25, g_26, g_27, g_28, g_29, g_30, setAll, la_0, ap_0, isL_l]
          refine ⟨(by decide : 1 ≤ 16777216), by decide, by decide +kernel, ?_⟩
          have ee : eqv (TV.lst (List.map (fun _ => TV.str "prime") (rangeI 0 (Int.toNat 4)))) (TV.lst (List.replicate (Int.toNat 4) [TV.str "prime"]).flatten) = true := by decide +kernel
          simp only [ee, wpSs, wpS, wpE, wpT, wpV, wpB, wpEs, wpO, wpC, fillIo, backIo, finals, bindTg, bindTgs, List.map_cons, List.map_nil, List.replicate_succ, List.replicate_zero, List.cons_append, List.nil_append, List.set_cons_zero, List.set_cons_succ, Nat.reduceSub, Nat.reduceAdd, g_0, g_1, g_2, g_3, g_4, g_5, g_6, g_7, g_8, g_9, a_ok, a_add, a_addS, a_addL, a_addT, a_sub, a_mul, a_mulL, a_mulT, a_mod, a_fdiv, a_pow, a_augadd, a_augsub, a_neg, a_lt, a_le, a_gt, a_ge, a_eq, a_ne, a_isN, a_isnN, a_isB, a_isnB, a_truB, a_truI, a_truN, a_truT, a_truL, a_lenT, a_lenL, a_abs, a_int, a_strI, a_max2, a_min2, a_listL, a_listT, a_tupL, a_tupT, a_range1, a_range2, a_seqT, a_seqL, a_enumT, a_enumL, a_zipT, a_zipL, a_idxL, a_idxT, a_cutL, a_cutT, a_cutS, a_revT, a_revL, at_0, at_1, at_2, at_3, at_4, at_5, a_okk, Option.bind_some, pu_0, pu_1, pu_2, pu_3, pu_4, f_int, f_bl, f_non, e_int, e_bl, e_str, true_and, and_true, and_self, decide_eq_true_eq, if_true, if_false, wipe, restore, List.getElem?_cons_zero, List.getElem?_cons_succ, Option.getD_some, Option.getD_none, Bool.not_true, Bool.not_false, Bool.true_and, Bool.false_and, Bool.and_true, Bool.and_false, Bool.or_true, Bool.true_or, Bool.or_false, Bool.false_or, if_true, if_false, Bool.false_eq_true, Bool.true_eq_false, Bool.not_eq_true', decide_eq_false_iff_not, ty_int_int, ty_int_bool, ty_int_str, ty_int_tuple, ty_int_list, ty_bl_int, ty_bl_bool, ty_bl_str, ty_bl_tuple, ty_bl_list, ty_non_int, ty_non_bool, ty_non_str, ty_non_tuple, ty_non_list, ty_str_int, ty_str_bool, ty_str_str, ty_str_tuple, ty_str_list, ty_tup_int, ty_tup_bool, ty_tup_str, ty_tup_tuple, ty_tup_list, ty_lst_int, ty_lst_bool, ty_lst_str, ty_lst_tuple, ty_lst_list, wpH, isSub, Nat.reduceBEq, beq_self_eq_true, isNon, g_10, g_11, g_12, g_13, g_14, g_15, g_16, g_17, g_18, g_19, g_20, g_21, g_22, g_23, g_24, g_25, g_26, g_27, g_28, g_29, g_30, setAll, la_0, ap_0, isL_l]
          clear ee
          refine ⟨by unfold small62 line; omega, ?_⟩
          refine loopC_all .int (fun _ => .str "number") _ _ (fun k hk acc nx hn => ?_) ?_
          · simp only [wpSs, wpS, wpE, wpT, wpV, wpB, wpEs, wpO, wpC, fillIo, backIo, finals, bindTg, bindTgs, List.map_cons, List.map_nil, List.replicate_succ, List.replicate_zero, List.cons_append, List.nil_append, List.set_cons_zero, List.set_cons_succ, Nat.reduceSub, Nat.reduceAdd, g_0, g_1, g_2, g_3, g_4, g_5, g_6, g_7, g_8, g_9, a_ok, a_add, a_addS, a_addL, a_addT, a_sub, a_mul, a_mulL, a_mulT, a_mod, a_fdiv, a_pow, a_augadd, a_augsub, a_neg, a_lt, a_le, a_gt, a_ge, a_eq, a_ne, a_isN, a_isnN, a_isB, a_isnB, a_truB, a_truI, a_truN, a_truT, a_truL, a_lenT, a_lenL, a_abs, a_int, a_strI, a_max2, a_min2, a_listL, a_listT, a_tupL, a_tupT, a_range1, a_range2, a_seqT, a_seqL, a_enumT, a_enumL, a_zipT, a_zipL, a_idxL, a_idxT, a_cutL, a_cutT, a_cutS, a_revT, a_revL, at_0, at_1, at_2, at_3, at_4, at_5, a_okk, Option.bind_some, pu_0, pu_1, pu_2, pu_3, pu_4, f_int, f_bl, f_non, e_int, e_bl, e_str, true_and, and_true, and_self, decide_eq_true_eq, if_true, if_false, wipe, restore, List.getElem?_cons_zero, List.getElem?_cons_succ, Option.getD_some, Option.getD_none, Bool.not_true, Bool.not_false, Bool.true_and, Bool.false_and, Bool.and_true, Bool.and_false, Bool.or_true, Bool.true_or, Bool.or_false, Bool.false_or, if_true, if_false, Bool.false_eq_true, Bool.true_eq_false, Bool.not_eq_true', decide_eq_false_iff_not, ty_int_int, ty_int_bool, ty_int_str, ty_int_tuple, ty_int_list, ty_bl_int, ty_bl_bool, ty_bl_str, ty_bl_tuple, ty_bl_list, ty_non_int, ty_non_bool, ty_non_str, ty_non_tuple, ty_non_list, ty_str_int, ty_str_bool, ty_str_str, ty_str_tuple, ty_str_list, ty_tup_int, ty_tup_bool, ty_tup_str, ty_tup_tuple, ty_tup_list, ty_lst_int, ty_lst_bool, ty_lst_str, ty_lst_tuple, ty_lst_list, wpH, isSub, Nat.reduceBEq, beq_self_eq_true, isNon, g_10, g_11, g_12, g_13, g_14, g_15, g_16, g_17, g_18, g_19, g_20, g_21, g_22, g_23, g_24, g_25, g_26, g_27, g_28, g_29, g_30, setAll, la_0, ap_0, isL_l]
            have hk' := mem_rangeI.mp hk
            refine sp20n (by omega) (primes_prime p hp) ho1 ho2 19 (by omega) _ _ ?_
            exact hn
          simp only [wpSs, wpS, wpE, wpT, wpV, wpB, wpEs, wpO, wpC, fillIo, backIo, finals, bindTg, bindTgs, List.map_cons, List.map_nil, List.replicate_succ, List.replicate_zero, List.cons_append, List.nil_append, List.set_cons_zero, List.set_cons_succ, Nat.reduceSub, Nat.reduceAdd, g_0, g_1, g_2, g_3, g_4, g_5, g_6, g_7, g_8, g_9, a_ok, a_add, a_addS, a_addL, a_addT, a_sub, a_mul, a_mulL, a_mulT, a_mod, a_fdiv, a_pow, a_augadd, a_augsub, a_neg, a_lt, a_le, a_gt, a_ge, a_eq, a_ne, a_isN, a_isnN, a_isB, a_isnB, a_truB, a_truI, a_truN, a_truT, a_truL, a_lenT, a_lenL, a_abs, a_int, a_strI, a_max2, a_min2, a_listL, a_listT, a_tupL, a_tupT, a_range1, a_range2, a_seqT, a_seqL, a_enumT, a_enumL, a_zipT, a_zipL, a_idxL, a_idxT, a_cutL, a_cutT, a_cutS, a_revT, a_revL, at_0, at_1, at_2, at_3, at_4, at_5, a_okk, Option.bind_some, pu_0, pu_1, pu_2, pu_3, pu_4, f_int, f_bl, f_non, e_int, e_bl, e_str, true_and, and_true, and_self, decide_eq_true_eq, if_true, if_false, wipe, restore, List.getElem?_cons_zero, List.getElem?_cons_succ, Option.getD_some, Option.getD_none, Bool.not_true, Bool.not_false, Bool.true_and, Bool.false_and, Bool.and_true, Bool.and_false, Bool.or_true, Bool.true_or, Bool.or_false, Bool.false_or, if_true, if_false, Bool.false_eq_true, Bool.true_eq_false, Bool.not_eq_true', decide_eq_false_iff_not, ty_int_int, ty_int_bool, ty_int_str, ty_int_tuple, ty_int_list, ty_bl_int, ty_bl_bool, ty_bl_str, ty_bl_tuple, ty_bl_list, ty_non_int, ty_non_bool, ty_non_str, ty_non_tuple, ty_non_list, ty_str_int, ty_str_bool, ty_str_str, ty_str_tuple, ty_str_list, ty_tup_int, ty_tup_bool, ty_tup_str, ty_tup_tuple, ty_tup_list, ty_lst_int, ty_lst_bool, ty_lst_str, ty_lst_tuple, ty_lst_list, wpH, isSub, Nat.reduceBEq, beq_self_eq_true, isNon, g_10, g_11, g_12, g_13, g_14, g_15, g_16, g_17, g_18, g_19, g_20, g_21, g_22, g_23, g_24, g_25, g_26, g_27, g_28, g_29, g_30, setAll, la_0, ap_0, isL_l]
          refine ⟨(by decide : 1 ≤ 16777216), by decide, by decide +kernel, ?_⟩
          have ee : eqv (TV.lst (List.map (fun _ => TV.str "number") (rangeI 0 (Int.toNat 3)))) (TV.lst (List.replicate (Int.toNat 3) [TV.str "number"]).flatten) = true := by decide +kernel
          simp only [ee, wpSs, wpS, wpE, wpT, wpV, wpB, wpEs, wpO, wpC, fillIo, backIo, finals, bindTg, bindTgs, List.map_cons, List.map_nil, List.replicate_succ, List.replicate_zero, List.cons_append, List.nil_append, List.set_cons_zero, List.set_cons_succ, Nat.reduceSub, Nat.reduceAdd, g_0, g_1, g_2, g_3, g_4, g_5, g_6, g_7, g_8, g_9, a_ok, a_add, a_addS, a_addL, a_addT, a_sub, a_mul, a_mulL, a_mulT, a_mod, a_fdiv, a_pow, a_augadd, a_augsub, a_neg, a_lt, a_le, a_gt, a_ge, a_eq, a_ne, a_isN, a_isnN, a_isB, a_isnB, a_truB, a_truI, a_truN, a_truT, a_truL, a_lenT, a_lenL, a_abs, a_int, a_strI, a_max2, a_min2, a_listL, a_listT, a_tupL, a_tupT, a_range1, a_range2, a_seqT, a_seqL, a_enumT, a_enumL, a_zipT, a_zipL, a_idxL, a_idxT, a_cutL, a_cutT, a_cutS, a_revT, a_revL, at_0, at_1, at_2, at_3, at_4, at_5, a_okk, Option.bind_some, pu_0, pu_1, pu_2, pu_3, pu_4, f_int, f_bl, f_non, e_int, e_bl, e_str, true_and, and_true, and_self, decide_eq_true_eq, if_true, if_false, wipe, restore, List.getElem?_cons_zero, List.getElem?_cons_succ, Option.getD_some, Option.getD_none, Bool.not_true, Bool.not_false, Bool.true_and, Bool.false_and, Bool.and_true, Bool.and_false, Bool.or_true, Bool.true_or, Bool.or_false, Bool.false_or, if_true, if_false, Bool.false_eq_true, Bool.true_eq_false, Bool.not_eq_true', decide_eq_false_iff_not, ty_int_int, ty_int_bool, ty_int_str, ty_int_tuple, ty_int_list, ty_bl_int, ty_bl_bool, ty_bl_str, ty_bl_tuple, ty_bl_list, ty_non_int, ty_non_bool, ty_non_str, ty_non_tuple, ty_non_list, ty_str_int, ty_str_bool, ty_str_str, ty_str_tuple, ty_str_list, ty_tup_int, ty_tup_bool, ty_tup_str, ty_tup_tuple, ty_tup_list, ty_lst_int, ty_lst_bool, ty_lst_str, ty_lst_tuple, ty_lst_list, wpH, isSub, Nat.reduceBEq, beq_self_eq_true, isNon, g_10, g_11, g_12, g_13, g_14, g_15, g_16, g_17, g_18, g_19, g_20, g_21, g_22, g_23, g_24, g_25, g_26, g_27, g_28, g_29, g_30, setAll, la_0, ap_0, isL_l]
          clear ee
          refine ⟨(by decide : 4 ≤ 16777216), ?_⟩
          refine sp14 hh6 (by simp) (by simp) 19 (by omega) _ _ ?_
          rintro v os ⟨hv, h7, rfl, hh7⟩
          have hv' : plainT v = true ∧ betw v 0 1000 = false := by
            simp only [List.mem_cons, List.not_mem_nil, or_false] at hv
            rcases hv with rfl | rfl | rfl | rfl <;> decide
          refine sp20m (primes_prime p hp) hv'.1 hv'.2 19 (by omega) _ _ ?_
          refine ⟨by decide +kernel, ?_⟩
          have ee : eqv (TV.str "number") (TV.str "number") = true := by decide +kernel
          simp only [ee, wpSs, wpS, wpE, wpT, wpV, wpB, wpEs, wpO, wpC, fillIo, backIo, finals, bindTg, bindTgs, List.map_cons, List.map_nil, List.replicate_succ, List.replicate_zero, List.cons_append, List.nil_append, List.set_cons_zero, List.set_cons_succ, Nat.reduceSub, Nat.reduceAdd, g_0, g_1, g_2, g_3, g_4, g_5, g_6, g_7, g_8, g_9, a_ok, a_add, a_addS, a_addL, a_addT, a_sub, a_mul, a_mulL, a_mulT, a_mod, a_fdiv, a_pow, a_augadd, a_augsub, a_neg, a_lt, a_le, a_gt, a_ge, a_eq, a_ne, a_isN, a_isnN, a_isB, a_isnB, a_truB, a_truI, a_truN, a_truT, a_truL, a_lenT, a_lenL, a_abs, a_int, a_strI, a_max2, a_min2, a_listL, a_listT, a_tupL, a_tupT, a_range1, a_range2, a_seqT, a_seqL, a_enumT, a_enumL, a_zipT, a_zipL, a_idxL, a_idxT, a_cutL, a_cutT, a_cutS, a_revT, a_revL, at_0, at_1, at_2, at_3, at_4, at_5, a_okk, Option.bind_some, pu_0, pu_1, pu_2, pu_3, pu_4, f_int, f_bl, f_non, e_int, e_bl, e_str, true_and, and_true, and_self, decide_eq_true_eq, if_true, if_false, wipe, restore, List.getElem?_cons_zero, List.getElem?_cons_succ, Option.getD_some, Option.getD_none, Bool.not_true, Bool.not_false, Bool.true_and, Bool.false_and, Bool.and_true, Bool.and_false, Bool.or_true, Bool.true_or, Bool.or_false, Bool.false_or, if_true, if_false, Bool.false_eq_true, Bool.true_eq_false, Bool.not_eq_true', decide_eq_false_iff_not, ty_int_int, ty_int_bool, ty_int_str, ty_int_tuple, ty_int_list, ty_bl_int, ty_bl_bool, ty_bl_str, ty_bl_tuple, ty_bl_list, ty_non_int, ty_non_bool, ty_non_str, ty_non_tuple, ty_non_list, ty_str_int, ty_str_bool, ty_str_str, ty_str_tuple, ty_str_list, ty_tup_int, ty_tup_bool, ty_tup_str, ty_tup_tuple, ty_tup_list, ty_lst_int, ty_lst_bool, ty_lst_str, ty_lst_tuple, ty_lst_list, wpH, isSub, Nat.reduceBEq, beq_self_eq_true, isNon, g_10, g_11, g_12, g_13, g_14, g_15, g_16, g_17, g_18, g_19, g_20, g_21, g_22, g_23, g_24, g_25, g_26, g_27, g_28, g_29, g_30, setAll, la_0, ap_0, isL_l]
          clear ee
          exact hnext _ ⟨_, _, _, _, _, _, _, _, _, _, _, _, _, _, _, hh7, rfl⟩
    · rintro _ ⟨h', o3, o4, o5, o6, o7, o8, o9, o10, o11, o12, o13, o14, o15, o16, hh, rfl⟩
      simp only [wpSs, wpS, wpE, wpT, wpV, wpB, wpEs, wpO, wpC, fillIo, backIo, finals, bindTg, bindTgs, List.map_cons, List.map_nil, List.replicate_succ, List.replicate_zero, List.cons_append, List.nil_append, List.set_cons_zero, List.set_cons_succ, Nat.reduceSub, Nat.reduceAdd, g_0, g_1, g_2, g_3, g_4, g_5, g_6, g_7, g_8, g_9, a_ok, a_add, a_addS, a_addL, a_addT, a_sub, a_mul, a_mulL, a_mulT, a_mod, a_fdiv, a_pow, a_augadd, a_augsub, a_neg, a_lt, a_le, a_gt, a_ge, a_eq, a_ne, a_isN, a_isnN, a_isB, a_isnB, a_truB, a_truI, a_truN, a_truT, a_truL, a_lenT, a_lenL, a_abs, a_int, a_strI, a_max2, a_min2, a_listL, a_listT, a_tupL, a_tupT, a_range1, a_range2, a_seqT, a_seqL, a_enumT, a_enumL, a_zipT, a_zipL, a_idxL, a_idxT, a_cutL, a_cutT, a_cutS, a_revT, a_revL, at_0, at_1, at_2, at_3, at_4, at_5, a_okk, Option.bind_some, pu_0, pu_1, pu_2, pu_3, pu_4, f_int, f_bl, f_non, e_int, e_bl, e_str, true_and, and_true, and_self, decide_eq_true_eq, if_true, if_false, wipe, restore, List.getElem?_cons_zero, List.getElem?_cons_succ, Option.getD_some, Option.getD_none, Bool.not_true, Bool.not_false, Bool.true_and, Bool.false_and, Bool.and_true, Bool.and_false, Bool.or_true, Bool.true_or, Bool.or_false, Bool.false_or, if_true, if_false, Bool.false_eq_true, Bool.true_eq_false, Bool.not_eq_true', decide_eq_false_iff_not, ty_int_int, ty_int_bool, ty_int_str, ty_int_tuple, ty_int_list, ty_bl_int, ty_bl_bool, ty_bl_str, ty_bl_tuple, ty_bl_list, ty_non_int, ty_non_bool, ty_non_str, ty_non_tuple, ty_non_list, ty_str_int, ty_str_bool, ty_str_str, ty_str_tuple, ty_str_list, ty_tup_int, ty_tup_bool, ty_tup_str, ty_tup_tuple, ty_tup_list, ty_lst_int, ty_lst_bool, ty_lst_str, ty_lst_tuple, ty_lst_list, wpH, isSub, Nat.reduceBEq, beq_self_eq_true, isNon, g_10, g_11, g_12, g_13, g_14, g_15, g_16, g_17, g_18, g_19, g_20, g_21, g_22, g_23, g_24, g_25, g_26, g_27, g_28, g_29, g_30, setAll, la_0, ap_0, isL_l, rangeL_eq]
      refine ⟨by unfold small62 line; omega, ?_⟩
      refine loopC_fil .int .int (fun t => primeB (.int t)) _ _ (fun t ht acc nx h1 h2 => ?_) ?_
      · simp only [wpSs, wpS, wpE, wpT, wpV, wpB, wpEs, wpO, wpC, fillIo, backIo, finals, bindTg, bindTgs, List.map_cons, List.map_nil, List.replicate_succ, List.replicate_zero, List.cons_append, List.nil_append, List.set_cons_zero, List.set_cons_succ, Nat.reduceSub, Nat.reduceAdd, g_0, g_1, g_2, g_3, g_4, g_5, g_6, g_7, g_8, g_9, a_ok, a_add, a_addS, a_addL, a_addT, a_sub, a_mul, a_mulL, a_mulT, a_mod, a_fdiv, a_pow, a_augadd, a_augsub, a_neg, a_lt, a_le, a_gt, a_ge, a_eq, a_ne, a_isN, a_isnN, a_isB, a_isnB, a_truB, a_truI, a_truN, a_truT, a_truL, a_lenT, a_lenL, a_abs, a_int, a_strI, a_max2, a_min2, a_listL, a_listT, a_tupL, a_tupT, a_range1, a_range2, a_seqT, a_seqL, a_enumT, a_enumL, a_zipT, a_zipL, a_idxL, a_idxT, a_cutL, a_cutT, a_cutS, a_revT, a_revL, at_0, at_1, at_2, at_3, at_4, at_5, a_okk, Option.bind_some, pu_0, pu_1, pu_2, pu_3, pu_4, f_int, f_bl, f_non, e_int, e_bl, e_str, true_and, and_true, and_self, decide_eq_true_eq, if_true, if_false, wipe, restore, List.getElem?_cons_zero, List.getElem?_cons_succ, Option.getD_some, Option.getD_none, Bool.not_true, Bool.not_false, Bool.true_and, Bool.false_and, Bool.and_true, Bool.and_false, Bool.or_true, Bool.true_or, Bool.or_false, Bool.false_or, if_true, if_false, Bool.false_eq_true, Bool.true_eq_false, Bool.not_eq_true', decide_eq_false_iff_not, ty_int_int, ty_int_bool, ty_int_str, ty_int_tuple, ty_int_list, ty_bl_int, ty_bl_bool, ty_bl_str, ty_bl_tuple, ty_bl_list, ty_non_int, ty_non_bool, ty_non_str, ty_non_tuple, ty_non_list, ty_str_int, ty_str_bool, ty_str_str, ty_str_tuple, ty_str_list, ty_tup_int, ty_tup_bool, ty_tup_str, ty_tup_tuple, ty_tup_list, ty_lst_int, ty_lst_bool, ty_lst_str, ty_lst_tuple, ty_lst_list, wpH, isSub, Nat.reduceBEq, beq_self_eq_true, isNon, g_10, g_11, g_12, g_13, g_14, g_15, g_16, g_17, g_18, g_19, g_20, g_21, g_22, g_23, g_24, g_25, g_26, g_27, g_28, g_29, g_30, setAll, la_0, ap_0, isL_l]
        refine sp2 rfl 19 (by omega) _ _ ?_
        simp only [wpSs, wpS, wpE, wpT, wpV, wpB, wpEs, wpO, wpC, fillIo, backIo, finals, bindTg, bindTgs, List.map_cons, List.map_nil, List.replicate_succ, List.replicate_zero, List.cons_append, List.nil_append, List.set_cons_zero, List.set_cons_succ, Nat.reduceSub, Nat.reduceAdd, g_0, g_1, g_2, g_3, g_4, g_5, g_6, g_7, g_8, g_9, a_ok, a_add, a_addS, a_addL, a_addT, a_sub, a_mul, a_mulL, a_mulT, a_mod, a_fdiv, a_pow, a_augadd, a_augsub, a_neg, a_lt, a_le, a_gt, a_ge, a_eq, a_ne, a_isN, a_isnN, a_isB, a_isnB, a_truB, a_truI, a_truN, a_truT, a_truL, a_lenT, a_lenL, a_abs, a_int, a_strI, a_max2, a_min2, a_listL, a_listT, a_tupL, a_tupT, a_range1, a_range2, a_seqT, a_seqL, a_enumT, a_enumL, a_zipT, a_zipL, a_idxL, a_idxT, a_cutL, a_cutT, a_cutS, a_revT, a_revL, at_0, at_1, at_2, at_3, at_4, at_5, a_okk, Option.bind_some, pu_0, pu_1, pu_2, pu_3, pu_4, f_int, f_bl, f_non, e_int, e_bl, e_str, true_and, and_true, and_self, decide_eq_true_eq, if_true, if_false, wipe, restore, List.getElem?_cons_zero, List.getElem?_cons_succ, Option.getD_some, Option.getD_none, Bool.not_true, Bool.not_false, Bool.true_and, Bool.false_and, Bool.and_true, Bool.and_false, Bool.or_true, Bool.true_or, Bool.or_false, Bool.false_or, if_true, if_false, Bool.false_eq_true, Bool.true_eq_false, Bool.not_eq_true', decide_eq_false_iff_not, ty_int_int, ty_int_bool, ty_int_str, ty_int_tuple, ty_int_list, ty_bl_int, ty_bl_bool, ty_bl_str, ty_bl_tuple, ty_bl_list, ty_non_int, ty_non_bool, ty_non_str, ty_non_tuple, ty_non_list, ty_str_int, ty_str_bool, ty_str_str, ty_str_tuple, ty_str_list, ty_tup_int, ty_tup_bool, ty_tup_str, ty_tup_tuple, ty_tup_list, ty_lst_int, ty_lst_bool, ty_lst_str, ty_lst_tuple, ty_lst_list, wpH, isSub, Nat.reduceBEq, beq_self_eq_true, isNon, g_10, g_11, g_12, g_13, g_14, g_15, g_16, g_17, g_18, g_19, g_20, g_21, g_22, g_23, g_24, g_25, g_26, g_27, g_28, g_29, g_30, setAll, la_0, ap_0, isL_l]
        split
        · exact h1 (by assumption)
        · rename_i hq; exact h2 (Bool.eq_false_iff.mpr hq)
      · have e0 : (rangeI (-3) (120 - -3 : Int).toNat).filter (fun t => primeB (.int t)) = primesL := primes_told
        simp only [e0, wpSs, wpS, wpE, wpT, wpV, wpB, wpEs, wpO, wpC, fillIo, backIo, finals, bindTg, bindTgs, List.map_cons, List.map_nil, List.replicate_succ, List.replicate_zero, List.cons_append, List.nil_append, List.set_cons_zero, List.set_cons_succ, Nat.reduceSub, Nat.reduceAdd, g_0, g_1, g_2, g_3, g_4, g_5, g_6, g_7, g_8, g_9, a_ok, a_add, a_addS, a_addL, a_addT, a_sub, a_mul, a_mulL, a_mulT, a_mod, a_fdiv, a_pow, a_augadd, a_augsub, a_neg, a_lt, a_le, a_gt, a_ge, a_eq, a_ne, a_isN, a_isnN, a_isB, a_isnB, a_truB, a_truI, a_truN, a_truT, a_truL, a_lenT, a_lenL, a_abs, a_int, a_strI, a_max2, a_min2, a_listL, a_listT, a_tupL, a_tupT, a_range1, a_range2, a_seqT, a_seqL, a_enumT, a_enumL, a_zipT, a_zipL, a_idxL, a_idxT, a_cutL, a_cutT, a_cutS, a_revT, a_revL, at_0, at_1, at_2, at_3, at_4, at_5, a_okk, Option.bind_some, pu_0, pu_1, pu_2, pu_3, pu_4, f_int, f_bl, f_non, e_int, e_bl, e_str, true_and, and_true, and_self, decide_eq_true_eq, if_true, if_false, wipe, restore, List.getElem?_cons_zero, List.getElem?_cons_succ, Option.getD_some, Option.getD_none, Bool.not_true, Bool.not_false, Bool.true_and, Bool.false_and, Bool.and_true, Bool.and_false, Bool.or_true, Bool.true_or, Bool.or_false, Bool.false_or, if_true, if_false, Bool.false_eq_true, Bool.true_eq_false, Bool.not_eq_true', decide_eq_false_iff_not, ty_int_int, ty_int_bool, ty_int_str, ty_int_tuple, ty_int_list, ty_bl_int, ty_bl_bool, ty_bl_str, ty_bl_tuple, ty_bl_list, ty_non_int, ty_non_bool, ty_non_str, ty_non_tuple, ty_non_list, ty_str_int, ty_str_bool, ty_str_str, ty_str_tuple, ty_str_list, ty_tup_int, ty_tup_bool, ty_tup_str, ty_tup_tuple, ty_tup_list, ty_lst_int, ty_lst_bool, ty_lst_str, ty_lst_tuple, ty_lst_list, wpH, isSub, Nat.reduceBEq, beq_self_eq_true, isNon, g_10, g_11, g_12, g_13, g_14, g_15, g_16, g_17, g_18, g_19, g_20, g_21, g_22, g_23, g_24, g_25, g_26, g_27, g_28, g_29, g_30, setAll, la_0, ap_0, isL_l]
        exact ⟨by decide +kernel, congrArg TV.bl (by decide +kernel)⟩
end K01
end -- specs

section -- head
set_option linter.all false
set_option maxRecDepth 100000
set_option maxHeartbeats 0
namespace K01
open PySem PySem.Spec PyProof.Rows TL
abbrev R : PySem.W.OpenRow := PySem.W.OpenLaw.row PySem.Challenge.rw_proofplay_k01_whole_primes_and_powers
def loose : List Str := ["PlayError", "NoPrime", "NoNumber", "MOST_PRIME", "is_integer", "is_between", "is_prime", "need_prime", "is_number", "need_numbers", "power_of", "inverse_of", "power", "inverse", "order_of", "least_maker", "_law_hand", "_law_draw", "_law_some", "_law_kept", "_law_no_prime", "_law_no_number", "_law_rest", "_law_inverse", "_law_refusal"]
abbrev qv : Program := PySem.W.view R.prog [28]
abbrev fa : List He.Fa := mkFa T Pr
abbrev hk : PySem.W.Hook := He.hookD 4 fa fn
def ob (s : PySem.W.SharedT) : He.AlD := He.obsDG 4 fa fn (HandSHeadRun.getT s)
theorem ob_eq (s : PySem.W.SharedT) : ob s = hk.obs s.abs := He.obsDG_eq (HandSHeadRun.getT_eq s)
theorem run (w : World) : HandSHeadRun.RunEq R qv hk ob 3000 loose w := by
  intro os
  kernel_rfl
theorem facts {P : Program} {w : World} {K : PySem.W.Frag} {h : Heap} {mg : Str → Option Value} {f : Addr} (X : K.In h) (G : h.Ns mainGlobals mg) (hfa : mg ("law" : Str) = some (.ref f)) (c : He.SaysD fa fn K) :
    ∃ fd : FuncData, (∀ (s : Shared) (v : Value), BindsTo s fd ⟨[v], []⟩ [("script", v)]) ∧ ∀ base : Heap, K.In base → base.Ns mainGlobals mg → L2.FnOk P w K mg base (L2.CX P w) 20 f fd ["script"] (spF K mg T (Pr.call 20) 21 d21) := by
  have o : POk T Pr K mg := pok_of X G c (by decide +kernel) (fun ci x h => by
    have : T.xf = T.cl.map fun _ => ("" : Str) := by decide +kernel
    rw [this, List.getElem?_map, h]; rfl) (by decide +kernel) fun f d x h1 h2 => by
      obtain ⟨dd, N, q1, q2, q3, q4, q5, q6⟩ := alld f d x h1 h2
      exact ⟨dd, N, q1, q2, q3, q4, q5, q6 K⟩
  obtain ⟨fd, F0⟩ := c.def_ 21 (d := D21) rfl
  have e1 := He.glo_ok X G (c.facts (f := .glo "law") (by unfold fa mkFa; simp only [List.mem_append, List.mem_map]; exact .inr (.inl ⟨"law", by decide +kernel, rfl⟩)))
  have e := hfa.symm.trans e1
  cases e
  have F : L2.FunD K D21.name D21.qual D21.params D21.body D21.scope [] [] (He.ga K "law") fd := F0
  have b := L2.FunD.bindsA (ps := ["script"]) F fun _ _ _ _ _ _ us hl => match us, hl with | [_], _ => rfl
  refine ⟨fd, fun s v => b s [v] rfl, fun base _ _ => ?_⟩
  refine fn_snd (N := n21) (n := 19) F rfl c21 fun Y h1 h2 h3 h4 h5 => ?_
  subst h1 h2 h3 h4 h5
  refine ⟨⟨o.bi, o.gl, fun f d x hd hx => ?_⟩, ⟨fun ci x hc => ?_⟩⟩
  · obtain ⟨N, a, fd, q1, q2, q3, q4, _, q5⟩ := all_fn (P := Y.prog) (w := Y.w) (base := Y.base) o 19 f d x hd hx
    exact ⟨a, fd, N.take d.ar, q1, q2, q3, q4, q5⟩
  · obtain ⟨C, q1, q2, q3⟩ := o.cl ci x hc
    refine ⟨C, q1, q2, fun h => ?_⟩
    obtain ⟨r1, r2, r3, r4⟩ := q3 h
    exact ⟨r1, r2, L2.raises_own r3 r4⟩
end K01
open PySem PySem.W PySem.Calls PyProof.Rows
theorem PySem.Challenge.cw_proofplay_k01_whole_primes_and_powers_holds : PySem.Challenge.rw_proofplay_k01_whole_primes_and_powers.Holds := by
  w_on; o_law
  refine HandSHeadRun.head_any (r := OpenLaw.row PySem.Challenge.rw_proofplay_k01_whole_primes_and_powers) (q := view (OpenLaw.row PySem.Challenge.rw_proofplay_k01_whole_primes_and_powers).prog [28]) (H := K01.hk) (ob := K01.ob) (M := 3000) (loose := K01.loose) (d := HandSHeadRun.topDef (OpenLaw.row PySem.Challenge.rw_proofplay_k01_whole_primes_and_powers).prog 28) (kwd := []) K01.ob_eq
    (by kernel_rfl) (fun s => by kernel_rfl) K01.run (by kernel_rfl) (by kernel_rfl) (by kernel_rfl) (by rfl) (by first | assumption | decide +kernel) (by decide +kernel) ⟨rfl, rfl, rfl, rfl, rfl, by decide +kernel⟩ ?hw ?hc
  case hw => w_witness2
  case hc =>
    refine TL.walk_tl (l := PySem.Challenge.rw_proofplay_k01_whole_primes_and_powers) (n := 63) (k := 20) (x := "script") rfl (by decide) (by kernel_rfl) ⟨rfl, by decide, by decide⟩ ?F
    intro w mg fa h Y G hmg0
    obtain ⟨K, KX, c⟩ := Y
    have hmg : mg ("law" : PySem.Str) = some (.ref fa) := by
      have e : (HandSHeadRun.topDef (OpenLaw.row PySem.Challenge.rw_proofplay_k01_whole_primes_and_powers).prog 28).name = ("law" : PySem.Str) := by kernel_rfl
      rw [← e]
      exact hmg0
    obtain ⟨fd, hb, hF⟩ := K01.facts (P := (PySem.Challenge.rw_proofplay_k01_whole_primes_and_powers).prog) (w := w) KX G hmg c
    exact ⟨K, fd, TL.spF K mg K01.T (K01.Pr.call 20) 21 K01.d21, KX, hb, fun H a ns hl hO hS => TL.top_sp rfl rfl hl hO hS (K01.law_true ns hl), hF⟩
end -- head
