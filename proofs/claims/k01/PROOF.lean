import PyProof.Rows.All
import Wide.All
import OpenK.AllK
import Wide.FinOn
import HandS.ForMost
import HandS.Wide
import KE.GoesMore
import HandS.Gcd
import HandS.Deep
import HandS.Conv
import HandS.NoneIn
import HandS.Style
import HandS.TupMul
import HandS.TupAny
import HandS.IsInst
import HandS.Defaults
import KE.KTupSum
import HandS.SortInts
import HandS.Codes
import HandS.Zip
import HandS.Rev
import HandS.Star
import HandS.SortKw
import HandS.FromBytesMap
import KE.KMinKey
import KE.KStateDown
import Lean
import HandS.Ends
import HandS.More
import HandS.Words
import HandS.WordsExc
import HandS.Head0
import HandS.Head1
import HandS.Head2
import HandS.Head3
import HandS.HeadEnd
import HandS.HeadHook1
import HandS.HeadHook2
import PySem.Challenge.RW_ropescounted_k01_whole_feet_and_walks_th
set_option Elab.async false
set_option linter.all false
section
/-! RpCore: a small language of expressions and statements over plain data, and what its programs compute. No model of Python here. -/
set_option linter.all false
namespace Rp
abbrev LINE : Nat := 16777216

/-- plain data -/
inductive D where
  | non
  | bl (b : Bool)
  | int (i : Int)
  | str (s : String)
  | tup (xs : List D)
  | lst (xs : List D)
  | dic (kvs : List (D × D))
  | obj (c : String) (fs : List (String × D))
  | fn (f : String)
  | tok
  | scr (ns : List Int)
  deriving Inhabited

/-- the state of the draws -/
structure St where
  great : List Int
  cells : List Int
  left : Int
  turn : Int
abbrev W := Option St

/-- what running a piece gives: a value, an error of the package, or nothing that is known -/
inductive R (α : Type) where
  | ok (a : α) (w : W)
  | ex (c : String) (p : List D) (w : W)
  | no
def R.bind {α β : Type} (r : R α) (f : α → W → R β) : R β :=
  match r with
  | .ok a w => f a w
  | .ex c p w => .ex c p w
  | .no => .no
@[simp] theorem R.bind_ok {α β : Type} (a : α) (w : W) (f : α → W → R β) : (R.ok a w).bind f = f a w := rfl
@[simp] theorem R.bind_ex {α β : Type} (c : String) (p : List D) (w : W) (f : α → W → R β) : (R.ex c p w : R α).bind f = .ex c p w := rfl
@[simp] theorem R.bind_no {α β : Type} (f : α → W → R β) : (R.no : R α).bind f = .no := rfl
def lift {α : Type} (o : Option α) (w : W) : R α := match o with | some a => .ok a w | none => .no
@[simp] theorem lift_some {α : Type} (a : α) (w : W) : lift (some a) w = .ok a w := rfl
@[simp] theorem lift_none {α : Type} (w : W) : lift (none : Option α) w = .no := rfl

/-! ### data: equality, order, places -/
mutual
/-- made of none, bools, whole numbers, texts, tuples and lists alone -/
def D.pl : D → Bool
  | .non => true
  | .bl _ => true
  | .int _ => true
  | .str _ => true
  | .tup xs => plAll xs
  | .lst xs => plAll xs
  | _ => false
def plAll : List D → Bool
  | [] => true
  | x :: xs => D.pl x && plAll xs
end
mutual
def D.dep : D → Nat
  | .tup xs => depAll xs + 1
  | .lst xs => depAll xs + 1
  | _ => 0
def depAll : List D → Nat
  | [] => 0
  | x :: xs => max (D.dep x) (depAll xs)
end
mutual
def D.eqv : D → D → Bool
  | .non, .non => true
  | .bl a, .bl b => a == b
  | .bl a, .int j => (if a then 1 else 0) == j
  | .int i, .bl b => i == (if b then 1 else 0)
  | .int i, .int j => i == j
  | .str x, .str y => x == y
  | .lst xs, .lst ys => eqvAll xs ys
  | .tup xs, .tup ys => eqvAll xs ys
  | _, _ => false
def eqvAll : List D → List D → Bool
  | [], [] => true
  | x :: xs, y :: ys => D.eqv x y && eqvAll xs ys
  | _, _ => false
end
/-- == on plain data that is not too deep -/
def D.eqO (a b : D) : Option Bool := if a.pl && b.pl && decide (a.dep ≤ 60) && decide (b.dep ≤ 60) then some (D.eqv a b) else none
def isInts : List D → Bool
  | [] => true
  | .int _ :: r => isInts r
  | _ => false
def intL : List D → List Int
  | .int i :: r => i :: intL r
  | _ => []
def lexLt : List Int → List Int → Bool
  | [], [] => false
  | [], _ :: _ => true
  | _ :: _, [] => false
  | x :: xs, y :: ys => if x = y then lexLt xs ys else decide (x < y)
def ixN (n : Nat) (i : Int) : Option Nat :=
  if 0 ≤ i then (if i < n then some i.toNat else none) else if -(n : Int) ≤ i then some (i + n).toNat else none
def atI {α : Type} (xs : List α) (i : Int) : Option α := match ixN xs.length i with | some j => xs[j]? | none => none
def sIx (n d : Nat) : Option Int → Nat
  | none => d
  | some i => if i < 0 then (i + n).toNat else min i.toNat n
def cutL {α : Type} (xs : List α) (lo hi : Option Int) : List α := (xs.drop (sIx xs.length 0 lo)).take (sIx xs.length xs.length hi - sIx xs.length 0 lo)
/-- a key of a dict: an int -/
def D.key : D → Bool
  | .int _ => true
  | _ => false
def D.flat : D → Bool
  | .non => true | .bl _ => true | .int _ => true | .str _ => true
  | _ => false
def dGet : List (D × D) → D → Option D
  | [], _ => none
  | (k, v) :: r, x => if D.eqv k x then some v else dGet r x
def dHas : List (D × D) → D → Bool
  | [], _ => false
  | (k, _) :: r, x => D.eqv k x || dHas r x
def dPut (ks : List (D × D)) (k v : D) : List (D × D) :=
  if dHas ks k then ks.map fun p => if D.eqv p.1 k then (p.1, v) else p else ks ++ [(k, v)]
def fGet : List (String × D) → String → Option D
  | [], _ => none
  | (k, v) :: r, x => if k == x then some v else fGet r x

/-! ### operations -/
inductive BOp where | add | sub | mul | fdiv | mod | pow deriving DecidableEq
inductive COp where | eq | ne | lt | le | gt | ge | is | isNot | in_ | notIn deriving DecidableEq
def bits (i : Int) : Nat := i.natAbs.log2 + 1
def mulOk (a b : Int) : Bool := decide (a.natAbs < 18446744073709551616) || decide (b.natAbs < 18446744073709551616) || decide (bits a + bits b ≤ 100000000)
def binD : BOp → D → D → Option D
  | .add, .int a, .int b => some (.int (a + b))
  | .add, .tup a, .tup b => if a.length + b.length ≤ LINE then some (.tup (a ++ b)) else none
  | .add, .lst a, .lst b => if a.length + b.length ≤ LINE then some (.lst (a ++ b)) else none
  | .sub, .int a, .int b => some (.int (a - b))
  | .mul, .int a, .int b => if mulOk a b then some (.int (a * b)) else none
  | .mul, .lst a, .int b => if a.length * b.toNat ≤ LINE ∧ b < 4611686018427387904 ∧ -4611686018427387904 ≤ b then some (.lst (List.replicate b.toNat a).flatten) else none
  | .mul, .tup a, .int b => if a ≠ [] ∧ a.length ≤ 1000 ∧ 1 ≤ b ∧ b ≤ 1000 then some (.tup (List.replicate b.toNat a).flatten) else none
  | .fdiv, .int a, .int b => if b ≠ 0 ∧ bits b ≤ 9000 then some (.int (a.fdiv b)) else none
  | .mod, .int a, .int b => if b ≠ 0 then some (.int (a.fmod b)) else none
  | .pow, .int a, .int b => if 0 ≤ b ∧ (bits a : Int) * b ≤ 100000000 then some (.int (a ^ b.toNat)) else none
  | _, _, _ => none
def negD : D → Option D
  | .int a => some (.int (-a))
  | _ => none
/-- x in xs -/
def inAll (x : D) (xs : List D) : Option Bool := if x.pl && plAll xs && decide (x.dep ≤ 60) && decide (depAll xs ≤ 59) then some (xs.any fun y => D.eqv y x) else none
def inD (x : D) : D → Option Bool
  | .tup xs => if x.flat && xs.all D.flat then some (xs.any fun y => D.eqv y x) else none
  | .lst xs => inAll x xs
  | .dic kvs => if x.key then some (dHas kvs x) else none
  | _ => none
def D.isN : D → Bool
  | .non => true
  | _ => false
def cmpD : COp → D → D → Option Bool
  | .eq, a, b => D.eqO a b
  | .ne, a, b => (D.eqO a b).map (!·)
  | .lt, .int a, .int b => some (decide (a < b))
  | .lt, .tup a, .tup b => if isInts a && isInts b then some (lexLt (intL a) (intL b)) else none
  | .le, .int a, .int b => some (decide (a ≤ b))
  | .gt, .int a, .int b => some (decide (b < a))
  | .ge, .int a, .int b => some (decide (b ≤ a))
  | .is, a, .non => some a.isN
  | .isNot, a, .non => some (!a.isN)
  | .is, .bl a, .bl b => some (decide (a = b))
  | .isNot, .bl a, .bl b => some (!decide (a = b))
  | .in_, a, b => inD a b
  | .notIn, a, b => (inD a b).map (!·)
  | _, _, _ => none
inductive Ty where
  | int | bool | tuple | list | str
  | cls (c : String)
  deriving DecidableEq
def isiD : D → Ty → Option Bool
  | .int _, .int => some true | .bl _, .int => some true | .non, .int => some false | .str _, .int => some false | .tup _, .int => some false | .lst _, .int => some false
  | .int _, .bool => some false | .bl _, .bool => some true | .non, .bool => some false | .str _, .bool => some false | .tup _, .bool => some false | .lst _, .bool => some false
  | .int _, .tuple => some false | .bl _, .tuple => some false | .non, .tuple => some false | .str _, .tuple => some false | .tup _, .tuple => some true | .lst _, .tuple => some false
  | .int _, .str => some false | .bl _, .str => some false | .non, .str => some false | .str _, .str => some true | .tup _, .str => some false | .lst _, .str => some false
  | .int _, .list => some false | .bl _, .list => some false | .non, .list => some false | .str _, .list => some false | .tup _, .list => some false | .lst _, .list => some true
  | .obj c _, .cls d => if c = d then some true else none
  | _, _ => none
def ixD : D → D → Option D
  | .tup xs, .int i => atI xs i
  | .lst xs, .int i => atI xs i
  | .dic kvs, k => if k.key then dGet kvs k else none
  | _, _ => none
def slD : D → Option Int → Option Int → Option D
  | .tup xs, lo, hi => some (.tup (cutL xs lo hi))
  | .lst xs, lo, hi => some (.lst (cutL xs lo hi))
  | _, _, _ => none
def rvD : D → Option D
  | .tup xs => some (.tup xs.reverse)
  | .lst xs => some (.lst xs.reverse)
  | _ => none
def fldD : D → String → Option D
  | .obj _ fs, f => fGet fs f
  | _, _ => none

inductive BI where
  | len | abs | sum | int1 | tuple | list | min2 | max2 | minL | maxL | all | any | sorted | sortedR | gcd | index | count
  deriving DecidableEq
def items : D → Option (List D)
  | .tup xs => some xs
  | .lst xs => some xs
  | .scr ns => some (ns.map .int)
  | _ => none
def uItems : D → Option (List D)
  | .tup xs => some xs
  | .lst xs => some xs
  | _ => none
def lItems : D → Option (List D)
  | .lst xs => some xs
  | _ => none
def isBls : List D → Bool
  | [] => true
  | .bl _ :: r => isBls r
  | _ => false
def bls : List D → List Bool
  | .bl b :: r => b :: bls r
  | _ => []
def maxI : List Int → Option Int
  | [] => none
  | x :: xs => some (xs.foldl max x)
def minI : List Int → Option Int
  | [] => none
  | x :: xs => some (xs.foldl min x)
def insI (x : Int) : List Int → List Int
  | [] => [x]
  | y :: r => if x ≤ y then x :: y :: r else y :: insI x r
def sortI : List Int → List Int
  | [] => []
  | x :: r => insI x (sortI r)
def idxOf (x : D) : List D → Nat → Option Nat
  | [], _ => none
  | y :: r, k => if D.eqv y x then some k else idxOf x r (k + 1)
def biD : BI → List D → Option D
  | .len, [.tup xs] => some (.int xs.length)
  | .len, [.lst xs] => some (.int xs.length)
  | .len, [.scr ns] => some (.int ns.length)
  | .abs, [.int i] => some (.int i.natAbs)
  | .sum, [.lst xs] => if isInts xs then some (.int (intL xs).sum) else none
  | .sum, [.tup xs] => if isInts xs then some (.int (intL xs).sum) else none
  | .int1, [.int i] => some (.int i)
  | .int1, [.bl b] => some (.int (if b then 1 else 0))
  | .tuple, [.tup xs] => some (.tup xs)
  | .tuple, [.lst xs] => some (.tup xs)
  | .list, [.tup xs] => some (.lst xs)
  | .list, [.lst xs] => some (.lst xs)
  | .min2, [.int a, .int b] => some (.int (min a b))
  | .max2, [.int a, .int b] => some (.int (max a b))
  | .maxL, [.lst xs] => if isInts xs then (maxI (intL xs)).map .int else none
  | .minL, [.lst xs] => if isInts xs then (minI (intL xs)).map .int else none
  | .all, [.lst xs] => if isBls xs then some (.bl ((bls xs).all id)) else none
  | .any, [.lst xs] => if isBls xs then some (.bl ((bls xs).any id)) else none
  | .sorted, [.lst xs] => if isInts xs ∧ xs.length ≤ 1000 then some (.lst ((sortI (intL xs)).map .int)) else none
  | .sortedR, [.lst xs] => if isInts xs ∧ xs.length ≤ 1000 then some (.lst ((sortI (intL xs)).reverse.map .int)) else none
  | .gcd, [.int a, .int b] => some (.int ((Nat.gcd a.natAbs b.natAbs : Nat) : Int))
  | .index, [.lst xs, x] => if plAll xs && x.pl && decide (x.dep ≤ 60) && decide (depAll xs ≤ 59) then (idxOf x xs 0).map fun n => .int (n : Nat) else none
  | _, _ => none

/-! ### the language -/
inductive Pat where
  | n (i : Nat)
  | t (is : List Nat)

mutual
inductive E where
  | v (i : Nat)
  | c (d : D)
  | tup (es : List E)
  | lst (es : List E)
  | bin (o : BOp) (a b : E)
  | neg (a : E)
  | cmp (o : COp) (a b : E)
  | chain (o p : COp) (a b c : E)
  | and (a b : E)
  | or (a b : E)
  | not (a : E)
  | ite (c a b : E)
  | ix (a i : E)
  | sl (a : E) (lo hi : Option E)
  | fld (a : E) (f : String)
  | call (f : String) (es : List E)
  | bi (b : BI) (es : List E)
  | isi (a : E) (t : Ty)
  | comp (p : Pat) (it : It) (e : E)
  | compIf (p : Pat) (it : It) (c e : E)
  | comp2 (p : Pat) (it : It) (q : Pat) (jt : It) (e : E)
  | dic (k v : E)
  | dic0
  | star1 (a b : E)
  | stg (i : Nat) (k : String)
  | gne (i : Nat)
  | gpop (i : Nat)
  | idx (a b : E)
  | rsl (a : E)
  | maxK (f : String) (a : E)
inductive It where
  | seq (e : E)
  | range (a b : E)
  | down (a b : E)
  | enum (e : E)
  | zip (a b : E)
  | rev (e : E)
end

def dInts (lo : Int) : Nat → List D
  | 0 => []
  | n + 1 => .int lo :: dInts (lo + 1) n
def dDown (hi : Int) : Nat → List D
  | 0 => []
  | n + 1 => .int hi :: dDown (hi - 1) n
def rangeL (a b : D) : Option (List D) := match a, b with
  | .int i, .int j => if -4611686018427387904 ≤ i ∧ i < 4611686018427387904 ∧ -4611686018427387904 ≤ j ∧ j < 4611686018427387904 then some (dInts i (j - i).toNat) else none
  | _, _ => none
def downL (a b : D) : Option (List D) := match a, b with
  | .int i, .int j => if -4611686018427387904 ≤ i ∧ i < 4611686018427387904 ∧ -4611686018427387904 ≤ j ∧ j < 4611686018427387904 then some (dDown i (i - j).toNat) else none
  | _, _ => none
def enumL (lo : Int) : List D → List D
  | [] => []
  | x :: r => .tup [.int lo, x] :: enumL (lo + 1) r
def zipL : List D → List D → List D
  | x :: r, y :: s => .tup [x, y] :: zipL r s
  | _, _ => []
def zipD : D → D → Option (List D)
  | .lst a, .lst b => some (zipL a b)
  | .tup a, .tup b => some (zipL a b)
  | _, _ => none

def isMut : D → Bool
  | .lst _ => true
  | .dic _ => true
  | _ => false
def Pat.is : Pat → List Nat
  | .n i => [i]
  | .t is => is
abbrev Env := List (Option D)
abbrev Cl := String → List D → W → R D
def setAll : Env → List Nat → List D → Env
  | env, i :: is, d :: ds => setAll (env.set i (some d)) is ds
  | env, _, _ => env
def kill (env : Env) : List Nat → Env
  | [] => env
  | i :: is => kill (env.set i none) is
def bindP (p : Pat) (d : D) (env : Env) : Option Env := match p with
  | .n i => some (env.set i (some d))
  | .t is => match d with
    | .tup ds => if ds.length = is.length then some (setAll env is ds) else none
    | _ => none
/-- all items, one by one -/
def mapL (f : D → W → R D) : List D → W → R (List D)
  | [], w => .ok [] w
  | x :: xs, w => (f x w).bind fun y w => (mapL f xs w).bind fun ys w => .ok (y :: ys) w
def filtL (f : D → W → R (Option D)) : List D → W → R (List D)
  | [], w => .ok [] w
  | x :: xs, w => (f x w).bind fun y w => (filtL f xs w).bind fun ys w => .ok (match y with | some z => z :: ys | none => ys) w
def catL (f : D → W → R (List D)) : List D → W → R (List D)
  | [], w => .ok [] w
  | x :: xs, w => (f x w).bind fun y w => (catL f xs w).bind fun ys w => .ok (y ++ ys) w
/-- the first of the greatest by a key: b so far, k its key -/
def maxKL (f : D → W → R D) : D → Int → List D → W → R D
  | b, _, [], w => .ok b w
  | b, k, x :: xs, w => (f x w).bind fun y w => match y with
    | .int n => if k < n then maxKL f x n xs w else maxKL f b k xs w
    | _ => .no
def maxKD (f : D → W → R D) (x : D) (w : W) : R D := match x with
  | .lst (y :: ys) => (f y w).bind fun z w => match z with
    | .int n => maxKL f y n ys w
    | _ => .no
  | _ => .no
def look (env : Env) (i : Nat) : Option D := match env[i]? with | some (some d) => some d | _ => none
def cond {α : Type} (d : D) (a b : R α) : R α := match d with | .bl true => a | .bl false => b | _ => .no
@[simp] theorem cond_true {α : Type} (a b : R α) : cond (.bl true) a b = a := rfl
@[simp] theorem cond_false {α : Type} (a b : R α) : cond (.bl false) a b = b := rfl
theorem cond_bl {α : Type} (t : Bool) (a b : R α) : cond (.bl t) a b = if t then a else b := by cases t <;> rfl
def fits (xs : List D) (w : W) : R D := if xs.length ≤ LINE then .ok (.lst xs) w else .no
def bdI : D → Option (Option Int)
  | .int i => some (some i)
  | _ => none

/-- what is read of the draws' state -/
def stGet (st : St) (k : String) : Option D :=
  if k = "left" then some (.int st.left) else if k = "turn" then some (.int st.turn) else if k = "cells" then some (.lst (st.cells.map .int)) else none
def stSet (st : St) (k : String) (d : D) : Option St := match d with
  | .int i => if k = "left" then some { st with left := i } else if k = "turn" then some { st with turn := i } else none
  | _ => none
mutual
def evE (C : Cl) : E → Env → W → R D
  | .v i, env, w => lift (look env i) w
  | .c d, _, w => .ok d w
  | .tup es, env, w => (evEs C es env w).bind fun ds w => .ok (.tup ds) w
  | .lst es, env, w => (evEs C es env w).bind fun ds w => .ok (.lst ds) w
  | .bin o a b, env, w => (evE C a env w).bind fun x w => (evE C b env w).bind fun y w => lift (binD o x y) w
  | .neg a, env, w => (evE C a env w).bind fun x w => lift (negD x) w
  | .cmp o a b, env, w => (evE C a env w).bind fun x w => (evE C b env w).bind fun y w => lift ((cmpD o x y).map .bl) w
  | .chain o p a b c, env, w => (evE C a env w).bind fun x w => (evE C b env w).bind fun y w => (lift ((cmpD o x y).map .bl) w).bind fun t w =>
      cond t ((evE C c env w).bind fun z w => lift ((cmpD p y z).map .bl) w) (.ok (.bl false) w)
  | .and a b, env, w => (evE C a env w).bind fun x w => cond x (evE C b env w) (.ok (.bl false) w)
  | .or a b, env, w => (evE C a env w).bind fun x w => cond x (.ok (.bl true) w) (evE C b env w)
  | .not a, env, w => (evE C a env w).bind fun x w => cond x (.ok (.bl false) w) (.ok (.bl true) w)
  | .ite c a b, env, w => (evE C c env w).bind fun x w => cond x (evE C a env w) (evE C b env w)
  | .ix a i, env, w => (evE C a env w).bind fun x w => (evE C i env w).bind fun y w => lift (ixD x y) w
  | .sl a none none, env, w => (evE C a env w).bind fun x w => lift (slD x none none) w
  | .sl a (some l) none, env, w => (evE C a env w).bind fun x w => (evE C l env w).bind fun y w => lift ((bdI y).bind fun lo => slD x lo none) w
  | .sl a none (some h), env, w => (evE C a env w).bind fun x w => (evE C h env w).bind fun y w => lift ((bdI y).bind fun hi => slD x none hi) w
  | .sl a (some l) (some h), env, w => (evE C a env w).bind fun x w => (evE C l env w).bind fun y w => (evE C h env w).bind fun z w => lift ((bdI y).bind fun lo => (bdI z).bind fun hi => slD x lo hi) w
  | .fld a f, env, w => (evE C a env w).bind fun x w => lift (fldD x f) w
  | .call f es, env, w => (evEs C es env w).bind fun ds w => C f ds w
  | .bi b es, env, w => (evEs C es env w).bind fun ds w => lift (biD b ds) w
  | .isi a t, env, w => (evE C a env w).bind fun x w => lift ((isiD x t).map .bl) w
  | .comp p it e, env, w => (evI C it env w).bind fun xs w => (mapL (fun x w => match bindP p x env with | some env' => evE C e env' w | none => .no) xs w).bind fun ys w => fits ys w
  | .compIf p it c e, env, w => (evI C it env w).bind fun xs w => (filtL (fun x w => match bindP p x env with
      | some env' => (evE C c env' w).bind fun t w => cond t ((evE C e env' w).bind fun y w => .ok (some y) w) (.ok none w)
      | none => .no) xs w).bind fun ys w => fits ys w
  | .comp2 p it q jt e, env, w => (evI C it env w).bind fun xs w => (catL (fun x w => match bindP p x (kill env q.is) with
      | some env' => (evI C jt env' w).bind fun zs w => mapL (fun z w => match bindP q z env' with | some env'' => evE C e env'' w | none => .no) zs w
      | none => .no) xs w).bind fun ys w => fits ys w
  | .dic k v, env, w => (evE C k env w).bind fun x w => (evE C v env w).bind fun y w => if x.key then .ok (.dic [(x, y)]) w else .no
  | .dic0, _, w => .ok (.dic []) w
  | .star1 a b, env, w => (evE C a env w).bind fun x w => (evE C b env w).bind fun y w => lift (match x with | .tup xs => (if xs.length + 1 ≤ LINE then some (.tup (xs ++ [y])) else none) | _ => none) w
  | .stg i k, env, w => (lift (look env i) w).bind fun x w => match x, w with
    | .tok, some st => lift (stGet st k) (some st)
    | _, _ => .no
  | .gne i, env, w => (lift (look env i) w).bind fun x w => match x, w with
    | .tok, some st => .ok (.bl (!st.great.isEmpty)) (some st)
    | _, _ => .no
  | .gpop i, env, w => (lift (look env i) w).bind fun x w => match x, w with
    | .tok, some st => (match st.great with | g :: r => .ok (.int g) (some { st with great := r }) | [] => .no)
    | _, _ => .no
  | .idx a b, env, w => (evE C a env w).bind fun x w => (evE C b env w).bind fun y w => lift (biD .index [x, y]) w
  | .rsl a, env, w => (evE C a env w).bind fun x w => lift (rvD x) w
  | .maxK f a, env, w => (evE C a env w).bind fun x w => maxKD (fun y w => C f [y] w) x w
def evEs (C : Cl) : List E → Env → W → R (List D)
  | [], _, w => .ok [] w
  | e :: es, env, w => (evE C e env w).bind fun x w => (evEs C es env w).bind fun xs w => .ok (x :: xs) w
def evI (C : Cl) : It → Env → W → R (List D)
  | .seq e, env, w => (evE C e env w).bind fun x w => lift (items x) w
  | .range a b, env, w => (evE C a env w).bind fun x w => (evE C b env w).bind fun y w => lift (rangeL x y) w
  | .down a b, env, w => (evE C a env w).bind fun x w => (evE C b env w).bind fun y w => lift (downL x y) w
  | .enum e, env, w => (evE C e env w).bind fun x w => lift ((uItems x).map (enumL 0)) w
  | .zip a b, env, w => (evE C a env w).bind fun x w => (evE C b env w).bind fun y w => lift (zipD x y) w
  | .rev e, env, w => (evE C e env w).bind fun x w => lift ((uItems x).map List.reverse) w
end

/-! ### statements -/
inductive S where
  | asg (i : Nat) (e : E)
  | asgO (i : Nat) (e : E)
  | asg2 (i : Nat) (e : E)
  | parO (is ns : List Nat) (es : List E)
  | unpack (is : List Nat) (e : E)
  | par (is : List Nat) (es : List E)
  | aug (i : Nat) (o : BOp) (e : E)
  | setix (i : Nat) (k e : E)
  | augix (i : Nat) (k : E) (o : BOp) (e : E)
  | augix2 (i : Nat) (k l : E) (o : BOp) (e : E)
  | append (i : Nat) (e : E)
  | extend (i : Nat) (e : E)
  | popTo (t i : Nat) (k : Option E)
  | popOff (i : Nat) (k : Option E)
  | popApp (j i : Nat) (k : Option E)
  | ex (e : E)
  | ifs (c : E) (a b : List S)
  | while (c : E) (b : List S)
  | for (p : Pat) (it : It) (b : List S)
  | ret (e : E)
  | retN
  | cont
  | brk
  | raise (c : String) (es : List E)
  | setf (i : Nat) (f : String) (e : E)
  | kill (is : List Nat)
  | frz (is : List Nat)
  | setst (i : Nat) (k : String) (e : E)
  | retSt (i : Nat) (e : E)

/-- level 0 anything, level 1 a list or a dict -/
def mutsOk : List Nat → List D → Bool
  | [], [] => true
  | 0 :: ns, _ :: ds => mutsOk ns ds
  | 1 :: ns, d :: ds => isMut d && mutsOk ns ds
  | _, _ => false
inductive Fl where
  | next (env : Env)
  | ret (d : D)
  | brk (env : Env)
  | cont (env : Env)

def setD (x k v : D) : Option D := match x with
  | .lst xs => match k with
    | .int i => (ixN xs.length i).map fun j => .lst (xs.set j v)
    | _ => none
  | .dic kvs => if k.key && decide (kvs.length < LINE) then some (.dic (dPut kvs k v)) else none
  | _ => none
/-- x op= y of ints -/
def augD : BOp → D → D → Option D
  | .add, .int a, .int b => some (.int (a + b))
  | .sub, .int a, .int b => some (.int (a - b))
  | _, _, _ => none
def getL (x j : D) : Option D := match x, j with
  | .lst xs, .int i => atI xs i
  | _, _ => none
def getN (x j : D) : Option D := match x, j with
  | .lst xs, .int i => if 0 ≤ i then xs[i.toNat]? else none
  | _, _ => none
def setN (x j v : D) : Option D := match x, j with
  | .lst xs, .int i => if 0 ≤ i then some (.lst (xs.set i.toNat v)) else none
  | _, _ => none
def allMut : D → Bool
  | .lst xs => xs.all isMut
  | _ => false
def appD (x v : D) : Option D := match x with
  | .lst xs => if xs.length < LINE then some (.lst (xs ++ [v])) else none
  | _ => none
def extD (x v : D) : Option D := match x, v with
  | .lst xs, .lst ys => if xs.length + ys.length ≤ LINE then some (.lst (xs ++ ys)) else none
  | _, _ => none
/-- the popped item and the rest -/
def popD (x : D) (k : Option D) : Option (D × D) := match x with
  | .lst xs => match k with
    | none => if xs.length = 0 then none else (xs[xs.length - 1]?).map fun y => (y, .lst xs.dropLast)
    | some (.int i) => if LINE < xs.length then none else (ixN xs.length i).bind fun j => (xs[j]?).map fun y => (y, .lst (xs.eraseIdx j))
    | some _ => none
  | _ => none
def putF (f : String) (v : D) : List (String × D) → List (String × D)
  | [] => [(f, v)]
  | (g, x) :: r => if g = f then (g, v) :: r else (g, x) :: putF f v r
def setfD (x : D) (f : String) (v : D) : Option D := match x with
  | .obj c fs => if fs.length < 1000 then some (.obj c (putF f v fs)) else none
  | _ => none
def optE (C : Cl) : Option E → Env → W → R (Option D)
  | none, _, w => .ok none w
  | some e, env, w => (evE C e env w).bind fun d w => .ok (some d) w

/-- what stands behind a statement: go on from next, hand on the others -/
def thenS (r : R Fl) (f : Env → W → R Fl) : R Fl := r.bind fun fl w => match fl with
  | .next env => f env w
  | .ret d => .ok (.ret d) w
  | .brk env => .ok (.brk env) w
  | .cont env => .ok (.cont env) w
@[simp] theorem thenS_next (env : Env) (w : W) (f : Env → W → R Fl) : thenS (.ok (.next env) w) f = f env w := rfl
@[simp] theorem thenS_ret (d : D) (w : W) (f : Env → W → R Fl) : thenS (.ok (.ret d) w) f = .ok (.ret d) w := rfl
@[simp] theorem thenS_brk (env : Env) (w : W) (f : Env → W → R Fl) : thenS (.ok (.brk env) w) f = .ok (.brk env) w := rfl
@[simp] theorem thenS_cont (env : Env) (w : W) (f : Env → W → R Fl) : thenS (.ok (.cont env) w) f = .ok (.cont env) w := rfl
@[simp] theorem thenS_ex (c : String) (p : List D) (w : W) (f : Env → W → R Fl) : thenS (.ex c p w) f = .ex c p w := rfl
@[simp] theorem thenS_no (f : Env → W → R Fl) : thenS .no f = .no := rfl
/-- what stands behind a loop's body: go on, or end the loop -/
def turnS (r : R Fl) (f : Env → W → R Fl) : R Fl := r.bind fun fl w => match fl with
  | .next env => f env w
  | .cont env => f env w
  | .ret d => .ok (.ret d) w
  | .brk env => .ok (.next env) w
@[simp] theorem turnS_next (env : Env) (w : W) (f : Env → W → R Fl) : turnS (.ok (.next env) w) f = f env w := rfl
@[simp] theorem turnS_cont (env : Env) (w : W) (f : Env → W → R Fl) : turnS (.ok (.cont env) w) f = f env w := rfl
@[simp] theorem turnS_ret (d : D) (w : W) (f : Env → W → R Fl) : turnS (.ok (.ret d) w) f = .ok (.ret d) w := rfl
@[simp] theorem turnS_brk (env : Env) (w : W) (f : Env → W → R Fl) : turnS (.ok (.brk env) w) f = .ok (.next env) w := rfl
@[simp] theorem turnS_ex (c : String) (p : List D) (w : W) (f : Env → W → R Fl) : turnS (.ex c p w) f = .ex c p w := rfl
@[simp] theorem turnS_no (f : Env → W → R Fl) : turnS .no f = .no := rfl

def forL (b : D → Env → W → R Fl) : List D → Env → W → R Fl
  | [], env, w => .ok (.next env) w
  | x :: xs, env, w => turnS (b x env w) fun env w => forL b xs env w
/-- n turns of a while at most -/
def whileN (c : Env → W → R D) (b : Env → W → R Fl) : Nat → Env → W → R Fl
  | 0, _, _ => .no
  | n + 1, env, w => (c env w).bind fun t w => cond t (turnS (b env w) fun env w => whileN c b n env w) (.ok (.next env) w)
open Classical in
noncomputable def whileL (c : Env → W → R D) (b : Env → W → R Fl) (env : Env) (w : W) : R Fl :=
  if h : ∃ n, whileN c b n env w ≠ .no then whileN c b h.choose env w else .no

mutual
noncomputable def exS (C : Cl) : S → Env → W → R Fl
  | .asg i e, env, w => (evE C e env w).bind fun d w => .ok (.next (env.set i (some d))) w
  | .asgO i e, env, w => (evE C e env w).bind fun d w => if isMut d then .ok (.next (env.set i (some d))) w else .no
  | .asg2 i e, env, w => (evE C e env w).bind fun d w => if allMut d then .ok (.next (env.set i (some d))) w else .no
  | .parO is ns es, env, w => (evEs C es env w).bind fun ds w => if ds.length = is.length ∧ mutsOk ns ds = true then .ok (.next (setAll env is ds)) w else .no
  | .unpack is e, env, w => (evE C e env w).bind fun d w => match uItems d with
      | some ds => if ds.length = is.length then .ok (.next (setAll env is ds)) w else .no
      | none => .no
  | .par is es, env, w => (evEs C es env w).bind fun ds w => if ds.length = is.length then .ok (.next (setAll env is ds)) w else .no
  | .aug i o e, env, w => (lift (look env i) w).bind fun x w => (evE C e env w).bind fun y w => (lift (augD o x y) w).bind fun z w => .ok (.next (env.set i (some z))) w
  | .setix i k e, env, w => (evE C e env w).bind fun y w => (lift (look env i) w).bind fun x w => (evE C k env w).bind fun j w => (lift (setD x j y) w).bind fun z w => .ok (.next (env.set i (some z))) w
  | .augix i k o e, env, w => (lift (look env i) w).bind fun x w => (evE C k env w).bind fun j w => (lift (ixD x j) w).bind fun u w => (evE C e env w).bind fun y w =>
      (lift (binD o u y) w).bind fun v w => (lift (setD x j v) w).bind fun z w => .ok (.next (env.set i (some z))) w
  | .augix2 i k l o e, env, w => (lift (look env i) w).bind fun x w => (evE C k env w).bind fun j w => (lift (getL x j) w).bind fun r w => (evE C l env w).bind fun m w => (lift (getN r m) w).bind fun u w =>
      (evE C e env w).bind fun y w => (lift (augD o u y) w).bind fun v w => (lift (setN r m v) w).bind fun r' w => (lift (setD x j r') w).bind fun z w => .ok (.next (env.set i (some z))) w
  | .append i e, env, w => (lift (look env i) w).bind fun x w => (evE C e env w).bind fun y w => (lift (appD x y) w).bind fun z w => .ok (.next (env.set i (some z))) w
  | .extend i e, env, w => (lift (look env i) w).bind fun x w => (evE C e env w).bind fun y w => (lift (extD x y) w).bind fun z w => .ok (.next (env.set i (some z))) w
  | .popTo t i k, env, w => (lift (look env i) w).bind fun x w => (optE C k env w).bind fun j w => (lift (popD x j) w).bind fun p w => .ok (.next ((env.set i (some p.2)).set t (some p.1))) w
  | .popOff i k, env, w => (lift (look env i) w).bind fun x w => (optE C k env w).bind fun j w => (lift (popD x j) w).bind fun p w => .ok (.next (env.set i (some p.2))) w
  | .popApp a i k, env, w => (lift (look env a) w).bind fun y w => (lift (look env i) w).bind fun x w => (optE C k env w).bind fun j w => (lift (popD x j) w).bind fun p w =>
      (lift (appD y p.1) w).bind fun z w => .ok (.next ((env.set i (some p.2)).set a (some z))) w
  | .ex e, env, w => (evE C e env w).bind fun _ w => .ok (.next env) w
  | .ifs c a b, env, w => (evE C c env w).bind fun t w => cond t (exSs C a env w) (exSs C b env w)
  | .while c b, env, w => whileL (fun env w => evE C c env w) (fun env w => exSs C b env w) env w
  | .for p it b, env, w => (evI C it env w).bind fun xs w => forL (fun x env w => match bindP p x env with | some env' => exSs C b env' w | none => .no) xs env w
  | .ret e, env, w => (evE C e env w).bind fun d w => .ok (.ret d) w
  | .retN, _, w => .ok (.ret .non) w
  | .cont, env, w => .ok (.cont env) w
  | .brk, env, w => .ok (.brk env) w
  | .raise c es, env, w => (evEs C es env w).bind fun ds w => .ex c ds w
  | .setf i f e, env, w => (evE C e env w).bind fun y w => (lift (look env i) w).bind fun x w => (lift (setfD x f y) w).bind fun z w => .ok (.next (env.set i (some z))) w
  | .kill is, env, w => .ok (.next (kill env is)) w
  | .frz _, env, w => .ok (.next env) w
  | .setst i k e, env, w => (evE C e env w).bind fun y w => (lift (look env i) w).bind fun x w => match x, w with
    | .tok, some st => (lift (stSet st k y) (some st)).bind fun st' _ => .ok (.next env) (some st')
    | _, _ => .no
  | .retSt i e, env, w => (lift (look env i) w).bind fun x w => (evE C e env w).bind fun y w => match x, y, w with
    | .lst xs, .lst ys, none => if isInts xs ∧ isInts ys then .ok (.ret .tok) (some { great := intL xs, cells := intL ys, left := 0, turn := 0 }) else .no
    | _, _, _ => .no
noncomputable def exSs (C : Cl) : List S → Env → W → R Fl
  | [], env, w => .ok (.next env) w
  | s :: ss, env, w => thenS (exS C s env w) fun env w => exSs C ss env w
end

/-! ### defs, the table -/
structure Fn where
  np : Nat
  nl : Nat
  cls : Option String := none
  body : List S
def start (f : Fn) (ds : List D) : Env := ds.map some ++ List.replicate (f.nl - ds.length) none
def endD (r : R Fl) : R D := r.bind fun fl w => match fl with
  | .ret d => .ok d w
  | .next _ => .ok .non w
  | _ => .no
@[simp] theorem endD_ret (d : D) (w : W) : endD (.ok (.ret d) w) = .ok d w := rfl
@[simp] theorem endD_next (env : Env) (w : W) : endD (.ok (.next env) w) = .ok .non w := rfl
@[simp] theorem endD_ex (c : String) (p : List D) (w : W) : endD (.ex c p w) = .ex c p w := rfl
@[simp] theorem endD_no : endD .no = .no := rfl
/-- a class's making: slot 0 is the new object -/
def endO (r : R Fl) : R D := r.bind fun fl w => match fl with
  | .next env => lift (look env 0) w
  | _ => .no

/-! ### draws -/
def blendOne (prime turn : Int) (cells : List Int) : Int :=
  (((cells.foldl (fun b c => (b * 69621 + c + turn) % prime) (40692 * turn + prime / 61)) ^ 5) % prime)
def blended (s : St) : Int × St :=
  let turn := s.turn + 1
  (((blendOne 2147483587 turn s.cells) * 2147483647 + blendOne 2147483563 turn s.cells) * 2147483647 + blendOne 2147483549 turn s.cells, { s with turn := turn })
def drawn (s : St) (n : Int) : Int × St :=
  let p := if s.left = 0 then (match s.great with | g :: r => (g, { s with great := r }) | [] => blended s) else (s.left, s)
  (p.1 % n, { p.2 with left := p.1 / n })
def begun (ns : List Int) : St :=
  { great := (ns.filter fun c => decide (1000000000000000000 ≤ (c.natAbs : Int))).map fun c => (c.natAbs : Int) - 1000000000000000000, cells := ns.map fun c => (c.natAbs : Int), left := 0, turn := 0 }
abbrev Tbl := String → Option Fn
noncomputable def callN (P : Tbl) : Nat → Cl
  | 0 => fun _ _ _ => .no
  | k + 1 => fun f ds w => match P f with
    | some fn => match fn.cls with
      | none => if ds.length = fn.np then endD (exSs (callN P k) fn.body (start fn ds) w) else .no
      | some c => if ds.length + 1 = fn.np then endO (exSs (callN P k) fn.body (start fn (.obj c [] :: ds)) w) else .no
    | none => .no
end Rp
end

section
set_option Elab.async false
set_option linter.all false
set_option maxRecDepth 100000
set_option maxHeartbeats 1000000
/-! RpX1: enumerate over a tuple. -/
namespace RpS
open PySem PySem.Spec PyProof.Rows L2
theorem enum_newT (l : Addr) (items : Array Value) :
    Meets (Builtin.«enumerate.__new__» ⟨[.type "enumerate", .ref l], []⟩) (fun _ R s => s.heap.IsTuple l items ∧
      R (.ok (.ret (.ref (s.heap.push { cls := .type "tuple_iterator", data := .fields #[.ref l, .int 0 0] }).objs.size)))
        { s with heap := (s.heap.push { cls := .type "tuple_iterator", data := .fields #[.ref l, .int 0 0] }).push { cls := .type "enumerate", data := .fields #[.none, .bool false, .ref s.heap.objs.size, rawInt 0, .none, .none] } }) :=
  .of_wp fun prog w A R s h => by
    obtain ⟨hp, g, d, tk, os⟩ := s; obtain ⟨hl, h⟩ := h
    have hsub := sub_enumerate
    have q1 : ∀ {A' : Around} {E : Value → Shared → Prop} {Q : Value → Shared → Prop}, Q (.ref hp.objs.size) ⟨hp.push { cls := .type "tuple_iterator", data := .fields #[.ref l, .int 0 0] }, g, d, tk, os⟩ → wpAny (model prog w) A' (pyIter (.ref l)) Q E ⟨hp, g, d, tk, os⟩ :=
      fun q => (begins_tuple l items).iter prog w _ _ ⟨hp, g, d, tk, os⟩ _ hl q
    wp_walk using q1
    refine wpAny_stack_any fun st => wpAny_pure ?_
    split
    · rename_i c _ _ _ _ _
      cases (c == Value.type "enumerate")
      · wp_walk using q1
        exact ⟨_, rfl, h⟩
      · wp_walk using q1
        exact ⟨_, rfl, h⟩
    · wp_walk using q1
      exact ⟨_, rfl, h⟩
section
variable {prog : Program} {w : World} {A : Around} {E : Value → Shared → Prop} {s : Shared}
theorem call_enumT {l : Addr} {items : Array Value} {Q : Value → Shared → Prop} (hL : s.heap.IsTuple l items)
    (h : ∀ h', IsEnum h' (s.heap.objs.size + 1) s.heap.objs.size 0 .none → h'.IsTupleIter s.heap.objs.size l 0 → h'.objs.size = s.heap.objs.size + 2 →
      (∀ b o, s.heap.get? b = some o → h'.get? b = some o) → Q (.ref (s.heap.objs.size + 1)) { s with heap := h' }) :
    wpAny (model prog w) A (call (.type "enumerate") [.ref l]) Q E s := by
  refine callType_new F.called_enumerate (by decide) (F.typeCall_enumerate_1 _) (F.newCall_enumerate_1 _) (fun obj => F.args_object_init_2 obj _) F.entry_enumerate_new
    (enum_newT l items) ⟨hL, ?_⟩
  have hz : (s.heap.push { cls := .type "tuple_iterator", data := .fields #[.ref l, .int 0 0] }).objs.size = s.heap.objs.size + 1 := Heap.size_push ..
  show _ ∧ _
  rw [hz]
  have he : IsEnum ((s.heap.push { cls := .type "tuple_iterator", data := .fields #[.ref l, .int 0 0] }).push
      { cls := .type "enumerate", data := .fields #[.none, .bool false, .ref s.heap.objs.size, rawInt 0, .none, .none] }) (s.heap.objs.size + 1) s.heap.objs.size 0 .none := by
    have := Heap.get?_push_size (s.heap.push { cls := .type "tuple_iterator", data := .fields #[.ref l, .int 0 0] })
      (o := { cls := .type "enumerate", data := .fields #[.none, .bool false, .ref s.heap.objs.size, rawInt 0, .none, .none] }) rfl
    rw [hz] at this; exact this
  refine ⟨⟨_, he, rfl⟩, h _ he ⟨_, Heap.get?_push_of_some _ (Heap.get?_push_size _ rfl), rfl, rfl⟩ (by rw [Heap.size_push, hz]) fun b o x => Heap.get?_push_of_some _ (Heap.get?_push_of_some _ x)⟩
end
/-- the tuple at a, each item in a new pair -/
def IteT (K : PySem.W.Frag) (a : Addr) : L2.It :=
  ⟨fun i H => ∃ (xs : List V) (x : V), SqT K H a xs ∧ xs[i]? = some x, fun i H v H' => ∃ T x, v = .ref T ∧ H T = none ∧ H' = upd H T (.tup [.int (i : Nat), x]) ∧ ∀ xs, SqT K H a xs → xs[i]? = some x, fun i H => ∃ xs : List V, SqT K H a xs ∧ xs.length ≤ i⟩
theorem turn_enumT {P : Program} {w : World} {K : PySem.W.Frag} {elts : List Expr} {kk : Nat} {tpos : Pos} (a e it : Addr) :
    Turn P w K (.Tuple elts kk tpos) (IteT K a) [e, it] e (fun i h => (∃ old, IsEnum h e it ((i : Nat) : Int) old) ∧ h.IsTupleIter it a i ∧ e ≠ it ∧ e ≠ a ∧ a ≠ it) where
  mem := by simp
  obj := fun i h st b hb => by
    obtain ⟨⟨old, he⟩, ⟨o, ho, hc, hd⟩, _⟩ := st
    have e' : b = e ∨ b = it := by simpa using hb
    rcases e' with z | z
    · rw [z]; exact ⟨_, he, fun v q => nomatch q⟩
    · rw [z]; exact ⟨o, ho, fun v q => by rw [hd] at q; cases q⟩
  keep := fun i h h' st k => let ⟨⟨old, he⟩, hi, hne⟩ := st; ⟨⟨old, k e (by simp) _ he⟩, hi.at fun o q => k it (by simp) o q, hne⟩
  item := by
    intro X hP hw hK hc i pins s σ H E I hf st hg
    subst hP hw hK
    obtain ⟨⟨old, he⟩, hit, hne, hea, hai⟩ := st
    obtain ⟨xs, x, hq, hx⟩ := hg
    obtain ⟨its, rv, p, hz⟩ := I.tuple hq
    obtain ⟨u, hu, ru⟩ := rv.get hx
    have hel : e < s.heap.objs.size := Heap.lt_size he
    have hil : it < s.heap.objs.size := by obtain ⟨_, q, _⟩ := hit; exact Heap.lt_size q
    have hlt : i < its.toArray.size := by
      have := (List.getElem?_eq_some_iff.mp hu).1
      simpa using this
    refine wpAny_pyNext_enum_itemD (Draws.tuple (prog := X.prog) (w := X.w) (A := X.A.in1) (show X.A.handled = none from I.ok.hd hc) it a hai its.toArray) he ⟨hit, (show s.heap.IsTuple a its.toArray from p)⟩ hlt hne (by simp [hne, hea]) fun u' h' tk hP ho st' hT hsz hk => ?_
    obtain ⟨hit', htu'⟩ := st'
    have hu' : u' = u := by
      have : its.toArray[i]? = some u := by simpa using hu
      rw [this] at hP; exact (Option.some.inj hP).symm
    subst hu'
    refine ⟨_, rfl, wpAny_letOwnedTupleGo_enum (s := { s with heap := h', toks := tk + 1 }) ho fun h'' he' sb => ?_⟩
    have hT2 : h''.get? s.heap.objs.size = some { cls := .type "tuple", data := .seq #[.int i tk, u'] } := (sb.2 _ (Nat.ne_of_gt hel)).trans hT
    have new : ObjOk X.prog X.w (upd H s.heap.objs.size (.tup [.int (i : Nat), x])) h'' s.heap.objs.size (.tup [.int (i : Nat), x]) :=
      ⟨by show 2 ≤ sizeLine; decide, [.int i tk, u'], .cons ⟨_, rfl⟩ (.cons ru .nil), ⟨_, hT2, rfl, _, rfl⟩⟩
    have I1 : Inv X pins σ (upd H s.heap.objs.size (.tup [.int (i : Nat), x])) { s with heap := h'', toks := tk + 1 } :=
      I.turnedNew (t' := tk + 1) (ch := [e, it]) (fun b ob hb q => (sb.2 b (fun z => hb (by simp [z]))).trans (hk b ob (fun z => hb (by simp [z])) (fun z => hb (by simp [z])) q)) hf (Nat.le_refl _) new
    refine ⟨.ref s.heap.objs.size, _, I1, rfl, ⟨_, x, rfl, I.hok.fresh (Nat.le_refl _), rfl, fun ys hy => by rw [I.tuple_inj hy hq]; exact hx⟩, ⟨⟨u', ?_⟩, hit'.at fun o q => (sb.2 it (Ne.symm hne)).trans q, hne, hea, hai⟩, fun b hb => ?_⟩
    · have e1 : ((i + 1 : Nat) : Int) = (i : Int) + 1 := by omega
      rw [e1]; exact he'
    · have hb' : b < s.heap.objs.size := by
        have e' : b = e ∨ b = it := by simpa using hb
        rcases e' with z | z
        · rw [z]; exact hel
        · rw [z]; exact hil
      rw [upd_ne (Nat.ne_of_lt hb')]
      exact (hf b hb).1
  done := by
    intro X hP hw hK hc i pins s σ H E I hf st hg
    subst hP hw hK
    obtain ⟨⟨old, he⟩, hit, hne, hea, hai⟩ := st
    obtain ⟨xs, hq, hx⟩ := hg
    obtain ⟨its, rv, p, hz⟩ := I.tuple hq
    obtain ⟨f0, f1, f2, f3, f4, f5⟩ := hf it (by simp)
    have hl := rv.length
    have D := Draws.tuple (prog := X.prog) (w := X.w) (A := X.A.in1) (show X.A.handled = none from I.ok.hd hc) it a hai its.toArray
    have hT : s.TypeIs (.ref e) "enumerate" := ⟨_, he, rfl⟩
    unfold pyNext
    refine wpAny_bind (wpAny_attempt (wpAny_callSpecial?_slot (name := Str.ofString "__next__") hT F.slot_enumerate_next
      (wpAny_call_entry F.slot_enumerate_next hT F.entry_enumerate_next ?_ (F.args_enumerate_next_1 _))))
    show wpAny _ _ (field (.ref e) 2 >>= _) _ _ _
    refine wpAny_bind (wpAny_field he rfl (x := .ref it) rfl ?_)
    refine wpAny_bind (wpAny_nextOf_tuple_end (show X.A.handled = none from I.ok.hd hc) hit (show s.heap.IsTuple a its.toArray from p) (by simp; omega) fun h' x he' hx' => ?_)
    obtain ⟨o, ho, hc'⟩ := hx'
    refine wpAny_bind (wpAny_isInstance (T := "StopIteration") (b := true) ⟨o, ho, hc'⟩ isSubtype_stop ?_)
    exact wpAny_pure ⟨rfl, I.turned (t' := s.toks) (fun b o hb q => he' b o hb q) f0 f1 f3 f4 f5⟩
  self := fun A i s Q E st h => let ⟨⟨_, he⟩, _⟩ := st; wpAny_pyIter_enum he h
def iEnumU (K : PySem.W.Frag) (ta : TA) : TI := fun σ H R => ta σ H fun vs H1 => ∃ a, vs = [.ref a] ∧ ((∃ xs, SqL K H1 a xs ∧ R (Ite K a) H1) ∨ (∃ xs, SqT K H1 a xs ∧ R (IteT K a) H1))
theorem pi_enumU {X : Cx} {e : Expr} {ta : TA} {p pos tpos : Pos} {elts : List Expr} {kk : Nat} (hg : Gl X "enumerate") (hm : X.mg "enumerate" = none) (ha : PA X [e] ta) (hs : starEach [e] X.env = [(false, eval e X.env)] := by rfl) :
    PI X (.Tuple elts kk tpos) (.Call (.Name "enumerate" p) [e] [] pos) (iEnumU X.K ta) := by
  refine ⟨fun pins s σ H R I h => ?_⟩
  refine Call_ (ld_blt I hg hm boot_enumerate (PyProof.Rows.callWith_type1 (thn (ha.run pos pins s σ H _ I h) fun us s1 ⟨vs, H1, I1, r1, q1⟩ => ?_) hs rfl))
  obtain ⟨a, ex, q⟩ := q1
  subst ex
  cases r1 with
  | cons r rr =>
    cases rr
    cases r
    rcases q with ⟨xs, hq, q⟩ | ⟨xs, hq, q⟩
    · obtain ⟨its, rv, p', hz⟩ := I1.list hq
      refine call_enumerate_list p'.isList fun h' he hit hsz hk => wpAny_pyIter_enum he ?_
      have I2 : Inv X pins σ H1 { s1 with heap := h' } := I1.kept (t' := s1.toks) hk
      refine ⟨s1.heap.objs.size + 1, [s1.heap.objs.size + 1, s1.heap.objs.size], _, _, H1, rfl, I2, turn_enum a (s1.heap.objs.size + 1) s1.heap.objs.size, ⟨⟨.none, he⟩, hit, Nat.succ_ne_self _⟩, fun b hb => ?_, q⟩
      have e' : b = s1.heap.objs.size + 1 ∨ b = s1.heap.objs.size := by simpa using hb
      have hle : s1.heap.objs.size ≤ b := by
        rcases e' with z | z
        · rw [z]; exact Nat.le_add_right _ _
        · rw [z]; exact Nat.le_refl _
      exact I1.fpOk hle (I1.hok.fresh hle)
    · obtain ⟨its, rv, p', hz⟩ := I1.tuple hq
      have pt : s1.heap.IsTuple a its.toArray := p'
      have hla : a < s1.heap.objs.size := by obtain ⟨o, ho, _⟩ := pt; exact Heap.lt_size ho
      refine call_enumT pt fun h' he hit hsz hk => wpAny_pyIter_enum he ?_
      have I2 : Inv X pins σ H1 { s1 with heap := h' } := I1.kept (t' := s1.toks) hk
      refine ⟨s1.heap.objs.size + 1, [s1.heap.objs.size + 1, s1.heap.objs.size], _, _, H1, rfl, I2, turn_enumT a (s1.heap.objs.size + 1) s1.heap.objs.size, ⟨⟨.none, he⟩, hit, Nat.succ_ne_self _, ?_, Nat.ne_of_lt hla⟩, fun b hb => ?_, q⟩
      · have : a < s1.heap.objs.size + 1 := Nat.lt_succ_of_lt hla
        exact (Nat.ne_of_lt this).symm
      have e' : b = s1.heap.objs.size + 1 ∨ b = s1.heap.objs.size := by simpa using hb
      have hle : s1.heap.objs.size ≤ b := by
        rcases e' with z | z
        · rw [z]; exact Nat.le_add_right _ _
        · rw [z]; exact Nat.le_refl _
      exact I1.fpOk hle (I1.hok.fresh hle)
end RpS
end

section
set_option Elab.async false
set_option linter.all false
set_option maxRecDepth 100000
set_option maxHeartbeats 1000000
/-! RpS1: plain data in the abstract heap. -/
namespace RpS
open PySem PySem.Spec PyProof.Rows L2

/-- what is known of the state beside the heap: the frozen part, the draws' state -/
structure Gh where
  F : Addr → Prop
  wa : Option Addr
  ga : Addr
  me : Option V := none
/-- the slot may be stored (the new object's slot may not) -/
def okm (g : Gh) (i : Nat) : Prop := g.me = none ∨ i ≠ 0
/-- the text's own: classes, defs by name -/
structure Gx where
  cls : String → Addr
  fad : String → Addr
  kl : Addr → List Int → Prop
def wd (g : Gh) (a : Addr) : Prop := g.wa ≠ none ∧ (g.wa = some a ∨ a = g.ga)

mutual
inductive Rp (X : Gx) (g : Gh) (H : Hp) : V → Rp.D → Prop
  | non : Rp X g H .non .non
  | bl (b : Bool) : Rp X g H (.bl b) (.bl b)
  | int (i : Int) : Rp X g H (.int i) (.int i)
  | str (s : String) : Rp X g H (.str (Str.ofString s)) (.str s)
  | tup {a : Addr} {vs : List V} {ds : List Rp.D} : g.F a → H a = some (.tup vs) → RpA X g H vs ds → Rp X g H (.ref a) (.tup ds)
  | lst {a : Addr} {vs : List V} {ds : List Rp.D} : g.F a → H a = some (.lst vs) → RpA X g H vs ds → Rp X g H (.ref a) (.lst ds)
  | dic {a : Addr} {kvs : List (Key × V)} {ks : List (Rp.D × Rp.D)} : g.F a → H a = some (.dK kvs) → RpK X g H kvs ks → Rp X g H (.ref a) (.dic ks)
  | obj {a dx : Addr} {c : String} {fs : List (Str × V)} {gs : List (String × Rp.D)} : g.F a → H a = some (.ins (X.cls c) dx fs) → RpF X g H fs gs → Rp X g H (.ref a) (.obj c gs)
  | fn (f : String) : Rp X g H (.ref (X.fad f)) (.fn f)
  | tok {a : Addr} : g.wa = some a → Rp X g H (.ref a) .tok
  | scr {a : Addr} {ns : List Int} : ((g.F a ∧ Rd H a (.lst (ns.map V.int))) ∨ X.kl a ns) → Rp X g H (.ref a) (.scr ns)
inductive RpA (X : Gx) (g : Gh) (H : Hp) : List V → List Rp.D → Prop
  | nil : RpA X g H [] []
  | cons {v : V} {vs : List V} {d : Rp.D} {ds : List Rp.D} : Rp X g H v d → RpA X g H vs ds → RpA X g H (v :: vs) (d :: ds)
inductive RpK (X : Gx) (g : Gh) (H : Hp) : List (Key × V) → List (Rp.D × Rp.D) → Prop
  | nil : RpK X g H [] []
  | cons {i : Int} {v : V} {vs : List (Key × V)} {d : Rp.D} {ds : List (Rp.D × Rp.D)} : Rp X g H v d → RpK X g H vs ds → RpK X g H ((.inl i, v) :: vs) ((.int i, d) :: ds)
inductive RpF (X : Gx) (g : Gh) (H : Hp) : List (Str × V) → List (String × Rp.D) → Prop
  | nil : RpF X g H [] []
  | cons {f : String} {v : V} {vs : List (Str × V)} {d : Rp.D} {ds : List (String × Rp.D)} : Rp X g H v d → RpF X g H vs ds → RpF X g H ((Str.ofString f, v) :: vs) ((f, d) :: ds)
end

/-- the frozen part grows and stays -/
structure Fm (g : Gh) (H : Hp) (g' : Gh) (H' : Hp) : Prop where
  f : ∀ a, g.F a → g'.F a
  k : ∀ a o, g.F a → H a = some o → H' a = some o
  w : ∀ a, g.wa = some a → g'.wa = some a
theorem Fm.refl (g : Gh) (H : Hp) : Fm g H g H := ⟨fun _ h => h, fun _ _ _ h => h, fun _ h => h⟩
theorem Fm.trans {g1 g2 g3 : Gh} {H1 H2 H3 : Hp} (a : Fm g1 H1 g2 H2) (b : Fm g2 H2 g3 H3) : Fm g1 H1 g3 H3 :=
  ⟨fun x h => b.f x (a.f x h), fun x o h e => b.k x o (a.f x h) (a.k x o h e), fun x h => b.w x (a.w x h)⟩

theorem Rd.fm {g g' : Gh} {H H' : Hp} (m : Fm g H g' H') {a : Addr} {o : HO} (hf : g.F a) (h : Rd H a o) : Rd H' a o := by
  rcases h with h | ⟨ob, h⟩
  · exact .inl (m.k a _ hf h)
  · exact .inr ⟨ob, m.k a _ hf h⟩
section
variable {X : Gx} {g g' : Gh} {H H' : Hp}
mutual
theorem Rp.fm (m : Fm g H g' H') : ∀ {v : V} {d : Rp.D}, Rp X g H v d → Rp X g' H' v d
  | _, _, .non => .non
  | _, _, .bl b => .bl b
  | _, _, .int i => .int i
  | _, _, .str s => .str s
  | _, _, .tup hf h r => .tup (m.f _ hf) (m.k _ _ hf h) (RpA.fm m r)
  | _, _, .lst hf h r => .lst (m.f _ hf) (m.k _ _ hf h) (RpA.fm m r)
  | _, _, .dic hf h r => .dic (m.f _ hf) (m.k _ _ hf h) (RpK.fm m r)
  | _, _, .obj hf h r => .obj (m.f _ hf) (m.k _ _ hf h) (RpF.fm m r)
  | _, _, .fn f => .fn f
  | _, _, .tok h => .tok (m.w _ h)
  | _, _, .scr h => .scr (h.imp (fun z => ⟨m.f _ z.1, Rd.fm m z.1 z.2⟩) id)
theorem RpA.fm (m : Fm g H g' H') : ∀ {v : List V} {d : List Rp.D}, RpA X g H v d → RpA X g' H' v d
  | _, _, .nil => .nil
  | _, _, .cons a b => .cons (Rp.fm m a) (RpA.fm m b)
theorem RpK.fm (m : Fm g H g' H') : ∀ {v : List (Key × V)} {d : List (Rp.D × Rp.D)}, RpK X g H v d → RpK X g' H' v d
  | _, _, .nil => .nil
  | _, _, .cons a b => .cons (Rp.fm m a) (RpK.fm m b)
theorem RpF.fm (m : Fm g H g' H') : ∀ {v : List (Str × V)} {d : List (String × Rp.D)}, RpF X g H v d → RpF X g' H' v d
  | _, _, .nil => .nil
  | _, _, .cons a b => .cons (Rp.fm m a) (RpF.fm m b)
end
theorem RpA.length : ∀ {v : List V} {d : List Rp.D}, RpA X g H v d → v.length = d.length
  | _, _, .nil => rfl
  | _, _, .cons _ b => by rw [List.length_cons, List.length_cons, RpA.length b]
theorem RpA.append : ∀ {v v' : List V} {d d' : List Rp.D}, RpA X g H v d → RpA X g H v' d' → RpA X g H (v ++ v') (d ++ d')
  | _, _, _, _, .nil, q => q
  | _, _, _, _, .cons a b, q => .cons a (RpA.append b q)
theorem RpA.get : ∀ {v : List V} {d : List Rp.D} {i : Nat} {x : Rp.D}, RpA X g H v d → d[i]? = some x → ∃ u, v[i]? = some u ∧ Rp X g H u x
  | _, _, _, _, .nil, e => by simp at e
  | _, _, 0, _, .cons a b, e => by simp at e; subst e; exact ⟨_, rfl, a⟩
  | _, _, i + 1, _, .cons a b, e => by
    obtain ⟨u, h1, h2⟩ := RpA.get (i := i) b (by simpa using e)
    exact ⟨u, by simpa using h1, h2⟩
theorem RpA.geti : ∀ {v : List V} {d : List Rp.D} {i : Nat} {u : V}, RpA X g H v d → v[i]? = some u → ∃ x, d[i]? = some x ∧ Rp X g H u x
  | _, _, _, _, .nil, e => by simp at e
  | _, _, 0, _, .cons a b, e => by simp at e; subst e; exact ⟨_, rfl, a⟩
  | _, _, i + 1, _, .cons a b, e => by
    obtain ⟨u, h1, h2⟩ := RpA.geti (i := i) b (by simpa using e)
    exact ⟨u, by simpa using h1, h2⟩
theorem RpA.set {x : V} {y : Rp.D} (r : Rp X g H x y) : ∀ {v : List V} {d : List Rp.D} (i : Nat), RpA X g H v d → RpA X g H (v.set i x) (d.set i y)
  | _, _, _, .nil => .nil
  | _, _, 0, .cons _ t => .cons r t
  | _, _, i + 1, .cons q t => .cons q (RpA.set r i t)
theorem RpA.take : ∀ {v : List V} {d : List Rp.D} (i : Nat), RpA X g H v d → RpA X g H (v.take i) (d.take i)
  | _, _, 0, _ => .nil
  | _, _, _ + 1, .nil => .nil
  | _, _, i + 1, .cons q t => .cons q (RpA.take i t)
theorem RpA.drop : ∀ {v : List V} {d : List Rp.D} (i : Nat), RpA X g H v d → RpA X g H (v.drop i) (d.drop i)
  | _, _, 0, r => r
  | _, _, _ + 1, .nil => .nil
  | _, _, i + 1, .cons q t => RpA.drop i t
theorem RpA.erase : ∀ {v : List V} {d : List Rp.D} (i : Nat), RpA X g H v d → RpA X g H (v.eraseIdx i) (d.eraseIdx i)
  | _, _, _, .nil => .nil
  | _, _, 0, .cons _ t => t
  | _, _, i + 1, .cons q t => .cons q (RpA.erase i t)
theorem RpA.dropLast {v : List V} {d : List Rp.D} (r : RpA X g H v d) : RpA X g H v.dropLast d.dropLast := by
  rw [List.dropLast_eq_take, List.dropLast_eq_take, r.length]
  exact r.take _
theorem RpA.reverse : ∀ {v : List V} {d : List Rp.D}, RpA X g H v d → RpA X g H v.reverse d.reverse
  | _, _, .nil => .nil
  | _, _, .cons a b => by
    rw [List.reverse_cons, List.reverse_cons]
    exact (RpA.reverse b).append (.cons a .nil)
theorem RpA.rep {v : List V} {d : List Rp.D} (r : RpA X g H v d) : ∀ k : Nat, RpA X g H (List.replicate k v).flatten (List.replicate k d).flatten
  | 0 => .nil
  | k + 1 => by
    rw [List.replicate_succ, List.replicate_succ, List.flatten_cons, List.flatten_cons]
    exact r.append (RpA.rep r k)
theorem RpA.intL : ∀ {v : List V} {d : List Rp.D}, RpA X g H v d → Rp.isInts d = true → v = (Rp.intL d).map V.int
  | _, _, .nil, _ => rfl
  | _, _, .cons a b, h => by
    cases a with
    | int i =>
      have h2 : Rp.isInts _ = true := h
      simp only [Rp.isInts] at h2
      rw [RpA.intL b h2]; rfl
    | _ => simp [Rp.isInts] at h
theorem RpA.bls : ∀ {v : List V} {d : List Rp.D}, RpA X g H v d → Rp.isBls d = true → v = (Rp.bls d).map V.bl
  | _, _, .nil, _ => rfl
  | _, _, .cons a b, h => by
    cases a with
    | bl i =>
      have h2 : Rp.isBls _ = true := h
      simp only [Rp.isBls] at h2
      rw [RpA.bls b h2]; rfl
    | _ => simp [Rp.isBls] at h
theorem RpA.of_ints : ∀ ns : List Int, RpA X g H (ns.map V.int) (ns.map Rp.D.int)
  | [] => .nil
  | n :: ns => .cons (.int n) (RpA.of_ints ns)

/-! ### == -/
mutual
def pd : Rp.D → PyData
  | .non => .none
  | .bl b => .bool b
  | .int i => .int i
  | .str s => .str (Str.ofString s)
  | .tup xs => .tuple (pds xs)
  | .lst xs => .list (pds xs)
  | _ => .none
def pds : List Rp.D → List PyData
  | [] => []
  | x :: xs => pd x :: pds xs
end
theorem ofs_inj {x y : String} (h : Str.ofString x = Str.ofString y) : x = y := by
  rw [Str.ofString_eq_toList, Str.ofString_eq_toList] at h
  have h1 : x.toList.map Char.toNat = y.toList.map Char.toNat := by
    have := congrArg (fun z : Str => z.cps.toList) h
    simpa using this
  have h2 : x.toList = y.toList := by
    refine List.map_inj_right (f := Char.toNat) (fun a b e => ?_) |>.mp h1
    exact Char.toNat_inj.mp e
  exact String.toList_inj.mp h2
theorem ofs_beq (x y : String) : (Str.ofString x == Str.ofString y) = (x == y) := by
  by_cases h : x = y
  · subst h; simp
  · have h2 : ¬ Str.ofString x = Str.ofString y := fun e => h (ofs_inj e)
    rw [beq_eq_false_iff_ne.mpr h, beq_eq_false_iff_ne.mpr h2]
theorem ofs_ok (s : String) : PyData.strOk (Str.ofString s) = true := by
  rw [Str.ofString_eq_toList]
  unfold PyData.strOk
  simp only [List.all_toArray, List.all_map, List.all_eq_true, Function.comp, decide_eq_true_eq]
  intro c _
  have h := c.valid
  have ht : c.toNat = c.val.toNat := rfl
  simp only [UInt32.isValidChar, Nat.isValidChar] at h
  omega
mutual
theorem pd_eqv : ∀ a b : Rp.D, a.pl = true → b.pl = true → PyData.eqv (pd a) (pd b) = Rp.D.eqv a b
  | .non, b, _, hb => by cases b <;> first | (simp [Rp.D.pl] at hb; done) | (simp [pd, PyData.eqv, Rp.D.eqv])
  | .bl x, b, _, hb => by cases b <;> first | (simp [Rp.D.pl] at hb; done) | (simp [pd, PyData.eqv, Rp.D.eqv])
  | .int x, b, _, hb => by cases b <;> first | (simp [Rp.D.pl] at hb; done) | (simp [pd, PyData.eqv, Rp.D.eqv])
  | .str x, b, _, hb => by cases b <;> first | (simp [Rp.D.pl] at hb; done) | (simp [pd, PyData.eqv, Rp.D.eqv, ofs_beq])
  | .tup xs, b, ha, hb => by
    cases b <;> first
      | (simp [Rp.D.pl] at hb; done)
      | (simp [pd, PyData.eqv, Rp.D.eqv]; done)
      | (simp only [pd, PyData.eqv, Rp.D.eqv]; exact pds_eqv xs _ (by simpa [Rp.D.pl] using ha) (by simpa [Rp.D.pl] using hb))
  | .lst xs, b, ha, hb => by
    cases b <;> first
      | (simp [Rp.D.pl] at hb; done)
      | (simp [pd, PyData.eqv, Rp.D.eqv]; done)
      | (simp only [pd, PyData.eqv, Rp.D.eqv]; exact pds_eqv xs _ (by simpa [Rp.D.pl] using ha) (by simpa [Rp.D.pl] using hb))
  | .dic _, _, ha, _ => by simp [Rp.D.pl] at ha
  | .obj _ _, _, ha, _ => by simp [Rp.D.pl] at ha
  | .fn _, _, ha, _ => by simp [Rp.D.pl] at ha
  | .tok, _, ha, _ => by simp [Rp.D.pl] at ha
  | .scr _, _, ha, _ => by simp [Rp.D.pl] at ha
theorem pds_eqv : ∀ a b : List Rp.D, Rp.plAll a = true → Rp.plAll b = true → PyData.eqvAll (pds a) (pds b) = Rp.eqvAll a b
  | [], [], _, _ => by simp [pds, PyData.eqvAll, Rp.eqvAll]
  | [], _ :: _, _, _ => by simp [pds, PyData.eqvAll, Rp.eqvAll]
  | _ :: _, [], _, _ => by simp [pds, PyData.eqvAll, Rp.eqvAll]
  | x :: xs, y :: ys, ha, hb => by
    simp only [Rp.plAll, Bool.and_eq_true] at ha hb
    simp only [pds, PyData.eqvAll, Rp.eqvAll]
    rw [pd_eqv x y ha.1 hb.1, pds_eqv xs ys ha.2 hb.2]
end
mutual
theorem pd_lay : ∀ a : Rp.D, (pd a).canLay0 = true
  | .non => by simp [pd, PyData.canLay0]
  | .bl x => by simp [pd, PyData.canLay0]
  | .int x => by simp [pd, PyData.canLay0]
  | .str x => by simp [pd, PyData.canLay0, ofs_ok]
  | .tup xs => by simp only [pd, PyData.canLay0]; exact pds_lay xs
  | .lst xs => by simp only [pd, PyData.canLay0]; exact pds_lay xs
  | .dic _ => by simp [pd, PyData.canLay0]
  | .obj _ _ => by simp [pd, PyData.canLay0]
  | .fn _ => by simp [pd, PyData.canLay0]
  | .tok => by simp [pd, PyData.canLay0]
  | .scr _ => by simp [pd, PyData.canLay0]
theorem pds_lay : ∀ a : List Rp.D, PyData.canLayAll0 (pds a) = true
  | [] => by simp [pds, PyData.canLayAll0]
  | x :: xs => by simp only [pds, PyData.canLayAll0, pd_lay x, pds_lay xs, Bool.and_self]
end
mutual
theorem pd_dep : ∀ a : Rp.D, (pd a).depth = a.dep
  | .non => by simp [pd, PyData.depth, Rp.D.dep]
  | .bl x => by simp [pd, PyData.depth, Rp.D.dep]
  | .int x => by simp [pd, PyData.depth, Rp.D.dep]
  | .str x => by simp [pd, PyData.depth, Rp.D.dep]
  | .tup xs => by simp only [pd, PyData.depth, Rp.D.dep]; rw [pds_dep xs]
  | .lst xs => by simp only [pd, PyData.depth, Rp.D.dep]; rw [pds_dep xs]
  | .dic _ => by simp [pd, PyData.depth, Rp.D.dep]
  | .obj _ _ => by simp [pd, PyData.depth, Rp.D.dep]
  | .fn _ => by simp [pd, PyData.depth, Rp.D.dep]
  | .tok => by simp [pd, PyData.depth, Rp.D.dep]
  | .scr _ => by simp [pd, PyData.depth, Rp.D.dep]
theorem pds_dep : ∀ a : List Rp.D, PyData.depthAll (pds a) = Rp.depAll a
  | [] => by simp [pds, PyData.depthAll, Rp.depAll]
  | x :: xs => by simp only [pds, PyData.depthAll, Rp.depAll, pd_dep x, pds_dep xs]
end
theorem pd_shaped (a : Rp.D) (h : a.dep ≤ 60) : SeqAt.shaped (pd a) = true := by
  show ((pd a).canLay0 && decide ((pd a).depth ≤ 64)) = true
  rw [pd_lay, pd_dep, Bool.true_and]
  exact decide_eq_true (by omega)
end

/-! ### what is read: data whose upper n storeys may be owned -/
inductive Ls (p : V → Rp.D → Prop) : List V → List Rp.D → Prop
  | nil : Ls p [] []
  | cons {v : V} {vs : List V} {d : Rp.D} {ds : List Rp.D} : p v d → Ls p vs ds → Ls p (v :: vs) (d :: ds)
theorem Ls.imp {p q : V → Rp.D → Prop} (h : ∀ v d, p v d → q v d) : ∀ {vs : List V} {ds : List Rp.D}, Ls p vs ds → Ls q vs ds
  | _, _, .nil => .nil
  | _, _, .cons a b => .cons (h _ _ a) (Ls.imp h b)
theorem Ls.length {p : V → Rp.D → Prop} : ∀ {vs : List V} {ds : List Rp.D}, Ls p vs ds → vs.length = ds.length
  | _, _, .nil => rfl
  | _, _, .cons _ b => by rw [List.length_cons, List.length_cons, Ls.length b]
theorem Ls.get {p : V → Rp.D → Prop} : ∀ {v : List V} {d : List Rp.D} {i : Nat} {x : Rp.D}, Ls p v d → d[i]? = some x → ∃ u, v[i]? = some u ∧ p u x
  | _, _, _, _, .nil, e => by simp at e
  | _, _, 0, _, .cons a b, e => by simp at e; subst e; exact ⟨_, rfl, a⟩
  | _, _, i + 1, _, .cons a b, e => by
    obtain ⟨u, h1, h2⟩ := Ls.get (i := i) b (by simpa using e)
    exact ⟨u, by simpa using h1, h2⟩
section
variable (X : Gx) (g : Gh) (H : Hp)
def RR : Nat → V → Rp.D → Prop
  | 0 => Rp X g H
  | n + 1 => fun v d => Rp X g H v d ∨ (∃ a vs ds, v = .ref a ∧ d = .lst ds ∧ ¬ wd g a ∧ H a = some (.lst vs) ∧ Ls (RR n) vs ds) ∨
      (∃ a kvs ks, v = .ref a ∧ d = .dic ks ∧ ¬ wd g a ∧ H a = some (.dK kvs) ∧ RpK X g H kvs ks) ∨
      (∃ a dx c fs gs, v = .ref a ∧ d = .obj c gs ∧ ¬ wd g a ∧ H a = some (.ins (X.cls c) dx fs) ∧ RpF X g H fs gs)
/-- owned data: n storeys stand at the places fp -/
inductive LsO (p : V → Rp.D → List Addr → Prop) : List V → List Rp.D → List Addr → Prop
  | nil : LsO p [] [] []
  | cons {v : V} {vs : List V} {d : Rp.D} {ds : List Rp.D} {f fs : List Addr} : p v d f → LsO p vs ds fs → LsO p (v :: vs) (d :: ds) (f ++ fs)
def RO : Nat → V → Rp.D → List Addr → Prop
  | 0 => fun v d fp => fp = [] ∧ Rp X g H v d
  | n + 1 => fun v d fp => (∃ a vs ds fq, v = .ref a ∧ d = .lst ds ∧ fp = a :: fq ∧ H a = some (.lst vs) ∧ LsO (RO n) vs ds fq) ∨
      (n = 0 ∧ ∃ a kvs ks, v = .ref a ∧ d = .dic ks ∧ fp = [a] ∧ H a = some (.dK kvs) ∧ RpK X g H kvs ks) ∨
      (n = 0 ∧ ∃ a dx c fs gs, v = .ref a ∧ d = .obj c gs ∧ fp = [a] ∧ H a = some (.ins (X.cls c) dx fs) ∧ RpF X g H fs gs)
end
section
variable {X : Gx} {g g' : Gh} {H H' : Hp}
theorem RpA.ls : ∀ {vs : List V} {ds : List Rp.D}, RpA X g H vs ds → Ls (Rp X g H) vs ds
  | _, _, .nil => .nil
  | _, _, .cons a b => .cons a (RpA.ls b)
theorem Ls.rpa : ∀ {vs : List V} {ds : List Rp.D}, Ls (Rp X g H) vs ds → RpA X g H vs ds
  | _, _, .nil => .nil
  | _, _, .cons a b => .cons a (Ls.rpa b)
theorem RR.of {v : V} {d : Rp.D} (h : Rp X g H v d) : ∀ n, RR X g H n v d
  | 0 => h
  | _ + 1 => .inl h
theorem RR.up {v : V} {d : Rp.D} : ∀ {n : Nat}, RR X g H n v d → RR X g H (n + 1) v d
  | 0, h => .inl h
  | n + 1, h => by
    rcases h with h | ⟨a, vs, ds, e1, e2, hw, hh, r⟩ | h | h
    · exact .inl h
    · exact .inr (.inl ⟨a, vs, ds, e1, e2, hw, hh, Ls.imp (fun _ _ => RR.up) r⟩)
    · exact .inr (.inr (.inl h))
    · exact .inr (.inr (.inr h))
theorem RR.le {v : V} {d : Rp.D} {n m : Nat} (h : RR X g H n v d) (l : n ≤ m) : RR X g H m v d := by
  induction l with
  | refl => exact h
  | step _ ih => exact ih.up
/-- as data for == -/
theorem Rp.dp {K : PySem.W.Frag} : ∀ {v : V} {d : Rp.D}, Rp X g H v d → d.pl = true → Dp K H v (pd d)
  | _, _, .non, _ => by simp only [pd]; exact .non
  | _, _, .bl b, _ => by simp only [pd]; exact .bl b
  | _, _, .int i, _ => by simp only [pd]; exact .int i
  | _, _, .str s, _ => by simp only [pd]; exact .str _
  | _, _, .tup _ h r, p => by simp only [pd]; exact .tup (SqT.of h) (RpA.dpa r (by simpa [Rp.D.pl] using p))
  | _, _, .lst _ h r, p => by simp only [pd]; exact .lst (SqL.of h) (RpA.dpa r (by simpa [Rp.D.pl] using p))
  | _, _, .dic _ _ _, p => by simp [Rp.D.pl] at p
  | _, _, .obj _ _ _, p => by simp [Rp.D.pl] at p
  | _, _, .fn _, p => by simp [Rp.D.pl] at p
  | _, _, .tok _, p => by simp [Rp.D.pl] at p
  | _, _, .scr _, p => by simp [Rp.D.pl] at p
where
  RpA.dpa : ∀ {vs : List V} {ds : List Rp.D}, RpA X g H vs ds → Rp.plAll ds = true → DpAll K H vs (pds ds)
  | _, _, .nil, _ => by simp only [pds]; exact .nil
  | _, _, .cons a b, p => by
    simp only [Rp.plAll, Bool.and_eq_true] at p
    simp only [pds]
    exact .cons (Rp.dp a p.1) (RpA.dpa b p.2)
end
end RpS
end

section
set_option Elab.async false
set_option linter.all false
set_option maxRecDepth 100000
set_option maxHeartbeats 1000000
namespace RpS
open PySem PySem.Spec PyProof.Rows L2
section
variable {X : Gx} {g g' : Gh} {H H' : Hp}
theorem Ls.dpa {K : PySem.W.Frag} {p : V → Rp.D → Prop} (h : ∀ v d, p v d → d.pl = true → Dp K H v (pd d)) : ∀ {vs : List V} {ds : List Rp.D}, Ls p vs ds → Rp.plAll ds = true → DpAll K H vs (pds ds)
  | _, _, .nil, _ => by simp only [pds]; exact .nil
  | _, _, .cons a b, q => by
    simp only [Rp.plAll, Bool.and_eq_true] at q
    simp only [pds]
    exact .cons (h _ _ a q.1) (Ls.dpa h b q.2)
theorem RR.dp {K : PySem.W.Frag} : ∀ {n : Nat} {v : V} {d : Rp.D}, RR X g H n v d → d.pl = true → Dp K H v (pd d)
  | 0, _, _, h, p => Rp.dp h p
  | n + 1, v, d, h, p => by
    rcases h with h | ⟨a, vs, ds, e1, e2, hw, hh, r⟩ | ⟨a, kvs, ks, e1, e2, _⟩ | ⟨a, dx, c, fs, gs, e1, e2, _⟩
    · exact Rp.dp h p
    · subst e1 e2
      simp only [pd]
      exact .lst (SqL.of hh) (Ls.dpa (fun _ _ => RR.dp) r (by simpa [Rp.D.pl] using p))
    · subst e2; simp [Rp.D.pl] at p
    · subst e2; simp [Rp.D.pl] at p

/-! ### growth of the state by expressions -/
structure Ext (g : Gh) (H : Hp) (g' : Gh) (H' : Hp) : Prop where
  f : ∀ a, g.F a → g'.F a
  n : ∀ a, g'.F a → g.F a ∨ H a = none
  k : ∀ a o, H a = some o → ¬ wd g a → H' a = some o
  w1 : g.wa ≠ none → g'.wa = g.wa ∧ g'.ga = g.ga
  w2 : g.wa = none → ∀ a, wd g' a → H a = none
  t : ∀ a, H a ≠ none → H' a ≠ none
theorem Ext.refl (g : Gh) (H : Hp) : Ext g H g H := ⟨fun _ h => h, fun _ h => .inl h, fun _ _ h _ => h, fun _ => ⟨rfl, rfl⟩, fun e a h => absurd e h.1, fun _ h => h⟩
theorem Ext.wd_of (e : Ext g H g' H') {a : Addr} (h : wd g' a) : wd g a ∨ H a = none := by
  by_cases c : g.wa = none
  · exact .inr (e.w2 c a h)
  · obtain ⟨e1, e2⟩ := e.w1 c
    refine .inl ⟨c, ?_⟩
    rcases h.2 with q | q
    · exact .inl (by rw [← e1]; exact q)
    · exact .inr (by rw [← e2]; exact q)
theorem Ext.wd_to (e : Ext g H g' H') {a : Addr} (h : wd g a) : wd g' a := by
  obtain ⟨e1, e2⟩ := e.w1 h.1
  refine ⟨by rw [e1]; exact h.1, ?_⟩
  rw [e1, e2]; exact h.2
theorem Ext.trans {g1 g2 g3 : Gh} {H1 H2 H3 : Hp} (a : Ext g1 H1 g2 H2) (b : Ext g2 H2 g3 H3) : Ext g1 H1 g3 H3 where
  f x h := b.f x (a.f x h)
  n x h := by
    rcases b.n x h with q | q
    · exact a.n x q
    · exact .inr (Classical.byContradiction fun z => a.t x z q)
  k x o h hw := b.k x o (a.k x o h hw) fun z => by
    rcases a.wd_of z with q | q
    · exact hw q
    · rw [h] at q; cases q
  w1 h := by
    obtain ⟨e1, e2⟩ := a.w1 h
    obtain ⟨e3, e4⟩ := b.w1 (by rw [e1]; exact h)
    exact ⟨e3.trans e1, e4.trans e2⟩
  w2 h x hx := by
    rcases b.wd_of hx with q | q
    · exact a.w2 h x q
    · exact Classical.byContradiction fun z => a.t x z q
  t x h := b.t x (a.t x h)
/-- what is frozen is there, and no part of the draws' state -/
def Gok (g : Gh) (H : Hp) : Prop := ∀ a, g.F a → H a ≠ none ∧ ¬ wd g a
theorem Ext.fm (e : Ext g H g' H') (ok : Gok g H) : Fm g H g' H' := by
  refine ⟨e.f, fun a o hf h => e.k a o h (ok a hf).2, fun a h => ?_⟩
  have : g.wa ≠ none := by rw [h]; simp
  rw [(e.w1 this).1]; exact h
theorem RR.ext (e : Ext g H g' H') (ok : Gok g H) : ∀ {n : Nat} {v : V} {d : Rp.D}, RR X g H n v d → RR X g' H' n v d
  | 0, _, _, h => Rp.fm (e.fm ok) h
  | n + 1, v, d, h => by
    have nw : ∀ {a : Addr} {o : HO}, ¬ wd g a → H a = some o → ¬ wd g' a := fun {a o} hw hh z => by
      rcases e.wd_of z with q | q
      · exact hw q
      · rw [hh] at q; cases q
    rcases h with h | ⟨a, vs, ds, e1, e2, hw, hh, r⟩ | ⟨a, kvs, ks, e1, e2, hw, hh, r⟩ | ⟨a, dx, c, fs, gs, e1, e2, hw, hh, r⟩
    · exact .inl (Rp.fm (e.fm ok) h)
    · exact .inr (.inl ⟨a, vs, ds, e1, e2, nw hw hh, e.k _ _ hh hw, Ls.imp (fun _ _ => RR.ext e ok) r⟩)
    · exact .inr (.inr (.inl ⟨a, kvs, ks, e1, e2, nw hw hh, e.k _ _ hh hw, RpK.fm (e.fm ok) r⟩))
    · exact .inr (.inr (.inr ⟨a, dx, c, fs, gs, e1, e2, nw hw hh, e.k _ _ hh hw, RpF.fm (e.fm ok) r⟩))

/-! ### the draws' state -/
def stO (st : Rp.St) (ga ca : Addr) : HO := .dK [(.inr (Str.ofString "great"), .ref ga), (.inr (Str.ofString "cells"), .ref ca), (.inr (Str.ofString "left"), .int st.left), (.inr (Str.ofString "turn"), .int st.turn)]
def WR (g : Gh) (H : Hp) (w : Rp.W) : Prop := Gok g H ∧ match w with
  | none => g.wa = none
  | some st => ∃ a ca, g.wa = some a ∧ a ≠ g.ga ∧ H a = some (stO st g.ga ca) ∧ H g.ga = some (.lst (st.great.map V.int)) ∧ g.F ca ∧ H ca = some (.lst (st.cells.map V.int))
theorem WR.ok {w : Rp.W} (h : WR g H w) : Gok g H := h.1

/-! ### freezing -/
def frz (g : Gh) (l : List Addr) : Gh := { g with F := fun a => g.F a ∨ a ∈ l }
theorem frz_nil : frz g [] = g := by
  obtain ⟨F, w, a, m⟩ := g
  simp [frz]
theorem frz_wd {l : List Addr} {a : Addr} : wd (frz g l) a ↔ wd g a := Iff.rfl
theorem frz_fm {l : List Addr} : Fm g H (frz g l) H := ⟨fun _ h => .inl h, fun _ _ _ h => h, fun _ h => h⟩
theorem WR.frz {w : Rp.W} {l : List Addr} (h : WR g H w) (hl : ∀ a ∈ l, H a ≠ none ∧ ¬ wd g a) : WR (frz g l) H w := by
  refine ⟨fun a ha => ?_, ?_⟩
  · rcases ha with q | q
    · exact h.1 a q
    · exact hl a q
  · have h2 := h.2
    cases w with
    | none => exact h2
    | some st =>
      obtain ⟨a, ca, h1, h2, h3, h4, h5, h6⟩ := h2
      exact ⟨a, ca, h1, h2, h3, h4, .inl h5, h6⟩
theorem LsO.imp {p q : V → Rp.D → List Addr → Prop} (h : ∀ v d f, p v d f → q v d f) : ∀ {vs : List V} {ds : List Rp.D} {fs : List Addr}, LsO p vs ds fs → LsO q vs ds fs
  | _, _, _, .nil => .nil
  | _, _, _, .cons a b => .cons (h _ _ _ a) (LsO.imp h b)
theorem LsO.rpa {p : V → Rp.D → List Addr → Prop} {g1 : Gh} : ∀ {vs : List V} {ds : List Rp.D} {fs : List Addr}, LsO p vs ds fs → (∀ v d f, p v d f → (∀ a ∈ f, a ∈ fs) → Rp X g1 H v d) → RpA X g1 H vs ds
  | _, _, _, .nil, _ => .nil
  | _, _, _, .cons a b, h => .cons (h _ _ _ a fun x hx => List.mem_append.mpr (.inl hx)) (LsO.rpa b fun v d f q hf => h v d f q fun x hx => List.mem_append.mpr (.inr (hf x hx)))
theorem LsO.length {p : V → Rp.D → List Addr → Prop} : ∀ {vs : List V} {ds : List Rp.D} {fs : List Addr}, LsO p vs ds fs → vs.length = ds.length
  | _, _, _, .nil => rfl
  | _, _, _, .cons _ b => by rw [List.length_cons, List.length_cons, LsO.length b]
theorem RO.fm (m : Fm g H g' H') : ∀ {n : Nat} {v : V} {d : Rp.D} {fp : List Addr}, RO X g H n v d fp → (∀ a ∈ fp, ∀ o, H a = some o → H' a = some o) → RO X g' H' n v d fp
  | 0, _, _, _, h, _ => ⟨h.1, Rp.fm m h.2⟩
  | n + 1, v, d, fp, h, k => by
    rcases h with ⟨a, vs, ds, fq, e1, e2, e3, hh, r⟩ | ⟨hn, a, kvs, ks, e1, e2, e3, hh, r⟩ | ⟨hn, a, dx, c, fs, gs, e1, e2, e3, hh, r⟩
    · subst e3
      refine .inl ⟨a, vs, ds, fq, e1, e2, rfl, k a List.mem_cons_self _ hh, ?_⟩
      have k2 : ∀ a ∈ fq, ∀ o, H a = some o → H' a = some o := fun b hb => k b (List.mem_cons_of_mem _ hb)
      clear k hh e1 e2
      induction r with
      | nil => exact .nil
      | cons x y ih => exact .cons (RO.fm m x fun b hb => k2 b (List.mem_append.mpr (.inl hb))) (ih fun b hb => k2 b (List.mem_append.mpr (.inr hb)))
    · subst e3
      exact .inr (.inl ⟨hn, a, kvs, ks, e1, e2, rfl, k a List.mem_cons_self _ hh, RpK.fm m r⟩)
    · subst e3
      exact .inr (.inr ⟨hn, a, dx, c, fs, gs, e1, e2, rfl, k a List.mem_cons_self _ hh, RpF.fm m r⟩)
/-- owned data whose places are frozen -/
theorem RO.rp {g1 : Gh} (m : Fm g H g1 H) : ∀ {n : Nat} {v : V} {d : Rp.D} {fp : List Addr}, RO X g H n v d fp → (∀ a ∈ fp, g1.F a) → Rp X g1 H v d
  | 0, _, _, _, h, _ => Rp.fm m h.2
  | n + 1, v, d, fp, h, k => by
    rcases h with ⟨a, vs, ds, fq, e1, e2, e3, hh, r⟩ | ⟨hn, a, kvs, ks, e1, e2, e3, hh, r⟩ | ⟨hn, a, dx, c, fs, gs, e1, e2, e3, hh, r⟩
    · subst e1 e2 e3
      exact .lst (k a List.mem_cons_self) hh (LsO.rpa r fun v d f q hf => RO.rp m q fun b hb => k b (List.mem_cons_of_mem _ (hf b hb)))
    · subst e1 e2 e3
      exact .dic (k a List.mem_cons_self) hh (RpK.fm m r)
    · subst e1 e2 e3
      exact .obj (k a List.mem_cons_self) hh (RpF.fm m r)
theorem LsO.ls {p : V → Rp.D → List Addr → Prop} {q : V → Rp.D → Prop} : ∀ {vs : List V} {ds : List Rp.D} {fs : List Addr}, LsO p vs ds fs → (∀ v d f, p v d f → (∀ a ∈ f, a ∈ fs) → q v d) → Ls q vs ds
  | _, _, _, .nil, _ => .nil
  | _, _, _, .cons a b, h => .cons (h _ _ _ a fun x hx => List.mem_append.mpr (.inl hx)) (LsO.ls b fun v d f z hf => h v d f z fun x hx => List.mem_append.mpr (.inr (hf x hx)))
theorem RO.rr : ∀ {n : Nat} {v : V} {d : Rp.D} {fp : List Addr}, RO X g H n v d fp → (∀ a ∈ fp, ¬ wd g a) → RR X g H n v d
  | 0, _, _, _, h, _ => h.2
  | n + 1, v, d, fp, h, k => by
    rcases h with ⟨a, vs, ds, fq, e1, e2, e3, hh, r⟩ | ⟨hn, a, kvs, ks, e1, e2, e3, hh, r⟩ | ⟨hn, a, dx, c, fs, gs, e1, e2, e3, hh, r⟩
    · subst e3
      exact .inr (.inl ⟨a, vs, ds, e1, e2, k a List.mem_cons_self, hh, LsO.ls r fun v d f q hf => RO.rr q fun b hb => k b (List.mem_cons_of_mem _ (hf b hb))⟩)
    · subst e3
      exact .inr (.inr (.inl ⟨a, kvs, ks, e1, e2, k a List.mem_cons_self, hh, r⟩))
    · subst e3
      exact .inr (.inr (.inr ⟨a, dx, c, fs, gs, e1, e2, k a List.mem_cons_self, hh, r⟩))

/-! ### the slots -/
abbrev Fps := Nat → List Addr
structure ER (X : Gx) (own : List Nat) (g : Gh) (H : Hp) (σ : L2.St) (env : Rp.Env) (fps : Fps) : Prop where
  len : env.length = σ.length
  slot : ∀ i d, env[i]? = some (some d) → ∃ v, σ[i]? = some (some v) ∧ RO X g H (own.getD i 0) v d (fps i)
  nd : ∀ i, (fps i).Nodup
  dis : ∀ i j a, i ≠ j → a ∈ fps i → a ∉ fps j
  out : ∀ i a, a ∈ fps i → ¬ g.F a ∧ H a ≠ none ∧ ¬ wd g a
variable {own : List Nat} {σ : L2.St} {env : Rp.Env} {fps : Fps}
theorem ER.ext (e : Ext g H g' H') (ok : Gok g H) (r : ER X own g H σ env fps) : ER X own g' H' σ env fps where
  len := r.len
  slot i d h := by
    obtain ⟨v, h1, h2⟩ := r.slot i d h
    exact ⟨v, h1, RO.fm (e.fm ok) h2 fun a ha o ho => e.k a o ho (r.out i a ha).2.2⟩
  nd := r.nd
  dis := r.dis
  out i a ha := by
    obtain ⟨h1, h2, h3⟩ := r.out i a ha
    refine ⟨fun z => ?_, e.t a h2, fun z => ?_⟩
    · rcases e.n a z with q | q
      · exact h1 q
      · exact h2 q
    · rcases e.wd_of z with q | q
      · exact h3 q
      · exact h2 q
theorem ER.look (r : ER X own g H σ env fps) {i : Nat} {d : Rp.D} (h : Rp.look env i = some d) : ∃ v, σ[i]? = some (some v) ∧ RO X g H (own.getD i 0) v d (fps i) := by
  refine r.slot i d ?_
  unfold Rp.look at h
  split at h
  · rename_i d' e; cases h; exact e
  · cases h
theorem ER.lookR (r : ER X own g H σ env fps) {i : Nat} {d : Rp.D} (h : Rp.look env i = some d) : ∃ v, σ[i]? = some (some v) ∧ RR X g H (own.getD i 0) v d := by
  obtain ⟨v, h1, h2⟩ := r.look h
  exact ⟨v, h1, h2.rr fun a ha => (r.out i a ha).2.2⟩
def upf (fps : Fps) (i : Nat) (l : List Addr) : Fps := fun j => if j = i then l else fps j
theorem upf_same {i : Nat} {l : List Addr} : upf fps i l i = l := by simp [upf]
theorem upf_ne {i j : Nat} {l : List Addr} (h : j ≠ i) : upf fps i l j = fps j := by simp [upf, h]
/-- a slot is set -/
theorem ER.set (r : ER X own g H σ env fps) {i : Nat} {n : Nat} {v : V} {d : Rp.D} {fp : List Addr} (hi : i < own.length) (q : RO X g H n v d fp) (nd : fp.Nodup) (ds : ∀ j, j ≠ i → ∀ a ∈ fp, a ∉ fps j)
    (out : ∀ a ∈ fp, ¬ g.F a ∧ H a ≠ none ∧ ¬ wd g a) : ER X (own.set i n) g H (σ.set i (some v)) (env.set i (some d)) (upf fps i fp) where
  len := by rw [List.length_set, List.length_set]; exact r.len
  slot j e h := by
    by_cases hj : j = i
    · subst hj
      have hl : j < env.length := by
        have := (List.getElem?_eq_some_iff.mp h).1
        rwa [List.length_set] at this
      rw [List.getElem?_set_self hl] at h
      cases h
      refine ⟨v, by rw [List.getElem?_set_self (by rw [← r.len]; exact hl)], ?_⟩
      rw [upf_same]
      have : (own.set j n).getD j 0 = n := by simp [List.getD, hi]
      rw [this]; exact q
    · rw [List.getElem?_set_ne (Ne.symm hj)] at h
      obtain ⟨u, h1, h2⟩ := r.slot j e h
      refine ⟨u, by rw [List.getElem?_set_ne (Ne.symm hj)]; exact h1, ?_⟩
      rw [upf_ne hj]
      have : (own.set i n).getD j 0 = own.getD j 0 := by simp [List.getD, List.getElem?_set_ne (Ne.symm hj)]
      rw [this]; exact h2
  nd j := by
    by_cases hj : j = i
    · subst hj; rw [upf_same]; exact nd
    · rw [upf_ne hj]; exact r.nd j
  dis j k a hjk ha hk := by
    by_cases hj : j = i
    · subst hj
      rw [upf_same] at ha
      rw [upf_ne (Ne.symm hjk)] at hk
      exact ds k (Ne.symm hjk) a ha hk
    · rw [upf_ne hj] at ha
      by_cases hk2 : k = i
      · subst hk2
        rw [upf_same] at hk
        exact ds j hj a hk ha
      · rw [upf_ne hk2] at hk
        exact r.dis j k a hjk ha hk
  out j a ha := by
    by_cases hj : j = i
    · subst hj; rw [upf_same] at ha; exact out a ha
    · rw [upf_ne hj] at ha; exact r.out j a ha
/-- a slot is forgotten -/
theorem ER.forget (r : ER X own g H σ env fps) {i : Nat} (n : Nat) : ER X (own.set i n) g H σ (env.set i none) (upf fps i []) where
  len := by rw [List.length_set]; exact r.len
  slot j e h := by
    by_cases hj : j = i
    · subst hj
      have hl : j < env.length := by
        have := (List.getElem?_eq_some_iff.mp h).1
        rwa [List.length_set] at this
      rw [List.getElem?_set_self hl] at h
      cases h
    · rw [List.getElem?_set_ne (Ne.symm hj)] at h
      obtain ⟨u, h1, h2⟩ := r.slot j e h
      refine ⟨u, h1, ?_⟩
      rw [upf_ne hj]
      have : (own.set i n).getD j 0 = own.getD j 0 := by simp [List.getD, List.getElem?_set_ne (Ne.symm hj)]
      rw [this]; exact h2
  nd j := by
    by_cases hj : j = i
    · subst hj; rw [upf_same]; exact List.nodup_nil
    · rw [upf_ne hj]; exact r.nd j
  dis j k a hjk ha hk := by
    by_cases hj : j = i
    · subst hj; rw [upf_same] at ha; cases ha
    · rw [upf_ne hj] at ha
      by_cases hk2 : k = i
      · subst hk2; rw [upf_same] at hk; cases hk
      · rw [upf_ne hk2] at hk
        exact r.dis j k a hjk ha hk
  out j a ha := by
    by_cases hj : j = i
    · subst hj; rw [upf_same] at ha; cases ha
    · rw [upf_ne hj] at ha; exact r.out j a ha
/-- a slot is frozen -/
theorem ER.frz (r : ER X own g H σ env fps) (i : Nat) : ER X (own.set i 0) (frz g (fps i)) H σ env (upf fps i []) where
  len := r.len
  slot j e h := by
    obtain ⟨u, h1, h2⟩ := r.slot j e h
    refine ⟨u, h1, ?_⟩
    by_cases hj : j = i
    · subst hj
      rw [upf_same]
      have : (own.set j 0).getD j 0 = 0 := by
        by_cases hl : j < own.length
        · simp [List.getD, hl]
        · simp [List.getD, hl]
      rw [this]
      exact ⟨rfl, h2.rp frz_fm fun a ha => .inr ha⟩
    · rw [upf_ne hj]
      have : (own.set i 0).getD j 0 = own.getD j 0 := by simp [List.getD, List.getElem?_set_ne (Ne.symm hj)]
      rw [this]
      exact RO.fm frz_fm h2 fun _ _ _ h => h
  nd j := by
    by_cases hj : j = i
    · subst hj; rw [upf_same]; exact List.nodup_nil
    · rw [upf_ne hj]; exact r.nd j
  dis j k a hjk ha hk := by
    by_cases hj : j = i
    · subst hj; rw [upf_same] at ha; cases ha
    · rw [upf_ne hj] at ha
      by_cases hk2 : k = i
      · subst hk2; rw [upf_same] at hk; cases hk
      · rw [upf_ne hk2] at hk
        exact r.dis j k a hjk ha hk
  out j a ha := by
    by_cases hj : j = i
    · subst hj; rw [upf_same] at ha; cases ha
    · rw [upf_ne hj] at ha
      obtain ⟨h1, h2, h3⟩ := r.out j a ha
      refine ⟨fun z => ?_, h2, h3⟩
      rcases z with q | q
      · exact h1 q
      · exact r.dis j i a hj ha q
end
end RpS
end

section
set_option Elab.async false
set_option linter.all false
set_option maxRecDepth 100000
set_option maxHeartbeats 2000000
/-! RpS3: operations over plain data. -/
namespace RpS
open PySem PySem.Spec PyProof.Rows L2
/-- what an operation gives: data that stood already (for fr: no list, no dict), or a new object -/
inductive New (X : Gx) (g : Gh) (H : Hp) (fr : Bool) : V → Rp.D → Hp → Prop
  | old {v : V} {d : Rp.D} : (fr = true → (∀ xs, d ≠ .lst xs) ∧ ∀ ks, d ≠ .dic ks) → Rp X g H v d → New X g H fr v d H
  | lst {p : Addr} {vs : List V} {ds : List Rp.D} : H p = none → RpA X g H vs ds → New X g H fr (.ref p) (.lst ds) (upd H p (.lst vs))
  | tup {p : Addr} {vs : List V} {ds : List Rp.D} : H p = none → RpA X g H vs ds → New X g H fr (.ref p) (.tup ds) (upd H p (.tup vs))
  | dic {p : Addr} {vs : List (Key × V)} {ks : List (Rp.D × Rp.D)} : H p = none → RpK X g H vs ks → New X g H fr (.ref p) (.dic ks) (upd H p (.dK vs))
section
variable {X : Gx} {g g' : Gh} {H H' : Hp} {w : Rp.W}
theorem ext_upd {p : Addr} {o : HO} (h : H p = none) : Ext g H g (upd H p o) where
  f _ q := q
  n _ q := .inl q
  k a u q _ := by rw [upd_ne (ne_of_none q h)]; exact q
  w1 _ := ⟨rfl, rfl⟩
  w2 e a q := absurd e q.1
  t a q := by
    by_cases e : a = p
    · subst e; exact absurd h q
    · rw [upd_ne e]; exact q
theorem WR.ext_same (r : WR g H w) (e : Ext g H g H') (k : ∀ a o, H a = some o → H' a = some o) : WR g H' w := by
  refine ⟨fun a ha => ⟨e.t a (r.1 a ha).1, (r.1 a ha).2⟩, ?_⟩
  have h2 := r.2
  cases w with
  | none => exact h2
  | some st =>
    obtain ⟨a, ca, h1, h2, h3, h4, h5, h6⟩ := h2
    exact ⟨a, ca, h1, h2, k _ _ h3, k _ _ h4, h5, k _ _ h6⟩
theorem WR.upd {p : Addr} {o : HO} (r : WR g H w) (h : H p = none) : WR g (upd H p o) w :=
  r.ext_same (ext_upd h) fun a u q => by rw [upd_ne (ne_of_none q h)]; exact q
theorem ext_frz {l : List Addr} (h : ∀ a ∈ l, H a = none) {H' : Hp} (e : Ext g H g H') : Ext g H (frz g l) H' where
  f a q := .inl (e.f a q)
  n a q := by
    rcases q with q | q
    · exact e.n a q
    · exact .inr (h a q)
  k := e.k
  w1 := e.w1
  w2 := e.w2
  t := e.t
theorem not_wd_of_none (r : WR g H w) {p : Addr} (h : H p = none) : ¬ wd g p := fun z => by
  have h2 := r.2
  cases w with
  | none => exact z.1 h2
  | some st =>
    obtain ⟨a, ca, h1, h2, h3, h4, h5, h6⟩ := h2
    rcases z.2 with q | q
    · rw [h1] at q; cases q; rw [h] at h3; cases h3
    · subst q; rw [h] at h4; cases h4
theorem fm_upd {p : Addr} {o : HO} (ok : Gok g H) (h : H p = none) : Fm g H g (upd H p o) := (ext_upd h).fm ok
/-- frozen at once -/
theorem New.frz {fr : Bool} {v : V} {d : Rp.D} (n : New X g H fr v d H') (r : WR g H w) : ∃ g', Ext g H g' H' ∧ WR g' H' w ∧ Rp X g' H' v d := by
  cases n with
  | old _ h => exact ⟨g, .refl _ _, r, h⟩
  | @lst p vs ds hp h =>
    have e := ext_upd (g := g) (o := .lst vs) hp
    have r1 := r.upd (o := .lst vs) hp
    refine ⟨RpS.frz g [p], ext_frz (by intro a ha; simp at ha; subst ha; exact hp) e, r1.frz (by intro a ha; simp at ha; subst ha; exact ⟨by rw [upd_same]; simp, not_wd_of_none r hp⟩), ?_⟩
    exact .lst (.inr (by simp)) upd_same (RpA.fm ((fm_upd r.1 hp).trans frz_fm) h)
  | @tup p vs ds hp h =>
    have e := ext_upd (g := g) (o := .tup vs) hp
    have r1 := r.upd (o := .tup vs) hp
    refine ⟨RpS.frz g [p], ext_frz (by intro a ha; simp at ha; subst ha; exact hp) e, r1.frz (by intro a ha; simp at ha; subst ha; exact ⟨by rw [upd_same]; simp, not_wd_of_none r hp⟩), ?_⟩
    exact .tup (.inr (by simp)) upd_same (RpA.fm ((fm_upd r.1 hp).trans frz_fm) h)
  | @dic p vs ds hp h =>
    have e := ext_upd (g := g) (o := .dK vs) hp
    have r1 := r.upd (o := .dK vs) hp
    refine ⟨RpS.frz g [p], ext_frz (by intro a ha; simp at ha; subst ha; exact hp) e, r1.frz (by intro a ha; simp at ha; subst ha; exact ⟨by rw [upd_same]; simp, not_wd_of_none r hp⟩), ?_⟩
    exact .dic (.inr (by simp)) upd_same (RpK.fm ((fm_upd r.1 hp).trans frz_fm) h)
/-- what may be a fresh owned object -/
abbrev isMut : Rp.D → Bool := Rp.isMut
theorem LsO.of0 : ∀ {vs : List V} {ds : List Rp.D}, RpA X g H vs ds → LsO (RO X g H 0) vs ds []
  | _, _, .nil => .nil
  | _, _, .cons a b => by
    have := LsO.cons (p := RO X g H 0) (f := []) ⟨rfl, a⟩ (LsO.of0 b)
    simpa using this
/-- owned -/
theorem New.own {v : V} {d : Rp.D} (n : New X g H true v d H') (r : WR g H w) (m : isMut d = true) : ∃ fp, Ext g H g H' ∧ WR g H' w ∧ RO X g H' 1 v d fp ∧ fp.Nodup ∧ ∀ a ∈ fp, H a = none ∧ H' a ≠ none := by
  cases n with
  | old hn h =>
    obtain ⟨h1, h2⟩ := hn rfl
    cases d with
    | lst xs => exact absurd rfl (h1 xs)
    | dic ks => exact absurd rfl (h2 ks)
    | _ => simp [Rp.isMut] at m
  | @lst p vs ds hp h =>
    refine ⟨[p], ext_upd hp, r.upd hp, .inl ⟨p, vs, ds, [], rfl, rfl, rfl, upd_same, .of0 (RpA.fm (fm_upd r.1 hp) h)⟩, by simp, ?_⟩
    intro a ha; simp at ha; subst ha; exact ⟨hp, by rw [upd_same]; simp⟩
  | @tup p vs ds hp h => simp [Rp.isMut] at m
  | @dic p vs ds hp h =>
    refine ⟨[p], ext_upd hp, r.upd hp, .inr (.inl ⟨rfl, p, vs, ds, rfl, rfl, rfl, upd_same, RpK.fm (fm_upd r.1 hp) h⟩), by simp, ?_⟩
    intro a ha; simp at ha; subst ha; exact ⟨hp, by rw [upd_same]; simp⟩

/-! ### shapes -/
theorem RR.int {n : Nat} {v : V} {i : Int} (h : RR X g H n v (.int i)) : v = .int i := by
  cases n with
  | zero => cases (show Rp X g H v (.int i) from h); rfl
  | succ n =>
    rcases h with h | ⟨a, vs, ds, e1, e2, _⟩ | ⟨a, kvs, ks, e1, e2, _⟩ | ⟨a, dx, c, fs, gs, e1, e2, _⟩
    · cases h; rfl
    · cases e2
    · cases e2
    · cases e2
theorem RR.bl {n : Nat} {v : V} {i : Bool} (h : RR X g H n v (.bl i)) : v = .bl i := by
  cases n with
  | zero => cases (show Rp X g H v (.bl i) from h); rfl
  | succ n =>
    rcases h with h | ⟨a, vs, ds, e1, e2, _⟩ | ⟨a, kvs, ks, e1, e2, _⟩ | ⟨a, dx, c, fs, gs, e1, e2, _⟩
    · cases h; rfl
    · cases e2
    · cases e2
    · cases e2
theorem RR.non {n : Nat} {v : V} (h : RR X g H n v .non) : v = .non := by
  cases n with
  | zero => cases (show Rp X g H v .non from h); rfl
  | succ n =>
    rcases h with h | ⟨a, vs, ds, e1, e2, _⟩ | ⟨a, kvs, ks, e1, e2, _⟩ | ⟨a, dx, c, fs, gs, e1, e2, _⟩
    · cases h; rfl
    · cases e2
    · cases e2
    · cases e2
theorem RR.tup {n : Nat} {v : V} {ds : List Rp.D} (h : RR X g H n v (.tup ds)) : ∃ a vs, v = .ref a ∧ g.F a ∧ H a = some (.tup vs) ∧ RpA X g H vs ds := by
  cases n with
  | zero => cases (show Rp X g H v (.tup ds) from h) with | tup f h2 r => exact ⟨_, _, rfl, f, h2, r⟩
  | succ n =>
    rcases h with h | ⟨a, vs, ds, e1, e2, _⟩ | ⟨a, kvs, ks, e1, e2, _⟩ | ⟨a, dx, c, fs, gs, e1, e2, _⟩
    · cases h with | tup f h r => exact ⟨_, _, rfl, f, h, r⟩
    · cases e2
    · cases e2
    · cases e2
theorem RR.lstA {n : Nat} {v : V} {ds : List Rp.D} (h : RR X g H n v (.lst ds)) : ∃ a vs, v = .ref a ∧ H a = some (.lst vs) ∧ vs.length = ds.length := by
  cases n with
  | zero => cases (show Rp X g H v (.lst ds) from h) with | lst f h2 r => exact ⟨_, _, rfl, h2, r.length⟩
  | succ n =>
    rcases h with h | ⟨a, vs, ds, e1, e2, _, hh, r⟩ | ⟨a, kvs, ks, e1, e2, _⟩ | ⟨a, dx, c, fs, gs, e1, e2, _⟩
    · cases h with | lst f h r => exact ⟨_, _, rfl, h, r.length⟩
    · cases e2; exact ⟨a, vs, e1, hh, r.length⟩
    · cases e2
    · cases e2
theorem RR.lst1 {v : V} {ds : List Rp.D} (h : RR X g H 1 v (.lst ds)) : ∃ a vs, v = .ref a ∧ H a = some (.lst vs) ∧ RpA X g H vs ds := by
  rcases h with h | ⟨a, vs, ds, e1, e2, _, hh, r⟩ | ⟨a, kvs, ks, e1, e2, _⟩ | ⟨a, dx, c, fs, gs, e1, e2, _⟩
  · cases h with | lst f h r => exact ⟨_, _, rfl, h, r⟩
  · cases e2; exact ⟨a, vs, e1, hh, Ls.rpa r⟩
  · cases e2
  · cases e2
theorem RR.dic {n : Nat} {v : V} {ds : List (Rp.D × Rp.D)} (h : RR X g H n v (.dic ds)) : ∃ a vs, v = .ref a ∧ H a = some (.dK vs) ∧ RpK X g H vs ds := by
  cases n with
  | zero => cases (show Rp X g H v (.dic ds) from h) with | dic f h2 r => exact ⟨_, _, rfl, h2, r⟩
  | succ n =>
    rcases h with h | ⟨a, vs, ds, e1, e2, _⟩ | ⟨a, kvs, ks, e1, e2, _, hh, r⟩ | ⟨a, dx, c, fs, gs, e1, e2, _⟩
    · cases h with | dic f h r => exact ⟨_, _, rfl, h, r⟩
    · cases e2
    · cases e2; exact ⟨a, kvs, e1, hh, r⟩
    · cases e2
theorem RR.obj {n : Nat} {v : V} {c : String} {ds : List (String × Rp.D)} (h : RR X g H n v (.obj c ds)) : ∃ a dx fs, v = .ref a ∧ H a = some (.ins (X.cls c) dx fs) ∧ RpF X g H fs ds := by
  cases n with
  | zero => cases (show Rp X g H v (.obj c ds) from h) with | obj f h2 r => exact ⟨_, _, _, rfl, h2, r⟩
  | succ n =>
    rcases h with h | ⟨a, vs, ds, e1, e2, _⟩ | ⟨a, kvs, ks, e1, e2, _⟩ | ⟨a, dx, c, fs, gs, e1, e2, _, hh, r⟩
    · cases h with | obj f h r => exact ⟨_, _, _, rfl, h, r⟩
    · cases e2
    · cases e2
    · cases e2; exact ⟨a, dx, fs, e1, hh, r⟩
end

/-! ### two-place operations -/
/-- a two-place operation over data: both sides of at most n owned storeys -/
def rD (X : Gx) (sem : Rp.D → Rp.D → Option Rp.D) (n : Nat) (fr : Bool) : R2 := fun x y H Q => ∃ g dx dy d, RR X g H n x dx ∧ RR X g H n y dy ∧ sem dx dy = some d ∧ ∀ v H', New X g H fr v d H' → Q v H'
section
variable {Xc : Cx} {X : Gx}
theorem line_le {n : Nat} (h : n ≤ Rp.LINE) : n ≤ sizeLine := by rw [sizeLine_eq]; exact h
theorem line_lt {n : Nat} (h : n < Rp.LINE) : n < sizeLine := by rw [sizeLine_eq]; exact h
theorem mulOk_of {a b : Int} (h : Rp.mulOk a b = true) : IntMulOk a b := by
  have bb : ∀ x : Int, Builtin.Int.intBits x ≤ x.natAbs.log2 + 1 := fun x => by
    unfold Builtin.Int.intBits
    split <;> omega
  unfold Rp.mulOk at h
  simp only [Bool.or_eq_true, decide_eq_true_eq] at h
  rcases h with (h | h) | h
  · exact .of_left (intBits_le_64 (by omega) (by omega))
  · exact .of_right (intBits_le_64 (by omega) (by omega))
  · have h1 := bb a
    have h2 := bb b
    unfold Rp.bits at h
    have e : bitsLine = 134217728 := by decide
    unfold IntMulOk
    intro z
    rw [Bool.and_eq_true] at z
    have z2 := z.2
    unfold Builtin.Int.intTooBig at z2
    have z3 := of_decide_eq_true z2
    rw [e] at z3
    omega
theorem od_add : OpR Xc (binaryOp .Add) (rD X (Rp.binD .add) 1 true) := by
  intro pins s σ H x y v u Q I rx ry ⟨g, dx, dy, d, hx, hy, hs, q⟩
  cases dx with
  | int i =>
    cases dy with
    | int j =>
      simp only [Rp.binD, Option.some.injEq] at hs; subst hs
      exact op_add pins s σ H x y v u Q I rx ry ⟨i, j, hx.int, hy.int, q _ _ (.old (fun _ => ⟨fun _ => by simp, fun _ => by simp⟩) (.int _))⟩
    | _ => simp [Rp.binD] at hs
  | tup xs =>
    cases dy with
    | tup ys =>
      simp only [Rp.binD] at hs
      split at hs
      · rename_i hl
        cases hs
        obtain ⟨a, vs, rfl, fa, ha, ra⟩ := hx.tup
        obtain ⟨b, ws, rfl, fb, hb, rb⟩ := hy.tup
        have l1 := ra.length
        have l2 := rb.length
        refine op_catA pins s σ H _ _ v u Q I rx ry ⟨a, b, vs, ws, rfl, rfl, SqT.of ha, SqT.of hb, line_le (by omega), fun e => ?_, fun _ e => ?_, fun _ _ p hp => ?_⟩
        · subst e
          cases ra
          exact q _ _ (.old (fun _ => ⟨fun _ => by simp, fun _ => by simp⟩) (.tup fb hb rb))
        · subst e
          cases rb
          rw [List.append_nil] at q
          exact q _ _ (.old (fun _ => ⟨fun _ => by simp, fun _ => by simp⟩) (.tup fa ha ra))
        · exact q _ _ (.tup hp (ra.append rb))
      · cases hs
    | _ => simp [Rp.binD] at hs
  | lst xs =>
    cases dy with
    | lst ys =>
      simp only [Rp.binD] at hs
      split at hs
      · rename_i hl
        cases hs
        obtain ⟨a, vs, rfl, ha, ra⟩ := hx.lst1
        obtain ⟨b, ws, rfl, hb, rb⟩ := hy.lst1
        have l1 := ra.length
        have l2 := rb.length
        exact op_cat pins s σ H _ _ v u Q I rx ry ⟨a, b, vs, ws, rfl, rfl, ha, hb, line_le (by omega), fun p hp => q _ _ (.lst hp (ra.append rb))⟩
      · cases hs
    | _ => simp [Rp.binD] at hs
  | _ => simp [Rp.binD] at hs
theorem od_sub : OpR Xc (binaryOp .Sub) (rD X (Rp.binD .sub) 1 true) := by
  intro pins s σ H x y v u Q I rx ry ⟨g, dx, dy, d, hx, hy, hs, q⟩
  cases dx with
  | int i =>
    cases dy with
    | int j =>
      simp only [Rp.binD, Option.some.injEq] at hs; subst hs
      exact op_sub pins s σ H x y v u Q I rx ry ⟨i, j, hx.int, hy.int, q _ _ (.old (fun _ => ⟨fun _ => by simp, fun _ => by simp⟩) (.int _))⟩
    | _ => simp [Rp.binD] at hs
  | _ => simp [Rp.binD] at hs
theorem op_mulD : OpR Xc (binaryOp .Mult) (rI IntMulOk fun i j => .int (i * j)) := opI fun _ _ _ _ _ _ _ hc q => mul_int q hc
theorem op_fdivD : OpR Xc (binaryOp .FloorDiv) (rI (fun _ j => j ≠ 0 ∧ Rp.bits j ≤ 9000) fun i j => .int (i.fdiv j)) := by
  intro pins s σ H x y v u Q I rx ry h
  obtain ⟨i, j, rfl, rfl, hc, q⟩ := h
  obtain ⟨t, rfl⟩ := rx
  obtain ⟨t', rfl⟩ := ry
  refine floordiv_int hc.1 ⟨.int (i.fdiv j), H, I.tok _, ⟨_, rfl⟩, q⟩ (.inl (PyProof.noPylong_of_log2 ?_))
  have := hc.2
  unfold Rp.bits at this
  omega
theorem op_powD : OpR Xc (binaryOp .Pow) (rI (fun i j => 0 ≤ j ∧ (Builtin.Int.intBits i : Int) * j ≤ 2 ^ 27) fun i j => .int (i ^ j.toNat)) := opI fun _ _ _ _ _ _ _ hc q => pow_int hc.1 hc.2 q
theorem od_fdiv : OpR Xc (binaryOp .FloorDiv) (rD X (Rp.binD .fdiv) 1 true) := by
  intro pins s σ H x y v u Q I rx ry ⟨g, dx, dy, d, hx, hy, hs, q⟩
  cases dx with
  | int i =>
    cases dy with
    | int j =>
      simp only [Rp.binD] at hs
      split at hs
      · rename_i hj
        cases hs
        exact op_fdivD pins s σ H x y v u Q I rx ry ⟨i, j, hx.int, hy.int, hj, q _ _ (.old (fun _ => ⟨fun _ => by simp, fun _ => by simp⟩) (.int _))⟩
      · cases hs
    | _ => simp [Rp.binD] at hs
  | _ => simp [Rp.binD] at hs
theorem od_mod : OpR Xc (binaryOp .Mod) (rD X (Rp.binD .mod) 1 true) := by
  intro pins s σ H x y v u Q I rx ry ⟨g, dx, dy, d, hx, hy, hs, q⟩
  cases dx with
  | int i =>
    cases dy with
    | int j =>
      simp only [Rp.binD] at hs
      split at hs
      · rename_i hj
        cases hs
        exact op_modN pins s σ H x y v u Q I rx ry ⟨i, j, hx.int, hy.int, hj, q _ _ (.old (fun _ => ⟨fun _ => by simp, fun _ => by simp⟩) (.int _))⟩
      · cases hs
    | _ => simp [Rp.binD] at hs
  | _ => simp [Rp.binD] at hs
theorem od_pow : OpR Xc (binaryOp .Pow) (rD X (Rp.binD .pow) 1 true) := by
  intro pins s σ H x y v u Q I rx ry ⟨g, dx, dy, d, hx, hy, hs, q⟩
  cases dx with
  | int i =>
    cases dy with
    | int j =>
      simp only [Rp.binD] at hs
      split at hs
      · rename_i hj
        cases hs
        refine op_powD pins s σ H x y v u Q I rx ry ⟨i, j, hx.int, hy.int, ⟨hj.1, ?_⟩, q _ _ (.old (fun _ => ⟨fun _ => by simp, fun _ => by simp⟩) (.int _))⟩
        have b : Builtin.Int.intBits i ≤ Rp.bits i := by
          unfold Builtin.Int.intBits Rp.bits
          split <;> omega
        have := Int.mul_le_mul_of_nonneg_right (show ((Builtin.Int.intBits i : Nat) : Int) ≤ ((Rp.bits i : Nat) : Int) by omega) hj.1
        have := hj.2
        omega
      · cases hs
    | _ => simp [Rp.binD] at hs
  | _ => simp [Rp.binD] at hs
end
end RpS
end

section
set_option Elab.async false
set_option linter.all false
set_option maxRecDepth 100000
set_option maxHeartbeats 2000000
/-! RpS4: more operations over plain data. -/
namespace RpS
open PySem PySem.Spec PyProof.Rows L2
section
/-- t * 1: the tuple itself -/
theorem tuple_mul1 (l : Addr) (items : Array Value) (n : Nat) (dd : Option Addr) (sl : Array (Option Value)) (u : Tok) :
    Meets (Builtin.«tuple.__mul__» ⟨[.ref l, .int 1 u], []⟩) (fun _ R s => s.heap.get? l = some { cls := .type "tuple", dict := dd, data := .seq items n, slots := sl } ∧ R (.ok (.ret (Value.ref l))) s) :=
  .of_wp fun prog w A R s h => by
    obtain ⟨hp, g, d, tk, os⟩ := s
    obtain ⟨hl, h⟩ := h
    have f1 := AutoSeq1.idx_int
    have c0 : (decide ((1 : Int) < -(2 ^ 63)) || decide ((1 : Int) ≥ 2 ^ 63)) = false := by decide
    have c1 : (items.isEmpty || (1 : Int) == 1) = true := by simp
    wp_walk using wpAny_loadPart' hl
    repeat (first
      | (refine wpAny_ite_false (decide_eq_false (by rw [c0]; exact Bool.false_ne_true)) ?_; wp_walk using wpAny_loadPart' hl)
      | (refine wpAny_ite_true (decide_eq_true c1) ?_; wp_walk using wpAny_loadPart' hl))
    all_goals first
      | exact ⟨_, rfl, h⟩
      | (simp only [c1, if_true]; wp_walk using wpAny_loadPart' hl; exact ⟨_, rfl, h⟩)
end
section
variable {Xc : Cx} {X : Gx}
abbrev nol : ∀ {d : Rp.D}, (∀ xs, d ≠ .lst xs) → (∀ ks, d ≠ .dic ks) → True := fun _ _ => trivial
theorem op_rep1 : OpR Xc (binaryOp .Mult) (fun x y H Q => ∃ l xs, x = .ref l ∧ y = .int 1 ∧ SqT Xc.K H l xs ∧ xs.length ≤ 1000 ∧ Q (.ref l) H) := by
  intro pins s σ H x y v u Q I rx ry h
  obtain ⟨l, xs, rfl, rfl, hT, hz, q⟩ := h
  cases rx
  obtain ⟨t, rfl⟩ := ry
  obtain ⟨its, r, ⟨⟨cls, dd, data, sl⟩, ho, hc, n, hd⟩, hs⟩ := I.tuple hT
  simp only at hc hd
  subst hc hd
  exact wpAny_binaryOp_repeat_ref (T := "tuple") (U := "int") (by decide) ⟨_, ho, rfl⟩ (fun s' => typeIs_int s' 1 t) noFill_tuple_mul F.fills_int_mul F.slot_int_rmul repeat_tuple F.slot_int_index.lookup
    (call_meets F.slot_int_rmul (typeIs_int s 1 t) F.entry_int_rmul (F.args_int_rmul_2 _ _) (int_rmul_tuple 1 t l its.toArray n dd sl)
      ⟨ho, rfl, ⟨_, ho, rfl⟩, call_meets F.slot_tuple_mul ⟨_, ho, rfl⟩ F.entry_tuple_mul (F.args_tuple_mul_2 _ _) (tuple_mul1 l its.toArray n dd sl t) ⟨ho, ⟨.ref l, H, I, rfl, q⟩⟩⟩)
theorem od_mul : OpR Xc (binaryOp .Mult) (rD X (Rp.binD .mul) 1 true) := by
  intro pins s σ H x y v u Q I rx ry ⟨g, dx, dy, d, hx, hy, hs, q⟩
  cases dx with
  | int i =>
    cases dy with
    | int j =>
      simp only [Rp.binD] at hs
      split at hs
      · rename_i hj
        cases hs
        exact op_mulD pins s σ H x y v u Q I rx ry ⟨i, j, hx.int, hy.int, mulOk_of hj, q _ _ (.old (fun _ => ⟨fun _ => by simp, fun _ => by simp⟩) (.int _))⟩
      · cases hs
    | _ => simp [Rp.binD] at hs
  | lst xs =>
    cases dy with
    | int j =>
      simp only [Rp.binD] at hs
      split at hs
      · rename_i hj
        cases hs
        obtain ⟨a, vs, rfl, ha, ra⟩ := hx.lst1
        have l1 := ra.length
        exact op_rep pins s σ H _ _ v u Q I rx ry ⟨a, j, vs, rfl, hy.int, ha, by omega, by omega, line_le (by rw [l1]; exact hj.1), fun p hp => q _ _ (.lst hp (ra.rep _))⟩
      · cases hs
    | _ => simp [Rp.binD] at hs
  | tup xs =>
    cases dy with
    | int j =>
      simp only [Rp.binD] at hs
      split at hs
      · rename_i hj
        cases hs
        obtain ⟨a, vs, rfl, fa, ha, ra⟩ := hx.tup
        have l1 := ra.length
        by_cases h1 : j = 1
        · subst h1
          have e : (List.replicate (1 : Int).toNat xs).flatten = xs := by simp
          rw [e] at q
          exact op_rep1 pins s σ H _ _ v u Q I rx ry ⟨a, vs, rfl, hy.int, SqT.of ha, by omega, q _ _ (.old (fun _ => ⟨fun _ => by simp, fun _ => by simp⟩) (.tup fa ha ra))⟩
        · refine op_repT pins s σ H _ _ v u Q I rx ry ⟨a, j, vs, rfl, hy.int, SqT.of ha, fun e => hj.1 ?_, by omega, by omega, by omega, fun p hp => q _ _ (.tup hp (ra.rep _))⟩
          subst e
          cases ra; rfl
      · cases hs
    | _ => simp [Rp.binD] at hs
  | _ => simp [Rp.binD] at hs
/-- the operator of the text -/
def opB : Rp.BOp → Operator
  | .add => .Add | .sub => .Sub | .mul => .Mult | .fdiv => .FloorDiv | .mod => .Mod | .pow => .Pow
theorem od_bin (o : Rp.BOp) : OpR Xc (binaryOp (opB o)) (rD X (Rp.binD o) 1 true) := by
  cases o
  · exact od_add
  · exact od_sub
  · exact od_mul
  · exact od_fdiv
  · exact od_mod
  · exact od_pow

/-! ### comparisons -/
def opC : Rp.COp → CmpOp
  | .eq => .Eq | .ne => .NotEq | .lt => .Lt | .le => .LtE | .gt => .Gt | .ge => .GtE | .is => .Is | .isNot => .IsNot | .in_ => .In | .notIn => .NotIn
def rC (X : Gx) (o : Rp.COp) (n : Nat) : R2 := fun x y H Q => ∃ g dx dy b, RR X g H n x dx ∧ RR X g H n y dy ∧ Rp.cmpD o dx dy = some b ∧ Q (.bl b) H
theorem key_rel {X : Gx} {g : Gh} {H : Hp} : ∀ {kvs : List (Key × V)} {ks : List (Rp.D × Rp.D)} (i : Int), RpK X g H kvs ks → (∀ v, valV kvs (.inl i) = some v → ∃ d, Rp.dGet ks (.int i) = some d ∧ Rp X g H v d) ∧ (valV kvs (.inl i) = none → Rp.dGet ks (.int i) = none) ∧ (valV kvs (.inl i)).isSome = Rp.dHas ks (.int i)
  | _, _, i, .nil => ⟨fun v h => by simp [valV_nil] at h, fun _ => rfl, rfl⟩
  | _, _, i, .cons (i := j) (v := v) (d := d) a b => by
    obtain ⟨h1, h2, h3⟩ := key_rel i b
    by_cases e : j = i
    · subst e
      rw [valV_pos (p := (Sum.inl j, v)) rfl]
      refine ⟨fun u hu => ⟨d, by simp [Rp.dGet, Rp.D.eqv], by cases hu; exact a⟩, fun h => by simp at h, by simp [Rp.dHas, Rp.D.eqv]⟩
    · rw [valV_neg (p := (Sum.inl j, v)) (by simpa using e)]
      have ne : Rp.D.eqv (.int j) (.int i) = false := by simp [Rp.D.eqv, e]
      refine ⟨fun u hu => ?_, fun h => ?_, ?_⟩
      · simp only [Rp.dGet, ne]; exact h1 u hu
      · simp only [Rp.dGet, ne]; exact h2 h
      · simp only [Rp.dHas, ne, Bool.false_or]; exact h3
theorem dGet_of {X : Gx} {g : Gh} {H : Hp} {kvs : List (Key × V)} {ks : List (Rp.D × Rp.D)} (r : RpK X g H kvs ks) {i : Int} {d : Rp.D} (h : Rp.dGet ks (.int i) = some d) : ∃ v, valV kvs (.inl i) = some v ∧ Rp X g H v d := by
  obtain ⟨h1, h2, _⟩ := key_rel i r
  cases e : valV kvs (.inl i) with
  | none => rw [h2 e] at h; cases h
  | some v =>
    obtain ⟨d', e1, e2⟩ := h1 v e
    rw [h] at e1; cases e1
    exact ⟨v, rfl, e2⟩
theorem od_eq (hr : Room 40 Xc.A) {n : Nat} : OpR Xc (compareOp .Eq) (rC X .eq n) := by
  intro pins s σ H x y v u Q I rx ry ⟨g, dx, dy, b, hx, hy, hs, q⟩
  simp only [Rp.cmpD, Rp.D.eqO] at hs
  split at hs
  · rename_i h
    simp only [Bool.and_eq_true, decide_eq_true_eq] at h
    cases hs
    refine op_eqD (by have := hr.units; omega) pins s σ H x y v u Q I rx ry ⟨pd dx, pd dy, hx.dp h.1.1.1, hy.dp h.1.1.2, pd_shaped _ h.1.2, pd_shaped _ h.2, ?_⟩
    rw [pd_eqv _ _ h.1.1.1 h.1.1.2]
    exact q
  · cases hs
theorem od_ne (hr : Room 40 Xc.A) {n : Nat} : OpR Xc (compareOp .NotEq) (rC X .ne n) := by
  intro pins s σ H x y v u Q I rx ry ⟨g, dx, dy, b, hx, hy, hs, q⟩
  simp only [Rp.cmpD, Rp.D.eqO] at hs
  split at hs
  · rename_i h
    simp only [Bool.and_eq_true, decide_eq_true_eq] at h
    cases hs
    refine op_neD (by have := hr.units; omega) pins s σ H x y v u Q I rx ry ⟨pd dx, pd dy, hx.dp h.1.1.1, hy.dp h.1.1.2, pd_shaped _ h.1.2, pd_shaped _ h.2, ?_⟩
    rw [pd_eqv _ _ h.1.1.1 h.1.1.2]
    exact q
  · cases hs
theorem lex_eq : ∀ a b : List Int, HT.lexLt a b = Rp.lexLt a b
  | [], [] => rfl
  | [], _ :: _ => rfl
  | _ :: _, [] => rfl
  | x :: xs, y :: ys => by
    rw [HT.lexLt_cons, Rp.lexLt, lex_eq xs ys]
theorem od_lt (hr : Room 40 Xc.A) {n : Nat} : OpR Xc (compareOp .Lt) (rC X .lt n) := by
  intro pins s σ H x y v u Q I rx ry ⟨g, dx, dy, b, hx, hy, hs, q⟩
  cases dx with
  | int i =>
    cases dy with
    | int j =>
      simp only [Rp.cmpD, Option.some.injEq] at hs; subst hs
      exact op_lt pins s σ H x y v u Q I rx ry ⟨i, j, hx.int, hy.int, q⟩
    | _ => simp [Rp.cmpD] at hs
  | tup xs =>
    cases dy with
    | tup ys =>
      simp only [Rp.cmpD] at hs
      split at hs
      · rename_i h
        rw [Bool.and_eq_true] at h
        cases hs
        obtain ⟨a, vs, rfl, fa, ha, ra⟩ := hx.tup
        obtain ⟨b, ws, rfl, fb, hb, rb⟩ := hy.tup
        have e1 := ra.intL h.1
        have e2 := rb.intL h.2
        refine op_ltT (by have := hr.units; omega) pins s σ H _ _ v u Q I rx ry ⟨a, b, Rp.intL xs, Rp.intL ys, rfl, rfl, by rw [← e1]; exact SqT.of ha, by rw [← e2]; exact SqT.of hb, ?_⟩
        rw [lex_eq]; exact q
      · cases hs
    | _ => simp [Rp.cmpD] at hs
  | _ => simp [Rp.cmpD] at hs
theorem od_i {op : CmpOp} {o : Rp.COp} {f : Int → Int → Bool} {n : Nat} (h0 : OpR Xc (compareOp op) (rI0 fun i j => .bl (f i j))) (hi : ∀ i j, Rp.cmpD o (.int i) (.int j) = some (f i j))
    (h1 : ∀ a b c, Rp.cmpD o a b = some c → (∃ i j, a = .int i ∧ b = .int j)) : OpR Xc (compareOp op) (rC X o n) := by
  intro pins s σ H x y v u Q I rx ry ⟨g, dx, dy, b, hx, hy, hs, q⟩
  obtain ⟨i, j, rfl, rfl⟩ := h1 _ _ _ hs
  rw [hi] at hs; cases hs
  exact h0 pins s σ H x y v u Q I rx ry ⟨i, j, hx.int, hy.int, q⟩
theorem od_le {n : Nat} : OpR Xc (compareOp .LtE) (rC X .le n) := od_i op_le (fun _ _ => rfl) fun a b c h => by
  cases a <;> cases b <;> first | exact ⟨_, _, rfl, rfl⟩ | simp [Rp.cmpD] at h
theorem od_gt {n : Nat} : OpR Xc (compareOp .Gt) (rC X .gt n) := od_i op_gt (fun _ _ => rfl) fun a b c h => by
  cases a <;> cases b <;> first | exact ⟨_, _, rfl, rfl⟩ | simp [Rp.cmpD] at h
theorem od_ge {n : Nat} : OpR Xc (compareOp .GtE) (rC X .ge n) := od_i op_ge (fun _ _ => rfl) fun a b c h => by
  cases a <;> cases b <;> first | exact ⟨_, _, rfl, rfl⟩ | simp [Rp.cmpD] at h
theorem Rp.isN {X : Gx} {g : Gh} {H : Hp} {v : V} {d : Rp.D} (h : Rp X g H v d) : decide (v = .non) = d.isN := by
  cases h <;> simp [Rp.D.isN]
theorem RR.isN {X : Gx} {g : Gh} {H : Hp} {n : Nat} {v : V} {d : Rp.D} (h : RR X g H n v d) : decide (v = .non) = d.isN := by
  cases n with
  | zero => exact Rp.isN h
  | succ n =>
    rcases h with h | ⟨a, vs, ds, e1, e2, _⟩ | ⟨a, kvs, ks, e1, e2, _⟩ | ⟨a, dx, c, fs, gs, e1, e2, _⟩
    · exact Rp.isN h
    · subst e1 e2; simp [Rp.D.isN]
    · subst e1 e2; simp [Rp.D.isN]
    · subst e1 e2; simp [Rp.D.isN]
theorem od_is {n : Nat} : OpR Xc (compareOp .Is) (rC X .is n) := by
  intro pins s σ H x y v u Q I rx ry ⟨g, dx, dy, b, hx, hy, hs, q⟩
  cases dy with
  | non =>
    have e : Rp.cmpD .is dx .non = some dx.isN := by cases dx <;> rfl
    rw [e] at hs; cases hs
    exact op_isN pins s σ H x y v u Q I rx ry ⟨hy.non, by rw [hx.isN]; exact q⟩
  | bl c =>
    cases dx with
    | bl a =>
      simp only [Rp.cmpD, Option.some.injEq] at hs; subst hs
      exact op_isBl pins s σ H x y v u Q I rx ry ⟨a, c, hx.bl, hy.bl, q⟩
    | _ => simp [Rp.cmpD] at hs
  | _ => cases dx <;> simp [Rp.cmpD] at hs
theorem od_isNot {n : Nat} : OpR Xc (compareOp .IsNot) (rC X .isNot n) := by
  intro pins s σ H x y v u Q I rx ry ⟨g, dx, dy, b, hx, hy, hs, q⟩
  cases dy with
  | non =>
    have e : Rp.cmpD .isNot dx .non = some (!dx.isN) := by cases dx <;> rfl
    rw [e] at hs; cases hs
    refine op_notN pins s σ H x y v u Q I rx ry ⟨hy.non, ?_⟩
    rw [hx.isN]
    exact q
  | bl c =>
    cases dx with
    | bl a =>
      simp only [Rp.cmpD, Option.some.injEq] at hs; subst hs
      exact op_notBl pins s σ H x y v u Q I rx ry ⟨a, c, hx.bl, hy.bl, q⟩
    | _ => simp [Rp.cmpD] at hs
  | _ => cases dx <;> simp [Rp.cmpD] at hs
theorem pds_any (x : Rp.D) (hx : x.pl = true) : ∀ xs : List Rp.D, Rp.plAll xs = true → ((pds xs).any fun z => PyData.eqv z (pd x)) = xs.any fun y => Rp.D.eqv y x
  | [], _ => rfl
  | y :: ys, h => by
    simp only [Rp.plAll, Bool.and_eq_true] at h
    simp only [pds, List.any_cons]
    rw [pd_eqv y x h.1 hx, pds_any x hx ys h.2]
end
end RpS
end

section
set_option Elab.async false
set_option linter.all false
set_option maxRecDepth 100000
set_option maxHeartbeats 2000000
/-! RpS5: membership, places, slices, built-ins. -/
namespace RpS
open PySem PySem.Spec PyProof.Rows L2
section
variable {Xc : Cx} {X : Gx} {g : Gh} {H : Hp}
theorem RR.flat {n : Nat} {v : V} {d : Rp.D} (h : RR X g H n v d) (f : d.flat = true) : flatV v = true ∧ Rp X g H v d := by
  have h0 : Rp X g H v d := by
    cases n with
    | zero => exact h
    | succ n =>
      rcases h with h | ⟨a, vs, ds, e1, e2, _⟩ | ⟨a, kvs, ks, e1, e2, _⟩ | ⟨a, dx, c, fs, gs, e1, e2, _⟩
      · exact h
      · subst e2; simp [Rp.D.flat] at f
      · subst e2; simp [Rp.D.flat] at f
      · subst e2; simp [Rp.D.flat] at f
  refine ⟨?_, h0⟩
  cases h0 <;> first | rfl | simp [Rp.D.flat] at f
theorem eqV_of {x y : V} {a b : Rp.D} (hx : Rp X g H x a) (hy : Rp X g H y b) (fa : a.flat = true) (fb : b.flat = true) : eqV x y = Rp.D.eqv a b := by
  cases hx <;> first
    | (simp [Rp.D.flat] at fa; done)
    | (cases hy <;> first
        | (simp [Rp.D.flat] at fb; done)
        | (simp [eqV, Rp.D.eqv, ofs_beq]))
theorem any_of {x : V} {a : Rp.D} (hx : Rp X g H x a) (fa : a.flat = true) : ∀ {vs : List V} {ds : List Rp.D}, RpA X g H vs ds → ds.all Rp.D.flat = true → vs.all flatV = true ∧ (vs.any fun y => eqV y x) = ds.any fun y => Rp.D.eqv y a
  | _, _, .nil, _ => ⟨rfl, rfl⟩
  | _, _, .cons p q, f => by
    rw [List.all_cons, Bool.and_eq_true] at f
    obtain ⟨h1, h2⟩ := any_of hx fa q f.2
    have h3 := (RR.flat (n := 0) p f.1).1
    rw [List.all_cons, List.any_cons, List.any_cons, h3, h1, h2, eqV_of p hx f.1 fa]
    exact ⟨rfl, rfl⟩
theorem od_in (hr : Room 40 Xc.A) {n : Nat} : OpR Xc (compareOp .In) (rC X .in_ n) := by
  intro pins s σ H x y v u Q I rx ry ⟨g, dx, dy, b, hx, hy, hs, q⟩
  simp only [Rp.cmpD, Rp.inD] at hs
  cases dy with
  | tup ys =>
    simp only [Rp.inD] at hs
    split at hs
    · rename_i h
      rw [Bool.and_eq_true] at h
      cases hs
      obtain ⟨f1, h0⟩ := hx.flat h.1
      obtain ⟨a, vs, rfl, fa, ha, ra⟩ := hy.tup
      obtain ⟨h1, h2⟩ := any_of h0 h.1 ra h.2
      refine op_in_seq pins s σ H _ _ v u Q I rx ry ⟨a, vs, rfl, .inr (SqT.of ha), f1, h1, ?_⟩
      show Q (.bl (inV x vs)) H
      unfold inV
      rw [h2]; exact q
    · cases hs
  | lst ys =>
    simp only [Rp.inD, Rp.inAll] at hs
    split at hs
    · rename_i h
      simp only [Bool.and_eq_true, decide_eq_true_eq] at h
      cases hs
      have hd := hy.dp (K := Xc.K) (by simpa [Rp.D.pl] using h.1.1.2)
      simp only [pd] at hd
      refine op_inD (by have := hr.un; omega) pins s σ H x y v u Q I rx ry ⟨pd dx, pds ys, hx.dp h.1.1.1, hd, pd_shaped _ h.1.2, by have := pd_shaped (.lst ys) (by simp only [Rp.D.dep]; omega); simpa [pd] using this, ?_⟩
      rw [pds_any _ h.1.1.1 _ h.1.1.2]
      exact q
    · cases hs
  | dic ks =>
    simp only [Rp.inD] at hs
    split at hs
    · rename_i h
      cases hs
      cases dx with
      | int i =>
        obtain ⟨a, vs, rfl, ha, ra⟩ := hy.dic
        have e := hx.int
        subst e
        obtain ⟨_, _, h3⟩ := key_rel i ra
        cases ry
        refine d_in (by have := hr.un; omega) I (DGet.k (k := Sum.inl i) ha) rx fun s' I' => ⟨.bl _, H, I', rfl, ?_⟩
        rw [h3]; exact q
      | _ => simp [Rp.D.key] at h
    · cases hs
  | _ => simp [Rp.inD] at hs
theorem od_notIn (hr : Room 40 Xc.A) {n : Nat} : OpR Xc (compareOp .NotIn) (rC X .notIn n) := by
  intro pins s σ H x y v u Q I rx ry ⟨g, dx, dy, b, hx, hy, hs, q⟩
  simp only [Rp.cmpD, Rp.inD] at hs
  cases dy with
  | tup ys =>
    simp only [Rp.inD] at hs
    split at hs
    · rename_i h
      rw [Bool.and_eq_true] at h
      cases hs
      obtain ⟨f1, h0⟩ := hx.flat h.1
      obtain ⟨a, vs, rfl, fa, ha, ra⟩ := hy.tup
      obtain ⟨h1, h2⟩ := any_of h0 h.1 ra h.2
      refine op_notIn_seq pins s σ H _ _ v u Q I rx ry ⟨a, vs, rfl, .inr (SqT.of ha), f1, h1, ?_⟩
      show Q (.bl (!inV x vs)) H
      unfold inV
      rw [h2]; exact q
    · cases hs
  | lst ys =>
    simp only [Rp.inD, Rp.inAll] at hs
    split at hs
    · rename_i h
      simp only [Bool.and_eq_true, decide_eq_true_eq] at h
      cases hs
      have hd := hy.dp (K := Xc.K) (by simpa [Rp.D.pl] using h.1.1.2)
      simp only [pd] at hd
      refine op_notInD (by have := hr.un; omega) pins s σ H x y v u Q I rx ry ⟨pd dx, pds ys, hx.dp h.1.1.1, hd, pd_shaped _ h.1.2, by have := pd_shaped (.lst ys) (by simp only [Rp.D.dep]; omega); simpa [pd] using this, ?_⟩
      rw [pds_any _ h.1.1.1 _ h.1.1.2]
      exact q
    · cases hs
  | dic ks =>
    simp only [Rp.inD] at hs
    split at hs
    · rename_i h
      cases hs
      cases dx with
      | int i =>
        obtain ⟨a, vs, rfl, ha, ra⟩ := hy.dic
        have e := hx.int
        subst e
        obtain ⟨_, _, h3⟩ := key_rel i ra
        cases ry
        refine d_notIn (by have := hr.un; omega) I (DGet.k (k := Sum.inl i) ha) rx fun s' I' => ⟨.bl _, H, I', rfl, ?_⟩
        rw [h3]; exact q
      | _ => simp [Rp.D.key] at h
    · cases hs
  | _ => simp [Rp.inD] at hs
theorem od_cmp (hr : Room 40 Xc.A) (o : Rp.COp) {n : Nat} : OpR Xc (compareOp (opC o)) (rC X o n) := by
  cases o
  · exact od_eq hr
  · exact od_ne hr
  · exact od_lt hr
  · exact od_le
  · exact od_gt
  · exact od_ge
  · exact od_is
  · exact od_isNot
  · exact od_in hr
  · exact od_notIn hr

/-! ### places -/
theorem atI_eq {α : Type} (xs : List α) (i : Int) : L2.atI xs i = Rp.atI xs i := by
  unfold L2.atI Rp.atI
  have e : L2.ixN xs.length i = Rp.ixN xs.length i := rfl
  rw [e]
  cases Rp.ixN xs.length i <;> rfl
theorem atI_some {α : Type} {xs : List α} {i : Int} {v : α} (h : Rp.atI xs i = some v) : ∃ j, Rp.ixN xs.length i = some j ∧ xs[j]? = some v := by
  unfold Rp.atI at h
  cases e : Rp.ixN xs.length i with
  | none => rw [e] at h; cases h
  | some j => rw [e] at h; exact ⟨j, rfl, h⟩
theorem atI_of {α : Type} {xs : List α} {i : Int} {j n : Nat} {v : α} (hn : n = xs.length) (h : Rp.ixN n i = some j) (hv : xs[j]? = some v) : L2.atI xs i = some v := by
  rw [atI_eq]; unfold Rp.atI; rw [← hn, h]; exact hv
def rIxD (X : Gx) (n : Nat) : R2 := fun x y H Q => ∃ g dx dy d, RR X g H n x dx ∧ RR X g H 9 y dy ∧ Rp.ixD dx dy = some d ∧ ∀ v, RR X g H (n - 1) v d → Q v H
theorem RR.lstN {n : Nat} {v : V} {ds : List Rp.D} (h : RR X g H n v (.lst ds)) : ∃ a vs, v = .ref a ∧ H a = some (.lst vs) ∧ Ls (RR X g H (n - 1)) vs ds := by
  cases n with
  | zero => cases (show Rp X g H v (.lst ds) from h) with | lst f h2 r => exact ⟨_, _, rfl, h2, r.ls⟩
  | succ n =>
    rcases h with h | ⟨a, vs, ds, e1, e2, _, hh, r⟩ | ⟨a, kvs, ks, e1, e2, _⟩ | ⟨a, dx, c, fs, gs, e1, e2, _⟩
    · cases h with | lst f h r => exact ⟨_, _, rfl, h, Ls.imp (fun _ _ q => RR.of q _) r.ls⟩
    · cases e2; exact ⟨a, vs, e1, hh, r⟩
    · cases e2
    · cases e2
/-- d[k] by values, of a dict -/
theorem ix_dict (hr : Room 40 Xc.A) : IxR Xc (fun x y H Q => ∃ a v kvs i, x = .ref a ∧ y = .int i ∧ H a = some (.dK kvs) ∧ valV kvs (.inl i) = some v ∧ Q v H) := by
  intro value slice pins s σ H x y v u Q I rx ry h hs
  obtain ⟨a, z, kvs, i, rfl, rfl, ha, e, q⟩ := h
  cases rx
  have gk : DGet H a (kV (Sum.inl i)) (some z) := by rw [← e]; exact DGet.k ha
  have T := dict_typeIs I gk
  unfold subscriptTail
  refine wpAny_bind ?_
  rw [getitemInPython_of_ne T.not_modules]
  refine wpAny_bind (wpAny_specialOf T PySem.F.slot_dict_getitem.lookup ?_)
  have fin : wpAny (model Xc.prog Xc.w) Xc.A (subscripted slice false (.ref a) u) (fun r s₃ => wpAny (model Xc.prog Xc.w) Xc.A (letTemporaryGo value (.ref a) r >>= fun _ => pure r) (EP Xc pins σ Q) Xc.xe s₃) Xc.xe s := by
    rw [hs]
    exact wpAny_operating (d_getItem (by have := hr.un; omega) I gk ry fun w' s3 I3 rw' => wpAny_bind (wpAny_letTemporaryGo (wpAny_pure ⟨z, H, I3, rw', q⟩)))
  first
    | exact wpAny_pure (wpAny_bind fin)
    | exact wpAny_bind (wpAny_pure (wpAny_bind fin))
    | exact wpAny_bind fin
theorem ixd (hr : Room 40 Xc.A) {n : Nat} : IxR Xc (rIxD X n) := by
  intro value slice pins s σ H x y v u Q I rx ry ⟨g, dx, dy, d, hx, hy, hs, q⟩ hsl
  cases dx with
  | tup xs =>
    cases dy with
    | int i =>
      simp only [Rp.ixD] at hs
      obtain ⟨a, vs, rfl, fa, ha, ra⟩ := hx.tup
      obtain ⟨j, h1, h2⟩ := atI_some hs
      obtain ⟨z, h3, h4⟩ := ra.get h2
      exact ix_tup value slice pins s σ H _ y v u Q I rx ry ⟨a, vs, i, z, rfl, hy.int, SqT.of ha, atI_of ra.length.symm h1 h3, q z (RR.of h4 _)⟩ hsl
    | _ => simp [Rp.ixD] at hs
  | lst xs =>
    cases dy with
    | int i =>
      simp only [Rp.ixD] at hs
      obtain ⟨a, vs, rfl, ha, ra⟩ := hx.lstN
      obtain ⟨j, h1, h2⟩ := atI_some hs
      obtain ⟨z, h3, h4⟩ := ra.get h2
      exact ix_list value slice pins s σ H _ y v u Q I rx ry ⟨a, vs, i, z, rfl, hy.int, SqL.of ha, atI_of ra.length.symm h1 h3, q z h4⟩ hsl
    | _ => simp [Rp.ixD] at hs
  | dic ks =>
    simp only [Rp.ixD] at hs
    split at hs
    · rename_i h
      cases dy with
      | int i =>
        obtain ⟨a, vs, rfl, ha, ra⟩ := hx.dic
        obtain ⟨z, h3, h4⟩ := dGet_of ra hs
        exact ix_dict hr value slice pins s σ H _ y v u Q I rx ry ⟨a, z, vs, i, rfl, hy.int, ha, h3, q z (RR.of h4 _)⟩ hsl
      | _ => simp [Rp.D.key] at h
    · cases hs
  | _ => simp [Rp.ixD] at hs

/-! ### slices -/
theorem cut_rel {vs : List V} {ds : List Rp.D} (r : RpA X g H vs ds) (lo hi : Option Int) : RpA X g H (cutV vs lo hi) (Rp.cutL ds lo hi) := by
  unfold cutV Rp.cutL
  rw [r.length]
  exact RpA.take _ (RpA.drop _ r)
theorem cut_all {α : Type} (xs : List α) (lo hi : Option Int) (h : HT.sIx xs.length 0 lo = 0 ∧ HT.sIx xs.length xs.length hi = xs.length) : Rp.cutL xs lo hi = xs := by
  unfold Rp.cutL
  have e1 : Rp.sIx xs.length 0 lo = 0 := h.1
  have e2 : Rp.sIx xs.length xs.length hi = xs.length := h.2
  rw [e1, e2]; simp
def rSlD (X : Gx) : V → Option Int → Option Int → Hp → VK → Prop := fun x lo hi H Q => ∃ g dx d, RR X g H 1 x dx ∧ Rp.slD dx lo hi = some d ∧ ∀ v H', New X g H true v d H' → Q v H'
theorem sld : SlR Xc (rSlD X) := by
  intro pins s σ H x v vl vu lo hi sl Q I rx hs pl pu ⟨g, dx, d, hx, hd, q⟩
  cases dx with
  | tup xs =>
    simp only [Rp.slD, Option.some.injEq] at hd; subst hd
    obtain ⟨a, vs, rfl, fa, ha, ra⟩ := hx.tup
    refine sl_tupA pins s σ H _ v vl vu lo hi sl Q I rx hs pl pu ⟨a, vs, rfl, SqT.of ha, fun e => ?_, fun e p hp => q _ _ (.tup hp (cut_rel ra lo hi))⟩
    have l := ra.length
    rw [l] at e
    rw [cut_all xs lo hi e] at q
    exact q _ _ (.old (fun _ => ⟨fun _ => by simp, fun _ => by simp⟩) (.tup fa ha ra))
  | lst xs =>
    simp only [Rp.slD, Option.some.injEq] at hd; subst hd
    obtain ⟨a, vs, rfl, ha, ra⟩ := hx.lst1
    exact sl_list pins s σ H _ v vl vu lo hi sl Q I rx hs pl pu ⟨a, vs, rfl, SqL.of ha, fun p hp => q _ _ (.lst hp (cut_rel ra lo hi))⟩
  | _ => simp [Rp.slD] at hd
end
end RpS
end

section
set_option Elab.async false
set_option linter.all false
set_option maxRecDepth 100000
set_option maxHeartbeats 2000000
/-! RpS6: built-ins, isinstance, fields. -/
namespace RpS
open PySem PySem.Spec PyProof.Rows L2
def nR {d : Rp.D} (h : Rp.isInts [d] = true) : True := trivial
/-- a call of a built-in over data -/
def rBI (X : Gx) (b : Rp.BI) : List V → Hp → VK → Prop := fun vs H Q => ∃ g ds d, Ls (RR X g H 1) vs ds ∧ Rp.biD b ds = some d ∧ ∀ v H', New X g H true v d H' → Q v H'
/-- the built-in's value; none where it is no plain call -/
def biV : Rp.BI → Option Value
  | .len => some (.builtin "len") | .abs => some (.builtin "abs") | .sum => some (.builtin "sum") | .int1 => some (.type "int") | .tuple => some (.type "tuple") | .list => some (.type "list")
  | .min2 => some (.builtin "min") | .max2 => some (.builtin "max") | .minL => some (.builtin "min") | .maxL => some (.builtin "max") | .all => some (.builtin "all") | .any => some (.builtin "any")
  | .sorted => some (.builtin "sorted") | .gcd => some (.builtin "math.gcd") | _ => none
section
variable {Xc : Cx} {X : Gx}
theorem Ls.one {p : V → Rp.D → Prop} {vs : List V} {d : Rp.D} (h : Ls p vs [d]) : ∃ v, vs = [v] ∧ p v d := by
  cases h with | cons a b => cases b; exact ⟨_, rfl, a⟩
theorem Ls.two {p : V → Rp.D → Prop} {vs : List V} {d e : Rp.D} (h : Ls p vs [d, e]) : ∃ v u, vs = [v, u] ∧ p v d ∧ p u e := by
  cases h with | cons a b => cases b with | cons c b => cases b; exact ⟨_, _, rfl, a, c⟩
theorem RR.scr {g : Gh} {H : Hp} {n : Nat} {v : V} {ns : List Int} (h : RR X g H n v (.scr ns)) : ∃ a, v = .ref a ∧ ((g.F a ∧ Rd H a (.lst (ns.map V.int))) ∨ X.kl a ns) := by
  cases n with
  | zero => cases (show Rp X g H v (.scr ns) from h) with | scr h2 => exact ⟨_, rfl, h2⟩
  | succ n =>
    rcases h with h | ⟨a, vs, ds, e1, e2, _⟩ | ⟨a, kvs, ks, e1, e2, _⟩ | ⟨a, dx, c, fs, gs, e1, e2, _⟩
    · cases h with | scr h2 => exact ⟨_, rfl, h2⟩
    · cases e2
    · cases e2
    · cases e2
theorem new_int {g : Gh} {H : Hp} (i : Int) : New X g H true (.int i) (.int i) H := .old (fun _ => ⟨fun _ => by simp, fun _ => by simp⟩) (.int _)
theorem new_bl {g : Gh} {H : Hp} (i : Bool) : New X g H true (.bl i) (.bl i) H := .old (fun _ => ⟨fun _ => by simp, fun _ => by simp⟩) (.bl _)
theorem ints_len : ∀ {ds : List Rp.D}, Rp.isInts ds = true → (Rp.intL ds).length = ds.length
  | [], _ => rfl
  | d :: ds, h => by
    cases d with
    | int i => simp only [Rp.isInts] at h; simp only [Rp.intL, List.length_cons]; rw [ints_len h]
    | _ => simp [Rp.isInts] at h
theorem foldl_max_mem : ∀ (xs : List Int) (x m : Int), (m = x ∨ m ∈ xs) → (x ≤ m ∧ ∀ y ∈ xs, y ≤ m) → m = xs.foldl max x
  | [], x, m, h, _ => by
    rcases h with h | h
    · exact h
    · cases h
  | y :: ys, x, m, h, ⟨h1, h2⟩ => by
    rw [List.foldl_cons]
    refine foldl_max_mem ys (max x y) m ?_ ⟨?_, fun z hz => h2 z (List.mem_cons_of_mem _ hz)⟩
    · have hy := h2 y List.mem_cons_self
      rcases h with h | h
      · left; omega
      · rcases List.mem_cons.mp h with h | h
        · left; omega
        · exact .inr h
    · have hy := h2 y List.mem_cons_self
      omega
theorem foldl_min_mem : ∀ (xs : List Int) (x m : Int), (m = x ∨ m ∈ xs) → (m ≤ x ∧ ∀ y ∈ xs, m ≤ y) → m = xs.foldl min x
  | [], x, m, h, _ => by
    rcases h with h | h
    · exact h
    · cases h
  | y :: ys, x, m, h, ⟨h1, h2⟩ => by
    rw [List.foldl_cons]
    refine foldl_min_mem ys (min x y) m ?_ ⟨?_, fun z hz => h2 z (List.mem_cons_of_mem _ hz)⟩
    · have hy := h2 y List.mem_cons_self
      rcases h with h | h
      · left; omega
      · rcases List.mem_cons.mp h with h | h
        · left; omega
        · exact .inr h
    · have hy := h2 y List.mem_cons_self
      omega
theorem sum_tup (hc : Xc.calm = true) : CallR Xc (.builtin "sum") (fun vs H Q => ∃ (a : Addr) (ns : List Int), vs = [V.ref a] ∧ SqT Xc.K H a (ns.map V.int) ∧ Q (.int ns.sum) H) := by
  intro pins s σ H vs us Q I r h
  obtain ⟨a, ns, rfl, hs, q⟩ := h
  obtain ⟨its, rv, hl, _⟩ := I.tuple hs
  rw [Vals.ref1 r]
  have hi := rv.ints
  obtain ⟨xs, e⟩ := hi.allInts.items
  have hn : numsOf (intItems xs).toList = ns := by rw [← e]; exact hi.numsOf
  rw [nums_intItems] at hn
  rw [e] at hl
  refine PySem.W.ktm_sumG (I.ok.hd hc) hl fun h' tk t' hk => ?_
  rw [preSum_eq, List.take_of_length_le (by simp), hn]
  exact ⟨.int _, H, I.kept hk, ⟨_, rfl⟩, q⟩
theorem sortI_perm : ∀ xs : List Int, (Rp.sortI xs).Perm xs := by
  have ins : ∀ (x : Int) (ys : List Int), (Rp.insI x ys).Perm (x :: ys) := by
    intro x ys
    induction ys with
    | nil => exact .refl _
    | cons y r ih =>
      unfold Rp.insI
      split
      · exact .refl _
      · exact (ih.cons y).trans (.swap _ _ _)
  intro xs
  induction xs with
  | nil => exact .refl _
  | cons x r ih => exact (ins x _).trans (ih.cons x)
theorem sortI_sorted : ∀ xs : List Int, (Rp.sortI xs).Pairwise (· ≤ ·) := by
  have ins : ∀ (x : Int) (ys : List Int), ys.Pairwise (· ≤ ·) → (Rp.insI x ys).Pairwise (· ≤ ·) ∧ ∀ z ∈ Rp.insI x ys, z = x ∨ z ∈ ys := by
    intro x ys
    induction ys with
    | nil => intro _; simp [Rp.insI]
    | cons y r ih =>
      intro h
      obtain ⟨h1, h2⟩ := List.pairwise_cons.mp h
      obtain ⟨i1, i2⟩ := ih h2
      unfold Rp.insI
      split
      · rename_i hxy
        refine ⟨List.pairwise_cons.mpr ⟨fun z hz => ?_, h⟩, fun z hz => by simpa using hz⟩
        rcases List.mem_cons.mp hz with e | hz
        · rw [e]; exact hxy
        · exact Int.le_trans hxy (h1 z hz)
      · rename_i hxy
        refine ⟨List.pairwise_cons.mpr ⟨fun z hz => ?_, i1⟩, fun z hz => ?_⟩
        · rcases i2 z hz with e | hz
          · rw [e]; omega
          · exact h1 z hz
        · rcases List.mem_cons.mp hz with e | hz
          · exact .inr (by rw [e]; exact List.mem_cons_self)
          · rcases i2 z hz with e | hz
            · exact .inl e
            · exact .inr (List.mem_cons_of_mem _ hz)
  intro xs
  induction xs with
  | nil => exact List.Pairwise.nil
  | cons x r ih => exact (ins x _ ih).1
theorem sort_unique {xs ys : List Int} (p : xs.Perm ys) (h1 : xs.Pairwise (· ≤ ·)) (h2 : ys.Pairwise (· ≤ ·)) : xs = ys :=
  p.eq_of_pairwise (fun a b _ _ h h' => Int.le_antisymm h h') h1 h2
theorem bi_len (hkl : ∀ a ns, X.kl a ns → ∀ H, SqL Xc.K H a (ns.map V.int)) : CallR Xc (.builtin "len") (rBI X .len) := by
  intro pins s σ H vs us Q I r ⟨g, ds, d, hl, hd, q⟩
  match ds, hd, hl with
  | [.tup xs], hd, hl =>
    simp only [Rp.biD, Option.some.injEq] at hd; subst hd
    obtain ⟨v, rfl, hv⟩ := hl.one
    obtain ⟨a, ws, rfl, fa, ha, ra⟩ := hv.tup
    refine call_len_seq pins s σ H _ us Q I r ⟨a, ws, rfl, .inr (SqT.of ha), ?_⟩
    rw [ra.length]; exact q _ _ (new_int _)
  | [.lst xs], hd, hl =>
    simp only [Rp.biD, Option.some.injEq] at hd; subst hd
    obtain ⟨v, rfl, hv⟩ := hl.one
    obtain ⟨a, ws, rfl, ha, ra⟩ := hv.lstA
    refine call_len_seq pins s σ H _ us Q I r ⟨a, ws, rfl, .inl (SqL.of ha), ?_⟩
    rw [ra]; exact q _ _ (new_int _)
  | [.scr ns], hd, hl =>
    simp only [Rp.biD, Option.some.injEq] at hd; subst hd
    obtain ⟨v, rfl, hv⟩ := hl.one
    obtain ⟨a, rfl, ha⟩ := hv.scr
    refine call_len_seq pins s σ H _ us Q I r ⟨a, ns.map V.int, rfl, .inl (ha.elim (fun z => .inl z.2) fun z => hkl a ns z H), ?_⟩
    rw [List.length_map]; exact q _ _ (new_int _)
theorem bi_abs : CallR Xc (.builtin "abs") (rBI X .abs) := by
  intro pins s σ H vs us Q I r ⟨g, ds, d, hl, hd, q⟩
  match ds, hd, hl with
  | [.int i], hd, hl =>
    simp only [Rp.biD, Option.some.injEq] at hd; subst hd
    obtain ⟨v, rfl, hv⟩ := hl.one
    cases hv.int
    refine call_abs pins s σ H _ us Q I r ⟨i, rfl, ?_⟩
    have e : (if i < 0 then -i else i) = (i.natAbs : Int) := by split <;> omega
    rw [e]; exact q _ _ (new_int _)
theorem bi_int1 : CallR Xc (.type "int") (rBI X .int1) := by
  intro pins s σ H vs us Q I r ⟨g, ds, d, hl, hd, q⟩
  match ds, hd, hl with
  | [.int i], hd, hl =>
    simp only [Rp.biD, Option.some.injEq] at hd; subst hd
    obtain ⟨v, rfl, hv⟩ := hl.one
    cases hv.int
    exact call_int1 pins s σ H _ us Q I r (.inl ⟨i, rfl, q _ _ (new_int _)⟩)
  | [.bl b], hd, hl =>
    simp only [Rp.biD, Option.some.injEq] at hd; subst hd
    obtain ⟨v, rfl, hv⟩ := hl.one
    cases hv.bl
    exact call_int1 pins s σ H _ us Q I r (.inr ⟨b, rfl, q _ _ (new_int _)⟩)
theorem bi_tuple : CallR Xc (.type "tuple") (rBI X .tuple) := by
  intro pins s σ H vs us Q I r ⟨g, ds, d, hl, hd, q⟩
  match ds, hd, hl with
  | [.tup xs], hd, hl =>
    simp only [Rp.biD, Option.some.injEq] at hd; subst hd
    obtain ⟨v, rfl, hv⟩ := hl.one
    obtain ⟨a, ws, rfl, fa, ha, ra⟩ := hv.tup
    exact call_tuple_of pins s σ H _ us Q I r ⟨a, ws, rfl, .inr ⟨SqT.of ha, q _ _ (.old (fun _ => ⟨fun _ => by simp, fun _ => by simp⟩) (.tup fa ha ra))⟩⟩
  | [.lst xs], hd, hl =>
    simp only [Rp.biD, Option.some.injEq] at hd; subst hd
    obtain ⟨v, rfl, hv⟩ := hl.one
    obtain ⟨a, ws, rfl, ha, ra⟩ := hv.lst1
    exact call_tuple_of pins s σ H _ us Q I r ⟨a, ws, rfl, .inl ⟨SqL.of ha, fun p hp => q _ _ (.tup hp ra)⟩⟩
theorem bi_list : CallR Xc (.type "list") (rBI X .list) := by
  intro pins s σ H vs us Q I r ⟨g, ds, d, hl, hd, q⟩
  match ds, hd, hl with
  | [.tup xs], hd, hl =>
    simp only [Rp.biD, Option.some.injEq] at hd; subst hd
    obtain ⟨v, rfl, hv⟩ := hl.one
    obtain ⟨a, ws, rfl, fa, ha, ra⟩ := hv.tup
    exact call_list_of pins s σ H _ us Q I r ⟨a, ws, rfl, .inr (SqT.of ha), fun p hp => q _ _ (.lst hp ra)⟩
  | [.lst xs], hd, hl =>
    simp only [Rp.biD, Option.some.injEq] at hd; subst hd
    obtain ⟨v, rfl, hv⟩ := hl.one
    obtain ⟨a, ws, rfl, ha, ra⟩ := hv.lst1
    exact call_list_of pins s σ H _ us Q I r ⟨a, ws, rfl, .inl (SqL.of ha), fun p hp => q _ _ (.lst hp ra)⟩
theorem bi_sum (hc : Xc.calm = true) : CallR Xc (.builtin "sum") (rBI X .sum) := by
  intro pins s σ H vs us Q I r ⟨g, ds, d, hl, hd, q⟩
  match ds, hd, hl with
  | [.lst xs], hd, hl =>
    simp only [Rp.biD] at hd
    split at hd
    · rename_i hi
      cases hd
      obtain ⟨v, rfl, hv⟩ := hl.one
      obtain ⟨a, ws, rfl, ha, ra⟩ := hv.lst1
      exact cr_sum hc pins s σ H _ us Q I r ⟨a, Rp.intL xs, rfl, by rw [← ra.intL hi]; exact SqL.of ha, q _ _ (new_int _)⟩
    · cases hd
  | [.tup xs], hd, hl =>
    simp only [Rp.biD] at hd
    split at hd
    · rename_i hi
      cases hd
      obtain ⟨v, rfl, hv⟩ := hl.one
      obtain ⟨a, ws, rfl, fa, ha, ra⟩ := hv.tup
      exact sum_tup hc pins s σ H _ us Q I r ⟨a, Rp.intL xs, rfl, by rw [← ra.intL hi]; exact SqT.of ha, q _ _ (new_int _)⟩
    · cases hd
theorem bi_min2 (hc : Xc.calm = true) : CallR Xc (.builtin "min") (rBI X .min2) := by
  intro pins s σ H vs us Q I r ⟨g, ds, d, hl, hd, q⟩
  match ds, hd, hl with
  | [.int i, .int j], hd, hl =>
    simp only [Rp.biD, Option.some.injEq] at hd; subst hd
    obtain ⟨v, u, rfl, hv, hu⟩ := hl.two
    cases hv.int; cases hu.int
    refine call_min2 hc pins s σ H _ us Q I r ⟨i, j, rfl, ?_⟩
    have e : (if j < i then j else i) = min i j := by split <;> omega
    rw [e]; exact q _ _ (new_int _)
theorem bi_max2 (hc : Xc.calm = true) : CallR Xc (.builtin "max") (rBI X .max2) := by
  intro pins s σ H vs us Q I r ⟨g, ds, d, hl, hd, q⟩
  match ds, hd, hl with
  | [.int i, .int j], hd, hl =>
    simp only [Rp.biD, Option.some.injEq] at hd; subst hd
    obtain ⟨v, u, rfl, hv, hu⟩ := hl.two
    cases hv.int; cases hu.int
    refine call_max2 hc pins s σ H _ us Q I r ⟨i, j, rfl, ?_⟩
    have e : (if j > i then j else i) = max i j := by split <;> omega
    rw [e]; exact q _ _ (new_int _)
theorem bi_maxL (hc : Xc.calm = true) : CallR Xc (.builtin "max") (rBI X .maxL) := by
  intro pins s σ H vs us Q I r ⟨g, ds, d, hl, hd, q⟩
  match ds, hd, hl with
  | [.lst xs], hd, hl =>
    simp only [Rp.biD] at hd
    split at hd
    · rename_i hi
      obtain ⟨v, rfl, hv⟩ := hl.one
      obtain ⟨a, ws, rfl, ha, ra⟩ := hv.lst1
      cases e : Rp.intL xs with
      | nil => rw [e] at hd; simp [Rp.maxI] at hd
      | cons x r' =>
        rw [e] at hd
        simp only [Rp.maxI, Option.map_some, Option.some.injEq] at hd
        subst hd
        refine cr_max hc pins s σ H _ us Q I r ⟨a, x :: r', rfl, by rw [← e, ← ra.intL hi]; exact SqL.of ha, by simp, fun m hm hb => ?_⟩
        rw [foldl_max_mem r' x m (List.mem_cons.mp hm) ⟨hb x List.mem_cons_self, fun y hy => hb y (List.mem_cons_of_mem _ hy)⟩]
        exact q _ _ (new_int _)
    · cases hd
theorem bi_minL (hc : Xc.calm = true) : CallR Xc (.builtin "min") (rBI X .minL) := by
  intro pins s σ H vs us Q I r ⟨g, ds, d, hl, hd, q⟩
  match ds, hd, hl with
  | [.lst xs], hd, hl =>
    simp only [Rp.biD] at hd
    split at hd
    · rename_i hi
      obtain ⟨v, rfl, hv⟩ := hl.one
      obtain ⟨a, ws, rfl, ha, ra⟩ := hv.lst1
      cases e : Rp.intL xs with
      | nil => rw [e] at hd; simp [Rp.minI] at hd
      | cons x r' =>
        rw [e] at hd
        simp only [Rp.minI, Option.map_some, Option.some.injEq] at hd
        subst hd
        refine cr_min hc pins s σ H _ us Q I r ⟨a, x :: r', rfl, by rw [← e, ← ra.intL hi]; exact SqL.of ha, by simp, fun m hm hb => ?_⟩
        rw [foldl_min_mem r' x m (List.mem_cons.mp hm) ⟨hb x List.mem_cons_self, fun y hy => hb y (List.mem_cons_of_mem _ hy)⟩]
        exact q _ _ (new_int _)
    · cases hd
theorem bi_all (hc : Xc.calm = true) : CallR Xc (.builtin "all") (rBI X .all) := by
  intro pins s σ H vs us Q I r ⟨g, ds, d, hl, hd, q⟩
  match ds, hd, hl with
  | [.lst xs], hd, hl =>
    simp only [Rp.biD] at hd
    split at hd
    · rename_i hi
      cases hd
      obtain ⟨v, rfl, hv⟩ := hl.one
      obtain ⟨a, ws, rfl, ha, ra⟩ := hv.lst1
      exact cr_all hc pins s σ H _ us Q I r ⟨a, Rp.bls xs, rfl, by rw [← ra.bls hi]; exact SqL.of ha, q _ _ (new_bl _)⟩
    · cases hd
theorem bi_any (hc : Xc.calm = true) : CallR Xc (.builtin "any") (rBI X .any) := by
  intro pins s σ H vs us Q I r ⟨g, ds, d, hl, hd, q⟩
  match ds, hd, hl with
  | [.lst xs], hd, hl =>
    simp only [Rp.biD] at hd
    split at hd
    · rename_i hi
      cases hd
      obtain ⟨v, rfl, hv⟩ := hl.one
      obtain ⟨a, ws, rfl, ha, ra⟩ := hv.lst1
      exact cr_any hc pins s σ H _ us Q I r ⟨a, Rp.bls xs, rfl, by rw [← ra.bls hi]; exact SqL.of ha, q _ _ (new_bl _)⟩
    · cases hd
theorem bi_sorted : CallR Xc (.builtin "sorted") (rBI X .sorted) := by
  intro pins s σ H vs us Q I r ⟨g, ds, d, hl, hd, q⟩
  match ds, hd, hl with
  | [.lst xs], hd, hl =>
    simp only [Rp.biD] at hd
    split at hd
    · rename_i hi
      cases hd
      obtain ⟨v, rfl, hv⟩ := hl.one
      obtain ⟨a, ws, rfl, ha, ra⟩ := hv.lst1
      refine L2.cr_sortedI pins s σ H _ us Q I r ⟨a, Rp.intL xs, rfl, by rw [← ra.intL hi.1]; exact SqL.of ha, fun ns' p h1 h2 hp => ?_⟩
      rw [sort_unique (h1.trans (sortI_perm _).symm) h2 (sortI_sorted _)]
      exact q _ _ (.lst hp (RpA.of_ints _))
    · cases hd
theorem bi_gcd : CallR Xc (.builtin "math.gcd") (rBI X .gcd) := by
  intro pins s σ H vs us Q I r ⟨g, ds, d, hl, hd, q⟩
  match ds, hd, hl with
  | [.int i, .int j], hd, hl =>
    simp only [Rp.biD, Option.some.injEq] at hd; subst hd
    obtain ⟨v, u, rfl, hv, hu⟩ := hl.two
    cases hv.int; cases hu.int
    exact cr_gcd pins s σ H _ us Q I r ⟨i, j, rfl, q _ _ (new_int _)⟩
theorem bi_all_ok (hkl : ∀ a ns, X.kl a ns → ∀ H, SqL Xc.K H a (ns.map V.int)) (hc : Xc.calm = true) (b : Rp.BI) {f : Value} (h : biV b = some f) : CallR Xc f (rBI X b) := by
  cases b <;> simp only [biV, Option.some.injEq] at h <;> first
    | (cases h; done)
    | (subst h; first
        | exact bi_len hkl | exact bi_abs | exact bi_sum hc | exact bi_int1 | exact bi_tuple | exact bi_list | exact bi_min2 hc | exact bi_max2 hc | exact bi_minL hc | exact bi_maxL hc | exact bi_all hc | exact bi_any hc
        | exact bi_sorted | exact bi_gcd)
/-! ### - -/
theorem un_negD : UnR Xc (unaryOp .USub) (fun x H Q => ∃ g dx d, RR X g H 9 x dx ∧ Rp.negD dx = some d ∧ ∀ v, Rp X g H v d → Q v H) := by
  intro pins s σ H x v Q I rx ⟨g, dx, d, hx, hd, q⟩
  cases dx with
  | int i =>
    simp only [Rp.negD, Option.some.injEq] at hd; subst hd
    exact un_neg pins s σ H x v Q I rx ⟨i, hx.int, q _ (.int _)⟩
  | _ => simp [Rp.negD] at hd
/-! ### l.index(x) -/
theorem idx_of (x : Rp.D) : ∀ (xs : List Rp.D) (k n : Nat), Rp.idxOf x xs k = some n → ∃ j z, n = k + j ∧ xs[j]? = some z ∧ Rp.D.eqv z x = true ∧ ∀ m z', m < j → xs[m]? = some z' → Rp.D.eqv z' x = false
  | [], k, n, h => by simp [Rp.idxOf] at h
  | y :: r, k, n, h => by
    simp only [Rp.idxOf] at h
    split at h
    · rename_i e
      cases h
      exact ⟨0, y, rfl, rfl, e, fun m z' hm => absurd hm (Nat.not_lt_zero m)⟩
    · rename_i e
      obtain ⟨j, z, h1, h2, h3, h4⟩ := idx_of x r (k + 1) n h
      refine ⟨j + 1, z, by omega, by simpa using h2, h3, fun m z' hm hz => ?_⟩
      cases m with
      | zero => simp at hz; subst hz; simpa using e
      | succ m => exact h4 m z' (by omega) (by simpa using hz)
theorem pds_get : ∀ (xs : List Rp.D) (j : Nat), (pds xs)[j]? = xs[j]?.map pd
  | [], j => by simp [pds]
  | x :: r, 0 => by simp [pds]
  | x :: r, j + 1 => by simp only [pds, List.getElem?_cons_succ]; exact pds_get r j
theorem plAll_get : ∀ {xs : List Rp.D} {j : Nat} {z : Rp.D}, Rp.plAll xs = true → xs[j]? = some z → z.pl = true
  | [], _, _, _, h => by simp at h
  | x :: r, 0, z, h, e => by simp only [Rp.plAll, Bool.and_eq_true] at h; simp at e; subst e; exact h.1
  | x :: r, j + 1, z, h, e => by simp only [Rp.plAll, Bool.and_eq_true] at h; exact plAll_get h.2 (by simpa using e)
theorem mt_indexR (hr : Room 40 Xc.A) : MtR Xc "list.index" (fun x xs H Q => ∃ g y dx dy d, xs = [y] ∧ RR X g H 9 x dx ∧ RR X g H 9 y dy ∧ Rp.biD .index [dx, dy] = some d ∧ ∀ v, Rp X g H v d → Q v H) := by
  intro pins s σ H x xs v us Q I rx rs ⟨g, y, dx, dy, d, e, hx, hy, hd, q⟩
  subst e
  cases dx with
  | lst ys =>
    simp only [Rp.biD] at hd
    split at hd
    · rename_i h
      simp only [Bool.and_eq_true, decide_eq_true_eq] at h
      cases e : Rp.idxOf dy ys 0 with
      | none => rw [e] at hd; cases hd
      | some n =>
        rw [e] at hd
        simp only [Option.map_some, Option.some.injEq] at hd
        subst hd
        obtain ⟨j, z, h1, h2, h3, h4⟩ := idx_of dy ys 0 n e
        obtain ⟨a, ws, rfl, ha, _⟩ := hx.lstA
        have hD := hx.dp (K := Xc.K) (by simpa [Rp.D.pl] using h.1.1.1)
        simp only [pd] at hD
        refine mt_indexD (by have := hr.un; omega) pins s σ H _ _ v us Q I rx rs ⟨a, y, pd dy, pds ys, j, pd z, rfl, rfl, hD, hy.dp h.1.1.2, by have := pd_shaped (.lst ys) (by simp only [Rp.D.dep]; omega); simpa [pd] using this, pd_shaped _ h.1.2,
          by rw [pds_get, h2]; rfl, by rw [pd_eqv _ _ (plAll_get h.1.1.1 h2) h.1.1.2]; exact h3, fun m z' hm hz => ?_, ?_⟩
        · rw [pds_get] at hz
          cases e2 : ys[m]? with
          | none => rw [e2] at hz; cases hz
          | some z2 =>
            rw [e2] at hz
            cases hz
            rw [pd_eqv _ _ (plAll_get h.1.1.1 e2) h.1.1.2]
            exact h4 m z2 hm e2
        · have : n = j := by omega
          subst this
          exact q _ (.int _)
    · cases hd
  | _ => simp [Rp.biD] at hd
end
end RpS
end

section
set_option Elab.async false
set_option linter.all false
set_option maxRecDepth 100000
set_option maxHeartbeats 2000000
/-! RpS7: contexts, expressions over plain data: what each form needs. -/
namespace RpS
open PySem PySem.Spec PyProof.Rows L2

/-- the text -/
structure Tx where
  P : Program
  w : World
  K : PySem.W.Frag
  mg : Str → Option Value
  base : Heap
/-- what the text's names stand for -/
structure Tb where
  fns : List String
  cls : List String
  cons : List (String × Int)
  flds : List String
  mods : List String
abbrev ofs : String → Str := Str.ofString
/-- a def's promise -/
def sp (X : Gx) (C : Rp.Cl) (f : String) (n : Nat) : Sp := fun vs H Q _ => vs.length = n ∧ ∃ g w ds d w', WR g H w ∧ RpA X g H vs ds ∧ C f ds w = .ok d w' ∧ ∀ v H' g', Ext g H g' H' → WR g' H' w' → Rp X g' H' v d → Q v H'
/-- a class's: x the new object, its dict at dx; H1 the heap ahead of them -/
def spI (X : Gx) (C : Rp.Cl) (c : String) (n : Nat) : Sp := fun vs H Q _ => vs.length = n ∧ ∃ x dx us H1 g w ds d w', vs = .ref x :: us ∧ H1 x = none ∧ H1 dx = none ∧ dx ≠ x ∧ H = upd (upd H1 dx (.own x)) x (.ins (X.cls c) dx []) ∧
  WR g H1 w ∧ RpA X g H1 us ds ∧ C c ds w = .ok d w' ∧ ∀ H' g', Ext g H1 g' H' → WR g' H' w' → Rp X g' H' (.ref x) d → Q .non H'
def blts : List String := ["len", "abs", "sum", "int", "tuple", "list", "min", "max", "all", "any", "sorted", "isinstance", "range", "enumerate", "zip", "reversed", "bool", "str"]
structure Kt (T : Tx) (X : Gx) (C : Rp.Cl) (k : Nat) (B : Tb) : Prop where
  free : ∀ x ∈ blts, T.mg (ofs x) = none
  gcd : "gcd" ∈ B.mods → T.mg (ofs "gcd") = some (.builtin "math.gcd")
  call : ∀ f ∈ B.fns, ∃ n, (∀ ds w d w', C f ds w = .ok d w' → ds.length = n) ∧ C8.Cal T.P T.w T.K T.mg T.base k (ofs f) (sp X C f n) []
  make : ∀ c ∈ B.cls, ∃ n, (∀ ds w d w', C c ds w = .ok d w' → ds.length + 1 = n) ∧ C8.Mak T.P T.w T.K T.mg T.base k (ofs c) (X.cls c) (spI X C c n) []
  con : ∀ p ∈ B.cons, ∃ t, T.mg (ofs p.1) = some (.int p.2 t)
  cl : ∀ c, Cls T.K (X.cls c)
  fld : ∀ c, ∀ f ∈ B.flds, NoAttr T.K (X.cls c) (ofs f)
  isi : ∀ c, PySem.W.findIn T.K (.ref (X.cls c)) "__class__" = some (some (.builtin "object.__class__")) ∧ PySem.W.specialIn T.K (.builtin "object.__class__") "__get__" = some (some (.builtin "getset_descriptor.__get__")) ∧
    PySem.W.takesIn T.K (.builtin "object.__class__") = some true ∧ PySem.W.mroIn T.K (X.cls c) (.type "object") = some true ∧ PySem.W.kitOne T.K (.ref (X.cls c)) (.ref (X.cls c)) = some true
  kl : ∀ a ns, X.kl a ns → ∀ H, SqL T.K H a (ns.map V.int)
  cname : ∀ c ∈ B.cls, T.mg (ofs c) = some (.ref (X.cls c))
/-- a context of the text -/
structure Cg (T : Tx) (k : Nat) (sc : Scope) (fc : Str → Bool) (N : List Str) (Xc : Cx) : Prop where
  prog : Xc.prog = T.P
  w : Xc.w = T.w
  kk : Xc.K = T.K
  mg : Xc.mg = T.mg
  base : Xc.base = T.base
  room : Room k Xc.A
  calm : Xc.calm = true
  n : Xc.N = N
  nd : N.Nodup
  fn : ∀ x, fc x = true → Xc.fn x = true
  sco : Xc.env.scope = sc

/-! ### weaker readings -/
section
variable {Xc : Cx}
theorem _root_.L2.PE.imp {x : Expr} {t t' : TE} (h : PE Xc x t) (i : ∀ σ H Q, t' σ H Q → t σ H Q) : PE Xc x t' := ⟨fun pins s σ H Q I q => h.run pins s σ H Q I (i _ _ _ q)⟩
theorem _root_.L2.PT.imp {x : Expr} {t t' : TT} (h : PT Xc x t) (i : ∀ σ H Q, t' σ H Q → t σ H Q) : PT Xc x t' := ⟨fun pins s σ H Q I q => h.run pins s σ H Q I (i _ _ _ q)⟩
theorem _root_.L2.PW.imp {x : Expr} {t t' : TT} (h : PW Xc x t) (i : ∀ σ H Q, t' σ H Q → t σ H Q) : PW Xc x t' := ⟨fun wh pins s σ H Q I q => h.run wh pins s σ H Q I (i _ _ _ q)⟩
theorem _root_.L2.PA.imp {x : List Expr} {t t' : TA} (h : PA Xc x t) (i : ∀ σ H Q, t' σ H Q → t σ H Q) : PA Xc x t' := ⟨fun pos pins s σ H Q I q => h.run pos pins s σ H Q I (i _ _ _ q)⟩
theorem _root_.L2.PI.imp {tg x : Expr} {t t' : TI} (h : PI Xc tg x t) (i : ∀ σ H Q, t' σ H Q → t σ H Q) : PI Xc tg x t' := ⟨fun pins s σ H Q I q => h.run pins s σ H Q I (i _ _ _ q)⟩
theorem _root_.L2.PS.imp {x : Stmt} {t t' : TS} (h : PS Xc x t) (i : ∀ D σ H, t' D σ H → t D σ H) : PS Xc x t' := ⟨fun pins s σ H D I q => h.run pins s σ H D I (i _ _ _ q)⟩
theorem _root_.L2.PSs.imp {x : List Stmt} {t t' : TS} (h : PSs Xc x t) (i : ∀ D σ H, t' D σ H → t D σ H) : PSs Xc x t' := ⟨fun pins s σ H D I q => h.run pins s σ H D I (i _ _ _ q)⟩
end
theorem bind_ok {α β : Type} {r : Rp.R α} {f : α → Rp.W → Rp.R β} {b : β} {w' : Rp.W} (h : r.bind f = .ok b w') : ∃ a w, r = .ok a w ∧ f a w = .ok b w' := by
  cases r with
  | ok a w => exact ⟨a, w, rfl, h⟩
  | ex c p w => cases h
  | no => cases h
theorem lift_ok {α : Type} {o : Option α} {w w' : Rp.W} {a : α} (h : Rp.lift o w = .ok a w') : o = some a ∧ w = w' := by
  cases o with
  | none => cases h
  | some b => simp only [Rp.lift_some, Rp.R.ok.injEq] at h; exact ⟨by rw [h.1], h.2⟩
theorem cond_ok {α : Type} {d : Rp.D} {a b : Rp.R α} {x : α} {w : Rp.W} (h : Rp.cond d a b = .ok x w) : ∃ t, d = .bl t ∧ (if t then a else b) = .ok x w := by
  unfold Rp.cond at h
  split at h
  · exact ⟨true, rfl, h⟩
  · exact ⟨false, rfl, h⟩
  · cases h

/-! ### levels -/
theorem RR.succ {X : Gx} {g : Gh} {H : Hp} : ∀ {n : Nat} {v : V} {d : Rp.D}, RR X g H n v d → RR X g H (n + 1) v d
  | 0, _, _, h => .inl h
  | n + 1, v, d, h => by
    rcases h with h | ⟨a, vs, ds, e1, e2, hw, hh, r⟩ | h | h
    · exact .inl h
    · exact .inr (.inl ⟨a, vs, ds, e1, e2, hw, hh, Ls.imp (fun _ _ => RR.succ) r⟩)
    · exact .inr (.inr (.inl h))
    · exact .inr (.inr (.inr h))
theorem RR.mono {X : Gx} {g : Gh} {H : Hp} {n m : Nat} (h : n ≤ m) {v : V} {d : Rp.D} (r : RR X g H n v d) : RR X g H m v d := by
  induction h with
  | refl => exact r
  | step _ ih => exact ih.succ
/-- the owned storeys of a term's value -/
def lev (own : List Nat) : Rp.E → Nat
  | .v i => own.getD i 0
  | .ix a _ => lev own a - 1
  | _ => 0

/-! ### readings -/
section
variable (X : Gx) (C : Rp.Cl) (own : List Nat)
def tD (e : Rp.E) : TE := fun σ H Q => ∃ g env fps w d w', ER X own g H σ env fps ∧ WR g H w ∧ Rp.evE C e env w = .ok d w' ∧ ∀ v H' g', Ext g H g' H' → WR g' H' w' → RR X g' H' (lev own e) v d → Q v H'
def tT (e : Rp.E) : TT := fun σ H Q => ∃ g env fps w b w', ER X own g H σ env fps ∧ WR g H w ∧ Rp.evE C e env w = .ok (.bl b) w' ∧ ∀ H' g', Ext g H g' H' → WR g' H' w' → Q b H'
/-- arguments: all of at most n owned storeys -/
def tA (n : Nat) (es : List Rp.E) : TA := fun σ H Q => ∃ g env fps w ds w', ER X own g H σ env fps ∧ WR g H w ∧ Rp.evEs C es env w = .ok ds w' ∧ ∀ vs H' g', Ext g H g' H' → WR g' H' w' → Ls (RR X g' H' n) vs ds → Q vs H'
/-- a list or a dict that is made here -/
def tF (e : Rp.E) : TE := fun σ H Q => ∃ g env fps w d w', ER X own g H σ env fps ∧ WR g H w ∧ Rp.evE C e env w = .ok d w' ∧ isMut d = true ∧
  ∀ v H' g' fp, Ext g H g' H' → WR g' H' w' → RO X g' H' 1 v d fp → fp.Nodup → (∀ a ∈ fp, H a = none ∧ H' a ≠ none ∧ ¬ g'.F a ∧ ¬ wd g' a) → Q v H'
end

section
variable {T : Tx} {X : Gx} {C : Rp.Cl} {k : Nat} {B : Tb} {sc : Scope} {fc : Str → Bool} {N : List Str} {Xc : Cx} {own : List Nat}
/-- a value that is dropped to a test -/
theorem pt_ofD {x : Expr} {e : Rp.E} (h : PE Xc x (tD X C own e)) (he : ∀ whole, isTrue x Xc.env whole = (do let v ← whole; standAt x.pos; holding [v] (truthy v))) : PT Xc x (tT X C own e) :=
  (pt_val h he).imp fun σ H Q ⟨g, env, fps, w, b, w', er, wr, ev, q⟩ => ⟨g, env, fps, w, _, w', er, wr, ev, fun v H' g' ex wr' r => ⟨b, r.bl, q H' g' ex wr'⟩⟩

theorem pd_var (cg : Cg T k sc fc N Xc) {i : Nat} {x : Str} {pos : Pos} (hN : N[i]? = some x) (hv : Vis sc x) (hd : (x == ("__debug__" : Str)) = false) (hcd : (x == ("__classdict__" : Str)) = false) : PE Xc (.Name x pos) (tD X C own (.v i)) := by
  refine (pe_var (i := i) (pos := pos) (by rw [cg.n]; exact hN) (by rw [cg.sco]; exact hv) hd hcd).imp fun σ H Q ⟨g, env, fps, w, d, w', er, wr, ev, q⟩ => ?_
  simp only [Rp.evE] at ev
  obtain ⟨e1, rfl⟩ := lift_ok ev
  obtain ⟨v, h1, h2⟩ := er.lookR e1
  exact ⟨v, h1, q v H g (.refl _ _) wr h2⟩
theorem pd_con {x : Expr} {v : V} {d : Rp.D} (h : PE Xc x (tC v)) (r : ∀ g H, Rp X g H v d) : PE Xc x (tD X C own (.c d)) := by
  refine h.imp fun σ H Q ⟨g, env, fps, w, d', w', er, wr, ev, q⟩ => ?_
  simp only [Rp.evE, Rp.R.ok.injEq] at ev
  obtain ⟨rfl, rfl⟩ := ev
  exact q v H g (.refl _ _) wr (r g H)
theorem pd_bin {o : Rp.BOp} {a b : Rp.E} {x y : Expr} {pos : Pos} (ha : PE Xc x (tD X C own a)) (hb : PE Xc y (tD X C own b)) (la : lev own a ≤ 1) (lb : lev own b ≤ 1) : PE Xc (.BinOp x (opB o) y pos) (tD X C own (.bin o a b)) := by
  refine (pe_op (od_bin (X := X) o) ha hb).imp fun σ H Q ⟨g, env, fps, w, d, w', er, wr, ev, q⟩ => ?_
  simp only [Rp.evE] at ev
  obtain ⟨dx, w1, e1, ev⟩ := bind_ok ev
  obtain ⟨dy, w2, e2, ev⟩ := bind_ok ev
  obtain ⟨e3, rfl⟩ := lift_ok ev
  refine ⟨g, env, fps, w, dx, w1, er, wr, e1, fun v1 H1 g1 x1 wr1 r1 => ⟨g1, env, fps, w1, dy, w2, er.ext x1 wr.ok, wr1, e2, fun v2 H2 g2 x2 wr2 r2 => ?_⟩⟩
  refine ⟨g2, dx, dy, d, (r1.mono la).ext x2 wr1.ok, r2.mono lb, e3, fun v H' n => ?_⟩
  obtain ⟨g', ex, wr', rp⟩ := n.frz wr2
  exact q v H' g' (x1.trans (x2.trans ex)) wr' rp
theorem New.ownF {g : Gh} {H H' : Hp} {w : Rp.W} {v : V} {d : Rp.D} (n : New X g H true v d H') (r : WR g H w) (m : isMut d = true) : ∃ fp, Ext g H g H' ∧ WR g H' w ∧ RO X g H' 1 v d fp ∧ fp.Nodup ∧ ∀ a ∈ fp, H a = none ∧ H' a ≠ none ∧ ¬ g.F a ∧ ¬ wd g a := by
  obtain ⟨fp, h1, h2, h3, h4, h5⟩ := n.own r m
  refine ⟨fp, h1, h2, h3, h4, fun a ha => ?_⟩
  obtain ⟨h6, h7⟩ := h5 a ha
  exact ⟨h6, h7, fun z => (r.1 a z).1 h6, not_wd_of_none r h6⟩
theorem Ext.none_back {g g' : Gh} {H H' : Hp} (e : Ext g H g' H') {a : Addr} (h : H' a = none) : H a = none := Classical.byContradiction fun z => e.t a z h
theorem pf_bin {o : Rp.BOp} {a b : Rp.E} {x y : Expr} {pos : Pos} (ha : PE Xc x (tD X C own a)) (hb : PE Xc y (tD X C own b)) (la : lev own a ≤ 1) (lb : lev own b ≤ 1) : PE Xc (.BinOp x (opB o) y pos) (tF X C own (.bin o a b)) := by
  refine (pe_op (od_bin (X := X) o) ha hb).imp fun σ H Q ⟨g, env, fps, w, d, w', er, wr, ev, m, q⟩ => ?_
  simp only [Rp.evE] at ev
  obtain ⟨dx, w1, e1, ev⟩ := bind_ok ev
  obtain ⟨dy, w2, e2, ev⟩ := bind_ok ev
  obtain ⟨e3, rfl⟩ := lift_ok ev
  refine ⟨g, env, fps, w, dx, w1, er, wr, e1, fun v1 H1 g1 x1 wr1 r1 => ⟨g1, env, fps, w1, dy, w2, er.ext x1 wr.ok, wr1, e2, fun v2 H2 g2 x2 wr2 r2 => ?_⟩⟩
  refine ⟨g2, dx, dy, d, (r1.mono la).ext x2 wr1.ok, r2.mono lb, e3, fun v H' n => ?_⟩
  obtain ⟨fp, ex, wr', ro, nd, out⟩ := n.ownF wr2 m
  exact q v H' g2 fp (x1.trans (x2.trans ex)) wr' ro nd fun a ha => ⟨(x1.trans x2).none_back (out a ha).1, (out a ha).2⟩
theorem pd_neg {a : Rp.E} {x : Expr} {pos : Pos} (ha : PE Xc x (tD X C own a)) (la : lev own a ≤ 1) : PE Xc (.UnaryOp .USub x pos) (tD X C own (.neg a)) := by
  refine (pe_un (un_negD (X := X)) ha).imp fun σ H Q ⟨g, env, fps, w, d, w', er, wr, ev, q⟩ => ?_
  simp only [Rp.evE] at ev
  obtain ⟨dx, w1, e1, ev⟩ := bind_ok ev
  obtain ⟨e3, rfl⟩ := lift_ok ev
  refine ⟨g, env, fps, w, dx, w1, er, wr, e1, fun v1 H1 g1 x1 wr1 r1 => ⟨g1, dx, d, r1.mono (by omega), e3, fun v rv => q v H1 g1 x1 wr1 rv⟩⟩
theorem map_bl {o : Option Bool} {d : Rp.D} (h : o.map Rp.D.bl = some d) : ∃ b, o = some b ∧ d = .bl b := by
  cases o with
  | none => cases h
  | some b => exact ⟨b, rfl, by cases h; rfl⟩
theorem pd_cmp (cg : Cg T k sc fc N Xc) (hk : 40 ≤ k) {o : Rp.COp} {a b : Rp.E} {x y : Expr} {pos : Pos} (ha : PE Xc x (tD X C own a)) (hb : PE Xc y (tD X C own b)) (la : lev own a ≤ 1) (lb : lev own b ≤ 1) (hm : behindInMarks (opC o) y = false) :
    PE Xc (.Compare x [opC o] [y] pos) (tD X C own (.cmp o a b)) := by
  refine (pe_cmpR (od_cmp (X := X) (n := 1) (cg.room.mono hk) o) ha hb hm).imp fun σ H Q ⟨g, env, fps, w, d, w', er, wr, ev, q⟩ => ?_
  simp only [Rp.evE] at ev
  obtain ⟨dx, w1, e1, ev⟩ := bind_ok ev
  obtain ⟨dy, w2, e2, ev⟩ := bind_ok ev
  obtain ⟨e3, rfl⟩ := lift_ok ev
  obtain ⟨t, e4, rfl⟩ := map_bl e3
  refine ⟨g, env, fps, w, dx, w1, er, wr, e1, fun v1 H1 g1 x1 wr1 r1 => ⟨g1, env, fps, w1, dy, w2, er.ext x1 wr.ok, wr1, e2, fun v2 H2 g2 x2 wr2 r2 => ?_⟩⟩
  exact ⟨g2, dx, dy, t, (r1.mono la).ext x2 wr1.ok, r2.mono lb, e4, q _ _ _ (x1.trans x2) wr2 (Rp.bl t)⟩
theorem pt_cmpD (cg : Cg T k sc fc N Xc) (hk : 40 ≤ k) {o : Rp.COp} {a b : Rp.E} {x y : Expr} {pos : Pos} (ha : PE Xc x (tD X C own a)) (hb : PE Xc y (tD X C own b)) (la : lev own a ≤ 1) (lb : lev own b ≤ 1) (hm : behindInMarks (opC o) y = false) :
    PT Xc (.Compare x [opC o] [y] pos) (tT X C own (.cmp o a b)) := by
  refine (pt_cmpR (od_cmp (X := X) (n := 1) (cg.room.mono hk) o) ha hb hm).imp fun σ H Q ⟨g, env, fps, w, d, w', er, wr, ev, q⟩ => ?_
  simp only [Rp.evE] at ev
  obtain ⟨dx, w1, e1, ev⟩ := bind_ok ev
  obtain ⟨dy, w2, e2, ev⟩ := bind_ok ev
  obtain ⟨e3, rfl⟩ := lift_ok ev
  obtain ⟨t, e4, e5⟩ := map_bl e3
  cases e5
  refine ⟨g, env, fps, w, dx, w1, er, wr, e1, fun v1 H1 g1 x1 wr1 r1 => ⟨g1, env, fps, w1, dy, w2, er.ext x1 wr.ok, wr1, e2, fun v2 H2 g2 x2 wr2 r2 => ?_⟩⟩
  exact ⟨g2, dx, dy, d, (r1.mono la).ext x2 wr1.ok, r2.mono lb, e4, d, rfl, q _ _ (x1.trans x2) wr2⟩
theorem chain_ev {o p : Rp.COp} {a b c : Rp.E} {env : Rp.Env} {w w' : Rp.W} {d : Rp.D} (ev : Rp.evE C (.chain o p a b c) env w = .ok d w') : ∃ dx w1 dy w2 t, Rp.evE C a env w = .ok dx w1 ∧ Rp.evE C b env w1 = .ok dy w2 ∧ Rp.cmpD o dx dy = some t ∧
    ((t = false ∧ d = .bl false ∧ w' = w2) ∨ (t = true ∧ ∃ dz u, Rp.evE C c env w2 = .ok dz w' ∧ Rp.cmpD p dy dz = some u ∧ d = .bl u)) := by
  simp only [Rp.evE] at ev
  obtain ⟨dx, w1, e1, ev⟩ := bind_ok ev
  obtain ⟨dy, w2, e2, ev⟩ := bind_ok ev
  obtain ⟨dt, w3, e3, ev⟩ := bind_ok ev
  obtain ⟨e5, rfl⟩ := lift_ok e3
  obtain ⟨t, e4, rfl⟩ := map_bl e5
  refine ⟨dx, w1, dy, w2, t, e1, e2, e4, ?_⟩
  cases t with
  | false =>
    simp only [Rp.cond_false, Rp.R.ok.injEq] at ev
    exact .inl ⟨rfl, ev.1.symm, ev.2.symm⟩
  | true =>
    simp only [Rp.cond_true] at ev
    obtain ⟨dz, w4, e5, ev⟩ := bind_ok ev
    obtain ⟨e6, rfl⟩ := lift_ok ev
    obtain ⟨u, e7, rfl⟩ := map_bl e6
    exact .inr ⟨rfl, dz, u, e5, e7, rfl⟩
theorem pd_chain (cg : Cg T k sc fc N Xc) (hk : 40 ≤ k) {o p : Rp.COp} {a b c : Rp.E} {x y z : Expr} {pos : Pos} (ha : PE Xc x (tD X C own a)) (hb : PE Xc y (tD X C own b)) (hc : PE Xc z (tD X C own c)) (la : lev own a ≤ 1) (lb : lev own b ≤ 1) (lc : lev own c ≤ 1)
    (hm : lastMarks [opC o, opC p] [y, z] = false) : PE Xc (.Compare x [opC o, opC p] [y, z] pos) (tD X C own (.chain o p a b c)) := by
  refine (pe_chain (od_cmp (X := X) (n := 1) (cg.room.mono hk) o) (od_cmp (X := X) (n := 1) (cg.room.mono hk) p) ha hb hc hm).imp fun σ H Q ⟨g, env, fps, w, d, w', er, wr, ev, q⟩ => ?_
  obtain ⟨dx, w1, dy, w2, t, e1, e2, e3, e4⟩ := chain_ev ev
  refine ⟨g, env, fps, w, dx, w1, er, wr, e1, fun v1 H1 g1 x1 wr1 r1 => ⟨g1, env, fps, w1, dy, w2, er.ext x1 wr.ok, wr1, e2, fun v2 H2 g2 x2 wr2 r2 => ?_⟩⟩
  refine ⟨g2, dx, dy, t, (r1.mono la).ext x2 wr1.ok, r2.mono lb, e3, t, rfl, ?_⟩
  rcases e4 with ⟨rfl, rfl, rfl⟩ | ⟨rfl, dz, u, e5, e6, rfl⟩
  · exact q _ _ _ (x1.trans x2) wr2 (Rp.bl false)
  · rw [if_pos rfl]
    exact ⟨g2, env, fps, w2, dz, w', er.ext (x1.trans x2) wr.ok, wr2, e5, fun v3 H3 g3 x3 wr3 r3 => ⟨g3, dy, dz, u, (r2.mono lb).ext x3 wr2.ok, r3.mono lc, e6, q _ _ _ (x1.trans (x2.trans x3)) wr3 (Rp.bl u)⟩⟩
theorem pt_chainD (cg : Cg T k sc fc N Xc) (hk : 40 ≤ k) {o p : Rp.COp} {a b c : Rp.E} {x y z : Expr} {pos : Pos} (ha : PE Xc x (tD X C own a)) (hb : PE Xc y (tD X C own b)) (hc : PE Xc z (tD X C own c)) (la : lev own a ≤ 1) (lb : lev own b ≤ 1) (lc : lev own c ≤ 1)
    (hm : lastMarks [opC o, opC p] [y, z] = false) : PT Xc (.Compare x [opC o, opC p] [y, z] pos) (tT X C own (.chain o p a b c)) := by
  refine (pt_chain (od_cmp (X := X) (n := 1) (cg.room.mono hk) o) (od_cmp (X := X) (n := 1) (cg.room.mono hk) p) ha hb hc hm).imp fun σ H Q ⟨g, env, fps, w, d, w', er, wr, ev, q⟩ => ?_
  obtain ⟨dx, w1, dy, w2, t, e1, e2, e3, e4⟩ := chain_ev ev
  refine ⟨g, env, fps, w, dx, w1, er, wr, e1, fun v1 H1 g1 x1 wr1 r1 => ⟨g1, env, fps, w1, dy, w2, er.ext x1 wr.ok, wr1, e2, fun v2 H2 g2 x2 wr2 r2 => ?_⟩⟩
  refine ⟨g2, dx, dy, t, (r1.mono la).ext x2 wr1.ok, r2.mono lb, e3, t, rfl, ?_⟩
  rcases e4 with ⟨rfl, e5, rfl⟩ | ⟨rfl, dz, u, e5, e6, e7⟩
  · cases e5
    exact ⟨false, rfl, q _ _ (x1.trans x2) wr2⟩
  · cases e7
    rw [if_pos rfl]
    exact ⟨g2, env, fps, w2, dz, w', er.ext (x1.trans x2) wr.ok, wr2, e5, fun v3 H3 g3 x3 wr3 r3 => ⟨g3, dy, dz, d, (r2.mono lb).ext x3 wr2.ok, r3.mono lc, e6, d, rfl, q _ _ (x1.trans (x2.trans x3)) wr3⟩⟩
/-! ### and, or, not, if -/
theorem and_ev {a b : Rp.E} {env : Rp.Env} {w w' : Rp.W} {d : Rp.D} (ev : Rp.evE C (.and a b) env w = .ok d w') : ∃ t w1, Rp.evE C a env w = .ok (.bl t) w1 ∧ ((t = false ∧ d = .bl false ∧ w' = w1) ∨ (t = true ∧ Rp.evE C b env w1 = .ok d w')) := by
  simp only [Rp.evE] at ev
  obtain ⟨dx, w1, e1, ev⟩ := bind_ok ev
  obtain ⟨t, rfl, ev2⟩ := cond_ok ev
  clear ev
  refine ⟨t, w1, e1, ?_⟩
  cases t with
  | true => exact .inr ⟨rfl, ev2⟩
  | false =>
    simp only [Bool.false_eq_true, if_false, Rp.R.ok.injEq] at ev2
    exact .inl ⟨rfl, ev2.1.symm, ev2.2.symm⟩
theorem or_ev {a b : Rp.E} {env : Rp.Env} {w w' : Rp.W} {d : Rp.D} (ev : Rp.evE C (.or a b) env w = .ok d w') : ∃ t w1, Rp.evE C a env w = .ok (.bl t) w1 ∧ ((t = true ∧ d = .bl true ∧ w' = w1) ∨ (t = false ∧ Rp.evE C b env w1 = .ok d w')) := by
  simp only [Rp.evE] at ev
  obtain ⟨dx, w1, e1, ev⟩ := bind_ok ev
  obtain ⟨t, rfl, ev2⟩ := cond_ok ev
  clear ev
  refine ⟨t, w1, e1, ?_⟩
  cases t with
  | false => exact .inr ⟨rfl, by simpa using ev2⟩
  | true =>
    simp only [if_true, Rp.R.ok.injEq] at ev2
    exact .inl ⟨rfl, ev2.1.symm, ev2.2.symm⟩
theorem pd_and {a b : Rp.E} {x y : Expr} {rest : List Expr} {pos : Pos} (ha : PE Xc x (tD X C own a)) (hb : PE Xc (.BoolOp .And (y :: rest) pos) (tD X C own b)) (lb : lev own b = 0) : PE Xc (.BoolOp .And (x :: y :: rest) pos) (tD X C own (.and a b)) := by
  refine (pe_and ha hb).imp fun σ H Q ⟨g, env, fps, w, d, w', er, wr, ev, q⟩ => ?_
  obtain ⟨t, w1, e1, e2⟩ := and_ev ev
  refine ⟨g, env, fps, w, _, w1, er, wr, e1, fun v1 H1 g1 x1 wr1 r1 => ⟨t, r1.bl, ?_⟩⟩
  rcases e2 with ⟨rfl, rfl, rfl⟩ | ⟨rfl, e3⟩
  · exact q _ _ _ x1 wr1 (Rp.bl false)
  · rw [if_pos rfl]
    refine ⟨g1, env, fps, w1, d, w', er.ext x1 wr.ok, wr1, e3, fun v2 H2 g2 x2 wr2 r2 => q _ _ _ (x1.trans x2) wr2 ?_⟩
    rw [lb] at r2; exact r2
theorem pd_or {a b : Rp.E} {x y : Expr} {rest : List Expr} {pos : Pos} (ha : PE Xc x (tD X C own a)) (hb : PE Xc (.BoolOp .Or (y :: rest) pos) (tD X C own b)) (lb : lev own b = 0) : PE Xc (.BoolOp .Or (x :: y :: rest) pos) (tD X C own (.or a b)) := by
  refine (pe_or ha hb).imp fun σ H Q ⟨g, env, fps, w, d, w', er, wr, ev, q⟩ => ?_
  obtain ⟨t, w1, e1, e2⟩ := or_ev ev
  refine ⟨g, env, fps, w, _, w1, er, wr, e1, fun v1 H1 g1 x1 wr1 r1 => ⟨t, r1.bl, ?_⟩⟩
  rcases e2 with ⟨rfl, rfl, rfl⟩ | ⟨rfl, e3⟩
  · exact q _ _ _ x1 wr1 (Rp.bl true)
  · rw [if_neg Bool.false_ne_true]
    refine ⟨g1, env, fps, w1, d, w', er.ext x1 wr.ok, wr1, e3, fun v2 H2 g2 x2 wr2 r2 => q _ _ _ (x1.trans x2) wr2 ?_⟩
    rw [lb] at r2; exact r2
theorem pt_andD {a b : Rp.E} {x y : Expr} {rest : List Expr} {pos : Pos} (ha : PT Xc x (tT X C own a)) (hb : PW Xc (.BoolOp .And (y :: rest) pos) (tT X C own b)) : PW Xc (.BoolOp .And (x :: y :: rest) pos) (tT X C own (.and a b)) := by
  refine (pw_and ha hb).imp fun σ H Q ⟨g, env, fps, w, d, w', er, wr, ev, q⟩ => ?_
  obtain ⟨t, w1, e1, e2⟩ := and_ev ev
  refine ⟨g, env, fps, w, t, w1, er, wr, e1, fun H1 g1 x1 wr1 => ?_⟩
  rcases e2 with ⟨rfl, e3, rfl⟩ | ⟨rfl, e3⟩
  · cases e3; exact q _ _ x1 wr1
  · rw [if_pos rfl]
    exact ⟨g1, env, fps, w1, d, w', er.ext x1 wr.ok, wr1, e3, fun H2 g2 x2 wr2 => q _ _ (x1.trans x2) wr2⟩
theorem pt_orD {a b : Rp.E} {x y : Expr} {rest : List Expr} {pos : Pos} (ha : PT Xc x (tT X C own a)) (hb : PW Xc (.BoolOp .Or (y :: rest) pos) (tT X C own b)) : PW Xc (.BoolOp .Or (x :: y :: rest) pos) (tT X C own (.or a b)) := by
  refine (pw_or ha hb).imp fun σ H Q ⟨g, env, fps, w, d, w', er, wr, ev, q⟩ => ?_
  obtain ⟨t, w1, e1, e2⟩ := or_ev ev
  refine ⟨g, env, fps, w, t, w1, er, wr, e1, fun H1 g1 x1 wr1 => ?_⟩
  rcases e2 with ⟨rfl, e3, rfl⟩ | ⟨rfl, e3⟩
  · cases e3; exact q _ _ x1 wr1
  · rw [if_neg Bool.false_ne_true]
    exact ⟨g1, env, fps, w1, d, w', er.ext x1 wr.ok, wr1, e3, fun H2 g2 x2 wr2 => q _ _ (x1.trans x2) wr2⟩
theorem not_ev {a : Rp.E} {env : Rp.Env} {w w' : Rp.W} {d : Rp.D} (ev : Rp.evE C (.not a) env w = .ok d w') : ∃ t, Rp.evE C a env w = .ok (.bl t) w' ∧ d = .bl (!t) := by
  simp only [Rp.evE] at ev
  obtain ⟨dx, w1, e1, ev⟩ := bind_ok ev
  obtain ⟨t, rfl, ev2⟩ := cond_ok ev
  clear ev
  refine ⟨t, ?_⟩
  cases t with
  | true => simp only [if_true, Rp.R.ok.injEq] at ev2; exact ⟨by rw [e1, ev2.2], ev2.1.symm⟩
  | false => simp only [Bool.false_eq_true, if_false, Rp.R.ok.injEq] at ev2; exact ⟨by rw [e1, ev2.2], ev2.1.symm⟩
theorem pd_not {a : Rp.E} {x : Expr} {pos : Pos} (ha : PE Xc x (tD X C own a)) : PE Xc (.UnaryOp .Not x pos) (tD X C own (.not a)) := by
  refine (pe_not ha).imp fun σ H Q ⟨g, env, fps, w, d, w', er, wr, ev, q⟩ => ?_
  obtain ⟨t, e1, rfl⟩ := not_ev ev
  exact ⟨g, env, fps, w, _, w', er, wr, e1, fun v1 H1 g1 x1 wr1 r1 => ⟨t, r1.bl, q _ _ _ x1 wr1 (Rp.bl _)⟩⟩
theorem pt_notD {a : Rp.E} {x : Expr} {pos : Pos} (ha : PT Xc x (tT X C own a)) : PT Xc (.UnaryOp .Not x pos) (tT X C own (.not a)) := by
  refine (pt_not ha).imp fun σ H Q ⟨g, env, fps, w, d, w', er, wr, ev, q⟩ => ?_
  obtain ⟨t, e1, e2⟩ := not_ev ev
  cases e2
  exact ⟨g, env, fps, w, t, w', er, wr, e1, fun H1 g1 x1 wr1 => q _ _ x1 wr1⟩
theorem ite_ev {c a b : Rp.E} {env : Rp.Env} {w w' : Rp.W} {d : Rp.D} (ev : Rp.evE C (.ite c a b) env w = .ok d w') : ∃ t w1, Rp.evE C c env w = .ok (.bl t) w1 ∧ Rp.evE C (if t then a else b) env w1 = .ok d w' := by
  simp only [Rp.evE] at ev
  obtain ⟨dx, w1, e1, ev⟩ := bind_ok ev
  obtain ⟨t, rfl, ev2⟩ := cond_ok ev
  clear ev
  refine ⟨t, w1, e1, ?_⟩
  cases t <;> simpa using ev2
theorem pd_ite {c a b : Rp.E} {z x y : Expr} {pos : Pos} (hc : PT Xc z (tT X C own c)) (ha : PE Xc x (tD X C own a)) (hb : PE Xc y (tD X C own b)) (la : lev own a = 0) (lb : lev own b = 0) : PE Xc (.IfExp z x y pos) (tD X C own (.ite c a b)) := by
  refine (pe_ifExp hc ha hb).imp fun σ H Q ⟨g, env, fps, w, d, w', er, wr, ev, q⟩ => ?_
  obtain ⟨t, w1, e1, e2⟩ := ite_ev ev
  refine ⟨g, env, fps, w, t, w1, er, wr, e1, fun H1 g1 x1 wr1 => ?_⟩
  cases t with
  | true =>
    rw [if_pos rfl]
    exact ⟨g1, env, fps, w1, d, w', er.ext x1 wr.ok, wr1, by simpa using e2, fun v2 H2 g2 x2 wr2 r2 => q _ _ _ (x1.trans x2) wr2 (by rw [la] at r2; exact r2)⟩
  | false =>
    rw [if_neg Bool.false_ne_true]
    exact ⟨g1, env, fps, w1, d, w', er.ext x1 wr.ok, wr1, by simpa using e2, fun v2 H2 g2 x2 wr2 r2 => q _ _ _ (x1.trans x2) wr2 (by rw [lb] at r2; exact r2)⟩
/-! ### places, slices -/
theorem plainIx {y : Expr} (h : (match y with | .Slice .. => false | _ => true) = true) : PlainIx y := by
  intro o i
  cases y <;> first | rfl | cases h
theorem pd_ix (cg : Cg T k sc fc N Xc) (hk : 40 ≤ k) {a b : Rp.E} {x y : Expr} {pos : Pos} (ha : PE Xc x (tD X C own a)) (hb : PE Xc y (tD X C own b)) (lb : lev own b ≤ 1) (hp : PlainIx y) : PE Xc (.Subscript x y pos) (tD X C own (.ix a b)) := by
  refine (pe_ix (ixd (X := X) (n := lev own a) (cg.room.mono hk)) ha hb hp).imp fun σ H Q ⟨g, env, fps, w, d, w', er, wr, ev, q⟩ => ?_
  simp only [Rp.evE] at ev
  obtain ⟨dx, w1, e1, ev⟩ := bind_ok ev
  obtain ⟨dy, w2, e2, ev⟩ := bind_ok ev
  obtain ⟨e3, rfl⟩ := lift_ok ev
  refine ⟨g, env, fps, w, dx, w1, er, wr, e1, fun v1 H1 g1 x1 wr1 r1 => ⟨g1, env, fps, w1, dy, w2, er.ext x1 wr.ok, wr1, e2, fun v2 H2 g2 x2 wr2 r2 => ?_⟩⟩
  exact ⟨g2, dx, dy, d, r1.ext x2 wr1.ok, r2.mono (by omega), e3, fun v rv => q v H2 g2 (x1.trans x2) wr2 rv⟩
end
end RpS
end

section
set_option Elab.async false
set_option linter.all false
set_option maxRecDepth 100000
set_option maxHeartbeats 2000000
/-! RpS8: more expression forms: slices, arguments, displays, fields, calls, built-ins. -/
namespace RpS
open PySem PySem.Spec PyProof.Rows L2
def nstar : Expr → Bool
  | .Starred .. => false
  | _ => true
theorem star_cons {e : Expr} {es : List Expr} {env : Env} (h : nstar e = true) : starEach (e :: es) env = (false, eval e env) :: starEach es env := by
  cases e <;> first | rfl | cases h
theorem star_none {env : Env} {pos : Pos} : ∀ {es : List Expr}, es.all nstar = true → (backTo pos (starEach es env)).any (·.1) = false
  | [], _ => rfl
  | e :: es, h => by
    rw [List.all_cons, Bool.and_eq_true] at h
    rw [star_cons h.1]
    show (false || (backTo pos (starEach es env)).any (·.1)) = false
    rw [star_none h.2]; rfl
theorem Ext.frzn {g : Gh} {H : Hp} {w : Rp.W} {p : Addr} {o : HO} (wr : WR g H w) (hp : H p = none) : Ext g H (frz g [p]) (upd H p o) ∧ WR (frz g [p]) (upd H p o) w :=
  ⟨ext_frz (by intro a ha; simp at ha; subst ha; exact hp) (ext_upd hp), (wr.upd hp).frz (by intro a ha; simp at ha; subst ha; exact ⟨by rw [upd_same]; simp, not_wd_of_none wr hp⟩)⟩
section
variable {T : Tx} {X : Gx} {C : Rp.Cl} {k : Nat} {B : Tb} {sc : Scope} {fc : Str → Bool} {N : List Str} {Xc : Cx} {own : List Nat}
theorem Cg.gl (cg : Cg T k sc fc N Xc) {x : Str} (h : sc.names.lookup x = some .globalImplicit) : Gl Xc x := by
  show Xc.env.scope.names.lookup x = _
  rw [cg.sco]; exact h
/-! ### slices -/
def tI (X : Gx) (C : Rp.Cl) (own : List Nat) : Option Rp.E → TO := fun o σ H Q => match o with
  | none => Q none H
  | some e => ∃ g env fps w i w', ER X own g H σ env fps ∧ WR g H w ∧ Rp.evE C e env w = .ok (.int i) w' ∧ ∀ H' g', Ext g H g' H' → WR g' H' w' → Q (some i) H'
theorem po_of {o : Option Rp.E} {x : Option Expr} (h : match o, x with | none, none => True | some e, some x => PE Xc x (tD X C own e) | _, _ => False) : PO Xc x (tI X C own o) := by
  cases o with
  | none =>
    cases x with
    | none => exact po_none
    | some x => exact h.elim
  | some e =>
    cases x with
    | none => exact h.elim
    | some x =>
      refine ⟨fun pins s σ H Q I ⟨g, env, fps, w, i, w', er, wr, ev, q⟩ => ?_⟩
      exact (po_some h).run pins s σ H Q I ⟨g, env, fps, w, _, w', er, wr, ev, fun v H' g' ex wr' r => ⟨i, r.int, q H' g' ex wr'⟩⟩
theorem bdI_some {d : Rp.D} {o : Option Int} (h : Rp.bdI d = some o) : ∃ i, d = .int i ∧ o = some i := by
  cases d <;> simp [Rp.bdI] at h
  exact ⟨_, rfl, h.symm⟩
theorem sl_ev {a : Rp.E} {l h : Option Rp.E} {env : Rp.Env} {w w' : Rp.W} {d : Rp.D} (ev : Rp.evE C (.sl a l h) env w = .ok d w') :
    ∃ dx w1 lo w2 hi, Rp.evE C a env w = .ok dx w1 ∧ (match l with | none => lo = none ∧ w2 = w1 | some e => ∃ i, lo = some i ∧ Rp.evE C e env w1 = .ok (.int i) w2) ∧
      (match h with | none => hi = none ∧ w' = w2 | some e => ∃ i, hi = some i ∧ Rp.evE C e env w2 = .ok (.int i) w') ∧ Rp.slD dx lo hi = some d := by
  cases l with
  | none =>
    cases h with
    | none =>
      simp only [Rp.evE] at ev
      obtain ⟨dx, w1, e1, ev2⟩ := bind_ok ev
      obtain ⟨e3, rfl⟩ := lift_ok ev2
      exact ⟨dx, w1, none, w1, none, e1, ⟨rfl, rfl⟩, ⟨rfl, rfl⟩, e3⟩
    | some h =>
      simp only [Rp.evE] at ev
      obtain ⟨dx, w1, e1, ev2⟩ := bind_ok ev
      obtain ⟨dy, w2, e2, ev3⟩ := bind_ok ev2
      obtain ⟨e3, rfl⟩ := lift_ok ev3
      obtain ⟨o, h1, h2⟩ := Option.bind_eq_some_iff.mp e3
      obtain ⟨i, rfl, rfl⟩ := bdI_some h1
      exact ⟨dx, w1, none, w1, some i, e1, ⟨rfl, rfl⟩, ⟨i, rfl, e2⟩, h2⟩
  | some l =>
    cases h with
    | none =>
      simp only [Rp.evE] at ev
      obtain ⟨dx, w1, e1, ev2⟩ := bind_ok ev
      obtain ⟨dy, w2, e2, ev3⟩ := bind_ok ev2
      obtain ⟨e3, rfl⟩ := lift_ok ev3
      obtain ⟨o, h1, h2⟩ := Option.bind_eq_some_iff.mp e3
      obtain ⟨i, rfl, rfl⟩ := bdI_some h1
      exact ⟨dx, w1, some i, w2, none, e1, ⟨i, rfl, e2⟩, ⟨rfl, rfl⟩, h2⟩
    | some h =>
      simp only [Rp.evE] at ev
      obtain ⟨dx, w1, e1, ev2⟩ := bind_ok ev
      obtain ⟨dy, w2, e2, ev3⟩ := bind_ok ev2
      obtain ⟨dz, w3, e4, ev4⟩ := bind_ok ev3
      obtain ⟨e3, rfl⟩ := lift_ok ev4
      obtain ⟨o, h1, h2⟩ := Option.bind_eq_some_iff.mp e3
      obtain ⟨o2, h3, h4⟩ := Option.bind_eq_some_iff.mp h2
      obtain ⟨i, rfl, rfl⟩ := bdI_some h1
      obtain ⟨j, rfl, rfl⟩ := bdI_some h3
      exact ⟨dx, w1, some i, w2, some j, e1, ⟨i, rfl, e2⟩, ⟨j, rfl, e4⟩, h4⟩
/-- the walk of a slice, up to the new object -/
theorem sl_core {a : Rp.E} {l h : Option Rp.E} {x : Expr} {xl xh : Option Expr} {pos p2 : Pos} {t : TE} (ha : PE Xc x (tD X C own a)) (la : lev own a ≤ 1) (hl : PO Xc xl (tI X C own l)) (hh : PO Xc xh (tI X C own h))
    (q : ∀ σ H Q, t σ H Q → ∃ g env fps w d w', ER X own g H σ env fps ∧ WR g H w ∧ Rp.evE C (.sl a l h) env w = .ok d w' ∧ ∀ g1 H1, Ext g H g1 H1 → WR g1 H1 w' → ∀ v H', New X g1 H1 true v d H' → Q v H') : PE Xc (.Subscript x (.Slice xl xh none p2) pos) t := by
  refine (pe_slice (sld (X := X)) ha hl hh).imp fun σ H Q tq => ?_
  obtain ⟨g, env, fps, w, d, w', er, wr, ev, qq⟩ := q σ H Q tq
  obtain ⟨dx, w1, lo, w2, hi, e1, e2, e3, e4⟩ := sl_ev ev
  refine ⟨g, env, fps, w, dx, w1, er, wr, e1, fun v1 H1 g1 x1 wr1 r1 => ?_⟩
  have key : ∀ g2 H2, Ext g1 H1 g2 H2 → WR g2 H2 w2 → tI X C own h σ H2 fun u H3 => rSlD X v1 lo u H3 Q := fun g2 H2 x2 wr2 => by
    cases h with
    | none =>
      obtain ⟨rfl, rfl⟩ := e3
      exact ⟨g2, dx, d, (r1.mono la).ext x2 wr1.ok, e4, fun v H' n => qq g2 H2 (x1.trans x2) wr2 v H' n⟩
    | some h =>
      obtain ⟨i, rfl, e3⟩ := e3
      refine ⟨g2, env, fps, w2, i, w', er.ext (x1.trans x2) wr.ok, wr2, e3, fun H3 g3 x3 wr3 => ?_⟩
      exact ⟨g3, dx, d, (r1.mono la).ext (x2.trans x3) wr1.ok, e4, fun v H' n => qq g3 H3 (x1.trans (x2.trans x3)) wr3 v H' n⟩
  cases l with
  | none =>
    obtain ⟨rfl, rfl⟩ := e2
    exact key g1 H1 (.refl _ _) wr1
  | some l =>
    obtain ⟨i, rfl, e2⟩ := e2
    exact ⟨g1, env, fps, w1, i, w2, er.ext x1 wr.ok, wr1, e2, fun H2 g2 x2 wr2 => key g2 H2 x2 wr2⟩
theorem pd_sl {a : Rp.E} {l h : Option Rp.E} {x : Expr} {xl xh : Option Expr} {pos p2 : Pos} (ha : PE Xc x (tD X C own a)) (la : lev own a ≤ 1) (hl : PO Xc xl (tI X C own l)) (hh : PO Xc xh (tI X C own h)) : PE Xc (.Subscript x (.Slice xl xh none p2) pos) (tD X C own (.sl a l h)) :=
  sl_core ha la hl hh fun σ H Q ⟨g, env, fps, w, d, w', er, wr, ev, q⟩ => ⟨g, env, fps, w, d, w', er, wr, ev, fun g1 H1 x1 wr1 v H' n => by
    obtain ⟨g', ex, wr', rp⟩ := n.frz wr1
    exact q v H' g' (x1.trans ex) wr' rp⟩
theorem pf_sl {a : Rp.E} {l h : Option Rp.E} {x : Expr} {xl xh : Option Expr} {pos p2 : Pos} (ha : PE Xc x (tD X C own a)) (la : lev own a ≤ 1) (hl : PO Xc xl (tI X C own l)) (hh : PO Xc xh (tI X C own h)) : PE Xc (.Subscript x (.Slice xl xh none p2) pos) (tF X C own (.sl a l h)) :=
  sl_core ha la hl hh fun σ H Q ⟨g, env, fps, w, d, w', er, wr, ev, m, q⟩ => ⟨g, env, fps, w, d, w', er, wr, ev, fun g1 H1 x1 wr1 v H' n => by
    obtain ⟨fp, ex, wr', ro, nd, out⟩ := n.ownF wr1 m
    exact q v H' g1 fp (x1.trans ex) wr' ro nd fun a ha => ⟨x1.none_back (out a ha).1, (out a ha).2⟩⟩

/-! ### arguments, displays -/
theorem pa_nilD {n : Nat} : PA Xc [] (tA X C own n []) := pa_nil.imp fun σ H Q ⟨g, env, fps, w, ds, w', er, wr, ev, q⟩ => by
  simp only [Rp.evEs, Rp.R.ok.injEq] at ev
  obtain ⟨rfl, rfl⟩ := ev
  exact q [] H g (.refl _ _) wr .nil
theorem pa_consD {n : Nat} {e : Rp.E} {es : List Rp.E} {x : Expr} {xs : List Expr} (ha : PE Xc x (tD X C own e)) (la : lev own e ≤ n) (hr : PA Xc xs (tA X C own n es)) (ns : nstar x = true) : PA Xc (x :: xs) (tA X C own n (e :: es)) := by
  refine (pa_cons ha hr (star_cons ns)).imp fun σ H Q ⟨g, env, fps, w, ds, w', er, wr, ev, q⟩ => ?_
  simp only [Rp.evEs] at ev
  obtain ⟨d, w1, e1, ev2⟩ := bind_ok ev
  obtain ⟨ds', w2, e2, ev3⟩ := bind_ok ev2
  simp only [Rp.R.ok.injEq] at ev3
  obtain ⟨rfl, rfl⟩ := ev3
  refine ⟨g, env, fps, w, d, w1, er, wr, e1, fun v1 H1 g1 x1 wr1 r1 => ⟨g1, env, fps, w1, ds', w2, er.ext x1 wr.ok, wr1, e2, fun vs H2 g2 x2 wr2 r2 => ?_⟩⟩
  exact q _ _ _ (x1.trans x2) wr2 (.cons ((r1.mono la).ext x2 wr1.ok) r2)
theorem evEs_len {C : Rp.Cl} {env : Rp.Env} : ∀ {es : List Rp.E} {w w' : Rp.W} {ds : List Rp.D}, Rp.evEs C es env w = .ok ds w' → ds.length = es.length
  | [], w, w', ds, h => by
    simp only [Rp.evEs, Rp.R.ok.injEq] at h
    rw [← h.1]; rfl
  | e :: es, w, w', ds, h => by
    simp only [Rp.evEs] at h
    obtain ⟨d, w1, e1, h2⟩ := bind_ok h
    obtain ⟨ds', w2, e2, h3⟩ := bind_ok h2
    simp only [Rp.R.ok.injEq] at h3
    rw [← h3.1, List.length_cons, List.length_cons, evEs_len e2]
theorem Ls.rpa0 {g : Gh} {H : Hp} {vs : List V} {ds : List Rp.D} (h : Ls (RR X g H 0) vs ds) : RpA X g H vs ds := by
  induction h with
  | nil => exact .nil
  | cons a _ ih => exact .cons a ih
theorem line_small {n : Nat} (h : n ≤ 1000) : n ≤ sizeLine := by rw [sizeLine_eq]; omega
theorem pd_tup {es : List Rp.E} {xs : List Expr} {x1 : Nat} {pos : Pos} (ha : PA Xc xs (tA X C own 0 es)) (hl : es.length ≤ 1000) : PE Xc (.Tuple xs x1 pos) (tD X C own (.tup es)) := by
  refine (pe_tup ha).imp fun σ H Q ⟨g, env, fps, w, d, w', er, wr, ev, q⟩ => ?_
  simp only [Rp.evE] at ev
  obtain ⟨ds, w1, e1, ev2⟩ := bind_ok ev
  simp only [Rp.R.ok.injEq] at ev2
  obtain ⟨rfl, rfl⟩ := ev2
  refine ⟨g, env, fps, w, ds, w1, er, wr, e1, fun vs H1 g1 x1 wr1 r1 => ⟨by rw [r1.length, evEs_len e1]; exact line_small hl, fun p hp => ?_⟩⟩
  obtain ⟨g', ex, wr', rp⟩ := (New.tup (fr := true) hp r1.rpa0).frz wr1
  exact q _ _ g' (x1.trans ex) wr' rp
theorem lst_core {es : List Rp.E} {xs : List Expr} {pos : Pos} {t : TE} (ha : PA Xc xs (tA X C own 0 es)) (hl : es.length ≤ 1000)
    (q : ∀ σ H Q, t σ H Q → ∃ g env fps w d w', ER X own g H σ env fps ∧ WR g H w ∧ Rp.evE C (.lst es) env w = .ok d w' ∧ ∀ g1 H1, Ext g H g1 H1 → WR g1 H1 w' → ∀ v H', New X g1 H1 true v d H' → Q v H') : PE Xc (.List xs pos) t := by
  refine (pe_lst ha).imp fun σ H Q tq => ?_
  obtain ⟨g, env, fps, w, d, w', er, wr, ev, q⟩ := q σ H Q tq
  simp only [Rp.evE] at ev
  obtain ⟨ds, w1, e1, ev2⟩ := bind_ok ev
  simp only [Rp.R.ok.injEq] at ev2
  obtain ⟨rfl, rfl⟩ := ev2
  refine ⟨g, env, fps, w, ds, w1, er, wr, e1, fun vs H1 g1 x1 wr1 r1 => ⟨by rw [r1.length, evEs_len e1]; exact line_small hl, fun p hp => ?_⟩⟩
  exact q g1 H1 x1 wr1 _ _ (New.lst (fr := true) hp r1.rpa0)
/-- from the new object: frozen, or owned -/
theorem q_frz {e : Rp.E} {σ : L2.St} {H : Hp} {Q : VK} (h : tD X C own e σ H Q) (l0 : lev own e = 0) : ∃ g env fps w d w', ER X own g H σ env fps ∧ WR g H w ∧ Rp.evE C e env w = .ok d w' ∧ ∀ g1 H1, Ext g H g1 H1 → WR g1 H1 w' → ∀ v H', New X g1 H1 true v d H' → Q v H' := by
  obtain ⟨g, env, fps, w, d, w', er, wr, ev, q⟩ := h
  refine ⟨g, env, fps, w, d, w', er, wr, ev, fun g1 H1 x1 wr1 v H' n => ?_⟩
  obtain ⟨g', ex, wr', rp⟩ := n.frz wr1
  exact q v H' g' (x1.trans ex) wr' (by rw [l0]; exact rp)
theorem q_own {e : Rp.E} {σ : L2.St} {H : Hp} {Q : VK} (h : tF X C own e σ H Q) : ∃ g env fps w d w', ER X own g H σ env fps ∧ WR g H w ∧ Rp.evE C e env w = .ok d w' ∧ ∀ g1 H1, Ext g H g1 H1 → WR g1 H1 w' → ∀ v H', New X g1 H1 true v d H' → Q v H' := by
  obtain ⟨g, env, fps, w, d, w', er, wr, ev, m, q⟩ := h
  refine ⟨g, env, fps, w, d, w', er, wr, ev, fun g1 H1 x1 wr1 v H' n => ?_⟩
  obtain ⟨fp, ex, wr', ro, nd, out⟩ := n.ownF wr1 m
  exact q v H' g1 fp (x1.trans ex) wr' ro nd fun a ha => ⟨x1.none_back (out a ha).1, (out a ha).2⟩
theorem pd_lst {es : List Rp.E} {xs : List Expr} {pos : Pos} (ha : PA Xc xs (tA X C own 0 es)) (hl : es.length ≤ 1000) : PE Xc (.List xs pos) (tD X C own (.lst es)) := lst_core ha hl fun _ _ _ h => q_frz h rfl
theorem pf_lst {es : List Rp.E} {xs : List Expr} {pos : Pos} (ha : PA Xc xs (tA X C own 0 es)) (hl : es.length ≤ 1000) : PE Xc (.List xs pos) (tF X C own (.lst es)) := lst_core ha hl fun _ _ _ h => q_own h

/-! ### fields -/
theorem fGet_of {g : Gh} {H : Hp} {f : String} : ∀ {fs : List (Str × V)} {gs : List (String × Rp.D)} {d : Rp.D}, RpF X g H fs gs → Rp.fGet gs f = some d → ∃ v, fs.lookup (ofs f) = some v ∧ Rp X g H v d
  | _, _, _, .nil, h => by cases h
  | _, _, d, .cons (f := e) (v := v) a b, h => by
    unfold Rp.fGet at h
    rw [List.lookup_cons]
    by_cases z : e = f
    · subst z
      simp only [beq_self_eq_true, if_true] at h ⊢
      cases h
      exact ⟨v, rfl, a⟩
    · have h1 : (e == f) = false := by simpa using z
      have h2 : (ofs f == ofs e) = false := by rw [ofs_beq]; simpa using Ne.symm z
      rw [h1] at h
      rw [h2]
      exact fGet_of b h
def baseOk : Expr → Bool
  | .Call _ [] .. => false
  | _ => true
theorem base_ok {e : Expr} {f : Str} {env : Env} (h : baseOk e = true) : attributeBase e f env (eval e env) = eval e env := by
  cases e with
  | Call f args kw pos =>
    cases args with
    | nil => cases h
    | cons a as => cases f <;> rfl
  | _ => rfl
theorem pd_fld (cg : Cg T k sc fc N Xc) (kt : Kt T X C k B) {a : Rp.E} {x : Expr} {f : String} {pos : Pos} (ha : PE Xc x (tD X C own a)) (hf : f ∈ B.flds) (hb : baseOk x = true) : PE Xc (.Attribute x (ofs f) pos) (tD X C own (.fld a f)) := by
  refine (pe_fld ha (base_ok hb)).imp fun σ H Q ⟨g, env, fps, w, d, w', er, wr, ev, q⟩ => ?_
  simp only [Rp.evE] at ev
  obtain ⟨dx, w1, e1, ev2⟩ := bind_ok ev
  obtain ⟨e3, rfl⟩ := lift_ok ev2
  refine ⟨g, env, fps, w, dx, w1, er, wr, e1, fun v1 H1 g1 x1 wr1 r1 => ?_⟩
  cases dx with
  | obj c gs =>
    simp only [Rp.fldD] at e3
    obtain ⟨z, dx, fs, rfl, hz, rf⟩ := r1.obj
    obtain ⟨v, h1, h2⟩ := fGet_of rf e3
    exact ⟨z, X.cls c, dx, fs, v, rfl, hz, by rw [cg.kk]; exact kt.cl c, by rw [cg.kk]; exact kt.fld c f hf, h1, q v H1 g1 x1 wr1 h2⟩
  | _ => simp [Rp.fldD] at e3

/-! ### calls -/
theorem cal_at (cg : Cg T k sc fc N Xc) {x : Str} {s : Sp} {dvs : List V} (c : C8.Cal T.P T.w T.K T.mg T.base k x s dvs) : C8.Cal Xc.prog Xc.w Xc.K Xc.mg Xc.base k x s dvs := by
  rw [cg.prog, cg.w, cg.kk, cg.mg, cg.base]; exact c
theorem mak_at (cg : Cg T k sc fc N Xc) {x : Str} {a : Addr} {s : Sp} {dvs : List V} {j : Nat} (c : C8.Mak T.P T.w T.K T.mg T.base j x a s dvs) : C8.Mak Xc.prog Xc.w Xc.K Xc.mg Xc.base j x a s dvs := by
  rw [cg.prog, cg.w, cg.kk, cg.mg, cg.base]; exact c
theorem call_q {f : String} {n : Nat} {es : List Rp.E} {σ : L2.St} {H : Hp} {Q : VK} (hn : ∀ ds w d w', C f ds w = .ok d w' → ds.length = n) (h : tD X C own (.call f es) σ H Q) : tCall (sp X C f n) [] C8.E0 (tA X C own 0 es) σ H Q := by
  obtain ⟨g, env, fps, w, d, w', er, wr, ev, q⟩ := h
  simp only [Rp.evE] at ev
  obtain ⟨ds, w1, e1, ev2⟩ := bind_ok ev
  refine ⟨g, env, fps, w, ds, w1, er, wr, e1, fun vs H1 g1 x1 wr1 r1 => ?_⟩
  show sp X C f n (vs ++ []) H1 Q C8.E0
  rw [List.append_nil]
  exact ⟨by rw [r1.length]; exact hn _ _ _ _ ev2, g1, w1, ds, d, w', wr1, r1.rpa0, ev2, fun v H' g' x2 wr2 rv => q v H' g' (x1.trans x2) wr2 rv⟩
theorem pd_call (cg : Cg T k sc fc N Xc) (kt : Kt T X C k B) {f : String} {es : List Rp.E} {y : Expr} {ys : List Expr} {p pos : Pos} (hf : f ∈ B.fns) (hg : sc.names.lookup (ofs f) = some .globalImplicit) (hdb : (ofs f == ("__debug__" : Str)) = false)
    (ha : PA Xc (y :: ys) (tA X C own 0 es)) (ns : (y :: ys).all nstar = true) : PE Xc (.Call (.Name (ofs f) p) (y :: ys) [] pos) (tD X C own (.call f es)) := by
  obtain ⟨n, hn, c⟩ := kt.call f hf
  rw [List.all_cons, Bool.and_eq_true] at ns
  exact (C8.pe_c (cal_at cg c) cg.room (Nat.le_refl _) (cg.gl hg) ha hdb (star_cons ns.1) (star_none ns.2)).imp fun σ H Q h => call_q hn h
theorem pd_call0 (cg : Cg T k sc fc N Xc) (kt : Kt T X C k B) {f : String} {p pos : Pos} (hf : f ∈ B.fns) (hg : sc.names.lookup (ofs f) = some .globalImplicit) (hdb : (ofs f == ("__debug__" : Str)) = false) : PE Xc (.Call (.Name (ofs f) p) [] [] pos) (tD X C own (.call f [])) := by
  obtain ⟨n, hn, c⟩ := kt.call f hf
  obtain ⟨fa, fd, ps, ds, F, hm, kp, b, dv⟩ := (cal_at cg c).ex
  refine (pe_call0 (E := C8.E0) F cg.room (cg.gl hg) hm kp b dv C8.pass0 hdb).imp fun σ H Q h => ?_
  · have h2 := call_q hn h
    obtain ⟨g, env, fps, w, ds, w', er, wr, ev, q⟩ := h2
    simp only [Rp.evEs, Rp.R.ok.injEq] at ev
    obtain ⟨rfl, rfl⟩ := ev
    exact q [] H g (.refl _ _) wr .nil
theorem pd_make (cg : Cg T (k + 1) sc fc N Xc) (kt : Kt T X C k B) {f : String} {es : List Rp.E} {y : Expr} {ys : List Expr} {p pos : Pos} (hf : f ∈ B.cls) (hg : sc.names.lookup (ofs f) = some .globalImplicit) (hdb : (ofs f == ("__debug__" : Str)) = false)
    (ha : PA Xc (y :: ys) (tA X C own 0 es)) (ns : (y :: ys).all nstar = true) : PE Xc (.Call (.Name (ofs f) p) (y :: ys) [] pos) (tD X C own (.call f es)) := by
  obtain ⟨n, hn, c⟩ := kt.make f hf
  rw [List.all_cons, Bool.and_eq_true] at ns
  refine (C8.pe_mk (mak_at cg c) cg.room (Nat.le_refl _) (cg.gl hg) ha hdb (star_cons ns.1) (star_none ns.2)).imp fun σ H Q h => ?_
  obtain ⟨g, env, fps, w, d, w', er, wr, ev, q⟩ := h
  simp only [Rp.evE] at ev
  obtain ⟨ds, w1, e1, ev2⟩ := bind_ok ev
  refine ⟨g, env, fps, w, ds, w1, er, wr, e1, fun vs H1 g1 x1 wr1 r1 x dx hx hdx hne => ?_⟩
  show spI X C f n (.ref x :: (vs ++ [])) _ _ C8.E0
  rw [List.append_nil]
  refine ⟨by rw [List.length_cons, r1.length]; exact hn _ _ _ _ ev2, x, dx, vs, H1, g1, w1, ds, d, w', rfl, hx, hdx, hne, rfl, wr1, r1.rpa0, ev2, fun H' g' x2 wr2 rv => ⟨rfl, q _ H' g' (x1.trans x2) wr2 rv⟩⟩

/-! ### built-ins -/
def biN : Rp.BI → Option String
  | .len => some "len" | .abs => some "abs" | .sum => some "sum" | .int1 => some "int" | .tuple => some "tuple" | .list => some "list"
  | .min2 => some "min" | .max2 => some "max" | .minL => some "min" | .maxL => some "max" | .all => some "all" | .any => some "any"
  | .sorted => some "sorted" | _ => none
inductive BK : Value → Prop where
  | b (id : String) : BK (.builtin id)
  | t (id : String) : BK (.type id)
theorem bi_boot {b : Rp.BI} {n : String} (h : biN b = some n) : ∃ f, biV b = some f ∧ bootBuiltins (ofs n) = some f ∧ BK f ∧ n ∈ blts ∧ ofs n ≠ "__name__" ∧ (ofs n == ("__debug__" : Str)) = false := by
  cases b <;> simp only [biN, Option.some.injEq, reduceCtorEq] at h <;> subst h <;> first
    | exact ⟨_, rfl, by decide +kernel, .b _, by decide, by decide, by decide⟩
    | exact ⟨_, rfl, by decide +kernel, .t _, by decide, by decide, by decide⟩
theorem bi_core (cg : Cg T k sc fc N Xc) (kt : Kt T X C k B) {b : Rp.BI} {f : String} {es : List Rp.E} {y : Expr} {ys : List Expr} {p pos : Pos} (hb : biN b = some f) (hg : sc.names.lookup (ofs f) = some .globalImplicit)
    (ha : PA Xc (y :: ys) (tA X C own 1 es)) (ns : (y :: ys).all nstar = true) {t : TE}
    (q : ∀ σ H Q, t σ H Q → ∃ g env fps w d w', ER X own g H σ env fps ∧ WR g H w ∧ Rp.evE C (.bi b es) env w = .ok d w' ∧ ∀ g1 H1, Ext g H g1 H1 → WR g1 H1 w' → ∀ v H', New X g1 H1 true v d H' → Q v H') : PE Xc (.Call (.Name (ofs f) p) (y :: ys) [] pos) t := by
  obtain ⟨fv, h1, h2, h3, h4, h5, h6⟩ := bi_boot hb
  have hm : Xc.mg (ofs f) = none := by rw [cg.mg]; exact kt.free f h4
  have hc := bi_all_ok (X := X) (by rw [cg.kk]; exact kt.kl) cg.calm b h1
  rw [List.all_cons, Bool.and_eq_true] at ns
  have go : ∀ σ H Q, t σ H Q → tCB (rBI X b) (tA X C own 1 es) σ H Q := fun σ H Q tq => by
    obtain ⟨g, env, fps, w, d, w', er, wr, ev, q⟩ := q σ H Q tq
    simp only [Rp.evE] at ev
    obtain ⟨ds, w1, e1, ev2⟩ := bind_ok ev
    obtain ⟨e3, rfl⟩ := lift_ok ev2
    exact ⟨g, env, fps, w, ds, w1, er, wr, e1, fun vs H1 g1 x1 wr1 r1 => ⟨g1, ds, d, r1, e3, fun v H' n => q g1 H1 x1 wr1 v H' n⟩⟩
  cases h3 with
  | b id => exact (pe_callB hc (cg.gl hg) hm h2 ha h5 h6 (star_cons ns.1) (star_none ns.2)).imp go
  | t id => exact (pe_callTy hc (cg.gl hg) hm h2 ha h5 h6 (star_cons ns.1) (star_none ns.2)).imp go
theorem pd_bi (cg : Cg T k sc fc N Xc) (kt : Kt T X C k B) {b : Rp.BI} {f : String} {es : List Rp.E} {y : Expr} {ys : List Expr} {p pos : Pos} (hb : biN b = some f) (hg : sc.names.lookup (ofs f) = some .globalImplicit)
    (ha : PA Xc (y :: ys) (tA X C own 1 es)) (ns : (y :: ys).all nstar = true) : PE Xc (.Call (.Name (ofs f) p) (y :: ys) [] pos) (tD X C own (.bi b es)) := bi_core cg kt hb hg ha ns fun _ _ _ h => q_frz h rfl
theorem pf_bi (cg : Cg T k sc fc N Xc) (kt : Kt T X C k B) {b : Rp.BI} {f : String} {es : List Rp.E} {y : Expr} {ys : List Expr} {p pos : Pos} (hb : biN b = some f) (hg : sc.names.lookup (ofs f) = some .globalImplicit)
    (ha : PA Xc (y :: ys) (tA X C own 1 es)) (ns : (y :: ys).all nstar = true) : PE Xc (.Call (.Name (ofs f) p) (y :: ys) [] pos) (tF X C own (.bi b es)) := bi_core cg kt hb hg ha ns fun _ _ _ h => q_own h
theorem pd_gcd (cg : Cg T k sc fc N Xc) (kt : Kt T X C k B) (hgc : "gcd" ∈ B.mods) {es : List Rp.E} {y : Expr} {ys : List Expr} {p pos : Pos} (hg : sc.names.lookup (ofs "gcd") = some .globalImplicit)
    (ha : PA Xc (y :: ys) (tA X C own 1 es)) (ns : (y :: ys).all nstar = true) : PE Xc (.Call (.Name (ofs "gcd") p) (y :: ys) [] pos) (tD X C own (.bi .gcd es)) := by
  rw [List.all_cons, Bool.and_eq_true] at ns
  refine (pe_callBfun (bi_gcd (X := X)) (cg.gl hg) (by rw [cg.mg]; exact kt.gcd hgc) ha (by decide) (star_cons ns.1) (star_none ns.2)).imp fun σ H Q tq => ?_
  obtain ⟨g, env, fps, w, d, w', er, wr, ev, q⟩ := q_frz tq rfl
  simp only [Rp.evE] at ev
  obtain ⟨ds, w1, e1, ev2⟩ := bind_ok ev
  obtain ⟨e3, rfl⟩ := lift_ok ev2
  exact ⟨g, env, fps, w, ds, w1, er, wr, e1, fun vs H1 g1 x1 wr1 r1 => ⟨g1, ds, d, r1, e3, fun v H' n => q g1 H1 x1 wr1 v H' n⟩⟩
end
end RpS
end

section
set_option Elab.async false
set_option linter.all false
set_option maxRecDepth 100000
set_option maxHeartbeats 2000000
/-! RpS9: targets, slots set and wiped, what a loop walks. -/
namespace RpS
open PySem PySem.Spec PyProof.Rows L2

/-! ### slots -/
def setV (σ : L2.St) : List Nat → List V → L2.St
  | i :: is, v :: vs => setV (σ.set i (some v)) is vs
  | _, _ => σ
def zer (own : List Nat) : List Nat → List Nat
  | [] => own
  | i :: is => zer (own.set i 0) is
def clr (fps : Fps) : List Nat → Fps
  | [] => fps
  | i :: is => clr (upf fps i []) is
theorem getD_set0 {own : List Nat} {i j : Nat} : (own.set i 0).getD j 0 = if j = i then 0 else own.getD j 0 := by
  by_cases h : j = i
  · subst h
    rw [if_pos rfl]
    by_cases hl : j < own.length
    · simp [List.getD, hl]
    · simp [List.getD, hl]
  · rw [if_neg h]
    simp [List.getD, List.getElem?_set_ne (Ne.symm h)]
section
variable {X : Gx} {own : List Nat} {g g' : Gh} {H H' : Hp} {σ : L2.St} {env : Rp.Env} {fps : Fps}
theorem ER.set0 (r : ER X own g H σ env fps) {i : Nat} {v : V} {d : Rp.D} (q : Rp X g H v d) : ER X (own.set i 0) g H (σ.set i (some v)) (env.set i (some d)) (upf fps i []) where
  len := by rw [List.length_set, List.length_set]; exact r.len
  slot j e h := by
    by_cases hj : j = i
    · subst hj
      have hl : j < env.length := by
        have := (List.getElem?_eq_some_iff.mp h).1
        rwa [List.length_set] at this
      rw [List.getElem?_set_self hl] at h
      cases h
      refine ⟨v, by rw [List.getElem?_set_self (by rw [← r.len]; exact hl)], ?_⟩
      rw [upf_same, getD_set0, if_pos rfl]
      exact ⟨rfl, q⟩
    · rw [List.getElem?_set_ne (Ne.symm hj)] at h
      obtain ⟨u, h1, h2⟩ := r.slot j e h
      refine ⟨u, by rw [List.getElem?_set_ne (Ne.symm hj)]; exact h1, ?_⟩
      rw [upf_ne hj, getD_set0, if_neg hj]; exact h2
  nd j := by
    by_cases hj : j = i
    · subst hj; rw [upf_same]; exact List.nodup_nil
    · rw [upf_ne hj]; exact r.nd j
  dis j k a hjk ha hk := by
    by_cases hj : j = i
    · subst hj; rw [upf_same] at ha; cases ha
    · rw [upf_ne hj] at ha
      by_cases hk2 : k = i
      · subst hk2; rw [upf_same] at hk; cases hk
      · rw [upf_ne hk2] at hk
        exact r.dis j k a hjk ha hk
  out j a ha := by
    by_cases hj : j = i
    · subst hj; rw [upf_same] at ha; cases ha
    · rw [upf_ne hj] at ha; exact r.out j a ha
/-- a slot is emptied on both sides -/
theorem ER.wipe1 (r : ER X own g H σ env fps) (i : Nat) : ER X (own.set i 0) g H (σ.set i none) (env.set i none) (upf fps i []) where
  len := by rw [List.length_set, List.length_set]; exact r.len
  slot j e h := by
    by_cases hj : j = i
    · subst hj
      have hl : j < env.length := by
        have := (List.getElem?_eq_some_iff.mp h).1
        rwa [List.length_set] at this
      rw [List.getElem?_set_self hl] at h
      cases h
    · rw [List.getElem?_set_ne (Ne.symm hj)] at h
      obtain ⟨u, h1, h2⟩ := r.slot j e h
      refine ⟨u, by rw [List.getElem?_set_ne (Ne.symm hj)]; exact h1, ?_⟩
      rw [upf_ne hj, getD_set0, if_neg hj]; exact h2
  nd j := by
    by_cases hj : j = i
    · subst hj; rw [upf_same]; exact List.nodup_nil
    · rw [upf_ne hj]; exact r.nd j
  dis j k a hjk ha hk := by
    by_cases hj : j = i
    · subst hj; rw [upf_same] at ha; cases ha
    · rw [upf_ne hj] at ha
      by_cases hk2 : k = i
      · subst hk2; rw [upf_same] at hk; cases hk
      · rw [upf_ne hk2] at hk
        exact r.dis j k a hjk ha hk
  out j a ha := by
    by_cases hj : j = i
    · subst hj; rw [upf_same] at ha; cases ha
    · rw [upf_ne hj] at ha; exact r.out j a ha
theorem ER.setV : ∀ {is : List Nat} {vs : List V} {ds : List Rp.D} {own : List Nat} {σ : L2.St} {env : Rp.Env} {fps : Fps}, ER X own g H σ env fps → RpA X g H vs ds → ds.length = is.length → ER X (zer own is) g H (setV σ is vs) (Rp.setAll env is ds) (clr fps is)
  | [], _, _, _, _, _, _, r, .nil, _ => r
  | i :: is, _, _, _, _, _, _, r, .cons a b, h => by
    unfold zer RpS.setV Rp.setAll clr
    exact ER.setV (r.set0 a) b (by simpa using h)
/-- wipe empties from the back, kill from the front: the same slots -/
theorem wipe_get (σ : L2.St) (j : Nat) : ∀ vs : List Nat, (wipe σ vs)[j]? = if j ∈ vs ∧ j < σ.length then some none else σ[j]?
  | [] => by simp [wipe]
  | v :: vs => by
    unfold wipe
    by_cases h : v = j
    · subst h
      by_cases hl : v < σ.length
      · rw [List.getElem?_set_self (by rw [wipe_length]; exact hl), if_pos ⟨List.mem_cons_self, hl⟩]
      · rw [if_neg (fun z => hl z.2), List.getElem?_eq_none (by rw [List.length_set, wipe_length]; omega), List.getElem?_eq_none (by omega)]
    · rw [List.getElem?_set_ne h, wipe_get σ j vs]
      have : (j ∈ v :: vs ∧ j < σ.length) ↔ (j ∈ vs ∧ j < σ.length) := by
        rw [List.mem_cons]
        constructor
        · rintro ⟨z | z, q⟩
          · exact absurd z.symm h
          · exact ⟨z, q⟩
        · rintro ⟨z, q⟩; exact ⟨.inr z, q⟩
      by_cases c : j ∈ vs ∧ j < σ.length
      · rw [if_pos c, if_pos (this.mpr c)]
      · rw [if_neg c, if_neg (fun z => c (this.mp z))]
def wipeF (σ : L2.St) : List Nat → L2.St
  | [] => σ
  | i :: is => wipeF (σ.set i none) is
theorem wipeF_len : ∀ (is : List Nat) (σ : L2.St), (wipeF σ is).length = σ.length
  | [], _ => rfl
  | i :: is, σ => by unfold wipeF; rw [wipeF_len is, List.length_set]
theorem wipeF_get (j : Nat) : ∀ (vs : List Nat) (σ : L2.St), (wipeF σ vs)[j]? = if j ∈ vs ∧ j < σ.length then some none else σ[j]?
  | [], σ => by simp [wipeF]
  | v :: vs, σ => by
    unfold wipeF
    rw [wipeF_get j vs, List.length_set]
    by_cases h : v = j
    · subst h
      by_cases hl : v < σ.length
      · rw [if_pos (show v ∈ v :: vs ∧ v < σ.length from ⟨List.mem_cons_self, hl⟩)]
        by_cases c : v ∈ vs ∧ v < σ.length
        · rw [if_pos c]
        · rw [if_neg c, List.getElem?_set_self hl]
      · rw [if_neg (fun z => hl z.2), if_neg (fun z => hl z.2), List.getElem?_eq_none (by rw [List.length_set]; omega), List.getElem?_eq_none (by omega)]
    · rw [List.getElem?_set_ne h]
      have : (j ∈ v :: vs ∧ j < σ.length) ↔ (j ∈ vs ∧ j < σ.length) := by
        rw [List.mem_cons]
        constructor
        · rintro ⟨z | z, q⟩
          · exact absurd z.symm h
          · exact ⟨z, q⟩
        · rintro ⟨z, q⟩; exact ⟨.inr z, q⟩
      by_cases c : j ∈ vs ∧ j < σ.length
      · rw [if_pos c, if_pos (this.mpr c)]
      · rw [if_neg c, if_neg (fun z => c (this.mp z))]
theorem wipe_eqF (σ : L2.St) (vs : List Nat) : wipe σ vs = wipeF σ vs := by
  apply List.ext_getElem?
  intro j
  rw [wipe_get, wipeF_get]
theorem ER.wipe (r : ER X own g H σ env fps) (is : List Nat) : ER X (zer own is) g H (L2.wipe σ is) (Rp.kill env is) (clr fps is) := by
  rw [wipe_eqF]
  induction is generalizing own σ env fps with
  | nil => exact r
  | cons i is ih =>
    unfold zer wipeF Rp.kill clr
    exact ih (r.wipe1 i)
theorem wipe_ext {σ σ' : L2.St} {vs : List Nat} (hl : σ.length = σ'.length) (h : ∀ j, j ∉ vs → σ[j]? = σ'[j]?) : L2.wipe σ vs = L2.wipe σ' vs := by
  apply List.ext_getElem?
  intro j
  rw [wipe_get, wipe_get, hl]
  by_cases c : j ∈ vs ∧ j < σ'.length
  · rw [if_pos c, if_pos c]
  · rw [if_neg c, if_neg c]
    by_cases m : j ∈ vs
    · have : ¬ j < σ'.length := fun z => c ⟨m, z⟩
      rw [List.getElem?_eq_none (by omega), List.getElem?_eq_none (by omega)]
    · exact h j m
theorem setV_get {j : Nat} : ∀ {is : List Nat} {vs : List V} {σ : L2.St}, j ∉ is → (setV σ is vs)[j]? = σ[j]?
  | [], _, _, _ => by unfold setV; rfl
  | i :: is, [], _, _ => by unfold setV; rfl
  | i :: is, v :: vs, σ, h => by
    unfold setV
    rw [setV_get (fun z => h (List.mem_cons_of_mem _ z)), List.getElem?_set_ne (fun z => h (by rw [z]; exact List.mem_cons_self))]
theorem setV_len : ∀ {is : List Nat} {vs : List V} {σ : L2.St}, (setV σ is vs).length = σ.length
  | [], _, _ => by unfold setV; rfl
  | i :: is, [], _ => by unfold setV; rfl
  | i :: is, v :: vs, σ => by unfold setV; rw [setV_len, List.length_set]
theorem wipe_setV {is vs : List Nat} {us : List V} {σ : L2.St} (h : ∀ i ∈ is, i ∈ vs) : L2.wipe (setV (L2.wipe σ vs) is us) vs = L2.wipe σ vs := by
  have e : L2.wipe (L2.wipe σ vs) vs = L2.wipe σ vs := by
    apply List.ext_getElem?
    intro j
    rw [wipe_get, wipe_get, wipe_length]
    by_cases c : j ∈ vs ∧ j < σ.length
    · rw [if_pos c, if_pos c]
    · rw [if_neg c, if_neg c]
  rw [← e]
  refine wipe_ext (by rw [setV_len, e]) fun j hj => ?_
  rw [setV_get (fun z => hj (h j z)), e]
/-- what is set over does not matter -/
theorem setAll_congr : ∀ {is : List Nat} {ds : List Rp.D} {env env' : Rp.Env}, env.length = env'.length → (∀ j, j ∉ is → env[j]? = env'[j]?) → ds.length = is.length → Rp.setAll env is ds = Rp.setAll env' is ds
  | [], [], env, env', hl, h, _ => by
    unfold Rp.setAll
    exact List.ext_getElem? fun j => h j (by simp)
  | [], _ :: _, _, _, _, _, e => by simp at e
  | _ :: _, [], _, _, _, _, e => by simp at e
  | i :: is, d :: ds, env, env', hl, h, e => by
    unfold Rp.setAll
    refine setAll_congr (by rw [List.length_set, List.length_set]; exact hl) (fun j hj => ?_) (by simpa using e)
    by_cases z : i = j
    · subst z
      by_cases q : i < env.length
      · rw [List.getElem?_set_self q, List.getElem?_set_self (by rw [← hl]; exact q)]
      · rw [List.getElem?_eq_none (by rw [List.length_set]; omega), List.getElem?_eq_none (by rw [List.length_set]; omega)]
    · rw [List.getElem?_set_ne z, List.getElem?_set_ne z]
      exact h j fun c => by
        rcases List.mem_cons.mp c with c | c
        · exact z c.symm
        · exact hj c
theorem kill_len : ∀ (is : List Nat) (env : Rp.Env), (Rp.kill env is).length = env.length
  | [], _ => rfl
  | i :: is, env => by unfold Rp.kill; rw [kill_len is, List.length_set]
theorem kill_get {j : Nat} : ∀ {is : List Nat} {env : Rp.Env}, j ∉ is → (Rp.kill env is)[j]? = env[j]?
  | [], _, _ => rfl
  | i :: is, env, h => by
    unfold Rp.kill
    rw [kill_get (fun z => h (List.mem_cons_of_mem _ z)), List.getElem?_set_ne (fun z => h (by rw [z]; exact List.mem_cons_self))]
theorem bindP_kill {p : Rp.Pat} {d : Rp.D} {env : Rp.Env} : Rp.bindP p d (Rp.kill env p.is) = Rp.bindP p d env := by
  cases p with
  | n i => simp [Rp.bindP, Rp.Pat.is, Rp.kill, List.set_set]
  | t is =>
    cases d with
    | tup ds =>
      simp only [Rp.bindP, Rp.Pat.is]
      split
      · rename_i h
        rw [setAll_congr (kill_len _ _) (fun j hj => kill_get hj) h]
      · rfl
    | _ => rfl
end

/-! ### targets -/
def tSlots (is : List Nat) : TGs := fun vs σ H Q => vs.length = is.length ∧ Q (setV σ is vs) H
/-- a target of the text -/
def tPat (K : PySem.W.Frag) : Rp.Pat → TG
  | .n i => gName i
  | .t is => gTup K is.length (tSlots is)
section
variable {T : Tx} {X : Gx} {C : Rp.Cl} {k : Nat} {B : Tb} {sc : Scope} {fc : Str → Bool} {N : List Str} {Xc : Cx} {own : List Nat}
theorem _root_.L2.PGs.imp {x : List Expr} {t t' : TGs} (h : PGs Xc x t) (i : ∀ v σ H Q, t' v σ H Q → t v σ H Q) : PGs Xc x t' := ⟨fun pins s σ H vs us Q I r q => h.run pins s σ H vs us Q I r (i _ _ _ _ q)⟩
theorem _root_.L2.PG.imp {x : Expr} {t t' : TG} (h : PG Xc x t) (i : ∀ v σ H Q, t' v σ H Q → t v σ H Q) : PG Xc x t' := ⟨fun pins s σ H v u Q I r q => h.run pins s σ H v u Q I r (i _ _ _ _ q)⟩
/-- a name that may be stored -/
def okT (sc : Scope) (fc : Str → Bool) (N : List Str) (i : Nat) (x : Expr) : Bool := match x with
  | .Name x _ => decide (N[i]? = some x) && (decide (sc.names.lookup x = some .local) || (decide (sc.names.lookup x = some .cell) && fc x))
  | _ => false
def okTs (sc : Scope) (fc : Str → Bool) (N : List Str) : List Nat → List Expr → Bool
  | [], [] => true
  | i :: is, x :: xs => okT sc fc N i x && okTs sc fc N is xs
  | _, _ => false
theorem pg_nm (cg : Cg T k sc fc N Xc) {i : Nat} {x : Expr} (h : okT sc fc N i x = true) : PG Xc x (gName i) := by
  cases x with
  | Name x pos =>
    simp only [okT, Bool.and_eq_true, Bool.or_eq_true, decide_eq_true_eq] at h
    refine pg_name (by rw [cg.n]; exact cg.nd) (by rw [cg.n]; exact h.1) ?_ ?_
    · show Xc.env.scope.names.lookup x = _ ∨ Xc.env.scope.names.lookup x = _
      rw [cg.sco]
      rcases h.2 with z | z
      · exact .inl z
      · exact .inr z.1
    · rw [cg.sco]
      rcases h.2 with z | z
      · exact .inr z
      · exact .inl (cg.fn x z.2)
  | _ => simp [okT] at h
theorem pgs_nms (cg : Cg T k sc fc N Xc) : ∀ {is : List Nat} {xs : List Expr}, okTs sc fc N is xs = true → PGs Xc xs (tSlots is) ∧ (assignEach xs Xc.env).length = is.length ∧ (assignEach xs Xc.env).findIdx? (·.1) = none
  | [], [], _ => ⟨pgs_nil.imp fun v σ H Q ⟨h1, h2⟩ => ⟨List.length_eq_zero_iff.mp h1, by cases v <;> exact h2⟩, rfl, rfl⟩
  | [], _ :: _, h => by simp [okTs] at h
  | _ :: _, [], h => by simp [okTs] at h
  | i :: is, x :: xs, h => by
    simp only [okTs, Bool.and_eq_true] at h
    obtain ⟨h1, h2, h3⟩ := pgs_nms cg h.2
    have hx := pg_nm cg h.1
    have e : assignEach (x :: xs) Xc.env = (false, assign x Xc.env) :: assignEach xs Xc.env := by
      cases x with
      | Name x pos => rfl
      | _ => simp [okT] at h
    refine ⟨(pgs_cons hx h1 (by rw [e]; rfl)).imp fun v σ H Q ⟨q1, q2⟩ => ?_, by rw [e, List.length_cons, List.length_cons, h2], ?_⟩
    · cases v with
      | nil => simp at q1
      | cons v vs => exact ⟨v, vs, rfl, by simpa using q1, q2⟩
    · rw [e, List.findIdx?_cons, if_neg Bool.false_ne_true, h3]; rfl
def okP (sc : Scope) (fc : Str → Bool) (N : List Str) : Rp.Pat → Expr → Bool
  | .n i, x => okT sc fc N i x
  | .t is, .Tuple xs _ _ => okTs sc fc N is xs
  | _, _ => false
theorem pg_pat (cg : Cg T k sc fc N Xc) {p : Rp.Pat} {x : Expr} (h : okP sc fc N p x = true) : PG Xc x (tPat Xc.K p) := by
  cases p with
  | n i => exact pg_nm cg (by simpa [okP] using h)
  | t is =>
    cases x with
    | Tuple xs k2 pos =>
      obtain ⟨h1, h2, h3⟩ := pgs_nms cg (by simpa [okP] using h)
      exact pg_tup cg.calm h1 h2 h3
    | _ => simp [okP] at h
/-- a target takes a value -/
theorem pat_step {K : PySem.W.Frag} {p : Rp.Pat} {g : Gh} {H : Hp} {σ : L2.St} {env env' : Rp.Env} {fps : Fps} {v : V} {d : Rp.D} {Q : L2.St → Hp → Prop} (er : ER X own g H σ env fps) (rv : Rp X g H v d) (hb : Rp.bindP p d env = some env')
    (q : ∀ us, (p.is.length = us.length) → ER X (zer own p.is) g H (setV σ p.is us) env' (clr fps p.is) → Q (setV σ p.is us) H) : tPat K p v σ H Q := by
  cases p with
  | n i =>
    simp only [Rp.bindP, Option.some.injEq] at hb
    subst hb
    exact q [v] rfl (er.set0 rv)
  | t is =>
    cases d with
    | tup ds =>
      simp only [Rp.bindP] at hb
      split at hb
      · rename_i hl
        cases hb
        obtain ⟨a, vs, rfl, fa, ha, ra⟩ := RR.tup (n := 0) rv
        have e := ra.length
        exact ⟨a, vs, rfl, SqT.of ha, by omega, by omega, q vs (by show is.length = _; omega) (er.setV ra hl)⟩
      · cases hb
    | _ => simp [Rp.bindP] at hb
end
end RpS
end

section
set_option Elab.async false
set_option linter.all false
set_option maxRecDepth 100000
set_option maxHeartbeats 2000000
/-! RpS10: what is walked; comprehensions. -/
namespace RpS
open PySem PySem.Spec PyProof.Rows L2
/-- the iterator yields these data -/
structure Yl (X : Gx) (J : L2.It) (xs : List Rp.D) (g1 : Gh) (H1 : Hp) : Prop where
  go : ∀ i g H d, Fm g1 H1 g H → xs[i]? = some d → J.go i H
  yld : ∀ i g H w d v H', Fm g1 H1 g H → WR g H w → xs[i]? = some d → J.yld i H v H' → ∃ g', Ext g H g' H' ∧ WR g' H' w ∧ Rp X g' H' v d
  stop : ∀ g H, Fm g1 H1 g H → J.stop xs.length H
def tIt (X : Gx) (C : Rp.Cl) (own : List Nat) (it : Rp.It) : TI := fun σ H R => ∃ g env fps w xs w', ER X own g H σ env fps ∧ WR g H w ∧ Rp.evI C it env w = .ok xs w' ∧ ∀ J g' H', Ext g H g' H' → WR g' H' w' → Yl X J xs g' H' → R J H'
section
variable {X : Gx} {g1 g : Gh} {H1 H : Hp} {K : PySem.W.Frag}
theorem yl_list {a : Addr} {xs : List Rp.D} (h : Rp X g1 H1 (.ref a) (.lst xs)) : Yl X (Itl K a) xs g1 H1 := by
  cases h with
  | @lst _ vs _ fa ha ra =>
    have key : ∀ {g H}, Fm g1 H1 g H → SqL K H a vs ∧ RpA X g H vs xs := fun m => ⟨SqL.of (m.k a _ fa ha), RpA.fm m ra⟩
    refine ⟨fun i g H d m e => ?_, fun i g H w d v H' m wr e y => ?_, fun g H m => ⟨vs, (key m).1, by rw [ra.length]; exact Nat.le_refl _⟩⟩
    · obtain ⟨u, h1, h2⟩ := (key m).2.get e
      exact ⟨vs, u, (key m).1, h1⟩
    · obtain ⟨u, h1, h2⟩ := (key m).2.get e
      obtain ⟨rfl, hv⟩ := y
      have e1 : vs[i]? = some v := hv vs (key m).1
      rw [h1] at e1
      cases e1
      exact ⟨g, .refl _ _, wr, h2⟩
theorem yl_scr {a : Addr} {ns : List Int} (hz : (g1.F a ∧ Rd H1 a (.lst (ns.map V.int))) ∨ X.kl a ns) (hkl : ∀ a ns, X.kl a ns → ∀ H, SqL K H a (ns.map V.int)) : Yl X (Itl K a) (ns.map .int) g1 H1 := by
  have key : ∀ {g H}, Fm g1 H1 g H → SqL K H a (ns.map V.int) := fun {g H} m => hz.elim (fun z => .inl (Rd.fm m z.1 z.2)) fun z => hkl a ns z H
  refine ⟨fun i g H d m e => ?_, fun i g H w d v H' m wr e y => ?_, fun g H m => ⟨_, key m, by simp⟩⟩
  · rw [List.getElem?_map] at e
    obtain ⟨n, hn, rfl⟩ := Option.map_eq_some_iff.mp e
    exact ⟨_, .int n, key m, by rw [List.getElem?_map, hn]; rfl⟩
  · rw [List.getElem?_map] at e
    obtain ⟨n, hn, rfl⟩ := Option.map_eq_some_iff.mp e
    obtain ⟨rfl, hv⟩ := y
    have e1 : (ns.map V.int)[i]? = some v := hv _ (key m)
    rw [List.getElem?_map, hn] at e1
    cases e1
    exact ⟨g, .refl _ _, wr, .int n⟩
theorem yl_tup {a : Addr} {xs : List Rp.D} (h : Rp X g1 H1 (.ref a) (.tup xs)) : Yl X (Itt K a) xs g1 H1 := by
  cases h with
  | @tup _ vs _ fa ha ra =>
    have key : ∀ {g H}, Fm g1 H1 g H → SqT K H a vs ∧ RpA X g H vs xs := fun m => ⟨SqT.of (m.k a _ fa ha), RpA.fm m ra⟩
    refine ⟨fun i g H d m e => ?_, fun i g H w d v H' m wr e y => ?_, fun g H m => ⟨vs, (key m).1, by rw [ra.length]; exact Nat.le_refl _⟩⟩
    · obtain ⟨u, h1, h2⟩ := (key m).2.get e
      exact ⟨vs, u, (key m).1, h1⟩
    · obtain ⟨u, h1, h2⟩ := (key m).2.get e
      obtain ⟨rfl, hv⟩ := y
      have e1 : vs[i]? = some v := hv vs (key m).1
      rw [h1] at e1
      cases e1
      exact ⟨g, .refl _ _, wr, h2⟩
theorem dInts_len : ∀ (n : Nat) (lo : Int), (Rp.dInts lo n).length = n
  | 0, _ => rfl
  | n + 1, lo => by unfold Rp.dInts; rw [List.length_cons, dInts_len n]
theorem dInts_get : ∀ (n : Nat) (lo : Int) (i : Nat), i < n → (Rp.dInts lo n)[i]? = some (.int (lo + i))
  | n + 1, lo, 0, _ => by unfold Rp.dInts; simp
  | n + 1, lo, i + 1, h => by
    unfold Rp.dInts
    rw [List.getElem?_cons_succ, dInts_get n (lo + 1) i (by omega)]
    congr 2
    omega
theorem dDown_len : ∀ (n : Nat) (lo : Int), (Rp.dDown lo n).length = n
  | 0, _ => rfl
  | n + 1, lo => by unfold Rp.dDown; rw [List.length_cons, dDown_len n]
theorem dDown_get : ∀ (n : Nat) (lo : Int) (i : Nat), i < n → (Rp.dDown lo n)[i]? = some (.int (lo - i))
  | n + 1, lo, 0, _ => by unfold Rp.dDown; simp
  | n + 1, lo, i + 1, h => by
    unfold Rp.dDown
    rw [List.getElem?_cons_succ, dDown_get n (lo - 1) i (by omega)]
    congr 2
    omega
theorem yl_range (lo : Int) (n : Nat) : Yl X (Itr lo n) (Rp.dInts lo n) g1 H1 := by
  have key : ∀ {i : Nat} {d : Rp.D}, (Rp.dInts lo n)[i]? = some d → i < n ∧ d = .int (lo + i) := fun {i d} e => by
    have h := (List.getElem?_eq_some_iff.mp e).1
    rw [dInts_len] at h
    rw [dInts_get n lo i h] at e
    cases e
    exact ⟨h, rfl⟩
  refine ⟨fun i g H d m e => (key e).1, fun i g H w d v H' m wr e y => ?_, fun g H m => by rw [dInts_len]; exact Nat.le_refl n⟩
  obtain ⟨rfl, rfl⟩ := y
  obtain ⟨_, rfl⟩ := key e
  exact ⟨g, .refl _ _, wr, .int _⟩
theorem yl_down (lo : Int) (n : Nat) : Yl X (Itc lo (-1) n) (Rp.dDown lo n) g1 H1 := by
  have key : ∀ {i : Nat} {d : Rp.D}, (Rp.dDown lo n)[i]? = some d → i < n ∧ d = .int (lo - i) := fun {i d} e => by
    have h := (List.getElem?_eq_some_iff.mp e).1
    rw [dDown_len] at h
    rw [dDown_get n lo i h] at e
    cases e
    exact ⟨h, rfl⟩
  refine ⟨fun i g H d m e => (key e).1, fun i g H w d v H' m wr e y => ?_, fun g H m => by rw [dDown_len]; exact Nat.le_refl n⟩
  obtain ⟨rfl, rfl⟩ := y
  obtain ⟨_, rfl⟩ := key e
  have e2 : lo + ((i : Nat) : Int) * (-1) = lo - i := by omega
  rw [e2]
  exact ⟨g, .refl _ _, wr, .int _⟩
theorem enum_len : ∀ (xs : List Rp.D) (lo : Int), (Rp.enumL lo xs).length = xs.length
  | [], _ => rfl
  | x :: xs, lo => by unfold Rp.enumL; rw [List.length_cons, List.length_cons, enum_len xs]
theorem enum_get : ∀ (xs : List Rp.D) (lo : Int) (i : Nat) (d : Rp.D), (Rp.enumL lo xs)[i]? = some d → ∃ x, xs[i]? = some x ∧ d = .tup [.int (lo + i), x]
  | [], lo, i, d, h => by simp [Rp.enumL] at h
  | x :: xs, lo, 0, d, h => by
    unfold Rp.enumL at h
    simp at h
    exact ⟨x, by simp, by simp [h]⟩
  | x :: xs, lo, i + 1, d, h => by
    unfold Rp.enumL at h
    rw [List.getElem?_cons_succ] at h
    obtain ⟨y, h1, h2⟩ := enum_get xs (lo + 1) i d h
    refine ⟨y, by simpa using h1, ?_⟩
    rw [h2]
    have : lo + 1 + (i : Int) = lo + ((i + 1 : Nat) : Int) := by omega
    rw [this]
theorem yl_enum {a : Addr} {xs : List Rp.D} (h : Rp X g1 H1 (.ref a) (.lst xs)) : Yl X (Ite K a) (Rp.enumL 0 xs) g1 H1 := by
  cases h with
  | @lst _ vs _ fa ha ra =>
    have key : ∀ {g H}, Fm g1 H1 g H → SqL K H a vs ∧ RpA X g H vs xs := fun m => ⟨SqL.of (m.k a _ fa ha), RpA.fm m ra⟩
    refine ⟨fun i g H d m e => ?_, fun i g H w d v H' m wr e y => ?_, fun g H m => ⟨vs, (key m).1, by rw [ra.length, enum_len]; exact Nat.le_refl _⟩⟩
    · obtain ⟨x, e1, e2⟩ := enum_get xs 0 i d e
      obtain ⟨u, h1, h2⟩ := (key m).2.get e1
      exact ⟨vs, u, (key m).1, h1⟩
    · obtain ⟨x, e1, rfl⟩ := enum_get xs 0 i d e
      obtain ⟨u, h1, h2⟩ := (key m).2.get e1
      obtain ⟨p, z, rfl, hp, rfl, hv⟩ := y
      have e3 : vs[i]? = some z := hv vs (key m).1
      rw [h1] at e3
      cases e3
      have e4 : (0 : Int) + (i : Int) = ((i : Nat) : Int) := by omega
      rw [e4]
      exact (New.tup (fr := true) hp (.cons (.int _) (.cons h2 .nil))).frz wr
theorem yl_enumT {a : Addr} {xs : List Rp.D} (h : Rp X g1 H1 (.ref a) (.tup xs)) : Yl X (IteT K a) (Rp.enumL 0 xs) g1 H1 := by
  cases h with
  | @tup _ vs _ fa ha ra =>
    have key : ∀ {g H}, Fm g1 H1 g H → SqT K H a vs ∧ RpA X g H vs xs := fun m => ⟨SqT.of (m.k a _ fa ha), RpA.fm m ra⟩
    refine ⟨fun i g H d m e => ?_, fun i g H w d v H' m wr e y => ?_, fun g H m => ⟨vs, (key m).1, by rw [ra.length, enum_len]; exact Nat.le_refl _⟩⟩
    · obtain ⟨x, e1, e2⟩ := enum_get xs 0 i d e
      obtain ⟨u, h1, h2⟩ := (key m).2.get e1
      exact ⟨vs, u, (key m).1, h1⟩
    · obtain ⟨x, e1, rfl⟩ := enum_get xs 0 i d e
      obtain ⟨u, h1, h2⟩ := (key m).2.get e1
      obtain ⟨p, z, rfl, hp, rfl, hv⟩ := y
      have e3 : vs[i]? = some z := hv vs (key m).1
      rw [h1] at e3
      cases e3
      have e4 : (0 : Int) + (i : Int) = ((i : Nat) : Int) := by omega
      rw [e4]
      exact (New.tup (fr := true) hp (.cons (.int _) (.cons h2 .nil))).frz wr
theorem zip_len : ∀ (xs ys : List Rp.D), (Rp.zipL xs ys).length = min xs.length ys.length
  | [], _ => by simp [Rp.zipL]
  | _ :: _, [] => by simp [Rp.zipL]
  | x :: xs, y :: ys => by unfold Rp.zipL; rw [List.length_cons, List.length_cons, List.length_cons, zip_len xs ys]; omega
theorem zip_get : ∀ (xs ys : List Rp.D) (i : Nat) (d : Rp.D), (Rp.zipL xs ys)[i]? = some d → ∃ x y, xs[i]? = some x ∧ ys[i]? = some y ∧ d = .tup [x, y]
  | [], _, i, d, h => by simp [Rp.zipL] at h
  | _ :: _, [], i, d, h => by simp [Rp.zipL] at h
  | x :: xs, y :: ys, 0, d, h => by
    unfold Rp.zipL at h
    simp at h
    exact ⟨x, y, by simp, by simp, by simp [h]⟩
  | x :: xs, y :: ys, i + 1, d, h => by
    unfold Rp.zipL at h
    rw [List.getElem?_cons_succ] at h
    obtain ⟨z, u, h1, h2, h3⟩ := zip_get xs ys i d h
    exact ⟨z, u, by simpa using h1, by simpa using h2, h3⟩
theorem yl_zip {a b : Addr} {xs ys : List Rp.D} (h : Rp X g1 H1 (.ref a) (.lst xs)) (h' : Rp X g1 H1 (.ref b) (.lst ys)) : Yl X (Itz K a b) (Rp.zipL xs ys) g1 H1 := by
  cases h with
  | @lst _ vs _ fa ha ra =>
    cases h' with
    | @lst _ us _ fb hb rb =>
      have key : ∀ {g H}, Fm g1 H1 g H → SqL K H a vs ∧ RpA X g H vs xs := fun m => ⟨SqL.of (m.k a _ fa ha), RpA.fm m ra⟩
      have key2 : ∀ {g H}, Fm g1 H1 g H → SqL K H b us ∧ RpA X g H us ys := fun m => ⟨SqL.of (m.k b _ fb hb), RpA.fm m rb⟩
      refine ⟨fun i g H d m e => ?_, fun i g H w d v H' m wr e y => ?_, fun g H m => ⟨vs, us, (key m).1, (key2 m).1, by rw [ra.length, rb.length, zip_len]; omega⟩⟩
      · obtain ⟨x, y, e1, e2, _⟩ := zip_get xs ys i d e
        obtain ⟨u, h1, h2⟩ := (key m).2.get e1
        obtain ⟨u', h3, h4⟩ := (key2 m).2.get e2
        exact ⟨vs, us, u, u', (key m).1, (key2 m).1, h1, h3⟩
      · obtain ⟨x, z, e1, e2, rfl⟩ := zip_get xs ys i d e
        obtain ⟨u, h1, h2⟩ := (key m).2.get e1
        obtain ⟨u', h3, h4⟩ := (key2 m).2.get e2
        obtain ⟨p, q, q', rfl, hp, rfl, hv, hv'⟩ := y
        have e3 : vs[i]? = some q := hv vs (key m).1
        have e4 : us[i]? = some q' := hv' us (key2 m).1
        rw [h1] at e3
        rw [h3] at e4
        cases e3
        cases e4
        exact (New.tup (fr := true) hp (.cons h2 (.cons h4 .nil))).frz wr
theorem yl_zipT {a b : Addr} {xs ys : List Rp.D} (h : Rp X g1 H1 (.ref a) (.tup xs)) (h' : Rp X g1 H1 (.ref b) (.tup ys)) : Yl X (RZ.ItzT K a b) (Rp.zipL xs ys) g1 H1 := by
  cases h with
  | @tup _ vs _ fa ha ra =>
    cases h' with
    | @tup _ us _ fb hb rb =>
      have key : ∀ {g H}, Fm g1 H1 g H → SqT K H a vs ∧ RpA X g H vs xs := fun m => ⟨SqT.of (m.k a _ fa ha), RpA.fm m ra⟩
      have key2 : ∀ {g H}, Fm g1 H1 g H → SqT K H b us ∧ RpA X g H us ys := fun m => ⟨SqT.of (m.k b _ fb hb), RpA.fm m rb⟩
      refine ⟨fun i g H d m e => ?_, fun i g H w d v H' m wr e y => ?_, fun g H m => ⟨vs, us, (key m).1, (key2 m).1, by rw [ra.length, rb.length, zip_len]; omega⟩⟩
      · obtain ⟨x, y, e1, e2, _⟩ := zip_get xs ys i d e
        obtain ⟨u, h1, h2⟩ := (key m).2.get e1
        obtain ⟨u', h3, h4⟩ := (key2 m).2.get e2
        exact ⟨vs, us, u, u', (key m).1, (key2 m).1, h1, h3⟩
      · obtain ⟨x, z, e1, e2, rfl⟩ := zip_get xs ys i d e
        obtain ⟨u, h1, h2⟩ := (key m).2.get e1
        obtain ⟨u', h3, h4⟩ := (key2 m).2.get e2
        obtain ⟨p, q, q', rfl, hp, rfl, hv, hv'⟩ := y
        have e3 : vs[i]? = some q := hv vs (key m).1
        have e4 : us[i]? = some q' := hv' us (key2 m).1
        rw [h1] at e3
        rw [h3] at e4
        cases e3
        cases e4
        exact (New.tup (fr := true) hp (.cons h2 (.cons h4 .nil))).frz wr
theorem yl_rev {a : Addr} {xs : List Rp.D} (h : Rp X g1 H1 (.ref a) (.lst xs)) : Yl X (Itv K a xs.length) xs.reverse g1 H1 := by
  cases h with
  | @lst _ vs _ fa ha ra =>
    have key : ∀ {g H}, Fm g1 H1 g H → SqL K H a vs ∧ RpA X g H vs xs := fun m => ⟨SqL.of (m.k a _ fa ha), RpA.fm m ra⟩
    have kr : ∀ {i : Nat} {d : Rp.D}, xs.reverse[i]? = some d → i < xs.length ∧ xs[xs.length - 1 - i]? = some d := fun {i d} e => by
      have h := (List.getElem?_eq_some_iff.mp e).1
      rw [List.length_reverse] at h
      rw [List.getElem?_reverse h] at e
      exact ⟨h, e⟩
    refine ⟨fun i g H d m e => ?_, fun i g H w d v H' m wr e y => ?_, fun g H m => by rw [List.length_reverse]; exact Nat.le_refl _⟩
    · obtain ⟨e0, e1⟩ := kr e
      obtain ⟨u, h1, h2⟩ := (key m).2.get e1
      exact ⟨e0, vs, u, (key m).1, h1⟩
    · obtain ⟨e0, e1⟩ := kr e
      obtain ⟨u, h1, h2⟩ := (key m).2.get e1
      obtain ⟨rfl, hv⟩ := y
      have e3 : vs[xs.length - 1 - i]? = some v := hv vs (key m).1
      rw [h1] at e3
      cases e3
      exact ⟨g, .refl _ _, wr, h2⟩
theorem yl_revT {a : Addr} {xs : List Rp.D} (h : Rp X g1 H1 (.ref a) (.tup xs)) : Yl X (RT.ItvT K a xs.length) xs.reverse g1 H1 := by
  cases h with
  | @tup _ vs _ fa ha ra =>
    have key : ∀ {g H}, Fm g1 H1 g H → SqT K H a vs ∧ RpA X g H vs xs := fun m => ⟨SqT.of (m.k a _ fa ha), RpA.fm m ra⟩
    have kr : ∀ {i : Nat} {d : Rp.D}, xs.reverse[i]? = some d → i < xs.length ∧ xs[xs.length - 1 - i]? = some d := fun {i d} e => by
      have h := (List.getElem?_eq_some_iff.mp e).1
      rw [List.length_reverse] at h
      rw [List.getElem?_reverse h] at e
      exact ⟨h, e⟩
    refine ⟨fun i g H d m e => ?_, fun i g H w d v H' m wr e y => ?_, fun g H m => by rw [List.length_reverse]; exact Nat.le_refl _⟩
    · obtain ⟨e0, e1⟩ := kr e
      obtain ⟨u, h1, h2⟩ := (key m).2.get e1
      exact ⟨e0, vs, u, (key m).1, h1⟩
    · obtain ⟨e0, e1⟩ := kr e
      obtain ⟨u, h1, h2⟩ := (key m).2.get e1
      obtain ⟨rfl, hv⟩ := y
      have e3 : vs[xs.length - 1 - i]? = some v := hv vs (key m).1
      rw [h1] at e3
      cases e3
      exact ⟨g, .refl _ _, wr, h2⟩
end

section
variable {T : Tx} {X : Gx} {C : Rp.Cl} {k : Nat} {B : Tb} {sc : Scope} {fc : Str → Bool} {N : List Str} {Xc : Cx} {own : List Nat} {tg : Expr}
/-- a list or a tuple, walked -/
theorem pi_seqB {l : Expr} {tl : TE} (hl : PE Xc l tl) : PI Xc tg l (fun σ H R => tl σ H fun x H1 => ∃ a, x = .ref a ∧ ((∃ xs, SqL Xc.K H1 a xs ∧ R (Itl Xc.K a) H1) ∨ (∃ xs, SqT Xc.K H1 a xs ∧ R (Itt Xc.K a) H1))) := by
  refine ⟨fun pins s σ H R I h => ?_⟩
  refine thn (hl.run pins s σ H _ I h) fun v s1 ⟨x, H1, I1, r1, q1⟩ => ?_
  obtain ⟨a, e, q1⟩ := q1
  subst e
  cases r1
  rcases q1 with ⟨xs, hq, q⟩ | ⟨xs, hq, q⟩
  · obtain ⟨its, rv, p, hz⟩ := I1.list hq
    refine wpAny_pyIter_list p.isList ?_
    refine ⟨s1.heap.objs.size, [s1.heap.objs.size], _, _, H1, rfl, I1.kept (t' := s1.toks) fun b o e => Heap.get?_push_of_some _ e, turn_list a _, ⟨_, Heap.get?_push_size _ rfl, rfl, rfl⟩, fun b hb => ?_, q⟩
    have e : b = s1.heap.objs.size := by simpa using hb
    subst e
    exact I1.fpOk (Nat.le_refl _) (I1.hok.fresh (Nat.le_refl _))
  · obtain ⟨its, rv, p, hz⟩ := I1.tuple hq
    refine wpAny_pyIter_tuple (show s1.heap.IsTuple a its.toArray from p) ?_
    refine ⟨s1.heap.objs.size, [s1.heap.objs.size], _, _, H1, rfl, I1.kept (t' := s1.toks) fun b o e => Heap.get?_push_of_some _ e, turn_tuple a _, ⟨_, Heap.get?_push_size _ rfl, rfl, rfl⟩, fun b hb => ?_, q⟩
    have e : b = s1.heap.objs.size := by simpa using hb
    subst e
    exact I1.fpOk (Nat.le_refl _) (I1.hok.fresh (Nat.le_refl _))
theorem items_some {d : Rp.D} {xs : List Rp.D} (h : Rp.items d = some xs) : d = .tup xs ∨ d = .lst xs ∨ ∃ ns, d = .scr ns ∧ xs = ns.map .int := by
  cases d <;> simp only [Rp.items, Option.some.injEq, reduceCtorEq] at h
  · exact .inl (by rw [h])
  · exact .inr (.inl (by rw [h]))
  · exact .inr (.inr ⟨_, rfl, h.symm⟩)
theorem uItems_some {d : Rp.D} {xs : List Rp.D} (h : Rp.uItems d = some xs) : d = .tup xs ∨ d = .lst xs := by
  cases d <;> simp [Rp.uItems] at h
  · exact .inl (by rw [h])
  · exact .inr (by rw [h])
theorem lItems_some {d : Rp.D} {xs : List Rp.D} (h : Rp.lItems d = some xs) : d = .lst xs := by
  cases d <;> simp [Rp.lItems] at h
  rw [h]
theorem pi_seqD (hkl : ∀ a ns, X.kl a ns → ∀ H, SqL Xc.K H a (ns.map V.int)) {e : Rp.E} {x : Expr} (ha : PE Xc x (tD X C own e)) (la : lev own e = 0) : PI Xc tg x (tIt X C own (.seq e)) := by
  refine (pi_seqB ha).imp fun σ H R ⟨g, env, fps, w, xs, w', er, wr, ev, q⟩ => ?_
  simp only [Rp.evI] at ev
  obtain ⟨d, w1, e1, ev2⟩ := bind_ok ev
  obtain ⟨e3, rfl⟩ := lift_ok ev2
  refine ⟨g, env, fps, w, d, w1, er, wr, e1, fun v H1 g1 x1 wr1 r1 => ?_⟩
  rw [la] at r1
  rcases items_some e3 with rfl | rfl | ⟨ns, rfl, rfl⟩
  · obtain ⟨a, vs, rfl, fa, hz, ra⟩ := RR.tup (n := 0) r1
    exact ⟨a, rfl, .inr ⟨vs, SqT.of hz, q _ g1 H1 x1 wr1 (yl_tup r1)⟩⟩
  · obtain ⟨a, vs, rfl, hz, ra⟩ := RR.lstA (n := 0) r1
    exact ⟨a, rfl, .inl ⟨vs, SqL.of hz, q _ g1 H1 x1 wr1 (yl_list r1)⟩⟩
  · cases (show Rp X g1 H1 v (.scr ns) from r1) with
    | @scr a _ hz => exact ⟨a, rfl, .inl ⟨ns.map V.int, hz.elim (fun z => .inl z.2) fun z => hkl a ns z H1, q _ g1 H1 x1 wr1 (yl_scr hz hkl)⟩⟩
theorem range_some {x y : Rp.D} {xs : List Rp.D} (h : Rp.rangeL x y = some xs) : ∃ i j, x = .int i ∧ y = .int j ∧ -4611686018427387904 ≤ i ∧ i < 4611686018427387904 ∧ -4611686018427387904 ≤ j ∧ j < 4611686018427387904 ∧ xs = Rp.dInts i (j - i).toNat := by
  unfold Rp.rangeL at h
  split at h
  · rename_i i j
    split at h
    · rename_i c
      cases h
      exact ⟨i, j, rfl, rfl, c.1, c.2.1, c.2.2.1, c.2.2.2, rfl⟩
    · cases h
  · cases h
theorem down_some {x y : Rp.D} {xs : List Rp.D} (h : Rp.downL x y = some xs) : ∃ i j, x = .int i ∧ y = .int j ∧ -4611686018427387904 ≤ i ∧ i < 4611686018427387904 ∧ -4611686018427387904 ≤ j ∧ j < 4611686018427387904 ∧ xs = Rp.dDown i (i - j).toNat := by
  unfold Rp.downL at h
  split at h
  · rename_i i j
    split at h
    · rename_i c
      cases h
      exact ⟨i, j, rfl, rfl, c.1, c.2.1, c.2.2.1, c.2.2.2, rfl⟩
    · cases h
  · cases h
theorem mgf (cg : Cg T k sc fc N Xc) (kt : Kt T X C k B) {x : String} (h : x ∈ blts) : Xc.mg (ofs x) = none := by rw [cg.mg]; exact kt.free x h
theorem pi_range1D (cg : Cg T k sc fc N Xc) (kt : Kt T X C k B) {b : Rp.E} {y : Expr} {p pos : Pos} (hg : sc.names.lookup (ofs "range") = some .globalImplicit) (ha : PA Xc [y] (tA X C own 1 [b])) (ns : nstar y = true) :
    PI Xc tg (.Call (.Name (ofs "range") p) [y] [] pos) (tIt X C own (.range (.c (.int 0)) b)) := by
  refine (pi_range1 (cg.gl hg) (mgf cg kt (by decide)) ha (by rw [star_cons ns]; rfl)).imp fun σ H R ⟨g, env, fps, w, xs, w', er, wr, ev, q⟩ => ?_
  simp only [Rp.evI, Rp.evE, Rp.R.bind_ok] at ev
  obtain ⟨dy, w1, e1, ev2⟩ := bind_ok ev
  obtain ⟨e3, rfl⟩ := lift_ok ev2
  obtain ⟨i, j, e4, rfl, c1, c2, c3, c4, rfl⟩ := range_some e3
  cases e4
  refine ⟨g, env, fps, w, [.int j], w1, er, wr, by simp only [Rp.evEs, e1, Rp.R.bind_ok], fun vs H1 g1 x1 wr1 r1 => ?_⟩
  obtain ⟨v, rfl, rv⟩ := r1.one
  refine ⟨j, by rw [rv.int], by omega, by omega, ?_⟩
  have e5 : (j - 0).toNat = j.toNat := by omega
  rw [e5] at q
  exact q _ g1 H1 x1 wr1 (yl_range 0 j.toNat)
theorem pi_range2D (cg : Cg T k sc fc N Xc) (kt : Kt T X C k B) {a b : Rp.E} {x y : Expr} {p pos : Pos} (hg : sc.names.lookup (ofs "range") = some .globalImplicit) (ha : PA Xc [x, y] (tA X C own 1 [a, b])) (ns : nstar x = true) (ns2 : nstar y = true) :
    PI Xc tg (.Call (.Name (ofs "range") p) [x, y] [] pos) (tIt X C own (.range a b)) := by
  refine (pi_range2 (cg.gl hg) (mgf cg kt (by decide)) ha (by rw [star_cons ns, star_cons ns2]; rfl) (by rw [star_cons ns2]; rfl)).imp fun σ H R ⟨g, env, fps, w, xs, w', er, wr, ev, q⟩ => ?_
  simp only [Rp.evI] at ev
  obtain ⟨dx, w0, e0, ev1⟩ := bind_ok ev
  obtain ⟨dy, w1, e1, ev2⟩ := bind_ok ev1
  obtain ⟨e3, rfl⟩ := lift_ok ev2
  obtain ⟨i, j, rfl, rfl, c1, c2, c3, c4, rfl⟩ := range_some e3
  refine ⟨g, env, fps, w, [.int i, .int j], w1, er, wr, by simp only [Rp.evEs, e0, e1, Rp.R.bind_ok], fun vs H1 g1 x1 wr1 r1 => ?_⟩
  obtain ⟨v, u, rfl, rv, ru⟩ := r1.two
  exact ⟨i, j, by rw [rv.int, ru.int], ⟨by omega, by omega, by omega, by omega⟩, q _ g1 H1 x1 wr1 (yl_range i _)⟩
theorem Ls.three {p : V → Rp.D → Prop} {vs : List V} {d e f : Rp.D} (h : Ls p vs [d, e, f]) : ∃ v u t, vs = [v, u, t] ∧ p v d ∧ p u e ∧ p t f := by
  cases h with | cons a b => cases b with | cons c b => cases b with | cons d b => cases b; exact ⟨_, _, _, rfl, a, c, d⟩
theorem pi_downD (cg : Cg T k sc fc N Xc) (kt : Kt T X C k B) {a b : Rp.E} {x y z : Expr} {p pos : Pos} (hg : sc.names.lookup (ofs "range") = some .globalImplicit) (ha : PA Xc [x, y, z] (tA X C own 1 [a, b, .neg (.c (.int 1))])) (ns : nstar x = true) (ns2 : [y, z].all nstar = true) :
    PI Xc tg (.Call (.Name (ofs "range") p) [x, y, z] [] pos) (tIt X C own (.down a b)) := by
  refine (pi_range3 (cg.gl hg) (mgf cg kt (by decide)) ha (star_cons ns) (star_none ns2)).imp fun σ H R ⟨g, env, fps, w, xs, w', er, wr, ev, q⟩ => ?_
  simp only [Rp.evI] at ev
  obtain ⟨dx, w0, e0, ev1⟩ := bind_ok ev
  obtain ⟨dy, w1, e1, ev2⟩ := bind_ok ev1
  obtain ⟨e3, rfl⟩ := lift_ok ev2
  obtain ⟨i, j, rfl, rfl, c1, c2, c3, c4, rfl⟩ := down_some e3
  refine ⟨g, env, fps, w, [.int i, .int j, .int (-1)], w1, er, wr, by simp only [Rp.evEs, e0, e1, Rp.evE, Rp.negD, Rp.R.bind_ok, Rp.lift_some], fun vs H1 g1 x1 wr1 r1 => ?_⟩
  obtain ⟨v, u, t, rfl, rv, ru, rt⟩ := r1.three
  exact ⟨i, j, -1, (i - j).toNat, by rw [rv.int, ru.int, rt.int], RgC.neg (by omega) (by omega) (by omega) (by omega), q _ g1 H1 x1 wr1 (yl_down i _)⟩
theorem pi_enumD (cg : Cg T k sc fc N Xc) (kt : Kt T X C k B) {e : Rp.E} {x : Expr} {p pos tpos : Pos} {elts : List Expr} {kk : Nat} (hg : sc.names.lookup (ofs "enumerate") = some .globalImplicit) (ha : PA Xc [x] (tA X C own 0 [e])) (ns : nstar x = true) :
    PI Xc (.Tuple elts kk tpos) (.Call (.Name (ofs "enumerate") p) [x] [] pos) (tIt X C own (.enum e)) := by
  refine (pi_enumU (cg.gl hg) (mgf cg kt (by decide)) ha (by rw [star_cons ns]; rfl)).imp fun σ H R ⟨g, env, fps, w, xs, w', er, wr, ev, q⟩ => ?_
  simp only [Rp.evI] at ev
  obtain ⟨d, w1, e1, ev2⟩ := bind_ok ev
  obtain ⟨e3, rfl⟩ := lift_ok ev2
  obtain ⟨ys, h1, rfl⟩ := Option.map_eq_some_iff.mp e3
  refine ⟨g, env, fps, w, [d], w1, er, wr, by simp only [Rp.evEs, e1, Rp.R.bind_ok], fun vs H1 g1 x1 wr1 r1 => ?_⟩
  obtain ⟨v, rfl, rv⟩ := r1.one
  rcases uItems_some h1 with rfl | rfl
  · obtain ⟨a, us, rfl, fa, hz, ra⟩ := RR.tup (n := 0) rv
    exact ⟨a, rfl, .inr ⟨us, SqT.of hz, q _ g1 H1 x1 wr1 (yl_enumT rv)⟩⟩
  · obtain ⟨a, us, rfl, hz, ra⟩ := RR.lstA (n := 0) rv
    exact ⟨a, rfl, .inl ⟨us, SqL.of hz, q _ g1 H1 x1 wr1 (yl_enum rv)⟩⟩
theorem zipD_some {d e : Rp.D} {xs : List Rp.D} (h : Rp.zipD d e = some xs) : (∃ ys zs, d = .lst ys ∧ e = .lst zs ∧ xs = Rp.zipL ys zs) ∨ ∃ ys zs, d = .tup ys ∧ e = .tup zs ∧ xs = Rp.zipL ys zs := by
  cases d with
  | lst ys =>
    cases e with
    | lst zs => simp only [Rp.zipD, Option.some.injEq] at h; exact .inl ⟨ys, zs, rfl, rfl, h.symm⟩
    | _ => simp [Rp.zipD] at h
  | tup ys =>
    cases e with
    | tup zs => simp only [Rp.zipD, Option.some.injEq] at h; exact .inr ⟨ys, zs, rfl, rfl, h.symm⟩
    | _ => simp [Rp.zipD] at h
  | _ => simp [Rp.zipD] at h
theorem pi_zipD (cg : Cg T k sc fc N Xc) (kt : Kt T X C k B) {e f : Rp.E} {x y : Expr} {p pos tpos : Pos} {elts : List Expr} {kk : Nat} (hg : sc.names.lookup (ofs "zip") = some .globalImplicit) (ha : PA Xc [x, y] (tA X C own 0 [e, f])) (ns : nstar x = true) (ns2 : [y].all nstar = true) :
    PI Xc (.Tuple elts kk tpos) (.Call (.Name (ofs "zip") p) [x, y] [] pos) (tIt X C own (.zip e f)) := by
  refine (RZ.pi_zipA (cg.gl hg) (mgf cg kt (by decide)) ha (star_cons ns) (star_none ns2)).imp fun σ H R ⟨g, env, fps, w, xs, w', er, wr, ev, q⟩ => ?_
  simp only [Rp.evI] at ev
  obtain ⟨d, w1, e1, ev2⟩ := bind_ok ev
  obtain ⟨d2, w2, e2, ev3⟩ := bind_ok ev2
  obtain ⟨e3, rfl⟩ := lift_ok ev3
  rcases zipD_some e3 with ⟨ys, zs, rfl, rfl, rfl⟩ | ⟨ys, zs, rfl, rfl, rfl⟩
  · refine ⟨g, env, fps, w, [.lst ys, .lst zs], w2, er, wr, by simp only [Rp.evEs, e1, e2, Rp.R.bind_ok], fun vs H1 g1 x1 wr1 r1 => ?_⟩
    obtain ⟨v, u, rfl, rv, ru⟩ := r1.two
    obtain ⟨a, us, rfl, hz, ra⟩ := RR.lstA (n := 0) rv
    obtain ⟨b, ws, rfl, hz2, rb⟩ := RR.lstA (n := 0) ru
    exact ⟨a, b, us, ws, rfl, .inl ⟨SqL.of hz, SqL.of hz2, q _ g1 H1 x1 wr1 (yl_zip rv ru)⟩⟩
  · refine ⟨g, env, fps, w, [.tup ys, .tup zs], w2, er, wr, by simp only [Rp.evEs, e1, e2, Rp.R.bind_ok], fun vs H1 g1 x1 wr1 r1 => ?_⟩
    obtain ⟨v, u, rfl, rv, ru⟩ := r1.two
    obtain ⟨a, us, rfl, fa, hz, ra⟩ := RR.tup (n := 0) rv
    obtain ⟨b, ws, rfl, fb, hz2, rb⟩ := RR.tup (n := 0) ru
    exact ⟨a, b, us, ws, rfl, .inr ⟨SqT.of hz, SqT.of hz2, q _ g1 H1 x1 wr1 (yl_zipT rv ru)⟩⟩
theorem pi_revD (cg : Cg T k sc fc N Xc) (kt : Kt T X C k B) {e : Rp.E} {x : Expr} {p pos : Pos} (hg : sc.names.lookup (ofs "reversed") = some .globalImplicit) (ha : PE Xc x (tD X C own e)) (la : lev own e = 0) (ns : nstar x = true) :
    PI Xc tg (.Call (.Name (ofs "reversed") p) [x] [] pos) (tIt X C own (.rev e)) := by
  refine (RT.pi_revA (cg.gl hg) (mgf cg kt (by decide)) ha (star_cons ns)).imp fun σ H R ⟨g, env, fps, w, xs, w', er, wr, ev, q⟩ => ?_
  simp only [Rp.evI] at ev
  obtain ⟨d, w1, e1, ev2⟩ := bind_ok ev
  obtain ⟨e3, rfl⟩ := lift_ok ev2
  obtain ⟨ys, h1, rfl⟩ := Option.map_eq_some_iff.mp e3
  refine ⟨g, env, fps, w, d, w1, er, wr, e1, fun v H1 g1 x1 wr1 r1 => ?_⟩
  have rv := r1.mono (show lev own e ≤ 0 by omega)
  rcases uItems_some h1 with rfl | rfl
  · obtain ⟨a, us, rfl, fa, hz, ra⟩ := RR.tup (n := 0) rv
    refine ⟨a, us, rfl, .inr ⟨SqT.of hz, ?_⟩⟩
    rw [ra.length]
    exact q _ g1 H1 x1 wr1 (yl_revT rv)
  · obtain ⟨a, us, rfl, hz, ra⟩ := RR.lstA (n := 0) rv
    refine ⟨a, us, rfl, .inl ⟨SqL.of hz, ?_⟩⟩
    rw [ra]
    exact q _ g1 H1 x1 wr1 (yl_rev rv)
end
end RpS
end

section
set_option Elab.async false
set_option linter.all false
set_option maxRecDepth 100000
set_option maxHeartbeats 2000000
/-! RpS11: comprehensions. -/
namespace RpS
open PySem PySem.Spec PyProof.Rows L2
def rmv (H : Hp) (D : Addr) : Hp := fun a => if a = D then none else H a
theorem rmv_self {H : Hp} {D : Addr} : rmv H D D = none := by simp [rmv]
theorem rmv_ne {H : Hp} {D a : Addr} (h : a ≠ D) : rmv H D a = H a := by simp [rmv, h]
theorem upd_rmv {H : Hp} {D : Addr} {o : HO} (h : H D = some o) : upd (rmv H D) D o = H := by
  funext a
  by_cases e : a = D
  · subst e; rw [upd_same, h]
  · rw [upd_ne e, rmv_ne e]
theorem rmv_upd {H : Hp} {D : Addr} {o : HO} : rmv (upd H D o) D = rmv H D := by
  funext a
  by_cases e : a = D
  · subst e; rw [rmv_self, rmv_self]
  · rw [rmv_ne e, rmv_ne e, upd_ne e]
theorem rmv_none {H : Hp} {D : Addr} (h : H D = none) : rmv H D = H := by
  funext a
  by_cases e : a = D
  · subst e; rw [rmv_self, h]
  · rw [rmv_ne e]
section
variable {X : Gx} {g g' : Gh} {H0 H' : Hp} {D : Addr} {o : HO} {w w' : Rp.W}
/-- a step beside the new list -/
theorem rm_step (hD : H0 D = none) (wr : WR g H0 w) (e : Ext g (upd H0 D o) g' H') (wr' : WR g' H' w') : Ext g H0 g' (rmv H' D) ∧ WR g' (rmv H' D) w' ∧ Fm g' H' g' (rmv H' D) ∧ H' D = some o := by
  have nw : ¬ wd g D := not_wd_of_none wr hD
  have nF : ¬ g.F D := fun z => (wr.1 D z).1 hD
  have nF' : ¬ g'.F D := fun z => by
    rcases e.n D z with q | q
    · exact nF q
    · rw [upd_same] at q; cases q
  have nw' : ¬ wd g' D := fun z => by
    rcases e.wd_of z with q | q
    · exact nw q
    · rw [upd_same] at q; cases q
  have hD' : H' D = some o := e.k D o upd_same nw
  refine ⟨⟨e.f, fun a z => ?_, fun a o' h hw => ?_, e.w1, fun h a z => ?_, fun a h => ?_⟩, ⟨fun a z => ?_, ?_⟩, ⟨fun _ h => h, fun a o' hf h => ?_, fun _ h => h⟩, hD'⟩
  · rcases e.n a z with q | q
    · exact .inl q
    · by_cases c : a = D
      · subst c; exact .inr hD
      · rw [upd_ne c] at q; exact .inr q
  · have c : a ≠ D := fun c => by subst c; rw [hD] at h; cases h
    rw [rmv_ne c]
    exact e.k a o' (by rw [upd_ne c]; exact h) hw
  · have q := e.w2 h a z
    have c : a ≠ D := fun c => by subst c; exact nw' z
    rw [upd_ne c] at q; exact q
  · have c : a ≠ D := fun c => by subst c; exact h hD
    rw [rmv_ne c]
    exact e.t a (by rw [upd_ne c]; exact h)
  · have c : a ≠ D := fun c => by subst c; exact nF' z
    rw [rmv_ne c]; exact wr'.1 a z
  · have h2 := wr'.2
    cases w' with
    | none => exact h2
    | some st =>
      obtain ⟨a, ca, h1, h2, h3, h4, h5, h6⟩ := h2
      have c1 : a ≠ D := fun c => by subst c; exact nw' ⟨by rw [h1]; simp, .inl h1⟩
      have c2 : g'.ga ≠ D := fun c => nw' ⟨by rw [h1]; simp, .inr c.symm⟩
      have c3 : ca ≠ D := fun c => by subst c; exact nF' h5
      exact ⟨a, ca, h1, h2, by rw [rmv_ne c1]; exact h3, by rw [rmv_ne c2]; exact h4, h5, by rw [rmv_ne c3]; exact h6⟩
  · have c : a ≠ D := fun c => by subst c; exact nF' hf
    rw [rmv_ne c]; exact h
end
theorem filtL_step {F : Rp.D → Rp.W → Rp.R (Option Rp.D)} {x : Rp.D} {xs ys : List Rp.D} {w w' : Rp.W} (h : Rp.filtL F (x :: xs) w = .ok ys w') : ∃ r w1 zs, F x w = .ok r w1 ∧ Rp.filtL F xs w1 = .ok zs w' ∧ ys = (match r with | some z => z :: zs | none => zs) := by
  unfold Rp.filtL at h
  obtain ⟨r, w1, e1, h2⟩ := bind_ok h
  obtain ⟨zs, w2, e2, h3⟩ := bind_ok h2
  simp only [Rp.R.ok.injEq] at h3
  obtain ⟨h4, rfl⟩ := h3
  exact ⟨r, w1, zs, e1, e2, h4.symm⟩
section
variable {T : Tx} {X : Gx} {C : Rp.Cl} {k : Nat} {B : Tb} {sc : Scope} {fc : Str → Bool} {N : List Str} {Xc : Cx} {own : List Nat} {tg : Expr}
/-- the turns of a comprehension -/
theorem lc_turns {p : Rp.Pat} {e : Rp.E} {F : Rp.D → Rp.W → Rp.R (Option Rp.D)} {tt : TT} {J : L2.It} {xs ds : List Rp.D} {env : Rp.Env} {g1 : Gh} {H1 : Hp} {σ : L2.St} {w1 w' : Rp.W} {Q : VK} {fps : Fps} {KK : PySem.W.Frag}
    (er : ER X own g1 H1 σ env fps) (wr : WR g1 H1 w1) (yl : Yl X J xs g1 H1) (hL : ds.length ≤ Rp.LINE) (l0 : lev (zer own p.is) e = 0)
    (hF : ∀ x w r w2, F x w = .ok r w2 → ∃ env2, Rp.bindP p x env = some env2)
    (ht : ∀ σ2 g H env2 fps2 w x r w2 Kt, ER X (zer own p.is) g H σ2 env2 fps2 → WR g H w → Rp.bindP p x env = some env2 → F x w = .ok r w2 →
      (∀ b H' g' wm, Ext g H g' H' → WR g' H' wm → (b = true → ∃ y, r = some y ∧ Rp.evE C e env2 wm = .ok y w2) → (b = false → r = none ∧ wm = w2) → Kt b H') → tt σ2 H Kt)
    (hf : Rp.filtL F xs w1 = .ok ds w') (q : ∀ g2 H2, Ext g1 H1 g2 H2 → WR g2 H2 w' → ∀ v H', New X g2 H2 true v (.lst ds) H' → Q v H') :
    ∀ D, H1 D = none → ∃ W : Nat → Nat → Hp → Prop, (∃ m, W 0 m (upd H1 D (.lst []))) ∧ ∀ i m H, W i m H →
      (J.stop i H ∧ Q (.ref D) H) ∨ (J.go i H ∧ ∃ Nx : Hp → Prop, (∀ H', Nx H' → ∃ m', m' < m ∧ W (i + 1) m' H') ∧ ∀ x H', J.yld i H x H' → tPat KK p x (L2.wipe σ p.is) H' fun σ2 H2 => L2.wipe σ2 p.is = L2.wipe σ p.is ∧ tt σ2 H2 fun b H3 =>
        if b = true then tD X C (zer own p.is) e σ2 H3 fun y H4 => ∃ acc, H4 D = some (.lst acc) ∧ acc.length < sizeLine ∧ Nx (upd H4 D (.lst (acc ++ [y]))) else Nx H3) := by
  intro D hD
  refine ⟨fun i m H => m = xs.length - i ∧ i ≤ xs.length ∧ ∃ g w acc done rest, H D = some (.lst acc) ∧ rmv H D D = none ∧ Ext g1 H1 g (rmv H D) ∧ WR g (rmv H D) w ∧ RpA X g (rmv H D) acc done ∧ Rp.filtL F (xs.drop i) w = .ok rest w' ∧ ds = done ++ rest,
    ⟨xs.length, by omega, by omega, g1, w1, [], [], ds, upd_same, rmv_self, ?_, ?_, .nil, hf, rfl⟩, ?_⟩
  · rw [rmv_upd, rmv_none hD]; exact .refl _ _
  · rw [rmv_upd, rmv_none hD]; exact wr
  rintro i m H ⟨rfl, hi, g, w, acc, done, rest, hH, hn, ex, wr2, ra, hfl, hds⟩
  have eH : upd (rmv H D) D (.lst acc) = H := upd_rmv hH
  have ex1 : Ext g (rmv H D) g H := by
    have := ext_upd (g := g) (o := .lst acc) (rmv_self (H := H) (D := D))
    rwa [eH] at this
  have wrH : WR g H w := by
    have := wr2.upd (o := .lst acc) (rmv_self (H := H) (D := D))
    rwa [eH] at this
  have exH : Ext g1 H1 g H := ex.trans ex1
  have fmH : Fm g1 H1 g H := exH.fm wr.ok
  by_cases hlt : i < xs.length
  · have hx : xs[i]? = some xs[i] := by simp [hlt]
    have hdrop : xs.drop i = xs[i] :: xs.drop (i + 1) := List.drop_eq_getElem_cons hlt
    rw [hdrop] at hfl
    obtain ⟨r, w2, zs, e1, e2, e3⟩ := filtL_step hfl
    refine .inr ⟨yl.go i g H _ fmH hx, fun H' => ∃ g w acc done rest, H' D = some (.lst acc) ∧ Ext g1 H1 g (rmv H' D) ∧ WR g (rmv H' D) w ∧ RpA X g (rmv H' D) acc done ∧ Rp.filtL F (xs.drop (i + 1)) w = .ok rest w' ∧ ds = done ++ rest, fun H' ⟨g3, w3, acc3, done3, rest3, n1, n2, n3, n4, n5, n6⟩ => ⟨xs.length - (i + 1), by omega, rfl, hlt, g3, w3, acc3, done3, rest3, n1, rmv_self, n2, n3, n4, n5, n6⟩, fun v H' hy => ?_⟩
    obtain ⟨g3, ex3, wr3, rv⟩ := yl.yld i g H w _ v H' fmH wrH hx hy
    obtain ⟨env2, hb⟩ := hF _ _ _ _ e1
    have er3 : ER X (zer own p.is) g3 H' (L2.wipe σ p.is) (Rp.kill env p.is) (clr fps p.is) := (er.ext (exH.trans ex3) wr.ok).wipe p.is
    rw [← bindP_kill] at hb
    have zz : ∀ (is : List Nat) (o : List Nat), zer (zer o is) is = zer o is := by
      intro is o
      have sw : ∀ (o : List Nat) (i j : Nat), (o.set i 0).set j 0 = (o.set j 0).set i 0 := fun o i j => by
        by_cases h : i = j
        · subst h; rfl
        · exact List.set_comm _ _ h
      have zs : ∀ (is : List Nat) (o : List Nat) (i : Nat), zer (o.set i 0) is = (zer o is).set i 0 := by
        intro is
        induction is with
        | nil => intro o i; rfl
        | cons j is ih => intro o i; unfold zer; rw [sw, ih]
      induction is generalizing o with
      | nil => rfl
      | cons i is ih =>
        show zer ((zer (o.set i 0) is).set i 0) is = zer (o.set i 0) is
        rw [zs is o i, List.set_set, zs, ih]
    refine pat_step er3 rv hb fun us hus er4 => ⟨wipe_setV fun i h => h, ?_⟩
    rw [zz] at er4
    rw [bindP_kill] at hb
    refine ht _ _ _ _ _ _ _ _ _ _ er4 wr3 hb e1 fun b H4 g4 wm ex4 wr4 hbt hbf => ?_
    -- the heap beside the list
    have back : ∀ {g5 : Gh} {H5 : Hp} {w5 : Rp.W}, Ext g H g5 H5 → WR g5 H5 w5 → Ext g1 H1 g5 (rmv H5 D) ∧ WR g5 (rmv H5 D) w5 ∧ Fm g5 H5 g5 (rmv H5 D) ∧ H5 D = some (.lst acc) ∧ RpA X g5 (rmv H5 D) acc done := fun {g5 H5 w5} e5 wr5 => by
      have e6 : Ext g (upd (rmv H D) D (.lst acc)) g5 H5 := by rw [eH]; exact e5
      obtain ⟨h1, h2, h3, h4⟩ := rm_step rmv_self wr2 e6 wr5
      exact ⟨ex.trans h1, h2, h3, h4, RpA.fm (h1.fm wr2.ok) ra⟩
    cases b with
    | false =>
      rw [if_neg Bool.false_ne_true]
      obtain ⟨hr, rfl⟩ := hbf rfl
      subst hr
      obtain ⟨h1, h2, h3, h4, h5⟩ := back (ex3.trans ex4) wr4
      exact ⟨g4, wm, acc, done, zs, h4, h1, h2, h5, e2, by rw [hds, e3]⟩
    | true =>
      rw [if_pos rfl]
      obtain ⟨y, hr, ey⟩ := hbt rfl
      subst hr
      refine ⟨g4, env2, _, wm, y, w2, er4.ext ex4 wr3.ok, wr4, ey, fun u H5 g5 ex5 wr5 ru => ?_⟩
      rw [l0] at ru
      obtain ⟨h1, h2, h3, h4, h5⟩ := back (ex3.trans (ex4.trans ex5)) wr5
      refine ⟨acc, h4, ?_, g5, w2, acc ++ [u], done ++ [y], zs, upd_same, ?_, ?_, ?_, e2, by rw [hds, e3]; simp⟩
      · have e6 := h5.length
        refine line_lt ?_
        have : ds.length = done.length + (zs.length + 1) := by rw [hds, e3]; simp
        omega
      · rw [rmv_upd]; exact h1
      · rw [rmv_upd]; exact h2
      · rw [rmv_upd]; exact h5.append (.cons (Rp.fm h3 ru) .nil)
  · have e : i = xs.length := by omega
    subst e
    rw [List.drop_length] at hfl
    simp only [Rp.filtL, Rp.R.ok.injEq] at hfl
    obtain ⟨rfl, rfl⟩ := hfl
    rw [List.append_nil] at hds
    subst hds
    refine .inl ⟨yl.stop g H fmH, q g (rmv H D) ex wr2 _ _ ?_⟩
    have := New.lst (X := X) (g := g) (fr := true) (rmv_self (H := H) (D := D)) ra
    rwa [eH] at this
theorem map_filt (f : Rp.D → Rp.W → Rp.R Rp.D) : ∀ (xs ys : List Rp.D) (w w' : Rp.W), Rp.mapL f xs w = .ok ys w' → Rp.filtL (fun x w => (f x w).bind fun y w => .ok (some y) w) xs w = .ok ys w'
  | [], ys, w, w', h => by simpa [Rp.mapL, Rp.filtL] using h
  | x :: xs, ys, w, w', h => by
    unfold Rp.mapL at h
    obtain ⟨y, w1, e1, h2⟩ := bind_ok h
    obtain ⟨zs, w2, e2, h3⟩ := bind_ok h2
    simp only [Rp.R.ok.injEq] at h3
    obtain ⟨h4, rfl⟩ := h3
    unfold Rp.filtL
    rw [e1]
    simp only [Rp.R.bind_ok]
    rw [map_filt f xs zs w1 w2 e2]
    simp only [Rp.R.bind_ok, ← h4]
theorem fits_ok {ds : List Rp.D} {w w' : Rp.W} {d : Rp.D} (h : Rp.fits ds w = .ok d w') : ds.length ≤ Rp.LINE ∧ d = .lst ds ∧ w = w' := by
  unfold Rp.fits at h
  split at h
  · rename_i c
    simp only [Rp.R.ok.injEq] at h
    exact ⟨c, h.1.symm, h.2⟩
  · cases h
theorem qlc {p : Rp.Pat} {it : Rp.It} {e : Rp.E} {σ : L2.St} {H : Hp} {Q : VK} {K : PySem.W.Frag} (l0 : lev (zer own p.is) e = 0)
    (h : ∃ g env fps w d w', ER X own g H σ env fps ∧ WR g H w ∧ Rp.evE C (.comp p it e) env w = .ok d w' ∧ ∀ g1 H1, Ext g H g1 H1 → WR g1 H1 w' → ∀ v H', New X g1 H1 true v d H' → Q v H') :
    tLc (tIt X C own it) (tPat K p) tYes (tD X C (zer own p.is) e) p.is σ H Q := by
  obtain ⟨g, env, fps, w, d, w', er, wr, ev, q⟩ := h
  simp only [Rp.evE] at ev
  obtain ⟨xs, w1, e1, ev2⟩ := bind_ok ev
  obtain ⟨ds, w2, e2, ev3⟩ := bind_ok ev2
  obtain ⟨hL, rfl, rfl⟩ := fits_ok ev3
  refine ⟨g, env, fps, w, xs, w1, er, wr, e1, fun J g1 H1 x1 wr1 yl => ?_⟩
  refine lc_turns (er.ext x1 wr.ok) wr1 yl hL l0 (F := fun x w => ((match Rp.bindP p x env with | some env' => Rp.evE C e env' w | none => .no) : Rp.R Rp.D).bind fun y w => .ok (some y) w) ?_ ?_ (map_filt _ _ _ _ _ e2) fun g2 H2 x2 wr2 v H' n => q g2 H2 (x1.trans x2) wr2 v H' n
  · intro x w r w2 h
    cases hb : Rp.bindP p x env with
    | none => rw [hb] at h; cases h
    | some env2 => exact ⟨env2, rfl⟩
  · intro σ2 g H env2 fps2 w x r w2 Kt er2 wr2 hb h q2
    simp only [hb] at h
    obtain ⟨y, w3, e3, h2⟩ := bind_ok h
    simp only [Rp.R.ok.injEq] at h2
    obtain ⟨rfl, rfl⟩ := h2
    exact q2 true H g w (.refl _ _) wr2 (fun _ => ⟨y, rfl, e3⟩) (fun z => by cases z)
theorem qlcIf {p : Rp.Pat} {it : Rp.It} {c e : Rp.E} {σ : L2.St} {H : Hp} {Q : VK} {K : PySem.W.Frag} (l0 : lev (zer own p.is) e = 0)
    (h : ∃ g env fps w d w', ER X own g H σ env fps ∧ WR g H w ∧ Rp.evE C (.compIf p it c e) env w = .ok d w' ∧ ∀ g1 H1, Ext g H g1 H1 → WR g1 H1 w' → ∀ v H', New X g1 H1 true v d H' → Q v H') :
    tLc (tIt X C own it) (tPat K p) (tT X C (zer own p.is) c) (tD X C (zer own p.is) e) p.is σ H Q := by
  obtain ⟨g, env, fps, w, d, w', er, wr, ev, q⟩ := h
  simp only [Rp.evE] at ev
  obtain ⟨xs, w1, e1, ev2⟩ := bind_ok ev
  obtain ⟨ds, w2, e2, ev3⟩ := bind_ok ev2
  obtain ⟨hL, rfl, rfl⟩ := fits_ok ev3
  refine ⟨g, env, fps, w, xs, w1, er, wr, e1, fun J g1 H1 x1 wr1 yl => ?_⟩
  refine lc_turns (er.ext x1 wr.ok) wr1 yl hL l0 ?_ ?_ e2 fun g2 H2 x2 wr2 v H' n => q g2 H2 (x1.trans x2) wr2 v H' n
  · intro x w r w2 h
    cases hb : Rp.bindP p x env with
    | none => simp only [hb] at h; cases h
    | some env2 => exact ⟨env2, rfl⟩
  · intro σ2 g H env2 fps2 w x r w2 Kt er2 wr2 hb h q2
    simp only [hb] at h
    obtain ⟨t, w3, e3, h2⟩ := bind_ok h
    obtain ⟨b, rfl, h3⟩ := cond_ok h2
    refine ⟨g, env2, fps2, w, b, w3, er2, wr2, e3, fun H3 g3 x3 wr3 => q2 b H3 g3 w3 x3 wr3 (fun hb2 => ?_) (fun hb2 => ?_)⟩
    · subst hb2
      rw [if_pos rfl] at h3
      obtain ⟨y, w4, e4, h4⟩ := bind_ok h3
      simp only [Rp.R.ok.injEq] at h4
      obtain ⟨rfl, rfl⟩ := h4
      exact ⟨y, rfl, e4⟩
    · subst hb2
      rw [if_neg Bool.false_ne_true] at h3
      simp only [Rp.R.ok.injEq] at h3
      exact ⟨h3.1.symm, h3.2⟩
end
end RpS
end

section
set_option Elab.async false
set_option linter.all false
set_option maxRecDepth 100000
set_option maxHeartbeats 2000000
/-! RpS12: comprehensions of two clauses. -/
namespace RpS
open PySem PySem.Spec PyProof.Rows L2
theorem zer_len : ∀ (is : List Nat) (own : List Nat), (zer own is).length = own.length
  | [], _ => rfl
  | i :: is, own => by unfold zer; rw [zer_len is, List.length_set]
theorem zer_get {j : Nat} : ∀ (is : List Nat) (own : List Nat), (zer own is)[j]? = if j ∈ is ∧ j < own.length then some 0 else own[j]?
  | [], own => by simp [zer]
  | i :: is, own => by
    unfold zer
    rw [zer_get is, List.length_set]
    by_cases h : i = j
    · subst h
      by_cases hl : i < own.length
      · rw [if_pos (show i ∈ i :: is ∧ i < own.length from ⟨List.mem_cons_self, hl⟩)]
        by_cases c : i ∈ is ∧ i < own.length
        · rw [if_pos c]
        · rw [if_neg c, List.getElem?_set_self hl]
      · rw [if_neg (fun z => hl z.2), if_neg (fun z => hl z.2), List.getElem?_eq_none (by rw [List.length_set]; omega), List.getElem?_eq_none (by omega)]
    · rw [List.getElem?_set_ne h]
      have : (j ∈ i :: is ∧ j < own.length) ↔ (j ∈ is ∧ j < own.length) := by
        rw [List.mem_cons]
        constructor
        · rintro ⟨z | z, q⟩
          · exact absurd z.symm h
          · exact ⟨z, q⟩
        · rintro ⟨z, q⟩; exact ⟨.inr z, q⟩
      by_cases c : j ∈ is ∧ j < own.length
      · rw [if_pos c, if_pos (this.mpr c)]
      · rw [if_neg c, if_neg (fun z => c (this.mp z))]
theorem zer_absorb {own vs is : List Nat} (h : ∀ i ∈ is, i ∈ vs) : zer (zer own vs) is = zer own vs := by
  apply List.ext_getElem?
  intro j
  rw [zer_get, zer_get, zer_len]
  by_cases c : j ∈ vs ∧ j < own.length
  · rw [if_pos c]
    by_cases d : j ∈ is ∧ j < own.length
    · rw [if_pos d]
    · rw [if_neg d]
  · rw [if_neg c, if_neg (fun z => c ⟨h j z.1, z.2⟩)]
theorem bindP_congr {p : Rp.Pat} {d : Rp.D} {env env' : Rp.Env} (hl : env.length = env'.length) (h : ∀ j, j ∉ p.is → env[j]? = env'[j]?) : Rp.bindP p d env = Rp.bindP p d env' := by
  cases p with
  | n i =>
    have := setAll_congr (is := [i]) (ds := [d]) hl h rfl
    simp only [Rp.setAll] at this
    simp [Rp.bindP, this]
  | t is =>
    cases d with
    | tup ds =>
      simp only [Rp.bindP]
      split
      · rename_i c
        rw [setAll_congr (is := is) hl h c]
      · rfl
    | _ => rfl
theorem kill_app (env : Rp.Env) (a b : List Nat) : Rp.kill env (a ++ b) = Rp.kill (Rp.kill env a) b := by
  induction a generalizing env with
  | nil => rfl
  | cons i a ih => show Rp.kill (env.set i none) (a ++ b) = _; rw [ih]; rfl
theorem bindP_kill2 {p q : Rp.Pat} {d : Rp.D} {env : Rp.Env} : Rp.bindP p d (Rp.kill env (p.is ++ q.is)) = Rp.bindP p d (Rp.kill env q.is) := by
  refine bindP_congr (by rw [kill_len, kill_len]) fun j hj => ?_
  have kg : ∀ (is : List Nat) (e e' : Rp.Env), e.length = e'.length → e[j]? = e'[j]? → (Rp.kill e is)[j]? = (Rp.kill e' is)[j]? := by
    intro is
    induction is with
    | nil => intro e e' _ h; exact h
    | cons i is ih =>
      intro e e' hl h
      show (Rp.kill (e.set i none) is)[j]? = (Rp.kill (e'.set i none) is)[j]?
      refine ih _ _ (by rw [List.length_set, List.length_set]; exact hl) ?_
      by_cases c : i = j
      · subst c
        by_cases q : i < e.length
        · rw [List.getElem?_set_self q, List.getElem?_set_self (by omega)]
        · rw [List.getElem?_eq_none (by rw [List.length_set]; omega), List.getElem?_eq_none (by rw [List.length_set]; omega)]
      · rw [List.getElem?_set_ne c, List.getElem?_set_ne c]; exact h
  rw [kill_app]
  exact kg _ _ _ (kill_len _ _) (kill_get hj)
section
variable {T : Tx} {X : Gx} {C : Rp.Cl} {k : Nat} {B : Tb} {sc : Scope} {fc : Str → Bool} {N : List Str} {Xc : Cx} {own : List Nat} {tg : Expr}
theorem catL_step {F : Rp.D → Rp.W → Rp.R (List Rp.D)} {x : Rp.D} {xs ys : List Rp.D} {w w' : Rp.W} (h : Rp.catL F (x :: xs) w = .ok ys w') : ∃ r w1 zs, F x w = .ok r w1 ∧ Rp.catL F xs w1 = .ok zs w' ∧ ys = r ++ zs := by
  unfold Rp.catL at h
  obtain ⟨r, w1, e1, h2⟩ := bind_ok h
  obtain ⟨zs, w2, e2, h3⟩ := bind_ok h2
  simp only [Rp.R.ok.injEq] at h3
  obtain ⟨h4, rfl⟩ := h3
  exact ⟨r, w1, zs, e1, e2, h4.symm⟩
theorem mapL_step {F : Rp.D → Rp.W → Rp.R Rp.D} {x : Rp.D} {xs ys : List Rp.D} {w w' : Rp.W} (h : Rp.mapL F (x :: xs) w = .ok ys w') : ∃ r w1 zs, F x w = .ok r w1 ∧ Rp.mapL F xs w1 = .ok zs w' ∧ ys = r :: zs := by
  unfold Rp.mapL at h
  obtain ⟨r, w1, e1, h2⟩ := bind_ok h
  obtain ⟨zs, w2, e2, h3⟩ := bind_ok h2
  simp only [Rp.R.ok.injEq] at h3
  obtain ⟨h4, rfl⟩ := h3
  exact ⟨r, w1, zs, e1, e2, h4.symm⟩
theorem qlc2 {p q : Rp.Pat} {it jt : Rp.It} {e : Rp.E} {σ : L2.St} {H : Hp} {Q : VK} {K : PySem.W.Frag} (l0 : lev (zer own (p.is ++ q.is)) e = 0)
    (h : ∃ g env fps w d w', ER X own g H σ env fps ∧ WR g H w ∧ Rp.evE C (.comp2 p it q jt e) env w = .ok d w' ∧ ∀ g1 H1, Ext g H g1 H1 → WR g1 H1 w' → ∀ v H', New X g1 H1 true v d H' → Q v H') :
    tLc2 (tIt X C own it) (tPat K p) tYes (tIt X C (zer own (p.is ++ q.is)) jt) (tPat K q) tYes (tD X C (zer own (p.is ++ q.is)) e) (p.is ++ q.is) q.is σ H Q := by
  obtain ⟨g, env, fps, w, d, w', er, wr, ev, qq⟩ := h
  simp only [Rp.evE] at ev
  obtain ⟨xs, w1, e1, ev2⟩ := bind_ok ev
  obtain ⟨ds, w2, e2, ev3⟩ := bind_ok ev2
  obtain ⟨hL, rfl, rfl⟩ := fits_ok ev3
  refine ⟨g, env, fps, w, xs, w1, er, wr, e1, fun J g1 H1 x1 wr1 yl => ?_⟩
  have er1 := er.ext x1 wr.ok
  have qf : ∀ g2 H2, Ext g1 H1 g2 H2 → WR g2 H2 w2 → ∀ v H', New X g2 H2 true v (.lst ds) H' → Q v H' := fun g2 H2 x2 wr2 v H' n => qq g2 H2 (x1.trans x2) wr2 v H' n
  clear qq ev ev2 ev3 e1
  generalize hF : (fun (x : Rp.D) (w : Rp.W) => (match Rp.bindP p x (Rp.kill env q.is) with
      | some env' => (Rp.evI C jt env' w).bind fun zs w => Rp.mapL (fun z w => match Rp.bindP q z env' with | some env'' => Rp.evE C e env'' w | none => .no) zs w
      | none => .no : Rp.R (List Rp.D))) = F at e2
  intro D hD
  refine ⟨fun i m H => m = xs.length - i ∧ i ≤ xs.length ∧ ∃ g w acc done rest, H D = some (.lst acc) ∧ Ext g1 H1 g (rmv H D) ∧ WR g (rmv H D) w ∧ RpA X g (rmv H D) acc done ∧ Rp.catL F (xs.drop i) w = .ok rest w2 ∧ ds = done ++ rest,
    ⟨xs.length, by omega, by omega, g1, w1, [], [], ds, upd_same, ?_, ?_, .nil, e2, rfl⟩, ?_⟩
  · rw [rmv_upd, rmv_none hD]; exact .refl _ _
  · rw [rmv_upd, rmv_none hD]; exact wr1
  rintro i m H ⟨rfl, hi, g, w, acc, done, rest, hH, ex, wr2, ra, hfl, hds⟩
  -- at any state with the list at D
  have at_ : ∀ {g : Gh} {H : Hp} {w : Rp.W} {acc : List V}, H D = some (.lst acc) → Ext g1 H1 g (rmv H D) → WR g (rmv H D) w → WR g H w ∧ Ext g1 H1 g H := fun {g H w acc} hH ex wr2 => by
    have eH : upd (rmv H D) D (.lst acc) = H := upd_rmv hH
    refine ⟨?_, ex.trans ?_⟩
    · have := wr2.upd (o := .lst acc) (rmv_self (H := H) (D := D))
      rwa [eH] at this
    · have := ext_upd (g := g) (o := .lst acc) (rmv_self (H := H) (D := D))
      rwa [eH] at this
  have back : ∀ {g : Gh} {H : Hp} {w : Rp.W} {acc : List V} {done : List Rp.D} {g5 : Gh} {H5 : Hp} {w5 : Rp.W}, H D = some (.lst acc) → Ext g1 H1 g (rmv H D) → WR g (rmv H D) w → RpA X g (rmv H D) acc done → Ext g H g5 H5 → WR g5 H5 w5 →
      Ext g1 H1 g5 (rmv H5 D) ∧ WR g5 (rmv H5 D) w5 ∧ Fm g5 H5 g5 (rmv H5 D) ∧ H5 D = some (.lst acc) ∧ RpA X g5 (rmv H5 D) acc done := fun {g H w acc done g5 H5 w5} hH ex wr2 ra e5 wr5 => by
    have eH : upd (rmv H D) D (.lst acc) = H := upd_rmv hH
    have e6 : Ext g (upd (rmv H D) D (.lst acc)) g5 H5 := by rw [eH]; exact e5
    obtain ⟨h1, h2, h3, h4⟩ := rm_step rmv_self wr2 e6 wr5
    exact ⟨ex.trans h1, h2, h3, h4, RpA.fm (h1.fm wr2.ok) ra⟩
  obtain ⟨wrH, exH⟩ := at_ hH ex wr2
  have fmH : Fm g1 H1 g H := exH.fm wr1.ok
  by_cases hlt : i < xs.length
  · have hx : xs[i]? = some xs[i] := by simp [hlt]
    have hdrop : xs.drop i = xs[i] :: xs.drop (i + 1) := List.drop_eq_getElem_cons hlt
    rw [hdrop] at hfl
    obtain ⟨r, w3, zs, e3, e4, e5⟩ := catL_step hfl
    refine .inr ⟨yl.go i g H _ fmH hx, fun H' => ∃ g w acc done rest, H' D = some (.lst acc) ∧ Ext g1 H1 g (rmv H' D) ∧ WR g (rmv H' D) w ∧ RpA X g (rmv H' D) acc done ∧ Rp.catL F (xs.drop (i + 1)) w = .ok rest w2 ∧ ds = done ++ rest, fun H' ⟨g3, w3, acc3, done3, rest3, n1, n2, n3, n4, n5, n6⟩ => ⟨xs.length - (i + 1), by omega, rfl, hlt, g3, w3, acc3, done3, rest3, n1, n2, n3, n4, n5, n6⟩, fun v H' hy => ?_⟩
    obtain ⟨g3, ex3, wr3, rv⟩ := yl.yld i g H w _ v H' fmH wrH hx hy
    rw [← hF] at e3
    simp only at e3
    cases hb : Rp.bindP p xs[i] (Rp.kill env q.is) with
    | none => rw [hb] at e3; cases e3
    | some env2 =>
      rw [hb] at e3
      simp only at e3
      obtain ⟨ys, w4, e6, e7⟩ := bind_ok e3
      have er3 : ER X (zer own (p.is ++ q.is)) g3 H' (L2.wipe σ (p.is ++ q.is)) (Rp.kill env (p.is ++ q.is)) (clr fps (p.is ++ q.is)) := (er1.ext (exH.trans ex3) wr1.ok).wipe _
      rw [← bindP_kill2] at hb
      refine pat_step er3 rv hb fun us hus er4 => ⟨wipe_setV fun i h => List.mem_append.mpr (.inl h), ?_⟩
      rw [zer_absorb (fun i h => List.mem_append.mpr (.inl h))] at er4
      try unfold tYes
      try dsimp only
      rw [if_pos rfl]
      refine ⟨g3, env2, _, w, ys, w4, er4, wr3, e6, fun J1 g4 H4 ex4 wr4 yl1 => ?_⟩
      have er5 := er4.ext ex4 wr3.ok
      obtain ⟨b1, b2, b3, b4, b5⟩ := back hH ex wr2 ra (ex3.trans ex4) wr4
      have nF : ∀ {g : Gh} {H : Hp} {w : Rp.W}, WR g (rmv H D) w → ¬ g.F D := fun {g H w} h z => (h.1 D z).1 rmv_self
      have nfp : ∀ i, D ∉ clr (clr fps (p.is ++ q.is)) p.is i := by
        have cl : ∀ (is : List Nat) (fps : Fps), (∀ i, D ∉ fps i) → ∀ i, D ∉ clr fps is i := by
          intro is
          induction is with
          | nil => intro f h; exact h
          | cons i is ih =>
            intro f h
            refine ih _ fun j => ?_
            by_cases c : j = i
            · subst c; rw [upf_same]; simp
            · rw [upf_ne c]; exact h j
        exact cl _ _ (cl _ _ fun i hi => (er1.out i D hi).2.1 hD)
      have er6 : ER X (zer own (p.is ++ q.is)) g4 (rmv H4 D) (setV (L2.wipe σ (p.is ++ q.is)) p.is us) env2 (clr (clr fps (p.is ++ q.is)) p.is) :=
        ⟨er5.len, fun i d h => by
          obtain ⟨u, h1, h2⟩ := er5.slot i d h
          exact ⟨u, h1, RO.fm b3 h2 fun a ha o ho => by rw [rmv_ne (fun c => by subst c; exact nfp i ha)]; exact ho⟩,
        er5.nd, er5.dis, fun i a ha => by
          obtain ⟨h1, h2, h3⟩ := er5.out i a ha
          exact ⟨h1, by rw [rmv_ne (fun c => by subst c; exact nfp i ha)]; exact h2, h3⟩⟩
      generalize hG : (fun (z : Rp.D) (w : Rp.W) => (match Rp.bindP q z env2 with | some env'' => Rp.evE C e env'' w | none => .no : Rp.R Rp.D)) = G at e7
      refine ⟨fun j k H => k = ys.length - j ∧ j ≤ ys.length ∧ ∃ g w acc done' rest', H D = some (.lst acc) ∧ Ext g4 (rmv H4 D) g (rmv H D) ∧ WR g (rmv H D) w ∧ RpA X g (rmv H D) acc (done ++ done') ∧
          Rp.mapL G (ys.drop j) w = .ok rest' w3 ∧ r = done' ++ rest',
        ⟨ys.length, by omega, by omega, g4, w4, acc, [], r, b4, .refl _ _, b2, by rw [List.append_nil]; exact b5, e7, rfl⟩, ?_⟩
      rintro j k H6 ⟨rfl, hj, g6, w6, acc6, done6, rest6, hH6, ex6, wr6, ra6, hm6, hr6⟩
      have exA := b1.trans ex6
      obtain ⟨wrH6, exH6⟩ := at_ hH6 exA wr6
      have fm6 : Fm g4 H4 g6 H6 := by
        have f0 := ex6.fm b2.ok
        refine ⟨f0.f, fun a o hf ho => ?_, f0.w⟩
        have c : a ≠ D := fun c => by subst c; exact nF b2 hf
        have := f0.k a o hf (by rw [rmv_ne c]; exact ho)
        rwa [rmv_ne c] at this
      have er7 : ER X (zer own (p.is ++ q.is)) g6 H6 (setV (L2.wipe σ (p.is ++ q.is)) p.is us) env2 (clr (clr fps (p.is ++ q.is)) p.is) := by
        have eH : upd (rmv H6 D) D (.lst acc6) = H6 := upd_rmv hH6
        have x7 := ext_upd (g := g6) (o := .lst acc6) (rmv_self (H := H6) (D := D))
        rw [eH] at x7
        exact er6.ext (ex6.trans x7) b2.ok
      by_cases hjl : j < ys.length
      · have hy : ys[j]? = some ys[j] := by simp [hjl]
        have hdr : ys.drop j = ys[j] :: ys.drop (j + 1) := List.drop_eq_getElem_cons hjl
        rw [hdr] at hm6
        obtain ⟨y, w7, rest7, f1, f2, f3⟩ := mapL_step hm6
        refine .inr ⟨yl1.go j g6 H6 _ fm6 hy, fun H' => ∃ g w acc done' rest', H' D = some (.lst acc) ∧ Ext g4 (rmv H4 D) g (rmv H' D) ∧ WR g (rmv H' D) w ∧ RpA X g (rmv H' D) acc (done ++ done') ∧ Rp.mapL G (ys.drop (j + 1)) w = .ok rest' w3 ∧ r = done' ++ rest',
          fun H' ⟨g3, w3, acc3, done3, rest3, n1, n2, n3, n4, n5, n6⟩ => ⟨ys.length - (j + 1), by omega, rfl, hjl, g3, w3, acc3, done3, rest3, n1, n2, n3, n4, n5, n6⟩, fun v7 H7 hy7 => ?_⟩
        obtain ⟨g7, ex7, wr7, rv7⟩ := yl1.yld j g6 H6 w6 _ v7 H7 fm6 wrH6 hy hy7
        rw [← hG] at f1
        simp only at f1
        cases hb2 : Rp.bindP q ys[j] env2 with
        | none => rw [hb2] at f1; cases f1
        | some env3 =>
          rw [hb2] at f1
          simp only at f1
          have er8 := (er7.ext ex7 wrH6.ok).wipe q.is
          rw [zer_absorb (fun i h => List.mem_append.mpr (.inr h))] at er8
          rw [← bindP_kill] at hb2
          refine pat_step er8 rv7 hb2 fun us2 hus2 er9 => ⟨wipe_setV fun i h => h, ?_⟩
          rw [zer_absorb (fun i h => List.mem_append.mpr (.inr h))] at er9
          try unfold tYes
          try dsimp only
          rw [if_pos rfl]
          refine ⟨g7, env3, _, w6, y, w7, er9, wr7, f1, fun u H8 g8 ex8 wr8 ru => ?_⟩
          rw [l0] at ru
          obtain ⟨c1, c2, c3, c4, c5⟩ := back hH6 exA wr6 ra6 (ex7.trans ex8) wr8
          have eH : upd (rmv H6 D) D (.lst acc6) = H6 := upd_rmv hH6
          have x9 : Ext g6 (upd (rmv H6 D) D (.lst acc6)) g8 H8 := by rw [eH]; exact ex7.trans ex8
          obtain ⟨d1, _, _, _⟩ := rm_step rmv_self wr6 x9 wr8
          refine ⟨acc6, c4, ?_, g8, w7, acc6 ++ [u], done6 ++ [y], rest7, upd_same, ?_, ?_, ?_, f2, by rw [hr6, f3]; simp⟩
          · have l1 := c5.length
            refine line_lt ?_
            have : ds.length = done.length + (r.length + zs.length) := by rw [hds, e5]; simp
            have l2 : r.length = done6.length + (rest7.length + 1) := by rw [hr6, f3]; simp
            rw [List.length_append] at l1
            omega
          · rw [rmv_upd]; exact ex6.trans d1
          · rw [rmv_upd]; exact c2
          · rw [rmv_upd, ← List.append_assoc]; exact c5.append (.cons (Rp.fm c3 ru) .nil)
      · have e : j = ys.length := by omega
        subst e
        rw [List.drop_length] at hm6
        simp only [Rp.mapL, Rp.R.ok.injEq] at hm6
        obtain ⟨rfl, rfl⟩ := hm6
        rw [List.append_nil] at hr6
        subst hr6
        exact .inl ⟨yl1.stop g6 H6 fm6, g6, w6, acc6, done ++ r, zs, hH6, exA, wr6, ra6, e4, by rw [hds, e5, List.append_assoc]⟩
  · have e : i = xs.length := by omega
    subst e
    rw [List.drop_length] at hfl
    simp only [Rp.catL, Rp.R.ok.injEq] at hfl
    obtain ⟨rfl, rfl⟩ := hfl
    rw [List.append_nil] at hds
    subst hds
    refine .inl ⟨yl.stop g H fmH, qf g (rmv H D) ex wr2 _ _ ?_⟩
    have := New.lst (X := X) (g := g) (fr := true) (rmv_self (H := H) (D := D)) ra
    rwa [upd_rmv hH] at this
end
end RpS
end

section
set_option Elab.async false
set_option linter.all false
set_option maxRecDepth 100000
set_option maxHeartbeats 2000000
/-! RpS13: isinstance, dict displays, a starred tuple. -/
namespace RpS
open PySem PySem.Spec PyProof.Rows L2
def tyN : Rp.D → Option String
  | .non => some "NoneType" | .bl _ => some "bool" | .int _ => some "int" | .str _ => some "str" | .tup _ => some "tuple" | .lst _ => some "list"
  | _ => none
def tyS : Rp.Ty → Option String
  | .int => some "int" | .bool => some "bool" | .tuple => some "tuple" | .list => some "list" | .str => some "str" | .cls _ => none
section
variable {T : Tx} {X : Gx} {C : Rp.Cl} {k : Nat} {B : Tb} {sc : Scope} {fc : Str → Bool} {N : List Str} {Xc : Cx} {own : List Nat} {K : PySem.W.Frag} {g : Gh} {H : Hp}
theorem ty_rp {v : V} {d : Rp.D} {t : String} (h : Rp X g H v d) (e : tyN d = some t) : TyX K H v (.type t) := by
  cases h <;> simp only [tyN, Option.some.injEq, reduceCtorEq] at e <;> subst e
  · exact .base .non
  · exact .base (.bl _)
  · exact .base (.int _)
  · exact .base (.str _)
  · rename_i h1 h2; exact .base (.tup (by assumption))
  · exact .base (.lst (by assumption))
theorem ty_rr : ∀ {n : Nat} {v : V} {d : Rp.D} {t : String}, RR X g H n v d → tyN d = some t → TyX K H v (.type t)
  | 0, _, _, _, h, e => ty_rp h e
  | n + 1, v, d, t, h, e => by
    rcases h with h | ⟨a, vs, ds, e1, e2, hw, hh, r⟩ | ⟨a, kvs, ks, e1, e2, _⟩ | ⟨a, dx, c, fs, gs, e1, e2, _⟩
    · exact ty_rp h e
    · subst e1 e2
      simp only [tyN, Option.some.injEq] at e
      subst e
      exact .base (.lst hh)
    · subst e2; cases e
    · subst e2; cases e
theorem isi_kit {d : Rp.D} {ty : Rp.Ty} {s : String} {b : Bool} (hs : tyS ty = some s) (h : Rp.isiD d ty = some b) : ∃ t, tyN d = some t ∧ kitB t s = some b := by
  cases ty <;> simp only [tyS, Option.some.injEq, reduceCtorEq] at hs <;> subst hs <;> cases d <;> simp only [Rp.isiD, Option.some.injEq, reduceCtorEq] at h <;> subst h <;> exact ⟨_, rfl, by decide +kernel⟩
theorem ty_boot {ty : Rp.Ty} {s : String} (hs : tyS ty = some s) : bootBuiltins (ofs s) = some (.type s) ∧ s ∈ blts ∧ ofs s ≠ "__name__" ∧ (ofs s == ("__debug__" : Str)) = false := by
  cases ty <;> simp only [tyS, Option.some.injEq, reduceCtorEq] at hs <;> subst hs <;> exact ⟨by decide +kernel, by decide, by decide, by decide⟩
theorem isi_q {a : Rp.E} {ty : Rp.Ty} {cv : V} {σ : L2.St} {H : Hp} {Q : VK} (la : lev own a ≤ 1)
    (hr : ∀ v d b H g, RR X g H 1 v d → Rp.isiD d ty = some b → ∃ t u, ClsV cv u ∧ TyX K H v t ∧ PySem.W.kitOne K t u = some b) (h : tD X C own (.isi a ty) σ H Q) :
    tCB (rIsi K) (tCons (tD X C own a) (tCons (tC cv) tNil)) σ H Q := by
  obtain ⟨g, env, fps, w, d, w', er, wr, ev, q⟩ := h
  simp only [Rp.evE] at ev
  obtain ⟨dx, w1, e1, ev2⟩ := bind_ok ev
  obtain ⟨e3, rfl⟩ := lift_ok ev2
  obtain ⟨b, e4, rfl⟩ := map_bl e3
  refine ⟨g, env, fps, w, dx, w1, er, wr, e1, fun v H1 g1 x1 wr1 r1 => ?_⟩
  obtain ⟨t, u, h1, h2, h3⟩ := hr v dx b H1 g1 (r1.mono la) e4
  exact ⟨v, cv, t, u, b, rfl, h1, h2, h3, q _ H1 g1 x1 wr1 (Rp.bl b)⟩
theorem pd_isiB (cg : Cg T k sc fc N Xc) (kt : Kt T X C k B) {a : Rp.E} {ty : Rp.Ty} {s : String} {x : Expr} {p p2 pos : Pos} (hs : tyS ty = some s) (hg : sc.names.lookup (ofs "isinstance") = some .globalImplicit) (hg2 : sc.names.lookup (ofs s) = some .globalImplicit)
    (ha : PE Xc x (tD X C own a)) (la : lev own a ≤ 1) (ns : nstar x = true) : PE Xc (.Call (.Name (ofs "isinstance") p) [x, .Name (ofs s) p2] [] pos) (tD X C own (.isi a ty)) := by
  obtain ⟨h1, h2, h3, h4⟩ := ty_boot hs
  have hc : PE Xc (.Name (ofs s) p2) (tC (.ty s)) := pe_bltn (cg.gl hg2) (mgf cg kt h2) h1 rfl h3 h4
  refine (pe_callB call_isi (cg.gl hg) (mgf cg kt (by decide)) (by decide +kernel) (pa_cons ha (pa_cons hc pa_nil rfl) (star_cons ns)) (by decide) (by decide) (star_cons ns) (star_none rfl)).imp fun σ H Q h => isi_q la (fun v d b H g r e => ?_) h
  obtain ⟨t, e1, e2⟩ := isi_kit hs e
  exact ⟨.type t, .type s, .ty s, ty_rr r e1, kit_ty e2⟩
theorem pd_isiC (cg : Cg T k sc fc N Xc) (kt : Kt T X C k B) {a : Rp.E} {c : String} {x : Expr} {p p2 pos : Pos} (hc : c ∈ B.cls) (hg : sc.names.lookup (ofs "isinstance") = some .globalImplicit) (hg2 : sc.names.lookup (ofs c) = some .globalImplicit) (hdb : (ofs c == ("__debug__" : Str)) = false)
    (ha : PE Xc x (tD X C own a)) (la : lev own a ≤ 1) (ns : nstar x = true) : PE Xc (.Call (.Name (ofs "isinstance") p) [x, .Name (ofs c) p2] [] pos) (tD X C own (.isi a (.cls c))) := by
  have hn : PE Xc (.Name (ofs c) p2) (tC (.ref (X.cls c))) := pe_glob (cg.gl hg2) (by rw [cg.mg]; exact kt.cname c hc) rfl hdb
  refine (pe_callB call_isi (cg.gl hg) (mgf cg kt (by decide)) (by decide +kernel) (pa_cons ha (pa_cons hn pa_nil rfl) (star_cons ns)) (by decide) (by decide) (star_cons ns) (star_none rfl)).imp fun σ H Q h => isi_q la (fun v d b H g r e => ?_) h
  cases d with
  | obj c2 gs =>
    simp only [Rp.isiD] at e
    split at e
    · rename_i z
      cases e
      subst z
      obtain ⟨y, dx, fs, rfl, hy, rf⟩ := r.obj
      obtain ⟨i1, i2, i3, i4, i5⟩ := kt.isi c2
      rw [cg.kk]
      exact ⟨.ref (X.cls c2), .ref (X.cls c2), .own _, .base (.ins hy (kt.cl c2) i1 i2 i3 i4), i5⟩
    · cases e
  | _ => simp [Rp.isiD] at e

/-! ### dict displays -/
theorem pd_dic0 {pos : Pos} {t : TE} (q : ∀ σ H Q, t σ H Q → ∃ g env fps w d w', ER X own g H σ env fps ∧ WR g H w ∧ Rp.evE C .dic0 env w = .ok d w' ∧ ∀ g1 H1, Ext g H g1 H1 → WR g1 H1 w' → ∀ v H', New X g1 H1 true v d H' → Q v H') : PE Xc (.Dict [] [] pos) t :=
  pe_dnewK.imp fun σ H Q tq p hp => by
    obtain ⟨g, env, fps, w, d, w', er, wr, ev, q⟩ := q σ H Q tq
    simp only [Rp.evE, Rp.R.ok.injEq] at ev
    obtain ⟨rfl, rfl⟩ := ev
    exact q g H (.refl _ _) wr _ _ (.dic hp .nil)
theorem upd_rmv2 {H : Hp} {D : Addr} {o : HO} : upd (rmv H D) D o = upd H D o := by
  funext a
  by_cases e : a = D
  · subst e; rw [upd_same, upd_same]
  · rw [upd_ne e, upd_ne e, rmv_ne e]
theorem pd_dic {a b : Rp.E} {x y : Expr} {pos : Pos} {t : TE} (ha : PE Xc x (tD X C own a)) (hb : PE Xc y (tD X C own b)) (la : lev own a ≤ 1) (lb : lev own b = 0)
    (q : ∀ σ H Q, t σ H Q → ∃ g env fps w d w', ER X own g H σ env fps ∧ WR g H w ∧ Rp.evE C (.dic a b) env w = .ok d w' ∧ ∀ g1 H1, Ext g H g1 H1 → WR g1 H1 w' → ∀ v H', New X g1 H1 true v d H' → Q v H') : PE Xc (.Dict [some x] [y] pos) t := by
  refine (pe_disp (pps_cons ha hb pps_nil) rfl rfl (by simp) (by simp)).imp fun σ H Q tq p hp => ?_
  obtain ⟨g, env, fps, w, d, w', er, wr, ev, q⟩ := q σ H Q tq
  simp only [Rp.evE] at ev
  obtain ⟨dx, w1, e1, ev2⟩ := bind_ok ev
  obtain ⟨dy, w2, e2, ev3⟩ := bind_ok ev2
  split at ev3
  · rename_i hk
    simp only [Rp.R.ok.injEq] at ev3
    obtain ⟨rfl, rfl⟩ := ev3
    have x0 := ext_upd (g := g) (o := .dK []) hp
    have wr0 := wr.upd (o := .dK []) hp
    refine ⟨g, env, fps, w, dx, w1, er.ext x0 wr.ok, wr0, e1, fun v1 H1 g1 x1 wr1 r1 => ⟨g1, env, fps, w1, dy, w2, (er.ext x0 wr.ok).ext x1 wr0.ok, wr1, e2, fun v2 H2 g2 x2 wr2 r2 => ?_⟩⟩
    obtain ⟨h1, h2, h3, h4⟩ := rm_step hp wr (x1.trans x2) wr2
    cases dx with
    | int i =>
      have e := r1.int
      subst e
      rw [lb] at r2
      refine ⟨h4, [(.inl i, v2)], rfl, by simp, ?_⟩
      have n := New.dic (X := X) (g := g2) (fr := true) (rmv_self (H := H2) (D := p)) (.cons (i := i) (Rp.fm h3 r2) .nil)
      rw [upd_rmv2] at n
      exact q g2 (rmv H2 p) h1 h2 _ _ n
    | _ => simp [Rp.D.key] at hk
  · cases ev3
/-- (*a, b) -/
theorem pd_star1 {a b : Rp.E} {x y : Expr} {x1 : Nat} {p pos : Pos} (ha : PE Xc x (tD X C own a)) (hb : PE Xc y (tD X C own b)) (lb : lev own b = 0) (ns : nstar y = true) : PE Xc (.Tuple [.Starred x p, y] x1 pos) (tD X C own (.star1 a b)) := by
  refine (pe_tup (StX.pa_star ha (pa_cons hb pa_nil (star_cons ns)) rfl)).imp fun σ H Q ⟨g, env, fps, w, d, w', er, wr, ev, q⟩ => ?_
  simp only [Rp.evE] at ev
  obtain ⟨dx, w1, e1, ev2⟩ := bind_ok ev
  obtain ⟨dy, w2, e2, ev3⟩ := bind_ok ev2
  obtain ⟨e3, rfl⟩ := lift_ok ev3
  cases dx with
  | tup xs =>
    simp only at e3
    split at e3
    · rename_i hl
      cases e3
      refine ⟨g, env, fps, w, _, w1, er, wr, e1, fun v1 H1 g1 x1 wr1 r1 => ?_⟩
      obtain ⟨z, vs, rfl, fz, hz, ra⟩ := r1.tup
      refine ⟨z, vs, rfl, .inl (SqT.of hz), g1, env, fps, w1, dy, w2, er.ext x1 wr.ok, wr1, e2, fun v2 H2 g2 x2 wr2 r2 => ?_⟩
      rw [lb] at r2
      have ra2 : RpA X g2 H2 (vs ++ [v2]) (xs ++ [dy]) := (RpA.fm (x2.fm wr1.ok) ra).append (.cons r2 .nil)
      refine ⟨line_le (by rw [ra2.length]; simpa using hl), fun p hp => ?_⟩
      obtain ⟨g', ex, wr', rp⟩ := (New.tup (fr := true) hp ra2).frz wr2
      exact q _ _ g' (x1.trans (x2.trans ex)) wr' rp
    · cases e3
  | _ => simp at e3
/-! ### the draws' state -/
theorem wr_tok {w : Rp.W} {v : V} (wr : WR g H w) (h : Rp X g H v .tok) : ∃ st a ca, w = some st ∧ v = .ref a ∧ g.wa = some a ∧ a ≠ g.ga ∧ H a = some (stO st g.ga ca) ∧ H g.ga = some (.lst (st.great.map V.int)) ∧ g.F ca ∧ H ca = some (.lst (st.cells.map V.int)) := by
  cases h with
  | @tok a ha =>
    have h2 := wr.2
    cases w with
    | none => rw [ha] at h2; cases h2
    | some st =>
      obtain ⟨b, ca, h1, h2, h3, h4, h5, h6⟩ := h2
      rw [ha] at h1
      cases h1
      exact ⟨st, a, ca, rfl, rfl, ha, h2, h3, h4, h5, h6⟩
theorem RR.tok {n : Nat} {v : V} (h : RR X g H n v .tok) : Rp X g H v .tok := by
  cases n with
  | zero => exact h
  | succ n =>
    rcases h with h | ⟨a, vs, ds, e1, e2, _⟩ | ⟨a, kvs, ks, e1, e2, _⟩ | ⟨a, dx, c, fs, gs, e1, e2, _⟩
    · exact h
    · cases e2
    · cases e2
    · cases e2
def stK (st : Rp.St) (ga ca : Addr) : List (Key × V) := [(.inr (Str.ofString "great"), .ref ga), (.inr (Str.ofString "cells"), .ref ca), (.inr (Str.ofString "left"), .int st.left), (.inr (Str.ofString "turn"), .int st.turn)]
theorem stK_great (st : Rp.St) (ga ca : Addr) : valV (stK st ga ca) (.inr (Str.ofString "great")) = some (.ref ga) := rfl
theorem stK_cells (st : Rp.St) (ga ca : Addr) : valV (stK st ga ca) (.inr (Str.ofString "cells")) = some (.ref ca) := rfl
theorem stK_left (st : Rp.St) (ga ca : Addr) : valV (stK st ga ca) (.inr (Str.ofString "left")) = some (.int st.left) := rfl
theorem stK_turn (st : Rp.St) (ga ca : Addr) : valV (stK st ga ca) (.inr (Str.ofString "turn")) = some (.int st.turn) := rfl
theorem stK_putL (st : Rp.St) (ga ca : Addr) (i : Int) : putK (stK st ga ca) (.inr (Str.ofString "left")) (.int i) = stK { st with left := i } ga ca := rfl
theorem stK_putT (st : Rp.St) (ga ca : Addr) (i : Int) : putK (stK st ga ca) (.inr (Str.ofString "turn")) (.int i) = stK { st with turn := i } ga ca := rfl
theorem pd_stg (cg : Cg T k sc fc N Xc) {i : Nat} {y : Str} {py pos : Pos} {s : String} {j : Nat} {p3 : Pos} (hN : N[i]? = some y) (hv : Vis sc y) (hd : (y == ("__debug__" : Str)) = false) (hcd : (y == ("__classdict__" : Str)) = false) :
    PE Xc (.Subscript (.Name y py) (.Constant (.str (ofs s)) j p3) pos) (tD X C own (.stg i s)) := by
  have hvar : PE Xc (.Name y py) (tVar i) := pe_var (by rw [cg.n]; exact hN) (by rw [cg.sco]; exact hv) hd hcd
  refine (pe_dget (by have := cg.room.un; omega) hvar pe_str (fun _ _ => rfl)).imp fun σ H Q ⟨g, env, fps, w, d, w', er, wr, ev, q⟩ => ?_
  simp only [Rp.evE] at ev
  obtain ⟨dx, w1, e1, ev2⟩ := bind_ok ev
  obtain ⟨l1, rfl⟩ := lift_ok e1
  obtain ⟨v, hv2, rr⟩ := er.lookR l1
  split at ev2
  · rename_i st
    obtain ⟨l2, rfl⟩ := lift_ok ev2
    obtain ⟨st2, a, ca, e, rfl, h1, h2, h3, h4, h5, h6⟩ := wr_tok wr rr.tok
    cases e
    refine ⟨.ref a, hv2, ?_⟩
    unfold Rp.stGet at l2
    split at l2
    · rename_i c; subst c; cases l2
      exact ⟨a, _, rfl, by rw [← stK_left st g.ga ca]; exact DGet.k (k := .inr (ofs "left")) h3, q _ H g (.refl _ _) wr (Rp.int _)⟩
    · split at l2
      · rename_i c; subst c; cases l2
        exact ⟨a, _, rfl, by rw [← stK_turn st g.ga ca]; exact DGet.k (k := .inr (ofs "turn")) h3, q _ H g (.refl _ _) wr (Rp.int _)⟩
      · split at l2
        · rename_i c; subst c; cases l2
          exact ⟨a, _, rfl, by rw [← stK_cells st g.ga ca]; exact DGet.k (k := .inr (ofs "cells")) h3, q _ H g (.refl _ _) wr (Rp.lst h5 h6 (.of_ints _))⟩
        · cases l2
  · cases ev2
theorem pe_great (cg : Cg T k sc fc N Xc) {i : Nat} {y : Str} {py pos : Pos} {j : Nat} {p3 : Pos} (hN : N[i]? = some y) (hv : Vis sc y) (hd : (y == ("__debug__" : Str)) = false) (hcd : (y == ("__classdict__" : Str)) = false) :
    PE Xc (.Subscript (.Name y py) (.Constant (.str (ofs "great")) j p3) pos) (tDGet (tVar i) (tC (.str (ofs "great")))) :=
  pe_dget (by have := cg.room.un; omega) (pe_var (by rw [cg.n]; exact hN) (by rw [cg.sco]; exact hv) hd hcd) pe_str (fun _ _ => rfl)
def gnull : Gh := { F := fun _ => False, wa := none, ga := 0 }
theorem gne_q {i : Nat} {σ : L2.St} {H : Hp} {Q : VK} {g : Gh} {env : Rp.Env} {fps : Fps} {w w' : Rp.W} {d : Rp.D} (er : ER X own g H σ env fps) (wr : WR g H w) (ev : Rp.evE C (.gne i) env w = .ok d w')
    (q : ∀ b H' g', d = .bl b → Ext g H g' H' → WR g' H' w' → Q (.bl b) H') : tOp (rC X .ne 1) (tDGet (tVar i) (tC (.str (ofs "great")))) (tLst tNil) σ H Q := by
  simp only [Rp.evE] at ev
  obtain ⟨dx, w1, e1, ev2⟩ := bind_ok ev
  obtain ⟨l1, rfl⟩ := lift_ok e1
  obtain ⟨v, hv2, rr⟩ := er.lookR l1
  split at ev2
  · rename_i st
    simp only [Rp.R.ok.injEq] at ev2
    obtain ⟨rfl, rfl⟩ := ev2
    obtain ⟨st2, a, ca, e, rfl, h1, h2, h3, h4, h5, h6⟩ := wr_tok wr rr.tok
    cases e
    refine ⟨.ref a, hv2, a, _, rfl, by rw [← stK_great st g.ga ca]; exact DGet.k (k := .inr (ofs "great")) h3, by simp, fun p hp => ?_⟩
    have h4' : upd H p (.lst []) g.ga = some (.lst (st.great.map V.int)) := by rw [upd_ne (ne_of_none h4 hp)]; exact h4
    have nw : ∀ a, ¬ wd gnull a := fun a z => z.1 rfl
    have li : ∀ ns : List Int, Ls (RR X gnull (upd H p (.lst [])) 0) (ns.map V.int) (ns.map Rp.D.int) := by
      intro ns
      induction ns with
      | nil => exact .nil
      | cons n ns ih => exact .cons (Rp.int n) ih
    refine ⟨gnull, .lst (st.great.map .int), .lst [], !st.great.isEmpty, .inr (.inl ⟨g.ga, _, _, rfl, rfl, nw _, h4', li _⟩), .inr (.inl ⟨p, [], [], rfl, rfl, nw _, upd_same, .nil⟩), ?_, q _ _ g rfl (ext_upd hp) (wr.upd hp)⟩
    have pl : ∀ ns : List Int, Rp.plAll (ns.map Rp.D.int) = true := by
      intro ns; induction ns with
      | nil => rfl
      | cons n ns ih => simp [Rp.plAll, Rp.D.pl, ih]
    have dp : ∀ ns : List Int, Rp.depAll (ns.map Rp.D.int) = 0 := by
      intro ns; induction ns with
      | nil => rfl
      | cons n ns ih => simp [Rp.depAll, Rp.D.dep, ih]
    simp only [Rp.cmpD, Rp.D.eqO, Rp.D.pl, Rp.D.dep, pl, dp, Rp.plAll, Rp.depAll, Bool.and_self]
    cases st.great with
    | nil => rfl
    | cons n ns => rfl
  · cases ev2
theorem pd_gne (cg : Cg T k sc fc N Xc) (hk : 40 ≤ k) {i : Nat} {y : Str} {py p2 p3 p4 pos : Pos} {j : Nat} (hN : N[i]? = some y) (hv : Vis sc y) (hd : (y == ("__debug__" : Str)) = false) (hcd : (y == ("__classdict__" : Str)) = false) :
    PE Xc (.Compare (.Subscript (.Name y py) (.Constant (.str (ofs "great")) j p2) p3) [.NotEq] [.List [] p4] pos) (tD X C own (.gne i)) :=
  (pe_cmpR (od_cmp (X := X) (n := 1) (cg.room.mono hk) .ne) (pe_great cg hN hv hd hcd) (pe_lst pa_nil) rfl).imp fun σ H Q ⟨g, env, fps, w, d, w', er, wr, ev, q⟩ => gne_q er wr ev fun b H' g' e ex wr' => q _ H' g' ex wr' (by rw [e]; exact Rp.bl b)
theorem pt_gne (cg : Cg T k sc fc N Xc) (hk : 40 ≤ k) {i : Nat} {y : Str} {py p2 p3 p4 pos : Pos} {j : Nat} (hN : N[i]? = some y) (hv : Vis sc y) (hd : (y == ("__debug__" : Str)) = false) (hcd : (y == ("__classdict__" : Str)) = false) :
    PT Xc (.Compare (.Subscript (.Name y py) (.Constant (.str (ofs "great")) j p2) p3) [.NotEq] [.List [] p4] pos) (tT X C own (.gne i)) :=
  (pt_cmpR (od_cmp (X := X) (n := 1) (cg.room.mono hk) .ne) (pe_great cg hN hv hd hcd) (pe_lst pa_nil) rfl).imp fun σ H Q ⟨g, env, fps, w, b0, w', er, wr, ev, q⟩ => gne_q er wr ev fun b H' g' e ex wr' => by cases e; exact ⟨b0, rfl, q H' g' ex wr'⟩
theorem few1 {env : Env} {pos : Pos} {x : Expr} (h : nstar x = true) : ((backTo pos (starEach [x] env)).all (fun x => !x.1) && (backToKw pos (keywordEach [] env)).all (fun x => x.1.isSome)
      && decide (([x] : List Expr).length + ([] : List Keyword).length + (if ([] : List Keyword).isEmpty then 0 else 1) < 30)) = true := by
  rw [star_cons h]; rfl
theorem pd_gpop (cg : Cg T k sc fc N Xc) {i : Nat} {y : Str} {py p2 p3 p4 p5 p6 : Pos} {j j2 : Nat} (hN : N[i]? = some y) (hv : Vis sc y) (hd : (y == ("__debug__" : Str)) = false) (hcd : (y == ("__classdict__" : Str)) = false) (hline : (p4.endLine == p6.line) = true) :
    PE Xc (.Call (.Attribute (.Subscript (.Name y py) (.Constant (.str (ofs "great")) j p2) p3) "pop" p4) [.Constant (.int 0) j2 p5] [] p6) (tD X C own (.gpop i)) := by
  refine (pe_bm PySem.F.plainAttrs_list PySem.F.slot_list_pop PySem.F.type_list_pop mt_popAt (pe_great cg hN hv hd hcd) (pa_cons pe_int pa_nil rfl) rfl (few1 rfl) hline rfl rfl).imp fun σ H Q ⟨g, env, fps, w, d, w', er, wr, ev, q⟩ => ?_
  simp only [Rp.evE] at ev
  obtain ⟨dx, w1, e1, ev2⟩ := bind_ok ev
  obtain ⟨l1, rfl⟩ := lift_ok e1
  obtain ⟨v, hv2, rr⟩ := er.lookR l1
  split at ev2
  · rename_i st
    obtain ⟨st2, a, ca, e, rfl, h1, h2, h3, h4, h5, h6⟩ := wr_tok wr rr.tok
    cases e
    refine ⟨.ref a, hv2, a, .ref g.ga, rfl, by rw [← stK_great st g.ga ca]; exact DGet.k (k := .inr (ofs "great")) h3, .inl ⟨rfl, _, SqL.of h4⟩, ?_⟩
    cases hg : st.great with
    | nil => rw [hg] at ev2; cases ev2
    | cons n r =>
      rw [hg] at ev2
      simp only [Rp.R.ok.injEq] at ev2
      obtain ⟨rfl, rfl⟩ := ev2
      have wga : wd g g.ga := ⟨by rw [h1]; simp, .inr rfl⟩
      have nF : ¬ g.F g.ga := fun z => (wr.1 _ z).2 wga
      have ex : Ext g H g (upd H g.ga (.lst (r.map V.int))) := ⟨fun _ h => h, fun _ h => .inl h, fun b o h hw => by rw [upd_ne (fun c => by subst c; exact hw wga)]; exact h, fun _ => ⟨rfl, rfl⟩, fun e => (by rw [h1] at e; cases e), fun b h => by
        by_cases c : b = g.ga
        · subst c; rw [upd_same]; simp
        · rw [upd_ne c]; exact h⟩
      refine ⟨g.ga, st.great.map V.int, 0, 0, .int n, rfl, rfl, h4, by decide, by decide, ?_, by rw [hg]; rfl, ?_⟩
      · rw [hg]
        unfold seqIndex?
        simp
      · rw [hg]
        refine q _ _ g ex ⟨fun b hb => ⟨ex.t b (wr.1 b hb).1, (wr.1 b hb).2⟩, a, ca, h1, h2, ?_, upd_same, h5, ?_⟩ (Rp.int n)
        · rw [upd_ne h2]; exact h3
        · rw [upd_ne (fun c => by rw [c] at h5; exact nF h5)]; exact h6
  · cases ev2
end
end RpS
end

section
set_option Elab.async false
set_option linter.all false
set_option maxRecDepth 100000
set_option maxHeartbeats 2000000
/-! RpX2: xs.index(x). -/
namespace RpS
open PySem PySem.Spec PyProof.Rows L2
theorem idx_spec {x : Rp.D} : ∀ {xs : List Rp.D} {k n : Nat}, Rp.idxOf x xs k = some n → k ≤ n ∧ ∃ z, xs[n - k]? = some z ∧ Rp.D.eqv z x = true ∧ ∀ m z', m < n - k → xs[m]? = some z' → Rp.D.eqv z' x = false
  | [], k, n, h => by simp [Rp.idxOf] at h
  | y :: xs, k, n, h => by
    unfold Rp.idxOf at h
    split at h
    · rename_i e
      simp only [Option.some.injEq] at h
      subst h
      exact ⟨Nat.le_refl _, y, by simp, e, fun m z' hm => by omega⟩
    · rename_i e
      obtain ⟨h1, z, h2, h3, h4⟩ := idx_spec h
      refine ⟨by omega, z, ?_, h3, fun m z' hm hz => ?_⟩
      · have e1 : n - k = (n - (k + 1)) + 1 := by omega
        rw [e1, List.getElem?_cons_succ]; exact h2
      · cases m with
        | zero => simp at hz; subst hz; simpa using e
        | succ m => rw [List.getElem?_cons_succ] at hz; exact h4 m z' (by omega) hz
theorem pl_mem {z : Rp.D} : ∀ {xs : List Rp.D}, Rp.plAll xs = true → z ∈ xs → z.pl = true
  | [], _, h => by cases h
  | y :: ys, c, h => by
    simp only [Rp.plAll, Bool.and_eq_true] at c
    rcases List.mem_cons.mp h with e | e
    · subst e; exact c.1
    · exact pl_mem c.2 e
section
variable {T : Tx} {X : Gx} {C : Rp.Cl} {k : Nat} {B : Tb} {sc : Scope} {fc : Str → Bool} {N : List Str} {Xc : Cx} {own : List Nat}
theorem pd_idx (cg : Cg T k sc fc N Xc) (hk : 40 ≤ k) {a c : Rp.E} {x z : Expr} {p4 p6 : Pos} (ha : PE Xc x (tD X C own a)) (la : lev own a ≤ 1) (hc : PE Xc z (tD X C own c)) (lc : lev own c ≤ 1) (hb : baseOk x = true) (ns : nstar z = true) (hline : (p4.endLine == p6.line) = true) :
    PE Xc (.Call (.Attribute x "index" p4) [z] [] p6) (tD X C own (.idx a c)) := by
  refine (pe_bm PySem.F.plainAttrs_list PySem.F.slot_list_index PySem.F.type_list_index (mt_indexD (by have := cg.room.un; omega)) ha (pa_consD hc lc pa_nilD ns) (base_ok hb) (few1 ns) hline (star_cons ns) (star_none rfl)).imp fun σ H Q ⟨g, env, fps, w, d, w', er, wr, ev, q⟩ => ?_
  simp only [Rp.evE] at ev
  obtain ⟨dx, w1, e1, ev2⟩ := bind_ok ev
  obtain ⟨dy, w2, e2, ev3⟩ := bind_ok ev2
  obtain ⟨e3, rfl⟩ := lift_ok ev3
  cases dx with
  | lst xs =>
    simp only [Rp.biD] at e3
    split at e3
    · rename_i hcond
      simp only [Bool.and_eq_true, decide_eq_true_eq] at hcond
      obtain ⟨⟨⟨c1, c2⟩, c3⟩, c4⟩ := hcond
      obtain ⟨n, hn, rfl⟩ := Option.map_eq_some_iff.mp e3
      obtain ⟨_, z', h1, h2, h3⟩ := idx_spec hn
      rw [Nat.sub_zero] at h1 h3
      refine ⟨g, env, fps, w, .lst xs, w1, er, wr, e1, fun v1 H1 g1 x1 wr1 r1 => ?_⟩
      have hd1 := r1.dp (K := Xc.K) (by simpa [Rp.D.pl] using c1)
      simp only [pd] at hd1
      obtain ⟨aa, us, rfl, hz, ra⟩ : ∃ aa us, v1 = .ref aa ∧ H1 aa = some (.lst us) ∧ True := by
        have hm := r1.mono la
        rcases hm with hm | ⟨aa, vs, ds, q1, q2, _, q4, _⟩ | ⟨aa, kvs, ks, q1, q2, _⟩ | ⟨aa, dx, cc, fs, gs, q1, q2, _⟩
        · cases hm with
          | lst fa ha ra => exact ⟨_, _, rfl, ha, trivial⟩
        · exact ⟨aa, vs, q1, q4, trivial⟩
        · cases q2
        · cases q2
      refine ⟨.inl ⟨rfl, us, SqL.of hz⟩, g1, env, fps, w1, [dy], w2, er.ext x1 wr.ok, wr1, by simp only [Rp.evEs, e2, Rp.R.bind_ok], fun vs H2 g2 x2 wr2 r2 => ?_⟩
      obtain ⟨v2, rfl, rv⟩ := r2.one
      have hd2 := (r1.ext x2 wr1.ok).dp (K := Xc.K) (by simpa [Rp.D.pl] using c1)
      simp only [pd] at hd2
      refine ⟨aa, v2, pd dy, pds xs, n, pd z', rfl, rfl, hd2, rv.dp c2, ?_, pd_shaped _ c3, ?_, ?_, fun m z1 hm hz1 => ?_, q _ H2 g2 (x1.trans x2) wr2 (RR.of (.int _) _)⟩
      · have := pd_shaped (.lst xs) (by simp only [Rp.D.dep]; omega)
        simpa [pd] using this
      · rw [pds_get, h1]; rfl
      · have hp : z'.pl = true := pl_mem c1 (List.mem_of_getElem? h1)
        rw [pd_eqv _ _ hp c2]; exact h2
      · rw [pds_get] at hz1
        obtain ⟨z2, e4, rfl⟩ := Option.map_eq_some_iff.mp hz1
        have hp : z2.pl = true := pl_mem c1 (List.mem_of_getElem? e4)
        rw [pd_eqv _ _ hp c2]; exact h3 m z2 hm e4
    · cases e3
  | _ => simp [Rp.biD] at e3
end
end RpS
end

section
set_option Elab.async false
set_option linter.all false
set_option maxRecDepth 100000
set_option maxHeartbeats 2000000
/-! RpX5: xs[::-1], of lists and of tuples. -/
namespace HT
open PySem PySem.Spec PyProof.Rows
section
variable {prog : Program} {w : World} {A : Around} {E : Value → Shared → Prop} {s : Shared}
theorem adjust_rev (n : Nat) : Builtin.Slice.sliceAdjust none none (-1) (n : Int) = ((n : Int) - 1, -1) := by
  unfold Builtin.Slice.sliceAdjust
  simp only [show ((-1 : Int) < 0) = True from eq_true (by decide), if_true]
theorem places_rev (n : Nat) : Builtin.Slice.slicePlaces ((n : Int) - 1) (-1) (-1) = n := by
  unfold Builtin.Slice.slicePlaces
  have h1 : ¬ ((-1 : Int) > 0) := by decide
  simp only [h1, if_false]
  by_cases h : (n : Int) - 1 > -1
  · rw [if_pos h, show (- -1 : Int) = 1 by decide, Int.ediv_one]
    omega
  · rw [if_neg h]; omega
theorem filterMap_cg {α β : Type} {f g : α → Option β} : ∀ {l : List α}, (∀ a ∈ l, f a = g a) → l.filterMap f = l.filterMap g
  | [], _ => rfl
  | a :: l, h => by
    rw [List.filterMap_cons, List.filterMap_cons, h a List.mem_cons_self, filterMap_cg fun b hb => h b (List.mem_cons_of_mem _ hb)]
theorem pick_rev (xs : Array Value) : ((List.range xs.size).filterMap fun (m : Nat) => xs[(((xs.size : Int) - 1) + (m : Int) * (-1)).toNat]?).toArray = xs.toList.reverse.toArray := by
  have e : ((List.range xs.size).filterMap fun (m : Nat) => xs[(((xs.size : Int) - 1) + (m : Int) * (-1)).toNat]?) = ((List.range xs.size).map fun k => xs.size - 1 - k).filterMap (xs[·]?) := by
    rw [List.filterMap_map]
    refine filterMap_cg fun m hm => ?_
    have hm := List.mem_range.mp hm
    have : (((xs.size : Int) - 1) + (m : Int) * (-1)).toNat = xs.size - 1 - m := by omega
    rw [this]; rfl
  rw [e, PySem.W.krv_range, List.filterMap_reverse, PySem.W.krv_all]
theorem sliceApplied_rev {sl : Addr} {vl vu vs : Value} {n : Nat} {Q : Int × Int × Nat → Shared → Prop} (hs : s.heap.IsSliceOf sl vl vu vs) (pl : IsPart vl none) (pu : IsPart vu none) (ps : IsPart vs (some (-1)))
    (h : Q ((n : Int) - 1, -1, n) s) : wpAny (model prog w) A (Builtin.Slice.sliceApplied (.ref sl) (pure (n : Int))) Q E s := by
  obtain ⟨os, hos, hcs, hds⟩ := id hs
  unfold Builtin.Slice.sliceApplied Builtin.Slice.sliceFields
  refine wpAny_bind (wpAny_bind (wpAny_field hos hds (x := vl) rfl (wpAny_bind (wpAny_field hos hds (x := vu) rfl (wpAny_bind (wpAny_field hos hds (x := vs) rfl (wpAny_pure ?_)))))))
  refine wpAny_bind (slicePart_ ps ?_)
  show wpAny _ _ (if ((-1 : Int) == 0) = true then _ else _) _ _ s
  rw [if_neg (by decide)]
  refine wpAny_bind (slicePart_ pl (wpAny_bind (slicePart_ pu (wpAny_bind (wpAny_pure ?_)))))
  show wpAny _ _ (match Builtin.Slice.sliceAdjust none none (-1) (n : Int) with | (lo, hi) => pure (lo, (-1 : Int), Builtin.Slice.slicePlaces lo hi (-1))) _ _ s
  rw [adjust_rev n]
  show wpAny _ _ (pure ((n : Int) - 1, (-1 : Int), Builtin.Slice.slicePlaces ((n : Int) - 1) (-1) (-1))) _ _ s
  rw [places_rev]
  exact wpAny_pure h
theorem getItem_tuple_rev {t sl : Addr} {items : Array Value} {vl vu vs : Value} {Q : Value → Shared → Prop} (ht : IsTup s.heap t items) (hs : s.heap.IsSliceOf sl vl vu vs) (pl : IsPart vl none) (pu : IsPart vu none) (ps : IsPart vs (some (-1)))
    (h : Q (.ref s.heap.objs.size) { s with heap := s.heap.push { cls := .type "tuple", data := .seq items.toList.reverse.toArray } })
    (hsz : items.size ≤ sizeLine) : wpAny (model prog w) A (getItem (.ref t) (.ref sl)) Q E s := by
  have htake : sizeOk (.seq items.toList.reverse.toArray) := by
    show items.toList.reverse.toArray.size ≤ sizeLine
    rw [List.size_toArray, List.length_reverse, Array.length_toList]
    omega
  obtain ⟨os, hos, hcs, hds⟩ := id hs
  have hTs : s.TypeIs (.ref sl) "slice" := ⟨os, hos, hcs⟩
  unfold getItem
  try with_reducible refine wpAny_holding ?_
  first | refine wpAny_bind (wpAny_pure ?_) | skip
  refine wpAny_bind (wpAny_sequenceKey ht.typeIs (by decide) ?_)
  refine wpAny_bind (wpAny_callSpecial?_slot (name := Str.ofString "__getitem__") ht.typeIs PyProof.Rows.slot_tuple_getitem
    (wpAny_call_entry PyProof.Rows.slot_tuple_getitem ht.typeIs entry_tuple_getitem ?_ (args_tuple_getitem _ _)))
  show wpAny _ _ (Builtin.Tuple.tupleItemsOf (.ref t) >>= _) _ _ s
  refine wpAny_bind (tupleItemsOf_ ht ?_)
  refine wpAny_bind (wpAny_typeOf hTs ?_)
  rw [if_pos (by decide)]
  refine wpAny_bind (sliceApplied_rev hs pl pu ps ?_)
  have hno : ¬ ((((items.size : Int) - 1) == 0 && (-1 : Int) == 1 && items.size == items.size) = true) := by
    rw [Bool.and_eq_true, Bool.and_eq_true]
    intro q
    exact absurd q.1.2 (by decide)
  show wpAny _ _ (if (((items.size : Int) - 1) == 0 && (-1 : Int) == 1 && items.size == items.size) = true then _ else _) _ _ s
  rw [if_neg hno, pick_rev]
  first
    | exact wpAny_bind (m := Builtin.Tuple.tupleExact _) (wpAny_newObj_type (wpAny_pure ⟨_, rfl, wpAny_pure h⟩) htake)
    | exact wpAny_bind (m := Builtin.Tuple.tupleExact _) (wpAny_newObj_type (wpAny_bind (wpAny_pure (wpAny_pure ⟨_, rfl, wpAny_pure h⟩))) htake)
    | exact wpAny_bind (wpAny_bind (m := Builtin.Tuple.tupleExact _) (wpAny_newObj_type (wpAny_pure (wpAny_pure ⟨_, rfl, wpAny_pure h⟩)) htake))
    | exact wpAny_bind (wpAny_bind (m := Builtin.Tuple.tupleExact _) (wpAny_newObj_type (wpAny_pure ⟨_, rfl, wpAny_pure h⟩) htake))
end
end HT
namespace L2
open PySem PySem.Spec PyProof.Rows
section
variable {X : Cx}
def tRevT (K : PySem.W.Frag) (te : TE) : TE := fun σ H Q => te σ H fun x H1 => ∃ a xs, x = .ref a ∧ ((SqL K H1 a xs ∧ ∀ p, H1 p = none → Q (.ref p) (upd H1 p (.lst xs.reverse))) ∨ (SqT K H1 a xs ∧ ∀ p, H1 p = none → Q (.ref p) (upd H1 p (.tup xs.reverse))))
theorem pe_revT {e : Expr} {te : TE} {k : Nat} {p1 p2 p3 pos : Pos} (he : PE X e te) : PE X (.Subscript e (.Slice none none (some (.UnaryOp .USub (.Constant (.int 1) k p1) p2)) p3) pos) (tRevT X.K te) := by
  refine ⟨fun pins s σ H Q I h => ?_⟩
  refine Subscript_ (thn (he.run pins s σ H _ I h) fun v s1 ⟨x, H1, I1, r1, q1⟩ => ?_)
  obtain ⟨a, xs, ex, q⟩ := q1
  subst ex
  cases r1
  have hst : PO X (some (.UnaryOp .USub (.Constant (.int 1) k p1) p2)) (tPart (tUn (rU fun i => .int (-i)) (tC (.int 1)))) := po_some (pe_un un_neg pe_int)
  refine wpAny_Slice (thn (po_none.run pins s1 σ H1 (fun o H2 => o = none ∧ H2 = H1) I1 ⟨rfl, rfl⟩) fun vl s2 ⟨l, H2, I2, pl, el, e2⟩ => ?_)
  subst el e2
  refine thn (po_none.run pins s2 σ H2 (fun o H3 => o = none ∧ H3 = H2) I2 ⟨rfl, rfl⟩) fun vu s3 ⟨u, H3, I3, pu, eu, e3⟩ => ?_
  subst eu e3
  refine thn (hst.run pins s3 σ H3 (fun o H4 => o = some (-1) ∧ H4 = H3) I3 ⟨1, rfl, -1, rfl, rfl, rfl⟩) fun vs s4 ⟨o, H4, I4, ps, eo, e4⟩ => ?_
  subst eo e4
  have I5 : Inv X pins σ H4 { s4 with heap := s4.heap.push { cls := .type "slice", data := .fields #[vl, vu, vs] } } := I4.kept (t' := s4.toks) fun b ob q => Heap.get?_push_of_some _ q
  show wpAny (model X.prog X.w) X.A (subscriptTail e (.Slice none none (some (.UnaryOp .USub (.Constant (.int 1) k p1) p2)) p3) (.ref a) (.ref s4.heap.objs.size)) (EP X pins σ Q) X.xe { s4 with heap := s4.heap.push { cls := .type "slice", data := .fields #[vl, vu, vs] } }
  rcases q with ⟨hx, q⟩ | ⟨hx, q⟩
  · obtain ⟨its, r, ht, hz⟩ := I5.list hx
    have hlen := r.length
    refine tail_any (ops := [.ref a, .ref s4.heap.objs.size]) ht.isList.typeIs (PySem.slot_list_getitem.lookup) ?_ (by with_unfolding_all rfl)
    refine wpAny_getItem_list_slice ht.isList (Heap.IsSliceOf.new _ vl vu vs) pl pu ps (by decide) ?_ (by rw [List.size_toArray]; omega)
    rw [PySem.W.krv_pick]
    refine ⟨.ref _, _, I5.laid (t' := s4.toks) (o := .lst xs.reverse) (fun b ob q => Heap.get?_push_of_some _ q) (Nat.le_refl _) ?_, rfl, q _ (I5.hok.fresh (Nat.le_refl _))⟩
    exact ⟨by rw [List.length_reverse]; exact hz, _, 0, r.reverse, Heap.get?_push_size _ rfl⟩
  · obtain ⟨its, r, ht, hz⟩ := I5.tuple hx
    have hlen := r.length
    refine tail_any (ops := [.ref a, .ref s4.heap.objs.size]) ht.typeIs (PyProof.Rows.slot_tuple_getitem.lookup) ?_ (by with_unfolding_all rfl)
    refine HT.getItem_tuple_rev ht (Heap.IsSliceOf.new _ vl vu vs) pl pu ps ?_ (by rw [List.size_toArray]; omega)
    refine ⟨.ref _, _, I5.laid (t' := s4.toks) (o := .tup xs.reverse) (fun b ob q => Heap.get?_push_of_some _ q) (Nat.le_refl _) ?_, rfl, q _ (I5.hok.fresh (Nat.le_refl _))⟩
    exact ⟨by rw [List.length_reverse]; exact hz, _, r.reverse, IsTup.new _ _⟩
end
end L2
namespace RpS
open PySem PySem.Spec PyProof.Rows L2
section
variable {T : Tx} {X : Gx} {C : Rp.Cl} {Xc : Cx} {own : List Nat}
theorem rsl_core {a : Rp.E} {x : Expr} {k : Nat} {p1 p2 p3 pos : Pos} {t : TE} (ha : PE Xc x (tD X C own a)) (la : lev own a ≤ 1)
    (q : ∀ σ H Q, t σ H Q → ∃ g env fps w d w', ER X own g H σ env fps ∧ WR g H w ∧ Rp.evE C (.rsl a) env w = .ok d w' ∧ ∀ g1 H1, Ext g H g1 H1 → WR g1 H1 w' → ∀ v H', New X g1 H1 true v d H' → Q v H') :
    PE Xc (.Subscript x (.Slice none none (some (.UnaryOp .USub (.Constant (.int 1) k p1) p2)) p3) pos) t := by
  refine (pe_revT ha).imp fun σ H Q tq => ?_
  obtain ⟨g, env, fps, w, d, w', er, wr, ev, qq⟩ := q σ H Q tq
  simp only [Rp.evE] at ev
  obtain ⟨dx, w1, e1, ev2⟩ := bind_ok ev
  obtain ⟨e3, rfl⟩ := lift_ok ev2
  refine ⟨g, env, fps, w, dx, w1, er, wr, e1, fun v1 H1 g1 x1 wr1 r1 => ?_⟩
  have r2 := r1.mono la
  cases dx with
  | tup xs =>
    simp only [Rp.rvD, Option.some.injEq] at e3; subst e3
    obtain ⟨b, vs, rfl, fa, hb, ra⟩ := r2.tup
    exact ⟨b, vs, rfl, .inr ⟨SqT.of hb, fun p hp => qq g1 H1 x1 wr1 _ _ (.tup hp ra.reverse)⟩⟩
  | lst xs =>
    simp only [Rp.rvD, Option.some.injEq] at e3; subst e3
    obtain ⟨b, vs, rfl, hb, ra⟩ := r2.lst1
    exact ⟨b, vs, rfl, .inl ⟨SqL.of hb, fun p hp => qq g1 H1 x1 wr1 _ _ (.lst hp ra.reverse)⟩⟩
  | _ => simp [Rp.rvD] at e3
theorem pd_rsl {a : Rp.E} {x : Expr} {k : Nat} {p1 p2 p3 pos : Pos} (ha : PE Xc x (tD X C own a)) (la : lev own a ≤ 1) : PE Xc (.Subscript x (.Slice none none (some (.UnaryOp .USub (.Constant (.int 1) k p1) p2)) p3) pos) (tD X C own (.rsl a)) :=
  rsl_core ha la fun σ H Q ⟨g, env, fps, w, d, w', er, wr, ev, q⟩ => ⟨g, env, fps, w, d, w', er, wr, ev, fun g1 H1 x1 wr1 v H' n => by
    obtain ⟨g', ex, wr', rp⟩ := n.frz wr1
    exact q v H' g' (x1.trans ex) wr' rp⟩
theorem pf_rsl {a : Rp.E} {x : Expr} {k : Nat} {p1 p2 p3 pos : Pos} (ha : PE Xc x (tD X C own a)) (la : lev own a ≤ 1) : PE Xc (.Subscript x (.Slice none none (some (.UnaryOp .USub (.Constant (.int 1) k p1) p2)) p3) pos) (tF X C own (.rsl a)) :=
  rsl_core ha la fun σ H Q ⟨g, env, fps, w, d, w', er, wr, ev, m, q⟩ => ⟨g, env, fps, w, d, w', er, wr, ev, fun g1 H1 x1 wr1 v H' n => by
    obtain ⟨fp, ex, wr', ro, nd, out⟩ := n.ownF wr1 m
    exact q v H' g1 fp (x1.trans ex) wr' ro nd fun a ha => ⟨x1.none_back (out a ha).1, (out a ha).2⟩⟩
end
end RpS
end

section
set_option Elab.async false
set_option linter.all false
set_option maxRecDepth 100000
set_option maxHeartbeats 2000000
/-! RpX6: max(xs, key=f). -/
namespace RK
open PySem PySem.Spec PyProof.Rows L2 FbM
/-- the turns behind the first: b the greatest so far, k its key -/
def rMx (K : PySem.W.Frag) (l : Addr) (xs : List V) (sp : Sp) : List V → Hp → V → Int → VK → Prop
  | [], H, b, _, Q => SqL K H l xs ∧ Q b H
  | x :: r, H, b, k, Q => SqL K H l xs ∧ sp [x] H (fun v H' => ∃ n, v = .int n ∧ if k < n then rMx K l xs sp r H' x n Q else rMx K l xs sp r H' b k Q) C8.E0
section
variable {X : Cx} {pins : List (Addr × Obj)} {σ : L2.St} {kk : Nat} {f l I S : Addr} {sp : Sp} {xs : List V} {A : Around} {R : Result → Shared → Prop} {Q : VK}
theorem mx_loop (hh : A.handled = none) (hr : Room kk A.in1) (hA : A.frames = some X.stack) (F : FnR X.prog X.w X.K X.mg X.base C8.CX0 kk f sp) (rI : Rec X pins I) (rS : Rec X pins S) (lI : l ≠ I) (SI : S ≠ I) (lS : l ≠ S)
    (hR : ∀ H' v u s', Inv X pins σ H' s' → RelV v u → Q v H' → R (.ok (.ret u)) s') :
    ∀ (r : List V) (i : Nat) (H : Hp) (s : Shared) (b : V) (ub : Value) (k : Int) (tb : Tok) (c : Nat), xs.drop i = r → i ≤ xs.length → Inv X pins σ H s → H I = none → H S = none → s.heap.IsListIter I l i →
      s.heap.get? S = some (seqObj "list" #[ub, .int k tb] c) → RelV b ub → rMx X.K l xs sp r H b k Q → codeAny (model X.prog X.w) A (.builtin "max.loop" ⟨[.ref I, .ref f, .ref S], []⟩) R s
  | [], i, H, s, b, ub, k, tb, c, hd, hi, J, uI, uS, hit, hS, rb, D => by
    have hin : i = xs.length := by
      have e := congrArg List.length hd
      rw [List.length_drop] at e
      have e2 : xs.length - i = 0 := e
      omega
    obtain ⟨hl, q⟩ := D
    obtain ⟨its, rv, pl, _⟩ := J.list hl
    have hsz : its.toArray.size = i := by rw [List.size_toArray, ← rv.length, hin]
    have W := Walks.list (prog := X.prog) (w := X.w) (A := A.in1) hh I l lI its.toArray
    refine codeAny_builtin PySem.F.entry_max_loop ?_
    rw [Around.under_plainId PySem.F.plain_max_loop _]
    show wpAny _ A.in1 (seqItems? (.ref S) >>= _) _ _ _
    refine wpAny_bind (wpAny_seqItems hS rfl ?_)
    show wpAny _ A.in1 (tryCatch (pyNext (.ref I)) _ >>= _) _ _ _
    refine wpAny_bind (wpAny_tryCatch (W.done _ _ _ ⟨by rw [hsz]; exact hit, pl.isList⟩ fun h' tk' hk' => ?_))
    have hS' := hk' S _ (by simpa using SI) hS
    have J1 : Inv X pins σ H { s with heap := h', toks := tk' } := rI.turn J uI fun b o hb e => hk' b o (by simpa using hb) e
    show wpAny _ A.in1 (updateSeq S (fun _ => #[]) >>= _) _ _ _
    refine wpAny_bind ?_
    refine wpAny_updateSeq hS' rfl (wpAny_bind (wpAny_letGo (wpAny_pure ?_)))
    have s1 := Heap.SameBut.update h' S (Obj.mapSeq fun _ => (#[] : Array Value))
    have J2 : Inv X pins σ H { s with heap := h'.update S (Obj.mapSeq fun _ => (#[] : Array Value)), toks := tk' } := rS.turn (s := { s with heap := h', toks := tk' }) J1 uS fun b o hb e => s1.extBut b o hb e
    exact hR H b ub _ J2 rb q
  | x :: r, i, H, s, b, ub, k, tb, c, hd, hi, J, uI, uS, hit, hS, rb, D => by
    have hlt : i < xs.length := by
      rcases Nat.lt_or_ge i xs.length with z | z
      · exact z
      · rw [List.drop_eq_nil_of_le z] at hd
        exact (nomatch hd)
    have hxi : xs[i]? = some x := by
      have e : (xs.drop i)[0]? = (x :: r)[0]? := by rw [hd]
      rw [List.getElem?_drop] at e
      exact e
    have hdr : xs.drop (i + 1) = r := by
      have e := congrArg (List.drop 1) hd
      rw [List.drop_drop] at e
      first
        | exact e
        | (rw [Nat.add_comm] at e; exact e)
    obtain ⟨hl, D⟩ := D
    obtain ⟨its, rv, pl, _⟩ := J.list hl
    obtain ⟨u, hu, rx⟩ := rv.get hxi
    have hsz : its.toArray.size = xs.length := by rw [List.size_toArray, ← rv.length]
    have W := Walks.list (prog := X.prog) (w := X.w) (A := A.in1) hh I l lI its.toArray
    refine codeAny_builtin PySem.F.entry_max_loop ?_
    rw [Around.under_plainId PySem.F.plain_max_loop _]
    show wpAny _ A.in1 (seqItems? (.ref S) >>= _) _ _ _
    refine wpAny_bind (wpAny_seqItems hS rfl ?_)
    show wpAny _ A.in1 (tryCatch (pyNext (.ref I)) _ >>= _) _ _ _
    refine wpAny_bind (wpAny_tryCatch (W.item i _ _ _ (by rw [hsz]; exact hlt) ⟨hit, pl.isList⟩ fun v h' tk' hP hst' hk' => ?_))
    have hv : v = u := by
      have e1 : its[i]? = some v := by simpa using hP
      rw [hu] at e1
      cases e1; rfl
    subst hv
    obtain ⟨oI', hoI', hoc, hod⟩ := id hst'.1
    have J1 : Inv X pins σ H { s with heap := h', toks := tk' } := rI.turn J uI fun b o hb e => hk' b o (by simpa using hb) e
    have hS1 := hk' S _ (by simpa using SI) hS
    show wpAny _ A.in1 (tryCatch (holding [v] (call (.ref f) [v])) _ >>= _) _ _ _
    have e0 := J1.env0
    have e1 : Env0 X.prog X.w X.K X.mg X.base A.in1 X.stack { s with heap := h', toks := tk' } H := ⟨hA, e0.mod, e0.bs, e0.bsz, e0.funs, e0.frf, e0.hok, e0.bare⟩
    refine wpAny_bind (wpAny_tryCatch (wpAny_holding (wpAny_call (codeAny_mono (F A.in1 X.stack _ H [v] [x] _ C8.E0 hr e1 (.cons rx .nil) D) fun rr s2 hrr => ?_))))
    cases rr with
    | error e => exact False.elim hrr
    | ok fl =>
      cases fl with
      | next => exact False.elim hrr
      | brk => exact False.elim hrr
      | cont => exact False.elim hrr
      | ret v2 =>
        obtain ⟨v', H', os, bare, un, hok, rv', n, ev, D'⟩ := (show CE X.stack X.prog X.w H _ _ v2 s2 from hrr)
        subst ev
        obtain ⟨t, rfl⟩ := rv'
        have J2 : Inv X pins σ H' s2 := J1.call' os un hok bare (fun b y => absurd y List.not_mem_nil)
        have keep : ∀ {b : Addr} {o : Obj}, Rec X pins b → H b = none → h'.get? b = some o → s2.heap.get? b = some o := fun rb ub eb => un.keep _ _ eb ub rb.fr List.not_mem_nil
        have free : ∀ {b : Addr} {o : Obj}, H b = none → h'.get? b = some o → H' b = none := fun ub eb => un.free _ _ eb ub List.not_mem_nil
        have hS2 := keep rS uS hS1
        have hit2 : s2.heap.IsListIter I l (i + 1) := ⟨oI', keep rI uI hoI', hoc, hod⟩
        have uS2 := free uS hS1
        have uI2 := free uI hoI'
        show wpAny _ A.in1 (tryCatch (holding [v, .int n t] (richCompare .Gt (.int n t) (.int k tb) >>= _)) _ >>= _) _ _ _
        refine wpAny_bind (wpAny_tryCatch (wpAny_holding (wpAny_bind (CmpOf.ints_gt (prog := X.prog) (w := X.w) (A := A.in1) (P := fun j v => ∃ t, v = .int (if j = 0 then n else k) t) (fun j => if j = 0 then n else k) (fun j v h => h) 0 1 _ _ _ _ _ ⟨t, rfl⟩ ⟨tb, rfl⟩ ?_))))
        refine wpAny_bind (wpAny_holding (wpAny_truthy_bool ?_))
        refine wpAny_bind (wpAny_letGo (wpAny_pure ?_))
        have hname : (toString "max" ++ toString ".loop" : String) = "max.loop" := by decide
        by_cases hb' : k < n
        · rw [if_pos hb'] at D'
          have s1 := Heap.SameBut.update s2.heap S (Obj.mapSeq fun _ => #[v, .int n t])
          obtain ⟨c2, hc2⟩ : ∃ c2, (s2.heap.update S (Obj.mapSeq fun _ => #[v, .int n t])).get? S = some (seqObj "list" #[v, .int n t] c2) := ⟨_, get?_update_seq hS2 fun _ => #[v, .int n t]⟩
          have J3 : Inv X pins σ H' { s2 with heap := s2.heap.update S (Obj.mapSeq fun _ => #[v, .int n t]) } := rS.turn (t' := s2.toks) J2 uS2 fun b o hb e => s1.extBut b o hb e
          refine PySem.W.KFB.if_so (by simpa using hb') ?_
          refine wpAny_bind ?_
          refine wpAny_updateSeq hS2 rfl (wpAny_bind (wpAny_letGo ?_))
          rw [hname]
          exact wpAny_pure ⟨plainId_quiet PySem.F.plain_max_loop _, mx_loop hh hr hA F rI rS lI SI lS hR r (i + 1) H' _ x v n t c2 hdr hlt J3 uI2 uS2 ⟨oI', s1.extBut _ _ SI.symm (keep rI uI hoI'), hoc, hod⟩ hc2 rx D'⟩
        · rw [if_neg hb'] at D'
          refine PySem.W.KFB.if_not (by simpa using hb') ?_
          refine wpAny_bind (wpAny_letGo ?_)
          rw [hname]
          exact wpAny_pure ⟨plainId_quiet PySem.F.plain_max_loop _, mx_loop hh hr hA F rI rS lI SI lS hR r (i + 1) H' _ b ub k tb c hdr hlt J2 uI2 uS2 hit2 hS2 rb D'⟩
/-- the built-in's call -/
def rMx0 (K : PySem.W.Frag) (l : Addr) (xs : List V) (sp : Sp) (H : Hp) (Q : VK) : Prop := ∃ x r, xs = x :: r ∧ SqL K H l xs ∧ sp [x] H (fun v H' => ∃ n, v = .int n ∧ rMx K l xs sp r H' x n Q) C8.E0
theorem mx_call {s : Shared} {H : Hp} (hh : A.handled = none) (hr : Room (kk + 1) A) (hA : A.frames = some X.stack) (F : FnR X.prog X.w X.K X.mg X.base C8.CX0 kk f sp) (J : Inv X pins σ H s) (D : rMx0 X.K l xs sp H Q) {R : Value → Shared → Prop} {E : Value → Shared → Prop}
    (hR : ∀ H' v u s', Inv X pins σ H' s' → RelV v u → Q v H' → R u s') : wpAny (model X.prog X.w) A (call (.builtin "max") [.ref l] [(Str.ofString "key", .ref f)]) R E s := by
  obtain ⟨x, r, hxs, hl, D⟩ := D
  have hname : (toString "max" ++ toString ".loop" : String) = "max.loop" := by decide
  obtain ⟨its9, rv9, pl9, _⟩ := J.list hl
  have hxi : xs[0]? = some x := by rw [hxs]; rfl
  have hls := pl9.isList
  obtain ⟨ol, hol, _⟩ := id hls
  have hll : l < s.heap.objs.size := Heap.lt_size hol
  refine kmk_tree PySem.F.kind_max PySem.F.plain_max PySem.F.entry_max (kmk_max_key _ _) ?_
  show wpAny _ A.in1 (Builtin.Builtins.bindParams "max" ["key", "default"] 0 ⟨[], [(Str.ofString "key", .ref f)]⟩ >>= _) _ _ s
  refine wpAny_bind (wpAny_of_eq (show Builtin.Builtins.bindParams "max" ["key", "default"] 0 ⟨[], [(Str.ofString "key", .ref f)]⟩ = pure [some (.ref f), none] from rfl) ?_)
  refine wpAny_bind (wpAny_pure ?_)
  refine wpAny_bind (wpAny_pyIter_list hls ?_)
  refine wpAny_bind (wpAny_newList ?_ (Nat.zero_le _))
  rw [hname]
  have hS : (s.heap.push { cls := .type "list_iterator", data := .fields #[.ref l, .int 0 0] }).objs.size = s.heap.objs.size + 1 := size_push' ..
  have lI : l ≠ s.heap.objs.size := Nat.ne_of_lt hll
  have SI : (s.heap.push { cls := .type "list_iterator", data := .fields #[.ref l, .int 0 0] }).objs.size ≠ s.heap.objs.size := by rw [hS]; exact Nat.ne_of_gt (Nat.lt_succ_self _)
  have lS : l ≠ (s.heap.push { cls := .type "list_iterator", data := .fields #[.ref l, .int 0 0] }).objs.size := by rw [hS]; exact Nat.ne_of_lt (Nat.lt_succ_of_lt hll)
  have rI : Rec X pins s.heap.objs.size := rec_new J (Nat.le_refl _)
  have rS : Rec X pins (s.heap.push { cls := .type "list_iterator", data := .fields #[.ref l, .int 0 0] }).objs.size := rec_new J (by rw [hS]; exact Nat.le_succ _)
  have uI : H s.heap.objs.size = none := J.hok.fresh (Nat.le_refl _)
  have uS : H (s.heap.push { cls := .type "list_iterator", data := .fields #[.ref l, .int 0 0] }).objs.size = none := J.hok.fresh (by rw [hS]; exact Nat.le_succ _)
  have gI : ((s.heap.push { cls := .type "list_iterator", data := .fields #[.ref l, .int 0 0] }).push (seqObj "list" #[] 0)).get? s.heap.objs.size = some { cls := .type "list_iterator", data := .fields #[.ref l, .int 0 0] } :=
    Heap.get?_push_of_some _ (Heap.get?_push_size _ rfl)
  have gS : ((s.heap.push { cls := .type "list_iterator", data := .fields #[.ref l, .int 0 0] }).push (seqObj "list" #[] 0)).get? (s.heap.push { cls := .type "list_iterator", data := .fields #[.ref l, .int 0 0] }).objs.size = some (seqObj "list" #[] 0) := Heap.get?_push_size _ rfl
  have J0 : Inv X pins σ H { s with heap := (s.heap.push { cls := .type "list_iterator", data := .fields #[.ref l, .int 0 0] }).push (seqObj "list" #[] 0) } := J.kept (t' := s.toks) fun b o e => Heap.get?_push_of_some _ (Heap.get?_push_of_some _ e)
  refine wpAny_pure ⟨plainId_quiet PySem.F.plain_max_loop _, ?_⟩
  generalize (s.heap.push { cls := .type "list_iterator", data := .fields #[.ref l, .int 0 0] }).objs.size = S at *
  generalize ((s.heap.push { cls := .type "list_iterator", data := .fields #[.ref l, .int 0 0] }).push (seqObj "list" #[] 0)) = h0 at *
  have hlen : 0 < xs.length := by rw [hxs]; simp
  obtain ⟨its, rv, pl, _⟩ := J0.list hl
  obtain ⟨u, hu, rx⟩ := rv.get hxi
  have hsz : its.toArray.size = xs.length := by rw [List.size_toArray, ← rv.length]
  have W := Walks.list (prog := X.prog) (w := X.w) (A := A.in1) hh s.heap.objs.size l lI its.toArray
  refine codeAny_builtin PySem.F.entry_max_loop ?_
  rw [Around.under_plainId PySem.F.plain_max_loop _]
  show wpAny _ A.in1 (seqItems? (.ref _) >>= _) _ _ _
  refine wpAny_bind (wpAny_seqItems gS rfl ?_)
  show wpAny _ A.in1 (tryCatch (pyNext (.ref s.heap.objs.size)) _ >>= _) _ _ _
  refine wpAny_bind (wpAny_tryCatch (W.item 0 _ _ _ (by rw [hsz]; exact hlen) ⟨⟨_, gI, rfl, rfl⟩, pl.isList⟩ fun v h' tk' hP hst' hk' => ?_))
  have hv : v = u := by
    have e1 : its[0]? = some v := by simpa using hP
    rw [hu] at e1
    cases e1; rfl
  subst hv
  obtain ⟨oI', hoI', hoc, hod⟩ := id hst'.1
  have J1 : Inv X pins σ H { s with heap := h', toks := tk' } := rI.turn (s := { s with heap := h0 }) J0 uI fun b o hb e => hk' b o (by simpa using hb) e
  have hS1 := hk' S _ (by simpa using SI) gS
  show wpAny _ A.in1 (tryCatch (holding [v] (call (.ref f) [v])) _ >>= _) _ _ _
  have e0 := J1.env0
  have e1 : Env0 X.prog X.w X.K X.mg X.base A.in1 X.stack { s with heap := h', toks := tk' } H := ⟨hA, e0.mod, e0.bs, e0.bsz, e0.funs, e0.frf, e0.hok, e0.bare⟩
  refine wpAny_bind (wpAny_tryCatch (wpAny_holding (wpAny_call (codeAny_mono (F A.in1 X.stack _ H [v] [x] _ C8.E0 hr.in1 e1 (.cons rx .nil) D) fun rr s2 hrr => ?_))))
  cases rr with
  | error e => exact False.elim hrr
  | ok fl =>
    cases fl with
    | next => exact False.elim hrr
    | brk => exact False.elim hrr
    | cont => exact False.elim hrr
    | ret v2 =>
      obtain ⟨v', H', os, bare, un, hok, rv', n, ev, D'⟩ := (show CE X.stack X.prog X.w H _ _ v2 s2 from hrr)
      subst ev
      obtain ⟨t, rfl⟩ := rv'
      have J2 : Inv X pins σ H' s2 := J1.call' os un hok bare (fun b y => absurd y List.not_mem_nil)
      have keep : ∀ {b : Addr} {o : Obj}, Rec X pins b → H b = none → h'.get? b = some o → s2.heap.get? b = some o := fun rb ub eb => un.keep _ _ eb ub rb.fr List.not_mem_nil
      have free : ∀ {b : Addr} {o : Obj}, H b = none → h'.get? b = some o → H' b = none := fun ub eb => un.free _ _ eb ub List.not_mem_nil
      have hS2 := keep rS uS hS1
      have uS2 := free uS hS1
      have uI2 := free uI hoI'
      have s1 := Heap.SameBut.update s2.heap S (Obj.mapSeq fun _ => #[v, .int n t])
      obtain ⟨c2, hc2⟩ : ∃ c2, (s2.heap.update S (Obj.mapSeq fun _ => #[v, .int n t])).get? S = some (seqObj "list" #[v, .int n t] c2) := ⟨_, get?_update_seq hS2 fun _ => #[v, .int n t]⟩
      have J3 : Inv X pins σ H' { s2 with heap := s2.heap.update S (Obj.mapSeq fun _ => #[v, .int n t]) } := rS.turn (t' := s2.toks) J2 uS2 fun b o hb e => s1.extBut b o hb e
      have hdr : xs.drop (0 + 1) = r := by rw [hxs]; rfl
      show wpAny _ A.in1 (updateSeq S (fun _ => #[v, .int n t]) >>= _) _ _ _
      refine wpAny_bind ?_
      refine wpAny_updateSeq hS2 rfl ?_
      rw [hname]
      exact wpAny_pure ⟨plainId_quiet PySem.F.plain_max_loop _, mx_loop hh hr.in1 hA F rI rS lI SI lS hR r (0 + 1) H' _ x v n t c2 hdr hlen J3 uI2 uS2 ⟨oI', s1.extBut _ _ SI.symm (keep rI uI hoI'), hoc, hod⟩ hc2 rx D'⟩
end
end RK

namespace RpS
open PySem PySem.Spec PyProof.Rows L2 RK
section
variable {T : Tx} {X : Gx} {C : Rp.Cl} {k : Nat} {B : Tb} {sc : Scope} {fc : Str → Bool} {N : List Str} {Xc : Cx} {own : List Nat}
theorem lstA1 {g : Gh} {H : Hp} {v : V} {xs : List Rp.D} (h : RR X g H 1 v (.lst xs)) (wr : Gok g H) : ∃ a us, v = .ref a ∧ H a = some (.lst us) ∧ ¬ wd g a ∧ RpA X g H us xs := by
  rcases h with h | ⟨aa, vs, ds, q1, q2, q3, q4, q5⟩ | ⟨aa, kvs, ks, q1, q2, _⟩ | ⟨aa, dx, cc, fs, gs, q1, q2, _⟩
  · cases h with
    | lst fa ha ra => exact ⟨_, _, rfl, ha, (wr _ fa).2, ra⟩
  · cases q2
    exact ⟨aa, vs, q1, q4, q3, q5.rpa0⟩
  · cases q2
  · cases q2
theorem mx_of {f : String} {n : Nat} {K : PySem.W.Frag} {l : Addr} {us : List V} (hn : ∀ ds w d w', C f ds w = .ok d w' → ds.length = n) : ∀ (r : List V) (ys : List Rp.D) (g : Gh) (H : Hp) (b : V) (db : Rp.D) (kb : Int) (w w' : Rp.W) (d : Rp.D) (Q : VK),
    RpA X g H r ys → H l = some (.lst us) → ¬ wd g l → Rp X g H b db → WR g H w → Rp.maxKL (fun y w => C f [y] w) db kb ys w = .ok d w' → (∀ v H' g', Ext g H g' H' → WR g' H' w' → Rp X g' H' v d → Q v H') →
    rMx K l us (fun vs H Q E => sp X C f n (vs ++ []) H Q E) r H b kb Q
  | [], _, g, H, b, db, kb, w, w', d, Q, ra, hl, hw, rb, wr, ev, q => by
    cases ra
    simp only [Rp.maxKL, Rp.R.ok.injEq] at ev
    obtain ⟨rfl, rfl⟩ := ev
    exact ⟨SqL.of hl, q b H g (.refl _ _) wr rb⟩
  | x :: r, _, g, H, b, db, kb, w, w', d, Q, ra, hl, hw, rb, wr, ev, q => by
    cases ra with
    | @cons _ _ y ys rx ra =>
      simp only [Rp.maxKL] at ev
      obtain ⟨dk, w1, e1, ev2⟩ := bind_ok ev
      refine ⟨SqL.of hl, ?_⟩
      show sp X C f n ([x] ++ []) H _ C8.E0
      refine ⟨hn _ _ _ _ e1, g, w, [y], dk, w1, wr, .cons rx .nil, e1, fun v H1 g1 x1 wr1 rv => ?_⟩
      cases dk with
      | int m =>
        refine ⟨m, RR.int (n := 0) rv, ?_⟩
        have fm := x1.fm wr.ok
        have hl1 := x1.k _ _ hl hw
        have hw1 : ¬ wd g1 l := fun z => by
          rcases x1.wd_of z with z | z
          · exact hw z
          · rw [hl] at z; cases z
        have q1 : ∀ v H' g', Ext g1 H1 g' H' → WR g' H' w' → Rp X g' H' v d → Q v H' := fun v H' g' x2 wr2 rv => q v H' g' (x1.trans x2) wr2 rv
        simp only at ev2
        by_cases hc : kb < m
        · rw [if_pos hc] at ev2 ⊢
          exact mx_of hn r ys g1 H1 x y m w1 w' d Q (RpA.fm fm ra) hl1 hw1 (Rp.fm fm rx) wr1 ev2 q1
        · rw [if_neg hc] at ev2 ⊢
          exact mx_of hn r ys g1 H1 b db kb w1 w' d Q (RpA.fm fm ra) hl1 hw1 (Rp.fm fm rb) wr1 ev2 q1
      | _ => cases ev2
theorem pd_maxK (cg : Cg T (k + 1) sc fc N Xc) (kt : Kt T X C k B) {f : String} {a : Rp.E} {y : Expr} {p p2 kpos pos : Pos} (hf : f ∈ B.fns) (hg : sc.names.lookup (ofs "max") = some .globalImplicit) (hgf : sc.names.lookup (ofs f) = some .globalImplicit) (hdb : (ofs f == ("__debug__" : Str)) = false)
    (ns : nstar y = true) (ha : PE Xc y (tD X C own a)) (la : lev own a ≤ 1) : PE Xc (.Call (.Name (ofs "max") p) [y] [⟨some (ofs "key"), .Name (ofs f) p2, kpos⟩] pos) (tD X C own (.maxK f a)) := by
  obtain ⟨n, hn, c⟩ := kt.call f hf
  have cg0 : Cg T k sc fc N Xc := ⟨cg.prog, cg.w, cg.kk, cg.mg, cg.base, cg.room.mono (Nat.le_succ _), cg.calm, cg.n, cg.nd, cg.fn, cg.sco⟩
  obtain ⟨fa, fd, ps, ds, F, hm, kp, b, dv⟩ := (cal_at cg0 c).ex
  have Fr := F.raw b dv
  have hc : CallRK Xc (.builtin "max") [ofs "key"] (fun vs zs H Q => ∃ l xs, vs = [.ref l] ∧ zs = [.ref fa] ∧ rMx0 Xc.K l xs (fun vs H Q E => sp X C f n (vs ++ []) H Q E) H Q) := by
    intro pins s σ H xs zs us ws Q I r rz h
    obtain ⟨l, ys, rfl, rfl, D⟩ := h
    obtain rfl := Vals.ref1 r
    obtain ⟨w1, rfl, e1⟩ := vals1 rz
    obtain rfl : w1 = Value.ref fa := e1
    exact mx_call (I.ok.hd cg.calm) cg.room I.ok.frames Fr I D fun H' v u s' J rv q => ⟨v, H', J, rv, q⟩
  refine (pe_callBK hc (cg.gl hg) (mgf cg0 kt (by decide)) boot_max (pa_consD ha la pa_nilD ns) (pk_cons (pe_glob (v := .ref fa) (cg.gl hgf) hm rfl hdb) pk_nil) (by decide) (by decide) (by rw [star_cons ns]; rfl) (star_none (es := [y]) (by rw [List.all_cons, ns]; rfl)) rfl rfl rfl).imp fun σ H Q ⟨g, env, fps, w, d, w', er, wr, ev, q⟩ => ?_
  simp only [Rp.evE] at ev
  obtain ⟨dx, w1, e1, ev2⟩ := bind_ok ev
  refine ⟨g, env, fps, w, [dx], w1, er, wr, by simp only [Rp.evEs, e1, Rp.R.bind_ok], fun vs H1 g1 x1 wr1 r1 => ?_⟩
  obtain ⟨v1, rfl, rv⟩ := r1.one
  cases dx with
  | lst xs =>
    obtain ⟨l, us, rfl, hl, hw, ra⟩ := lstA1 rv wr1.ok
    cases ra with
    | nil => cases ev2
    | @cons x r y0 ys rx ra =>
      simp only [Rp.maxKD] at ev2
      obtain ⟨dk, w2, e2, ev3⟩ := bind_ok ev2
      refine ⟨l, x :: r, rfl, rfl, x, r, rfl, SqL.of hl, ?_⟩
      show sp X C f n ([x] ++ []) H1 _ C8.E0
      refine ⟨hn _ _ _ _ e2, g1, w1, [y0], dk, w2, wr1, .cons rx .nil, e2, fun v H2 g2 x2 wr2 rv2 => ?_⟩
      cases dk with
      | int m =>
        refine ⟨m, RR.int (n := 0) rv2, ?_⟩
        have fm := x2.fm wr1.ok
        have hw2 : ¬ wd g2 l := fun z => by
          rcases x2.wd_of z with z | z
          · exact hw z
          · rw [hl] at z; cases z
        exact mx_of hn r ys g2 H2 x y0 m w2 w' d Q (RpA.fm fm ra) (x2.k _ _ hl hw) hw2 (Rp.fm fm rx) wr2 ev3 fun v H' g' x3 wr3 rv3 => q v H' g' (x1.trans (x2.trans x3)) wr3 rv3
      | _ => cases ev3
  | _ => cases ev2
end
end RpS
end

section
set_option Elab.async false
set_option linter.all false
set_option maxRecDepth 100000
set_option maxHeartbeats 4000000
/-! RpS14: a look at the text of an expression, and what it gives. -/
namespace RpS
open PySem PySem.Spec PyProof.Rows L2
def visB (sc : Scope) (x : Str) : Bool := match sc.names.lookup x with
  | some .local => true | some .cell => true | some .free => true | _ => false
theorem vis_of {sc : Scope} {x : Str} (h : visB sc x = true) : Vis sc x := by
  unfold visB at h
  unfold Vis
  split at h <;> first | (exact .inl (by assumption)) | (exact .inr (.inl (by assumption))) | (exact .inr (.inr (by assumption))) | cases h
def globB (sc : Scope) (x : Str) : Bool := match sc.names.lookup x with
  | some .globalImplicit => true | _ => false
theorem glob_of {sc : Scope} {x : Str} (h : globB sc x = true) : sc.names.lookup x = some .globalImplicit := by
  unfold globB at h
  split at h
  · assumption
  · cases h
def ndB (x : Str) : Bool := !(x == ("__debug__" : Str)) && !(x == ("__classdict__" : Str))
theorem nd_of {x : Str} (h : ndB x = true) : (x == ("__debug__" : Str)) = false ∧ (x == ("__classdict__" : Str)) = false := by
  unfold ndB at h
  simp only [Bool.and_eq_true, Bool.not_eq_true'] at h
  exact h
def levs (n : Nat) (own : List Nat) : List Rp.E → Bool
  | [] => true
  | e :: es => decide (lev own e ≤ n) && levs n own es
def notSet : Expr → Bool
  | .Set .. => false
  | _ => true
theorem fold_ok {x : Expr} (h : notSet x = true) : ∀ env v, foldedSetIterable x env v = pure v := by
  intro env v
  cases x <;> first | rfl | cases h
def notSl : Expr → Bool
  | .Slice .. => false
  | _ => true
def slots (N : List Str) (is : List Nat) : List (Str × Nat) := is.map fun i => (N.getD i ⟨#[]⟩, i)
theorem slots_snd (N : List Str) (is : List Nat) : (slots N is).map (·.2) = is := by
  unfold slots
  rw [List.map_map]
  exact List.map_id' is
abbrev fcOf (scope : Scope) : Str → Bool := fun x => scope.names.lookup x == some .cell
/-- may stand as a test -/
def tstE : Rp.E → Bool
  | .ite .. => false
  | _ => true
/-- makes a list or a dict anew -/
def frE : Rp.E → Bool
  | .lst _ => true | .comp .. => true | .compIf .. => true | .comp2 .. => true | .bin .. => true | .bi b _ => (biN b).isSome | .sl .. => true | .rsl _ => true | .dic .. => true | .dic0 => true
  | _ => false
def chkC (B : Tb) (sc : Scope) : Rp.D → Expr → Bool
  | .non, .Constant .none _ _ => true
  | .bl b, .Constant (.bool c) _ _ => decide (b = c)
  | .int i, .Constant (.int j) _ _ => decide (i = j)
  | .int i, .Name x _ => (B.cons.any fun p => decide (ofs p.1 = x) && decide (p.2 = i)) && globB sc x && ndB x
  | .str s, .Constant (.str y) _ _ => decide (ofs s = y)
  | _, _ => false
mutual
def chkE (B : Tb) (N : List Str) : Rp.E → List Nat → Scope → (Str → Bool) → Expr → Bool
  | .v i, own, sc, fc, x => match x with
    | .Name x _ => decide (N[i]? = some x) && visB sc x && ndB x
    | _ => false
  | .c d, own, sc, fc, x => chkC B sc d x
  | .tup es, own, sc, fc, x => match x with
    | .Tuple xs _ _ => levs 0 own es && decide (es.length ≤ 1000) && chkEs B N es own sc fc xs
    | _ => false
  | .lst es, own, sc, fc, x => match x with
    | .List xs _ => levs 0 own es && decide (es.length ≤ 1000) && chkEs B N es own sc fc xs
    | _ => false
  | .bin o a b, own, sc, fc, x => match x with
    | .BinOp y op z _ => decide (op = opB o) && decide (lev own a ≤ 1) && decide (lev own b ≤ 1) && chkE B N a own sc fc y && chkE B N b own sc fc z
    | _ => false
  | .neg a, own, sc, fc, x => match x with
    | .UnaryOp .USub y _ => decide (lev own a ≤ 1) && chkE B N a own sc fc y
    | _ => false
  | .cmp o a b, own, sc, fc, x => match x with
    | .Compare y [op] [z] _ => decide (op = opC o) && decide (lev own a ≤ 1) && decide (lev own b ≤ 1) && !(behindInMarks (opC o) z) && chkE B N a own sc fc y && chkE B N b own sc fc z
    | _ => false
  | .chain o p a b c, own, sc, fc, x => match x with
    | .Compare y [op, op2] [z, u] _ => decide (op = opC o) && decide (op2 = opC p) && decide (lev own a ≤ 1) && decide (lev own b ≤ 1) && decide (lev own c ≤ 1) && !(lastMarks [opC o, opC p] [z, u]) && chkE B N a own sc fc y && chkE B N b own sc fc z && chkE B N c own sc fc u
    | _ => false
  | .and a b, own, sc, fc, x => match x with
    | .BoolOp .And (y :: z :: r) pos => tstE a && tstE b && decide (lev own b = 0) && chkE B N a own sc fc y && chkE B N b own sc fc (match r with | [] => z | _ => .BoolOp .And (z :: r) pos)
    | _ => false
  | .or a b, own, sc, fc, x => match x with
    | .BoolOp .Or (y :: z :: r) pos => tstE a && tstE b && decide (lev own b = 0) && chkE B N a own sc fc y && chkE B N b own sc fc (match r with | [] => z | _ => .BoolOp .Or (z :: r) pos)
    | _ => false
  | .not a, own, sc, fc, x => match x with
    | .UnaryOp .Not y _ => tstE a && chkE B N a own sc fc y
    | _ => false
  | .ite c a b, own, sc, fc, x => match x with
    | .IfExp u y z _ => tstE c && decide (lev own a = 0) && decide (lev own b = 0) && chkE B N c own sc fc u && chkE B N a own sc fc y && chkE B N b own sc fc z
    | _ => false
  | .ix a b, own, sc, fc, x => match x with
    | .Subscript y z _ => notSl z && decide (lev own b ≤ 1) && chkE B N a own sc fc y && chkE B N b own sc fc z
    | _ => false
  | .sl a l h, own, sc, fc, x => match x with
    | .Subscript y (.Slice xl xh none _) _ => decide (lev own a ≤ 1) && chkE B N a own sc fc y && chkO B N l own sc fc xl && chkO B N h own sc fc xh
    | _ => false
  | .fld a f, own, sc, fc, x => match x with
    | .Attribute y f' _ => B.flds.contains f && decide (ofs f = f') && baseOk y && chkE B N a own sc fc y
    | _ => false
  | .call f es, own, sc, fc, x => match x with
    | .Call (.Name g _) xs [] _ => decide (ofs f = g) && globB sc g && ndB g && xs.all nstar && levs 0 own es && (B.fns.contains f || (B.cls.contains f && !xs.isEmpty)) && chkEs B N es own sc fc xs
    | _ => false
  | .bi b es, own, sc, fc, x => match x with
    | .Call (.Name g _) xs [] _ => (match biN b with | some n => decide (ofs n = g) | none => decide (b = .gcd) && decide (ofs "gcd" = g) && B.mods.contains "gcd") && globB sc g && xs.all nstar && !xs.isEmpty && levs 1 own es && chkEs B N es own sc fc xs
    | _ => false
  | .isi a ty, own, sc, fc, x => match x with
    | .Call (.Name g _) [y, .Name t _] [] _ => decide (ofs "isinstance" = g) && globB sc g && globB sc t && ndB t && nstar y && decide (lev own a ≤ 1) && (match ty with | .cls c => decide (ofs c = t) && B.cls.contains c | ty => match tyS ty with | some s => decide (ofs s = t) | none => false) && chkE B N a own sc fc y
    | _ => false
  | .comp p it e, own, sc, fc, x => match x with
    | .ListComp elt [⟨tg, iter, [], 0⟩] scope _ => notSet iter && decide (lev (zer own p.is) e = 0) && blkC N sc scope (slots N p.is) && okP (relS scope sc) (fcOf scope) N p tg && chkI B N it own sc fc tg iter && chkE B N e (zer own p.is) (relS scope sc) (fcOf scope) elt
    | _ => false
  | .compIf p it c e, own, sc, fc, x => match x with
    | .ListComp elt [⟨tg, iter, [cnd], 0⟩] scope _ => notSet iter && tstE c && decide (lev (zer own p.is) e = 0) && blkC N sc scope (slots N p.is) && okP (relS scope sc) (fcOf scope) N p tg && chkI B N it own sc fc tg iter && chkE B N c (zer own p.is) (relS scope sc) (fcOf scope) cnd && chkE B N e (zer own p.is) (relS scope sc) (fcOf scope) elt
    | _ => false
  | .comp2 p it q jt e, own, sc, fc, x => match x with
    | .ListComp elt [⟨tg, iter, [], 0⟩, ⟨tg1, iter1, [], 0⟩] scope _ => notSet iter && notSet iter1 && decide (lev (zer own (p.is ++ q.is)) e = 0) && blkC N sc scope (slots N (p.is ++ q.is)) && okP (relS scope sc) (fcOf scope) N p tg && okP (relS scope sc) (fcOf scope) N q tg1 &&
        chkI B N it own sc fc tg iter && chkI B N jt (zer own (p.is ++ q.is)) (relS scope sc) (fcOf scope) tg1 iter1 && chkE B N e (zer own (p.is ++ q.is)) (relS scope sc) (fcOf scope) elt
    | _ => false
  | .dic a b, own, sc, fc, x => match x with
    | .Dict [some y] [z] _ => decide (lev own a ≤ 1) && decide (lev own b = 0) && chkE B N a own sc fc y && chkE B N b own sc fc z
    | _ => false
  | .dic0, own, sc, fc, x => match x with
    | .Dict [] [] _ => true
    | _ => false
  | .star1 a b, own, sc, fc, x => match x with
    | .Tuple [.Starred y _, z] _ _ => nstar z && decide (lev own b = 0) && chkE B N a own sc fc y && chkE B N b own sc fc z
    | _ => false
  | .stg i k, own, sc, fc, x => match x with
    | .Subscript (.Name y _) (.Constant (.str z) _ _) _ => decide (N[i]? = some y) && visB sc y && ndB y && decide (ofs k = z)
    | _ => false
  | .gne i, own, sc, fc, x => match x with
    | .Compare (.Subscript (.Name y _) (.Constant (.str z) _ _) _) [.NotEq] [.List [] _] _ => decide (N[i]? = some y) && visB sc y && ndB y && decide (ofs "great" = z)
    | _ => false
  | .gpop i, own, sc, fc, x => match x with
    | .Call (.Attribute (.Subscript (.Name y _) (.Constant (.str z) _ _) _) f p4) [.Constant (.int 0) _ _] [] p6 => decide (N[i]? = some y) && visB sc y && ndB y && decide (ofs "great" = z) && decide (f = "pop") && (p4.endLine == p6.line)
    | _ => false
  | .rsl a, own, sc, fc, x => match x with
    | .Subscript y (.Slice none none (some (.UnaryOp .USub (.Constant (.int 1) _ _) _)) _) _ => decide (lev own a ≤ 1) && chkE B N a own sc fc y
    | _ => false
  | .idx a b, own, sc, fc, x => match x with
    | .Call (.Attribute y f p4) [z] [] p6 => decide (f = "index") && (p4.endLine == p6.line) && baseOk y && nstar z && decide (lev own a ≤ 1) && decide (lev own b ≤ 1) && chkE B N a own sc fc y && chkE B N b own sc fc z
    | _ => false
  | .maxK f a, own, sc, fc, x => match x with
    | .Call (.Name g _) [y] [⟨some ky, .Name h _, _⟩] _ => decide (ofs "max" = g) && decide (ofs "key" = ky) && decide (ofs f = h) && globB sc g && globB sc h && ndB h && nstar y && B.fns.contains f && decide (lev own a ≤ 1) && chkE B N a own sc fc y
    | _ => false
def chkEs (B : Tb) (N : List Str) : List Rp.E → List Nat → Scope → (Str → Bool) → List Expr → Bool
  | [], own, sc, fc, xs => xs.isEmpty
  | e :: es, own, sc, fc, xs => match xs with
    | x :: xs => nstar x && chkE B N e own sc fc x && chkEs B N es own sc fc xs
    | [] => false
def chkO (B : Tb) (N : List Str) : Option Rp.E → List Nat → Scope → (Str → Bool) → Option Expr → Bool
  | none, own, sc, fc, x => x.isNone
  | some e, own, sc, fc, x => match x with
    | some x => chkE B N e own sc fc x
    | none => false
def chkI (B : Tb) (N : List Str) : Rp.It → List Nat → Scope → (Str → Bool) → Expr → Expr → Bool
  | .seq e, own, sc, fc, tg, x => decide (lev own e = 0) && chkE B N e own sc fc x
  | .range a b, own, sc, fc, tg, x => match x with
    | .Call (.Name g _) [y] [] _ => decide (ofs "range" = g) && globB sc g && nstar y && decide (lev own b ≤ 1) && (match a with | .c (.int 0) => true | _ => false) && chkE B N b own sc fc y
    | .Call (.Name g _) [y, z] [] _ => decide (ofs "range" = g) && globB sc g && nstar y && nstar z && decide (lev own a ≤ 1) && decide (lev own b ≤ 1) && chkE B N a own sc fc y && chkE B N b own sc fc z
    | _ => false
  | .down a b, own, sc, fc, tg, x => match x with
    | .Call (.Name g _) [y, z, .UnaryOp .USub (.Constant (.int 1) _ _) _] [] _ => decide (ofs "range" = g) && globB sc g && nstar y && nstar z && decide (lev own a ≤ 1) && decide (lev own b ≤ 1) && chkE B N a own sc fc y && chkE B N b own sc fc z
    | _ => false
  | .enum e, own, sc, fc, tg, x => match tg, x with
    | .Tuple _ _ _, .Call (.Name g _) [y] [] _ => decide (ofs "enumerate" = g) && globB sc g && nstar y && decide (lev own e = 0) && chkE B N e own sc fc y
    | _, _ => false
  | .zip a b, own, sc, fc, tg, x => match tg, x with
    | .Tuple _ _ _, .Call (.Name g _) [y, z] [] _ => decide (ofs "zip" = g) && globB sc g && nstar y && nstar z && decide (lev own a = 0) && decide (lev own b = 0) && chkE B N a own sc fc y && chkE B N b own sc fc z
    | _, _ => false
  | .rev e, own, sc, fc, tg, x => match x with
    | .Call (.Name g _) [y] [] _ => decide (ofs "reversed" = g) && globB sc g && nstar y && decide (lev own e = 0) && chkE B N e own sc fc y
    | _ => false
end
end RpS
end

section
set_option Elab.async false
set_option linter.all false
set_option maxRecDepth 100000
set_option maxHeartbeats 4000000
/-! RpS15: what the look at an expression gives. -/
namespace RpS
open PySem PySem.Spec PyProof.Rows L2
theorem Cg.mono {T : Tx} {k j : Nat} {sc : Scope} {fc : Str → Bool} {N : List Str} {Xc : Cx} (cg : Cg T k sc fc N Xc) (h : j ≤ k) : Cg T j sc fc N Xc :=
  ⟨cg.prog, cg.w, cg.kk, cg.mg, cg.base, cg.room.mono h, cg.calm, cg.n, cg.nd, cg.fn, cg.sco⟩
theorem Cg.blk {T : Tx} {k : Nat} {sc : Scope} {fc : Str → Bool} {N : List Str} {Xc : Cx} (cg : Cg T k sc fc N Xc) (scope : Scope) (s : Shared) (H : Hp) (C : Addr) (cl : List (Str × Addr)) (fp : List Addr) :
    Cg T k (relS scope sc) (fcOf scope) N (Xc.blk s H scope (compEnvC scope cl C Xc.env) fp) :=
  ⟨cg.prog, cg.w, cg.kk, cg.mg, cg.base, cg.room, cg.calm, cg.n, cg.nd, fun x h => h, by
    show relabel scope Xc.env = relS scope sc
    rw [← cg.sco]; rfl⟩
def isLC : Expr → Bool
  | .ListComp .. => true | .SetComp .. => true | .DictComp .. => true
  | _ => false
structure OkE (X : Gx) (C : Rp.Cl) (N : List Str) (sc : Scope) (own : List Nat) (e : Rp.E) (Xc : Cx) (x : Expr) : Prop where
  d : PE Xc x (tD X C own e)
  t : tstE e = true → PT Xc x (tT X C own e)
  w : ∀ op vs pos, x = .BoolOp op vs pos → PW Xc x (tT X C own e)
  f : frE e = true → PE Xc x (tF X C own e)
  s : isLC x = true → ∀ i y py spos, N[i]? = some y → sc.names.lookup y = some .local → swapsWith x (some (.Name y py)) spos.line Xc.env = pure true →
    (lev own e = 0 → PS Xc (.Assign [.Name y py] x spos) (tAsg (tD X C own e) (gName i))) ∧ (frE e = true → PS Xc (.Assign [.Name y py] x spos) (tAsg (tF X C own e) (gName i)))
theorem tTest_tT {X : Gx} {C : Rp.Cl} {own : List Nat} {e : Rp.E} {σ : L2.St} {H : Hp} {Q : Bool → Hp → Prop} (h : tT X C own e σ H Q) : tB (tD X C own e) σ H Q := by
  obtain ⟨g, env, fps, w, b, w', er, wr, ev, q⟩ := h
  exact ⟨g, env, fps, w, _, w', er, wr, ev, fun v H' g' ex wr' r => ⟨b, r.bl, q H' g' ex wr'⟩⟩
section
variable {T : Tx} {X : Gx} {C : Rp.Cl} {k : Nat} {B : Tb} {N : List Str}
theorem okE_plain {sc : Scope} {own : List Nat} {e : Rp.E} {Xc : Cx} {x : Expr} (d : PE Xc x (tD X C own e)) (f : frE e = true → PE Xc x (tF X C own e)) (he : ∀ whole, isTrue x Xc.env whole = (do let v ← whole; standAt x.pos; holding [v] (truthy v))) (nb : ∀ op vs pos, x ≠ .BoolOp op vs pos) (nl : isLC x = false := by rfl) : OkE X C N sc own e Xc x :=
  ⟨d, fun _ => pt_ofD d he, fun op vs pos h => absurd h (nb op vs pos), f, fun z => by rw [nl] at z; cases z⟩
theorem levs_cons {n : Nat} {own : List Nat} {e : Rp.E} {es : List Rp.E} (h : levs n own (e :: es) = true) : lev own e ≤ n ∧ levs n own es = true := by
  simpa [levs] using h
theorem dc {i : Int} {x : Expr} (h : True) : True := h
mutual
theorem sndE (hk : 40 ≤ k) (kt : Kt T X C k B) : ∀ (e : Rp.E) (own : List Nat) (sc : Scope) (fc : Str → Bool) (x : Expr) (Xc : Cx), Cg T (k + 1) sc fc N Xc → chkE B N e own sc fc x = true → OkE X C N sc own e Xc x
  | .v i, own, sc, fc, x, Xc, cg, h => by
    cases x <;> simp only [chkE, Bool.false_eq_true] at h
    simp only [Bool.and_eq_true, decide_eq_true_eq] at h
    obtain ⟨h1, h2⟩ := nd_of h.2
    exact okE_plain (pd_var cg h.1.1 (vis_of h.1.2) h1 h2) (fun z => by cases z) (fun _ => rfl) (fun _ _ _ z => by cases z)
  | .c d, own, sc, fc, x, Xc, cg, h => by
    simp only [chkE] at h
    unfold chkC at h
    split at h
    · exact okE_plain (pd_con pe_non fun g H => .non) (fun z => by cases z) (fun _ => rfl) (fun _ _ _ z => by cases z)
    · simp only [decide_eq_true_eq] at h
      subst h
      exact okE_plain (pd_con pe_bl fun g H => .bl _) (fun z => by cases z) (fun _ => rfl) (fun _ _ _ z => by cases z)
    · simp only [decide_eq_true_eq] at h
      subst h
      exact okE_plain (pd_con pe_int fun g H => .int _) (fun z => by cases z) (fun _ => rfl) (fun _ _ _ z => by cases z)
    · simp only [Bool.and_eq_true, List.any_eq_true, decide_eq_true_eq] at h
      obtain ⟨⟨⟨p, hp, h1, h2⟩, h3⟩, h4⟩ := h
      obtain ⟨t, ht⟩ := kt.con p hp
      subst h1 h2
      exact okE_plain (pd_con (pe_glob (v := .int p.2) (cg.gl (glob_of h3)) (by rw [cg.mg]; exact ht) ⟨t, rfl⟩ (nd_of h4).1) fun g H => .int _) (fun z => by cases z) (fun _ => rfl) (fun _ _ _ z => by cases z)
    · simp only [decide_eq_true_eq] at h
      subst h
      exact okE_plain (pd_con pe_str fun g H => .str _) (fun z => by cases z) (fun _ => rfl) (fun _ _ _ z => by cases z)
    · cases h
  | .tup es, own, sc, fc, x, Xc, cg, h => by
    cases x <;> simp only [chkE, Bool.false_eq_true] at h
    simp only [Bool.and_eq_true, decide_eq_true_eq] at h
    exact okE_plain (pd_tup (sndEs hk kt es own sc fc _ Xc 0 cg h.1.1 h.2) h.1.2) (fun z => by cases z) (fun _ => rfl) (fun _ _ _ z => by cases z)
  | .lst es, own, sc, fc, x, Xc, cg, h => by
    cases x <;> simp only [chkE, Bool.false_eq_true] at h
    simp only [Bool.and_eq_true, decide_eq_true_eq] at h
    have ha := sndEs hk kt es own sc fc _ Xc 0 cg h.1.1 h.2
    exact okE_plain (pd_lst ha h.1.2) (fun _ => pf_lst ha h.1.2) (fun _ => rfl) (fun _ _ _ z => by cases z)
  | .bin o a b, own, sc, fc, x, Xc, cg, h => by
    cases x <;> simp only [chkE, Bool.false_eq_true] at h
    simp only [Bool.and_eq_true, decide_eq_true_eq] at h
    obtain ⟨⟨⟨⟨rfl, h1⟩, h2⟩, h3⟩, h4⟩ := h
    have ha := (sndE hk kt a own sc fc _ Xc cg h3).d
    have hb := (sndE hk kt b own sc fc _ Xc cg h4).d
    exact okE_plain (pd_bin ha hb h1 h2) (fun _ => pf_bin ha hb h1 h2) (fun _ => rfl) (fun _ _ _ z => by cases z)
  | .neg a, own, sc, fc, x, Xc, cg, h => by
    unfold chkE at h
    split at h
    · simp only [Bool.and_eq_true, decide_eq_true_eq] at h
      exact okE_plain (pd_neg (sndE hk kt a own sc fc _ Xc cg h.2).d h.1) (fun z => by cases z) (fun _ => rfl) (fun _ _ _ z => by cases z)
    · cases h
  | .cmp o a b, own, sc, fc, x, Xc, cg, h => by
    unfold chkE at h
    split at h
    · simp only [Bool.and_eq_true, decide_eq_true_eq, Bool.not_eq_true'] at h
      obtain ⟨⟨⟨⟨⟨rfl, h1⟩, h2⟩, h3⟩, h4⟩, h5⟩ := h
      have ha := (sndE hk kt a own sc fc _ Xc cg h4).d
      have hb := (sndE hk kt b own sc fc _ Xc cg h5).d
      exact ⟨pd_cmp cg (by omega) ha hb h1 h2 h3, fun _ => pt_cmpD cg (by omega) ha hb h1 h2 h3, (fun _ _ _ z => by cases z), (fun z => by cases z), (fun z => by cases z)⟩
    · cases h
  | .chain o p a b c, own, sc, fc, x, Xc, cg, h => by
    unfold chkE at h
    split at h
    · simp only [Bool.and_eq_true, decide_eq_true_eq, Bool.not_eq_true'] at h
      obtain ⟨⟨⟨⟨⟨⟨⟨⟨rfl, rfl⟩, h1⟩, h2⟩, h3⟩, h4⟩, h5⟩, h6⟩, h7⟩ := h
      have ha := (sndE hk kt a own sc fc _ Xc cg h5).d
      have hb := (sndE hk kt b own sc fc _ Xc cg h6).d
      have hc := (sndE hk kt c own sc fc _ Xc cg h7).d
      exact ⟨pd_chain cg (by omega) ha hb hc h1 h2 h3 h4, fun _ => pt_chainD cg (by omega) ha hb hc h1 h2 h3 h4, (fun _ _ _ z => by cases z), (fun z => by cases z), (fun z => by cases z)⟩
    · cases h
  | .and a b, own, sc, fc, x, Xc, cg, h => by
    unfold chkE at h
    split at h
    · rename_i y z r pos
      simp only [Bool.and_eq_true, decide_eq_true_eq] at h
      obtain ⟨⟨⟨⟨t1, t2⟩, h1⟩, h2⟩, h3⟩ := h
      have ha := sndE hk kt a own sc fc _ Xc cg h2
      have hb := sndE hk kt b own sc fc _ Xc cg h3
      have hd : PE Xc (.BoolOp .And (z :: r) pos) (tD X C own b) ∧ PW Xc (.BoolOp .And (z :: r) pos) (tT X C own b) := by
        cases r with
        | nil => exact ⟨pe_one hb.d, pw_and1 (hb.t t2)⟩
        | cons r rs => exact ⟨hb.d, hb.w _ _ _ rfl⟩
      have hw := pt_andD (ha.t t1) hd.2
      exact ⟨pd_and ha.d hd.1 h1, fun _ => hw.pt, fun _ _ _ _ => hw, (fun z => by cases z), (fun z => by cases z)⟩
    · cases h
  | .or a b, own, sc, fc, x, Xc, cg, h => by
    unfold chkE at h
    split at h
    · rename_i y z r pos
      simp only [Bool.and_eq_true, decide_eq_true_eq] at h
      obtain ⟨⟨⟨⟨t1, t2⟩, h1⟩, h2⟩, h3⟩ := h
      have ha := sndE hk kt a own sc fc _ Xc cg h2
      have hb := sndE hk kt b own sc fc _ Xc cg h3
      have hd : PE Xc (.BoolOp .Or (z :: r) pos) (tD X C own b) ∧ PW Xc (.BoolOp .Or (z :: r) pos) (tT X C own b) := by
        cases r with
        | nil => exact ⟨pe_one hb.d, pw_or1 (hb.t t2)⟩
        | cons r rs => exact ⟨hb.d, hb.w _ _ _ rfl⟩
      have hw := pt_orD (ha.t t1) hd.2
      exact ⟨pd_or ha.d hd.1 h1, fun _ => hw.pt, fun _ _ _ _ => hw, (fun z => by cases z), (fun z => by cases z)⟩
    · cases h
  | .not a, own, sc, fc, x, Xc, cg, h => by
    unfold chkE at h
    split at h
    · simp only [Bool.and_eq_true, decide_eq_true_eq] at h
      have ha := sndE hk kt a own sc fc _ Xc cg h.2
      exact ⟨pd_not ha.d, fun _ => pt_notD (ha.t h.1), (fun _ _ _ z => by cases z), (fun z => by cases z), (fun z => by cases z)⟩
    · cases h
  | .ite c a b, own, sc, fc, x, Xc, cg, h => by
    unfold chkE at h
    split at h
    · simp only [Bool.and_eq_true, decide_eq_true_eq] at h
      obtain ⟨⟨⟨⟨⟨t1, h1⟩, h2⟩, h3⟩, h4⟩, h5⟩ := h
      exact ⟨pd_ite ((sndE hk kt c own sc fc _ Xc cg h3).t t1) (sndE hk kt a own sc fc _ Xc cg h4).d (sndE hk kt b own sc fc _ Xc cg h5).d h1 h2, (fun z => by cases z), (fun _ _ _ z => by cases z), (fun z => by cases z), (fun z => by cases z)⟩
    · cases h
  | .ix a b, own, sc, fc, x, Xc, cg, h => by
    unfold chkE at h
    split at h
    · simp only [Bool.and_eq_true, decide_eq_true_eq] at h
      obtain ⟨⟨⟨h1, h2⟩, h3⟩, h4⟩ := h
      exact okE_plain (pd_ix cg (by omega) (sndE hk kt a own sc fc _ Xc cg h3).d (sndE hk kt b own sc fc _ Xc cg h4).d h2 (plainIx h1)) (fun z => by cases z) (fun _ => rfl) (fun _ _ _ z => by cases z)
    · cases h
  | .sl a l r, own, sc, fc, x, Xc, cg, h => by
    unfold chkE at h
    split at h
    · simp only [Bool.and_eq_true, decide_eq_true_eq] at h
      obtain ⟨⟨⟨h1, h2⟩, h3⟩, h4⟩ := h
      have ha := (sndE hk kt a own sc fc _ Xc cg h2).d
      have hl := sndO hk kt l own sc fc _ Xc cg h3
      have hr := sndO hk kt r own sc fc _ Xc cg h4
      exact okE_plain (pd_sl ha h1 hl hr) (fun _ => pf_sl ha h1 hl hr) (fun _ => rfl) (fun _ _ _ z => by cases z)
    · cases h
  | .fld a f, own, sc, fc, x, Xc, cg, h => by
    unfold chkE at h
    split at h
    · simp only [Bool.and_eq_true, decide_eq_true_eq] at h
      obtain ⟨⟨⟨h1, rfl⟩, h3⟩, h4⟩ := h
      exact okE_plain (pd_fld (cg.mono (Nat.le_succ k)) kt (sndE hk kt a own sc fc _ Xc cg h4).d (by simpa using h1) h3) (fun z => by cases z) (fun _ => rfl) (fun _ _ _ z => by cases z)
    · cases h
  | .call f es, own, sc, fc, x, Xc, cg, h => by
    unfold chkE at h
    split at h
    · rename_i g p xs pos
      simp only [Bool.and_eq_true, decide_eq_true_eq, Bool.or_eq_true, Bool.not_eq_true'] at h
      obtain ⟨⟨⟨⟨⟨⟨rfl, h1⟩, h2⟩, h3⟩, h4⟩, h5⟩, h6⟩ := h
      have ha := sndEs hk kt es own sc fc _ Xc 0 cg h4 h6
      have hd : PE Xc (.Call (.Name (ofs f) p) xs [] pos) (tD X C own (.call f es)) := by
        rcases h5 with h5 | ⟨h5, h7⟩
        · cases xs with
          | nil =>
            cases es with
            | nil => exact pd_call0 (cg.mono (Nat.le_succ k)) kt (by simpa using h5) (glob_of h1) (nd_of h2).1
            | cons e es => simp [chkEs] at h6
          | cons y ys => exact pd_call (cg.mono (Nat.le_succ k)) kt (by simpa using h5) (glob_of h1) (nd_of h2).1 ha h3
        · cases xs with
          | nil => cases h7
          | cons y ys => exact pd_make cg kt (by simpa using h5) (glob_of h1) (nd_of h2).1 ha h3
      exact okE_plain hd (fun z => by cases z) (fun _ => rfl) (fun _ _ _ z => by cases z)
    · cases h
  | .bi b es, own, sc, fc, x, Xc, cg, h => by
    unfold chkE at h
    split at h
    · rename_i g p xs pos
      simp only [Bool.and_eq_true, decide_eq_true_eq, Bool.not_eq_true'] at h
      obtain ⟨⟨⟨⟨⟨h0, h1⟩, h3⟩, h7⟩, h4⟩, h6⟩ := h
      have ha := sndEs hk kt es own sc fc _ Xc 1 cg h4 h6
      cases xs with
      | nil => cases h7
      | cons y ys =>
        cases hb : biN b with
        | some n =>
          rw [hb] at h0
          simp only [decide_eq_true_eq] at h0
          subst h0
          exact okE_plain (pd_bi (cg.mono (Nat.le_succ k)) kt hb (glob_of h1) ha h3) (fun _ => pf_bi (cg.mono (Nat.le_succ k)) kt hb (glob_of h1) ha h3) (fun _ => rfl) (fun _ _ _ z => by cases z)
        | none =>
          rw [hb] at h0
          simp only [Bool.and_eq_true, decide_eq_true_eq] at h0
          obtain ⟨⟨rfl, rfl⟩, h8⟩ := h0
          exact okE_plain (pd_gcd (cg.mono (Nat.le_succ k)) kt (by simpa using h8) (glob_of h1) ha h3) (fun z => by cases z) (fun _ => rfl) (fun _ _ _ z => by cases z)
    · cases h
  | .isi a ty, own, sc, fc, x, Xc, cg, h => by
    unfold chkE at h
    split at h
    · rename_i g p y t p2 pos
      simp only [Bool.and_eq_true, decide_eq_true_eq] at h
      obtain ⟨⟨⟨⟨⟨⟨⟨rfl, h1⟩, h2⟩, h3⟩, h4⟩, h5⟩, h6⟩, h7⟩ := h
      have ha := (sndE hk kt a own sc fc _ Xc cg h7).d
      have hd : PE Xc (.Call (.Name (ofs "isinstance") p) [y, .Name t p2] [] pos) (tD X C own (.isi a ty)) := by
        split at h6
        · simp only [Bool.and_eq_true, decide_eq_true_eq] at h6
          obtain ⟨rfl, h6⟩ := h6
          exact pd_isiC (cg.mono (Nat.le_succ k)) kt (by simpa using h6) (glob_of h1) (glob_of h2) (nd_of h3).1 ha h5 h4
        · split at h6
          · rename_i s hs
            simp only [decide_eq_true_eq] at h6
            subst h6
            exact pd_isiB (cg.mono (Nat.le_succ k)) kt hs (glob_of h1) (glob_of h2) ha h5 h4
          · cases h6
      exact okE_plain hd (fun z => by cases z) (fun _ => rfl) (fun _ _ _ z => by cases z)
    · cases h
  | .comp p it e, own, sc, fc, x, Xc, cg, h => by
    unfold chkE at h
    split at h
    · rename_i elt tg iter scope pos
      simp only [Bool.and_eq_true, decide_eq_true_eq] at h
      obtain ⟨⟨⟨⟨⟨h1, h2⟩, h3⟩, h4⟩, h5⟩, h6⟩ := h
      have hi := sndI hk kt it own sc fc tg iter Xc cg h5
      have ok := blkOk_by h3
      rw [← cg.n, ← cg.sco] at ok
      have key := pe_lc (g := tPat Xc.K p) (pos := pos) cg.calm (by rw [cg.n]; exact cg.nd) hi ok
        (fun s H C0 cl fp => pg_pat (cg.blk scope s H C0 cl fp) h4) (fun s H C0 cl fp => pts_nil)
        (fun s H C0 cl fp => (sndE hk kt e _ _ _ elt _ (cg.blk scope s H C0 cl fp) h6).d) (fold_ok h1 _)
      rw [cg.n, slots_snd] at key
      have key2 := fun (i : Nat) (y : Str) (py spos : Pos) (e1 : N[i]? = some y) (e2 : sc.names.lookup y = some .local) (e3 : swapsWith _ (some (.Name y py)) spos.line Xc.env = pure true) => ps_setLc (i := i) (g := tPat Xc.K p) (pos := pos) cg.calm (by rw [cg.n]; exact cg.nd) (by rw [cg.n]; exact e1) (by rw [cg.sco]; exact e2) e3 hi ok
        (fun s H C0 cl fp => pg_pat (cg.blk scope s H C0 cl fp) h4) (fun s H C0 cl fp => pts_nil)
        (fun s H C0 cl fp => (sndE hk kt e _ _ _ elt _ (cg.blk scope s H C0 cl fp) h6).d) (fold_ok h1 _)
      simp only [cg.n, slots_snd] at key2
      refine ⟨key.imp fun σ H Q hq => qlc h2 (q_frz hq rfl), fun _ => pt_ofD (key.imp fun σ H Q hq => qlc h2 (q_frz hq rfl)) (fun _ => rfl), (fun _ _ _ z => by cases z), fun _ => key.imp fun σ H Q hq => qlc h2 (q_own hq), fun _ i y py spos e1 e2 e3 => ⟨fun _ => (key2 i y py spos e1 e2 e3).imp fun D σ H hq => qlc h2 (q_frz hq rfl), fun _ => (key2 i y py spos e1 e2 e3).imp fun D σ H hq => qlc h2 (q_own hq)⟩⟩
    · cases h
  | .compIf p it c e, own, sc, fc, x, Xc, cg, h => by
    unfold chkE at h
    split at h
    · rename_i elt tg iter cnd scope pos
      simp only [Bool.and_eq_true, decide_eq_true_eq] at h
      obtain ⟨⟨⟨⟨⟨⟨⟨h1, t1⟩, h2⟩, h3⟩, h4⟩, h5⟩, h7⟩, h6⟩ := h
      have hi := sndI hk kt it own sc fc tg iter Xc cg h5
      have ok := blkOk_by h3
      rw [← cg.n, ← cg.sco] at ok
      have key := pe_lc (g := tPat Xc.K p) (pos := pos) cg.calm (by rw [cg.n]; exact cg.nd) hi ok
        (fun s H C0 cl fp => pg_pat (cg.blk scope s H C0 cl fp) h4) (fun s H C0 cl fp => pts_one ((sndE hk kt c _ _ _ cnd _ (cg.blk scope s H C0 cl fp) h7).t t1))
        (fun s H C0 cl fp => (sndE hk kt e _ _ _ elt _ (cg.blk scope s H C0 cl fp) h6).d) (fold_ok h1 _)
      rw [cg.n, slots_snd] at key
      have key2 := fun (i : Nat) (y : Str) (py spos : Pos) (e1 : N[i]? = some y) (e2 : sc.names.lookup y = some .local) (e3 : swapsWith _ (some (.Name y py)) spos.line Xc.env = pure true) => ps_setLc (i := i) (g := tPat Xc.K p) (pos := pos) cg.calm (by rw [cg.n]; exact cg.nd) (by rw [cg.n]; exact e1) (by rw [cg.sco]; exact e2) e3 hi ok
        (fun s H C0 cl fp => pg_pat (cg.blk scope s H C0 cl fp) h4) (fun s H C0 cl fp => pts_one ((sndE hk kt c _ _ _ cnd _ (cg.blk scope s H C0 cl fp) h7).t t1))
        (fun s H C0 cl fp => (sndE hk kt e _ _ _ elt _ (cg.blk scope s H C0 cl fp) h6).d) (fold_ok h1 _)
      simp only [cg.n, slots_snd] at key2
      refine ⟨key.imp fun σ H Q hq => qlcIf h2 (q_frz hq rfl), fun _ => pt_ofD (key.imp fun σ H Q hq => qlcIf h2 (q_frz hq rfl)) (fun _ => rfl), (fun _ _ _ z => by cases z), fun _ => key.imp fun σ H Q hq => qlcIf h2 (q_own hq), fun _ i y py spos e1 e2 e3 => ⟨fun _ => (key2 i y py spos e1 e2 e3).imp fun D σ H hq => qlcIf h2 (q_frz hq rfl), fun _ => (key2 i y py spos e1 e2 e3).imp fun D σ H hq => qlcIf h2 (q_own hq)⟩⟩
    · cases h
  | .comp2 p it q jt e, own, sc, fc, x, Xc, cg, h => by
    unfold chkE at h
    split at h
    · rename_i elt tg iter tg1 iter1 scope pos
      simp only [Bool.and_eq_true, decide_eq_true_eq] at h
      obtain ⟨⟨⟨⟨⟨⟨⟨⟨h1, h1b⟩, h2⟩, h3⟩, h4⟩, h4b⟩, h5⟩, h5b⟩, h6⟩ := h
      have hi := sndI hk kt it own sc fc tg iter Xc cg h5
      have ok := blkOk_by h3
      rw [← cg.n, ← cg.sco] at ok
      have key := pe_lc2 (g := tPat Xc.K p) (g1 := tPat Xc.K q) (vs1 := q.is) (pos := pos) cg.calm (by rw [cg.n]; exact cg.nd) hi ok (by rw [cg.n, slots_snd]; exact fun i hi => List.mem_append.mpr (.inr hi))
        (fun s H C0 cl fp => pg_pat (cg.blk scope s H C0 cl fp) h4) (fun s H C0 cl fp => pts_nil)
        (fun s H C0 cl fp => sndI hk kt jt _ _ _ tg1 iter1 _ (cg.blk scope s H C0 cl fp) h5b)
        (fun s H C0 cl fp => pg_pat (cg.blk scope s H C0 cl fp) h4b) (fun s H C0 cl fp => pts_nil)
        (fun s H C0 cl fp => (sndE hk kt e _ _ _ elt _ (cg.blk scope s H C0 cl fp) h6).d) (fold_ok h1 _) (fold_ok h1b)
      rw [cg.n, slots_snd] at key
      have key2 := fun (i : Nat) (y : Str) (py spos : Pos) (e1 : N[i]? = some y) (e2 : sc.names.lookup y = some .local) (e3 : swapsWith _ (some (.Name y py)) spos.line Xc.env = pure true) => ps_setLc2 (i := i) (g := tPat Xc.K p) (g1 := tPat Xc.K q) (vs1 := q.is) (pos := pos) cg.calm (by rw [cg.n]; exact cg.nd) (by rw [cg.n]; exact e1) (by rw [cg.sco]; exact e2) e3 hi ok (by rw [cg.n, slots_snd]; exact fun i hi => List.mem_append.mpr (.inr hi))
        (fun s H C0 cl fp => pg_pat (cg.blk scope s H C0 cl fp) h4) (fun s H C0 cl fp => pts_nil)
        (fun s H C0 cl fp => sndI hk kt jt _ _ _ tg1 iter1 _ (cg.blk scope s H C0 cl fp) h5b)
        (fun s H C0 cl fp => pg_pat (cg.blk scope s H C0 cl fp) h4b) (fun s H C0 cl fp => pts_nil)
        (fun s H C0 cl fp => (sndE hk kt e _ _ _ elt _ (cg.blk scope s H C0 cl fp) h6).d) (fold_ok h1 _) (fold_ok h1b)
      simp only [cg.n, slots_snd] at key2
      refine ⟨key.imp fun σ H Q hq => qlc2 h2 (q_frz hq rfl), fun _ => pt_ofD (key.imp fun σ H Q hq => qlc2 h2 (q_frz hq rfl)) (fun _ => rfl), (fun _ _ _ z => by cases z), fun _ => key.imp fun σ H Q hq => qlc2 h2 (q_own hq), fun _ i y py spos e1 e2 e3 => ⟨fun _ => (key2 i y py spos e1 e2 e3).imp fun D σ H hq => qlc2 h2 (q_frz hq rfl), fun _ => (key2 i y py spos e1 e2 e3).imp fun D σ H hq => qlc2 h2 (q_own hq)⟩⟩
    · cases h
  | .dic a b, own, sc, fc, x, Xc, cg, h => by
    unfold chkE at h
    split at h
    · simp only [Bool.and_eq_true, decide_eq_true_eq] at h
      obtain ⟨⟨⟨h1, h2⟩, h3⟩, h4⟩ := h
      have ha := (sndE hk kt a own sc fc _ Xc cg h3).d
      have hb := (sndE hk kt b own sc fc _ Xc cg h4).d
      exact okE_plain (pd_dic ha hb h1 h2 fun _ _ _ hq => q_frz hq rfl) (fun _ => pd_dic ha hb h1 h2 fun _ _ _ hq => q_own hq) (fun _ => rfl) (fun _ _ _ z => by cases z)
    · cases h
  | .dic0, own, sc, fc, x, Xc, cg, h => by
    unfold chkE at h
    split at h
    · exact okE_plain (pd_dic0 fun _ _ _ hq => q_frz hq rfl) (fun _ => pd_dic0 fun _ _ _ hq => q_own hq) (fun _ => rfl) (fun _ _ _ z => by cases z)
    · cases h
  | .star1 a b, own, sc, fc, x, Xc, cg, h => by
    unfold chkE at h
    split at h
    · simp only [Bool.and_eq_true, decide_eq_true_eq] at h
      obtain ⟨⟨⟨h1, h2⟩, h3⟩, h4⟩ := h
      exact okE_plain (pd_star1 (sndE hk kt a own sc fc _ Xc cg h3).d (sndE hk kt b own sc fc _ Xc cg h4).d h2 h1) (fun z => by cases z) (fun _ => rfl) (fun _ _ _ z => by cases z)
    · cases h
  | .stg i z, own, sc, fc, x, Xc, cg, h => by
    unfold chkE at h
    split at h
    · simp only [Bool.and_eq_true, decide_eq_true_eq] at h
      obtain ⟨⟨⟨h1, h2⟩, h3⟩, rfl⟩ := h
      exact okE_plain (pd_stg cg h1 (vis_of h2) (nd_of h3).1 (nd_of h3).2) (fun z => by cases z) (fun _ => rfl) (fun _ _ _ z => by cases z)
    · cases h
  | .gne i, own, sc, fc, x, Xc, cg, h => by
    unfold chkE at h
    split at h
    · simp only [Bool.and_eq_true, decide_eq_true_eq] at h
      obtain ⟨⟨⟨h1, h2⟩, h3⟩, rfl⟩ := h
      exact ⟨pd_gne cg (by omega) h1 (vis_of h2) (nd_of h3).1 (nd_of h3).2, fun _ => pt_gne cg (by omega) h1 (vis_of h2) (nd_of h3).1 (nd_of h3).2, (fun _ _ _ z => by cases z), (fun z => by cases z), (fun z => by cases z)⟩
    · cases h
  | .gpop i, own, sc, fc, x, Xc, cg, h => by
    unfold chkE at h
    split at h
    · simp only [Bool.and_eq_true, decide_eq_true_eq] at h
      obtain ⟨⟨⟨⟨⟨h1, h2⟩, h3⟩, rfl⟩, rfl⟩, h4⟩ := h
      exact okE_plain (pd_gpop cg h1 (vis_of h2) (nd_of h3).1 (nd_of h3).2 h4) (fun z => by cases z) (fun _ => rfl) (fun _ _ _ z => by cases z)
    · cases h
  | .rsl a, own, sc, fc, x, Xc, cg, h => by
    unfold chkE at h
    split at h
    · simp only [Bool.and_eq_true, decide_eq_true_eq] at h
      obtain ⟨h1, h2⟩ := h
      have ha := (sndE hk kt a own sc fc _ Xc cg h2).d
      exact okE_plain (pd_rsl ha h1) (fun _ => pf_rsl ha h1) (fun _ => rfl) (fun _ _ _ z => by cases z)
    · cases h
  | .idx a b, own, sc, fc, x, Xc, cg, h => by
    unfold chkE at h
    split at h
    · simp only [Bool.and_eq_true, decide_eq_true_eq] at h
      obtain ⟨⟨⟨⟨⟨⟨⟨rfl, h1⟩, h2⟩, h3⟩, h4⟩, h5⟩, h6⟩, h7⟩ := h
      exact okE_plain (pd_idx cg (by omega) (sndE hk kt a own sc fc _ Xc cg h6).d h4 (sndE hk kt b own sc fc _ Xc cg h7).d h5 h2 h3 h1) (fun z => by cases z) (fun _ => rfl) (fun _ _ _ z => by cases z)
    · cases h
  | .maxK f a, own, sc, fc, x, Xc, cg, h => by
    unfold chkE at h
    split at h
    · simp only [Bool.and_eq_true, decide_eq_true_eq, List.contains_iff_mem] at h
      obtain ⟨⟨⟨⟨⟨⟨⟨⟨⟨rfl, rfl⟩, rfl⟩, h1⟩, h2⟩, h3⟩, h4⟩, h5⟩, h6⟩, h7⟩ := h
      exact okE_plain (pd_maxK cg kt h5 (glob_of h1) (glob_of h2) (nd_of h3).1 h4 (sndE hk kt a own sc fc _ Xc cg h7).d h6) (fun z => by cases z) (fun _ => rfl) (fun _ _ _ z => by cases z)
    · cases h
theorem sndEs (hk : 40 ≤ k) (kt : Kt T X C k B) : ∀ (es : List Rp.E) (own : List Nat) (sc : Scope) (fc : Str → Bool) (xs : List Expr) (Xc : Cx) (n : Nat), Cg T (k + 1) sc fc N Xc → levs n own es = true → chkEs B N es own sc fc xs = true → PA Xc xs (tA X C own n es)
  | [], own, sc, fc, xs, Xc, n, cg, hl, h => by
    cases xs with
    | nil => exact pa_nilD
    | cons x xs => simp [chkEs] at h
  | e :: es, own, sc, fc, xs, Xc, n, cg, hl, h => by
    cases xs with
    | nil => simp [chkEs] at h
    | cons x xs =>
      simp only [chkEs, Bool.and_eq_true] at h
      obtain ⟨h1, h2⟩ := levs_cons hl
      exact pa_consD (sndE hk kt e own sc fc x Xc cg h.1.2).d h1 (sndEs hk kt es own sc fc xs Xc n cg h2 h.2) h.1.1
theorem sndO (hk : 40 ≤ k) (kt : Kt T X C k B) : ∀ (o : Option Rp.E) (own : List Nat) (sc : Scope) (fc : Str → Bool) (x : Option Expr) (Xc : Cx), Cg T (k + 1) sc fc N Xc → chkO B N o own sc fc x = true → PO Xc x (tI X C own o)
  | none, own, sc, fc, x, Xc, cg, h => by
    cases x with
    | none => exact po_of (o := none) True.intro
    | some x => simp [chkO] at h
  | some e, own, sc, fc, x, Xc, cg, h => by
    cases x with
    | none => simp [chkO] at h
    | some x => exact po_of (o := some e) (sndE hk kt e own sc fc x Xc cg (by simpa [chkO] using h)).d
theorem sndI (hk : 40 ≤ k) (kt : Kt T X C k B) : ∀ (it : Rp.It) (own : List Nat) (sc : Scope) (fc : Str → Bool) (tg x : Expr) (Xc : Cx), Cg T (k + 1) sc fc N Xc → chkI B N it own sc fc tg x = true → PI Xc tg x (tIt X C own it)
  | .seq e, own, sc, fc, tg, x, Xc, cg, h => by
    simp only [chkI, Bool.and_eq_true, decide_eq_true_eq] at h
    exact pi_seqD (by rw [cg.kk]; exact kt.kl) (sndE hk kt e own sc fc x Xc cg h.2).d h.1
  | .range a b, own, sc, fc, tg, x, Xc, cg, h => by
    unfold chkI at h
    split at h
    · simp only [Bool.and_eq_true, decide_eq_true_eq] at h
      obtain ⟨⟨⟨⟨⟨rfl, h1⟩, h2⟩, h3⟩, h4⟩, h5⟩ := h
      split at h4
      · exact pi_range1D (cg.mono (Nat.le_succ k)) kt (glob_of h1) (pa_consD (sndE hk kt b own sc fc _ Xc cg h5).d h3 pa_nilD h2) h2
      · cases h4
    · simp only [Bool.and_eq_true, decide_eq_true_eq] at h
      obtain ⟨⟨⟨⟨⟨⟨⟨rfl, h1⟩, h2⟩, h3⟩, h4⟩, h5⟩, h6⟩, h7⟩ := h
      exact pi_range2D (cg.mono (Nat.le_succ k)) kt (glob_of h1) (pa_consD (sndE hk kt a own sc fc _ Xc cg h6).d h4 (pa_consD (sndE hk kt b own sc fc _ Xc cg h7).d h5 pa_nilD h3) h2) h2 h3
    · cases h
  | .down a b, own, sc, fc, tg, x, Xc, cg, h => by
    unfold chkI at h
    split at h
    · simp only [Bool.and_eq_true, decide_eq_true_eq] at h
      obtain ⟨⟨⟨⟨⟨⟨⟨rfl, h1⟩, h2⟩, h3⟩, h4⟩, h5⟩, h6⟩, h7⟩ := h
      exact pi_downD (cg.mono (Nat.le_succ k)) kt (glob_of h1) (pa_consD (sndE hk kt a own sc fc _ Xc cg h6).d h4 (pa_consD (sndE hk kt b own sc fc _ Xc cg h7).d h5 (pa_consD (pd_neg (pd_con pe_int fun g H => .int _) (Nat.zero_le _)) (Nat.zero_le _) pa_nilD rfl) h3) h2) h2 (by rw [List.all_cons, h3]; rfl)
    · cases h
  | .enum e, own, sc, fc, tg, x, Xc, cg, h => by
    unfold chkI at h
    split at h
    · simp only [Bool.and_eq_true, decide_eq_true_eq] at h
      obtain ⟨⟨⟨⟨rfl, h1⟩, h2⟩, h3⟩, h4⟩ := h
      exact pi_enumD (cg.mono (Nat.le_succ k)) kt (glob_of h1) (pa_consD (sndE hk kt e own sc fc _ Xc cg h4).d (by omega) pa_nilD h2) h2
    · cases h
  | .zip a b, own, sc, fc, tg, x, Xc, cg, h => by
    unfold chkI at h
    split at h
    · simp only [Bool.and_eq_true, decide_eq_true_eq] at h
      obtain ⟨⟨⟨⟨⟨⟨⟨rfl, h1⟩, h2⟩, h3⟩, h4⟩, h5⟩, h6⟩, h7⟩ := h
      exact pi_zipD (cg.mono (Nat.le_succ k)) kt (glob_of h1) (pa_consD (sndE hk kt a own sc fc _ Xc cg h6).d (by omega) (pa_consD (sndE hk kt b own sc fc _ Xc cg h7).d (by omega) pa_nilD h3) h2) h2 (by simp [h3])
    · cases h
  | .rev e, own, sc, fc, tg, x, Xc, cg, h => by
    unfold chkI at h
    split at h
    · simp only [Bool.and_eq_true, decide_eq_true_eq] at h
      obtain ⟨⟨⟨⟨rfl, h1⟩, h2⟩, h3⟩, h4⟩ := h
      exact pi_revD (cg.mono (Nat.le_succ k)) kt (glob_of h1) (sndE hk kt e own sc fc _ Xc cg h4).d (by omega) h2
    · cases h
end
end
end RpS
end

section
set_option Elab.async false
set_option linter.all false
set_option maxRecDepth 100000
set_option maxHeartbeats 4000000
/-! RpS16: statements over plain data: what each form needs. -/
namespace RpS
open PySem PySem.Spec PyProof.Rows L2
structure SI (X : Gx) (g0 : Gh) (H0 : Hp) (own : List Nat) (g : Gh) (H : Hp) (σ : L2.St) (env : Rp.Env) (fps : Fps) (w : Rp.W) : Prop where
  er : ER X own g H σ env fps
  wr : WR g H w
  ext : Ext g0 H0 g H
  fr : ∀ i a, a ∈ fps i → H0 a = none
  me : ∀ v, g0.me = some v → σ[0]? = some (some v)
/-- what stands behind a statement -/
def Aft (X : Gx) (g0 : Gh) (H0 : Hp) (on : Option (List Nat)) (lo : List Nat) (g : Gh) (H : Hp) (fl : Rp.Fl) (w : Rp.W) (D : Ends) : Prop := match fl with
  | .next env => match on with
    | some o => ∀ σ' H' g' fps, Fm g H g' H' → SI X g0 H0 o g' H' σ' env fps w → D.nx σ' H'
    | none => True
  | .ret d => ∀ v H' g', Ext g0 H0 g' H' → WR g' H' w → Rp X g' H' v d → D.rt v H'
  | .brk env => ∀ σ' H' g' fps, Fm g H g' H' → SI X g0 H0 lo g' H' σ' env fps w → D.bk σ' H'
  | .cont env => ∀ σ' H' g' fps, Fm g H g' H' → SI X g0 H0 lo g' H' σ' env fps w → D.ct σ' H'
def tS (X : Gx) (g0 : Gh) (H0 : Hp) (own : List Nat) (on : Option (List Nat)) (lo : List Nat) (r : Rp.Env → Rp.W → Rp.R Rp.Fl) : TS := fun D σ H => ∃ g env fps w fl w', SI X g0 H0 own g H σ env fps w ∧ r env w = .ok fl w' ∧ Aft X g0 H0 on lo g H fl w' D
/-- a context of a def's body -/
structure Cs (T : Tx) (k : Nat) (sc : Scope) (N : List Str) (Xc : Cx) : Prop where
  cg : Cg T (k + 1) sc (fun _ => true) N Xc
  kind : sc.kind = .function
  xe : Xc.xe = fun _ _ => False
theorem thenS_ok {r : Rp.R Rp.Fl} {f : Rp.Env → Rp.W → Rp.R Rp.Fl} {fl : Rp.Fl} {w' : Rp.W} (h : Rp.thenS r f = .ok fl w') : ∃ fl1 w1, r = .ok fl1 w1 ∧ ((∃ env, fl1 = .next env ∧ f env w1 = .ok fl w') ∨ ((∀ env, fl1 ≠ .next env) ∧ fl = fl1 ∧ w' = w1)) := by
  cases r with
  | ok fl1 w1 =>
    refine ⟨fl1, w1, rfl, ?_⟩
    cases fl1 with
    | next env => exact .inl ⟨env, rfl, h⟩
    | ret d => simp only [Rp.thenS_ret, Rp.R.ok.injEq] at h; exact .inr ⟨fun _ z => by (cases z), h.1.symm, h.2.symm⟩
    | brk env => simp only [Rp.thenS_brk, Rp.R.ok.injEq] at h; exact .inr ⟨fun _ z => by (cases z), h.1.symm, h.2.symm⟩
    | cont env => simp only [Rp.thenS_cont, Rp.R.ok.injEq] at h; exact .inr ⟨fun _ z => by (cases z), h.1.symm, h.2.symm⟩
  | ex c p w => cases h
  | no => cases h
section
variable {T : Tx} {X : Gx} {C : Rp.Cl} {k : Nat} {B : Tb} {sc : Scope} {N : List Str} {Xc : Cx} {own lo : List Nat} {on : Option (List Nat)} {g0 : Gh} {H0 : Hp}
/-! ### rows -/
theorem pss_nilD : PSs Xc [] (tS X g0 H0 own (some own) lo (fun env w => Rp.exSs C [] env w)) := pss_nil.imp fun D σ H ⟨g, env, fps, w, fl, w', si, ev, q⟩ => by
  simp only [Rp.exSs, Rp.R.ok.injEq] at ev
  obtain ⟨rfl, rfl⟩ := ev
  exact q σ H g fps (.refl _ _) si
theorem pss_consD {s : Rp.S} {ss : List Rp.S} {x : Stmt} {xs : List Stmt} {o : List Nat} (h1 : PS Xc x (tS X g0 H0 own (some o) lo (fun env w => Rp.exS C s env w))) (h2 : PSs Xc xs (tS X g0 H0 o on lo (fun env w => Rp.exSs C ss env w))) :
    PSs Xc (x :: xs) (tS X g0 H0 own on lo (fun env w => Rp.exSs C (s :: ss) env w)) := by
  refine (pss_cons h1 h2).imp fun D σ H ⟨g, env, fps, w, fl, w', si, ev, q⟩ => ?_
  simp only [Rp.exSs] at ev
  obtain ⟨fl1, w1, e1, e2⟩ := thenS_ok ev
  refine ⟨g, env, fps, w, fl1, w1, si, e1, ?_⟩
  rcases e2 with ⟨env1, rfl, e2⟩ | ⟨hn, rfl, rfl⟩
  · intro σ1 H1 g1 fps1 m1 si1
    refine ⟨g1, env1, fps1, w1, fl, w', si1, e2, ?_⟩
    cases fl with
    | next env2 =>
      cases on with
      | none => trivial
      | some o2 => exact fun σ2 H2 g2 fps2 m2 si2 => q σ2 H2 g2 fps2 (m1.trans m2) si2
    | ret d => exact q
    | brk env2 => exact fun σ2 H2 g2 fps2 m2 si2 => q σ2 H2 g2 fps2 (m1.trans m2) si2
    | cont env2 => exact fun σ2 H2 g2 fps2 m2 si2 => q σ2 H2 g2 fps2 (m1.trans m2) si2
  · cases fl with
    | next env2 => exact absurd rfl (hn env2)
    | ret d => exact q
    | brk env2 => exact q
    | cont env2 => exact q
/-- behind a statement that never falls through nothing is looked at -/
theorem pss_last {s : Rp.S} {ss : List Rp.S} {x : Stmt} {xs : List Stmt} (h1 : PS Xc x (tS X g0 H0 own none lo (fun env w => Rp.exS C s env w))) : PSs Xc (x :: xs) (tS X g0 H0 own none lo (fun env w => Rp.exSs C (s :: ss) env w)) := by
  refine (pss_cons h1 pss_never).imp fun D σ H ⟨g, env, fps, w, fl, w', si, ev, q⟩ => ?_
  simp only [Rp.exSs] at ev
  obtain ⟨fl1, w1, e1, e2⟩ := thenS_ok ev
  refine ⟨g, env, fps, w, fl1, w1, si, e1, ?_⟩
  rcases e2 with ⟨env1, rfl, e2⟩ | ⟨hn2, rfl, rfl⟩
  · trivial
  · cases fl with
    | next env2 => exact absurd rfl (hn2 env2)
    | ret d => exact q
    | brk env2 => exact q
    | cont env2 => exact q
theorem SI.kill {g : Gh} {H : Hp} {σ : L2.St} {env : Rp.Env} {fps : Fps} {w : Rp.W} (si : SI X g0 H0 own g H σ env fps w) : ∀ is : List Nat, SI X g0 H0 (zer own is) g H σ (Rp.kill env is) (clr fps is) w := by
  intro is
  induction is generalizing own env fps with
  | nil => exact si
  | cons i is ih =>
    refine ih ⟨?_, si.wr, si.ext, fun j a ha => ?_, si.me⟩
    · exact si.er.forget 0
    · by_cases c : j = i
      · subst c; rw [upf_same] at ha; cases ha
      · rw [upf_ne c] at ha; exact si.fr j a ha
theorem frz_ext0 {g : Gh} {H : Hp} {l : List Addr} (e : Ext g0 H0 g H) (h : ∀ a ∈ l, H0 a = none) : Ext g0 H0 (frz g l) H := ext_frz2 e h
  where ext_frz2 {g0 g : Gh} {H0 H : Hp} {l : List Addr} (e : Ext g0 H0 g H) (h : ∀ a ∈ l, H0 a = none) : Ext g0 H0 (frz g l) H :=
    ⟨fun a q => .inl (e.f a q), fun a q => by
      rcases q with q | q
      · exact e.n a q
      · exact .inr (h a q), e.k, e.w1, e.w2, e.t⟩
theorem SI.frz {g : Gh} {H : Hp} {σ : L2.St} {env : Rp.Env} {fps : Fps} {w : Rp.W} (si : SI X g0 H0 own g H σ env fps w) : ∀ is : List Nat, ∃ g' fps', Fm g H g' H ∧ SI X g0 H0 (zer own is) g' H σ env fps' w := by
  intro is
  induction is generalizing own g fps with
  | nil => exact ⟨g, fps, .refl _ _, si⟩
  | cons i is ih =>
    have s1 : SI X g0 H0 (own.set i 0) (RpS.frz g (fps i)) H σ env (upf fps i []) w := ⟨si.er.frz i, si.wr.frz fun a ha => ⟨(si.er.out i a ha).2.1, (si.er.out i a ha).2.2⟩, frz_ext0 si.ext fun a ha => si.fr i a ha, fun j a ha => by
      by_cases c : j = i
      · subst c; rw [upf_same] at ha; cases ha
      · rw [upf_ne c] at ha; exact si.fr j a ha, si.me⟩
    obtain ⟨g', fps', h1, h2⟩ := ih s1
    exact ⟨g', fps', frz_fm.trans h1, h2⟩
/-- what a change of the ghosts does to the end -/
theorem Aft.mono {g g' : Gh} {H H' : Hp} {fl : Rp.Fl} {w : Rp.W} {D : Ends} (m : Fm g H g' H') (q : Aft X g0 H0 on lo g H fl w D) : Aft X g0 H0 on lo g' H' fl w D := by
  cases fl with
  | next env =>
    cases on with
    | none => trivial
    | some o => exact fun σ2 H2 g2 fps2 m2 si2 => q σ2 H2 g2 fps2 (m.trans m2) si2
  | ret d => exact q
  | brk env => exact fun σ2 H2 g2 fps2 m2 si2 => q σ2 H2 g2 fps2 (m.trans m2) si2
  | cont env => exact fun σ2 H2 g2 fps2 m2 si2 => q σ2 H2 g2 fps2 (m.trans m2) si2
theorem pss_kill {is : List Nat} {ss : List Rp.S} {xs : List Stmt} (h : PSs Xc xs (tS X g0 H0 (zer own is) on lo (fun env w => Rp.exSs C ss env w))) : PSs Xc xs (tS X g0 H0 own on lo (fun env w => Rp.exSs C (.kill is :: ss) env w)) :=
  h.imp fun D σ H ⟨g, env, fps, w, fl, w', si, ev, q⟩ => by
    simp only [Rp.exSs, Rp.exS, Rp.thenS_next] at ev
    exact ⟨g, _, _, w, fl, w', si.kill is, ev, q⟩
theorem pss_frz {is : List Nat} {ss : List Rp.S} {xs : List Stmt} (h : PSs Xc xs (tS X g0 H0 (zer own is) on lo (fun env w => Rp.exSs C ss env w))) : PSs Xc xs (tS X g0 H0 own on lo (fun env w => Rp.exSs C (.frz is :: ss) env w)) :=
  h.imp fun D σ H ⟨g, env, fps, w, fl, w', si, ev, q⟩ => by
    simp only [Rp.exSs, Rp.exS, Rp.thenS_next] at ev
    obtain ⟨g', fps', m, si'⟩ := si.frz is
    exact ⟨g', env, fps', w, fl, w', si', ev, q.mono m⟩

/-! ### assignments -/
theorem SI.step {g g' : Gh} {H H' : Hp} {σ : L2.St} {env : Rp.Env} {fps : Fps} {w w' : Rp.W} (si : SI X g0 H0 own g H σ env fps w) (ex : Ext g H g' H') (wr : WR g' H' w') : SI X g0 H0 own g' H' σ env fps w' :=
  ⟨si.er.ext ex si.wr.ok, wr, si.ext.trans ex, si.fr, si.me⟩
theorem me_set {g0 : Gh} {σ : L2.St} {i : Nat} {u : Option V} (h : ∀ v, g0.me = some v → σ[0]? = some (some v)) (hm : okm g0 i) : ∀ v, g0.me = some v → (σ.set i u)[0]? = some (some v) := fun v e => by
  rcases hm with z | z
  · rw [z] at e; cases e
  · rw [List.getElem?_set_ne z]; exact h v e
theorem SI.set0 {g : Gh} {H : Hp} {σ : L2.St} {env : Rp.Env} {fps : Fps} {w : Rp.W} (si : SI X g0 H0 own g H σ env fps w) {i : Nat} {v : V} {d : Rp.D} (r : Rp X g H v d) (hm : okm g0 i) : SI X g0 H0 (own.set i 0) g H (σ.set i (some v)) (env.set i (some d)) (upf fps i []) w :=
  ⟨si.er.set0 r, si.wr, si.ext, fun j a ha => by
    by_cases c : j = i
    · subst c; rw [upf_same] at ha; cases ha
    · rw [upf_ne c] at ha; exact si.fr j a ha, me_set si.me hm⟩
theorem SI.set1 {g : Gh} {H : Hp} {σ : L2.St} {env : Rp.Env} {fps : Fps} {w : Rp.W} (si : SI X g0 H0 own g H σ env fps w) {i n : Nat} {v : V} {d : Rp.D} {fp : List Addr} (hi : i < own.length) (r : RO X g H n v d fp) (nd : fp.Nodup)
    (out : ∀ a ∈ fp, ¬ g.F a ∧ H a ≠ none ∧ ¬ wd g a) (ds : ∀ j, j ≠ i → ∀ a ∈ fp, a ∉ fps j) (fr : ∀ a ∈ fp, H0 a = none) (hm : okm g0 i) : SI X g0 H0 (own.set i n) g H (σ.set i (some v)) (env.set i (some d)) (upf fps i fp) w :=
  ⟨si.er.set hi r nd ds out, si.wr, si.ext, fun j a ha => by
    by_cases c : j = i
    · subst c; rw [upf_same] at ha; exact fr a ha
    · rw [upf_ne c] at ha; exact si.fr j a ha, me_set si.me hm⟩
theorem asg_q {i : Nat} {e : Rp.E} {D : Ends} {σ : L2.St} {H : Hp} (hm : okm g0 i) (l0 : lev own e = 0) (h : tS X g0 H0 own (some (own.set i 0)) lo (fun env w => Rp.exS C (.asg i e) env w) D σ H) : tAsg (tD X C own e) (gName i) D σ H := by
  obtain ⟨g, env, fps, w, fl, w', si, ev, q⟩ := h
  simp only [Rp.exS] at ev
  obtain ⟨d, w1, e1, ev2⟩ := bind_ok ev
  simp only [Rp.R.ok.injEq] at ev2
  obtain ⟨rfl, rfl⟩ := ev2
  refine ⟨g, env, fps, w, d, w1, si.er, si.wr, e1, fun v H1 g1 x1 wr1 r1 => ?_⟩
  rw [l0] at r1
  exact q _ H1 g1 _ (x1.fm si.wr.ok) ((si.step x1 wr1).set0 r1 hm)
theorem asgO_q {i : Nat} {e : Rp.E} {D : Ends} {σ : L2.St} {H : Hp} (hm : okm g0 i) (hi : i < own.length) (h : tS X g0 H0 own (some (own.set i 1)) lo (fun env w => Rp.exS C (.asgO i e) env w) D σ H) : tAsg (tF X C own e) (gName i) D σ H := by
  obtain ⟨g, env, fps, w, fl, w', si, ev, q⟩ := h
  simp only [Rp.exS] at ev
  obtain ⟨d, w1, e1, ev2⟩ := bind_ok ev
  split at ev2
  · rename_i m
    simp only [Rp.R.ok.injEq] at ev2
    obtain ⟨rfl, rfl⟩ := ev2
    refine ⟨g, env, fps, w, d, w1, si.er, si.wr, e1, m, fun v H1 g1 fp x1 wr1 r1 nd out => ?_⟩
    exact q _ H1 g1 _ (x1.fm si.wr.ok) ((si.step x1 wr1).set1 hi r1 nd (fun a ha => ⟨(out a ha).2.2.1, (out a ha).2.1, (out a ha).2.2.2⟩) (fun j _ a ha hj => (si.er.out j a hj).2.1 (out a ha).1) (fun a ha => si.ext.none_back (out a ha).1) hm)
  · cases ev2
/-- does the value take the name's place within the comprehension -/
def swB (sc : Scope) (x : Expr) (y : Str) (py : Pos) : Bool := match x with
  | .ListComp _ _ s p => (sc.names.lookup y == some .local) && (py.line == p.line) && !(s.names.any fun (n, k) => n == y && (k == .local || k == .cell))
  | _ => false
def noSD : Expr → Bool
  | .SetComp .. => false | .DictComp .. => false
  | _ => true
theorem sw_eq (cs : Cs T k sc N Xc) {x : Expr} {y : Str} {py : Pos} {l : Nat} (h : noSD x = true) : swapsWith x (some (.Name y py)) l Xc.env = pure (swB sc x y py) := by
  have hb : Xc.env.blockKind = .function := by unfold Env.blockKind; rw [cs.cg.sco, cs.kind]; rfl
  have ky : Xc.env.kindOf y = sc.names.lookup y := by show Xc.env.scope.names.lookup y = _; rw [cs.cg.sco]
  cases x <;> first
    | (cases h; done)
    | rfl
    | (unfold swapsWith swB
       simp only [hb, ky, Expr.pos]
       rfl)
theorem pg_tgt (cs : Cs T k sc N Xc) {i : Nat} {x : Expr} (h : okT sc (fun _ => true) N i x = true) : PG Xc x (gName i) := pg_nm cs.cg h
theorem okT_name {fc : Str → Bool} {i : Nat} {x : Expr} (h : okT sc fc N i x = true) : ∃ y p, x = .Name y p ∧ N[i]? = some y ∧ Loc sc y := by
  cases x with
  | Name y p =>
    simp only [okT, Bool.and_eq_true, Bool.or_eq_true, decide_eq_true_eq] at h
    refine ⟨y, p, rfl, h.1, ?_⟩
    rcases h.2 with z | z
    · exact .inl z
    · exact .inr z.1
  | _ => simp [okT] at h
/-- name = value, the value of either kind -/
theorem ps_name (cs : Cs T k sc N Xc) {i : Nat} {y : Str} {py pos : Pos} {x : Expr} {te : TE} (hy : okT sc (fun _ => true) N i (.Name y py) = true) (h : noSD x = true) (d : PE Xc x te)
    (s : isLC x = true → swapsWith x (some (.Name y py)) pos.line Xc.env = pure true → sc.names.lookup y = some .local → PS Xc (.Assign [.Name y py] x pos) (tAsg te (gName i))) : PS Xc (.Assign [.Name y py] x pos) (tAsg te (gName i)) := by
  have e := sw_eq (l := pos.line) (py := py) (y := y) cs h
  cases hb : swB sc x y py with
  | true =>
    rw [hb] at e
    have hl : isLC x = true := by
      cases x <;> first | rfl | (simp [swB] at hb)
    have hy2 : sc.names.lookup y = some .local := by
      cases x <;> simp only [swB, Bool.and_eq_true, reduceCtorEq, Bool.false_eq_true] at hb
      simpa using hb.1.1
    exact s hl e hy2
  | false =>
    rw [hb] at e
    obtain ⟨y2, p2, e2, h1, h2⟩ := okT_name hy
    cases e2
    exact ps_set (by rw [cs.cg.n]; exact cs.cg.nd) (by rw [cs.cg.n]; exact h1) (by show Loc Xc.env.scope y; rw [cs.cg.sco]; exact h2) d e (.inl (cs.cg.fn y rfl))
theorem ps_asgD (cs : Cs T k sc N Xc) {i : Nat} (hm : okm g0 i) {e : Rp.E} {y : Str} {py pos : Pos} {x : Expr} (hy : okT sc (fun _ => true) N i (.Name y py) = true) (h : noSD x = true) (o : OkE X C N sc own e Xc x) (l0 : lev own e = 0) :
    PS Xc (.Assign [.Name y py] x pos) (tS X g0 H0 own (some (own.set i 0)) lo (fun env w => Rp.exS C (.asg i e) env w)) :=
  (ps_name cs hy h o.d fun h1 h2 h3 => (o.s h1 i y py pos (by obtain ⟨_, _, e, h4, _⟩ := okT_name hy; cases e; exact h4) h3 h2).1 l0).imp fun D σ H q => asg_q hm l0 q
theorem ps_asgOD (cs : Cs T k sc N Xc) {i : Nat} (hm : okm g0 i) {e : Rp.E} {y : Str} {py pos : Pos} {x : Expr} (hy : okT sc (fun _ => true) N i (.Name y py) = true) (h : noSD x = true) (o : OkE X C N sc own e Xc x) (fr : frE e = true) (hi : i < own.length) :
    PS Xc (.Assign [.Name y py] x pos) (tS X g0 H0 own (some (own.set i 1)) lo (fun env w => Rp.exS C (.asgO i e) env w)) :=
  (ps_name cs hy h (o.f fr) fun h1 h2 h3 => (o.s h1 i y py pos (by obtain ⟨_, _, e, h4, _⟩ := okT_name hy; cases e; exact h4) h3 h2).2 fr).imp fun D σ H q => asgO_q hm hi q

/-! ### unpacking -/
theorem pg_or {x : Expr} {t u : TG} (h1 : PG Xc x t) (h2 : PG Xc x u) : PG Xc x (fun v σ H Q => t v σ H Q ∨ u v σ H Q) := ⟨fun pins s σ H v u Q I r q => by
  rcases q with q | q
  · exact h1.run pins s σ H v u Q I r q
  · exact h2.run pins s σ H v u Q I r q⟩
theorem SI.setV {g : Gh} {H : Hp} {w : Rp.W} : ∀ {is : List Nat} {vs : List V} {ds : List Rp.D} {own : List Nat} {σ : L2.St} {env : Rp.Env} {fps : Fps}, SI X g0 H0 own g H σ env fps w → RpA X g H vs ds → ds.length = is.length → (∀ i ∈ is, okm g0 i) → SI X g0 H0 (zer own is) g H (RpS.setV σ is vs) (Rp.setAll env is ds) (clr fps is) w
  | [], _, _, _, _, _, _, r, .nil, _, _ => r
  | i :: is, _, _, _, _, _, _, r, .cons a b, h, hm => by
    unfold zer RpS.setV Rp.setAll clr
    exact SI.setV (r.set0 a (hm i List.mem_cons_self)) b (by simpa using h) fun j hj => hm j (List.mem_cons_of_mem _ hj)
theorem sw_tuple {x : Expr} {ts : List Expr} {kt : Nat} {pt pos : Pos} {env : Env} (h : noSD x = true) : swapsWithSole [.Tuple ts kt pt] x pos.line env = pure false := by
  cases x <;> first | (cases h; done) | rfl
def notTup : Expr → Bool
  | .Tuple .. => false
  | _ => true
theorem sst_none {x : Expr} {ts : List Expr} {kt : Nat} {pt : Pos} {env : Env} (h : notTup x = true) : swappedStores [.Tuple ts kt pt] x env = pure none := by
  cases x <;> first | (cases h; done) | rfl
theorem ps_unpackD (cs : Cs T k sc N Xc) {is : List Nat} (hm : ∀ i ∈ is, okm g0 i) {e : Rp.E} {ts : List Expr} {kt : Nat} {pt pos : Pos} {x : Expr} (ht : okTs sc (fun _ => true) N is ts = true) (hs : noSD x = true) (hn : notTup x = true) (d : PE Xc x (tD X C own e)) (l0 : lev own e = 0) :
    PS Xc (.Assign [.Tuple ts kt pt] x pos) (tS X g0 H0 own (some (zer own is)) lo (fun env w => Rp.exS C (.unpack is e) env w)) := by
  obtain ⟨h1, h2, h3⟩ := pgs_nms cs.cg ht
  refine (ps_asg d (pg_or (pg_tup cs.cg.calm h1 h2 h3) (pg_unl cs.cg.calm h1 h2 h3)) (sw_tuple hs) (sst_none hn)).imp fun D σ H ⟨g, env, fps, w, fl, w', si, ev, q⟩ => ?_
  simp only [Rp.exS] at ev
  obtain ⟨dx, w1, e1, ev2⟩ := bind_ok ev
  split at ev2
  · rename_i ds hd
    split at ev2
    · rename_i hl
      simp only [Rp.R.ok.injEq] at ev2
      obtain ⟨rfl, rfl⟩ := ev2
      refine ⟨g, env, fps, w, dx, w1, si.er, si.wr, e1, fun v H1 g1 x1 wr1 r1 => ?_⟩
      rw [l0] at r1
      have fin : ∀ vs, RpA X g1 H1 vs ds → vs.length = is.length ∧ D.nx (setV σ is vs) H1 := fun vs ra => ⟨by rw [ra.length, hl], q _ H1 g1 _ (x1.fm si.wr.ok) ((si.step x1 wr1).setV ra hl hm)⟩
      rcases uItems_some hd with rfl | rfl
      · obtain ⟨a, vs, rfl, fa, hz, ra⟩ := RR.tup (n := 0) r1
        exact .inl ⟨a, vs, rfl, SqT.of hz, by rw [ra.length, hl], (fin vs ra).1, (fin vs ra).2⟩
      · cases r1 with
        | lst fa hz ra => exact .inr ⟨_, _, rfl, SqL.of hz, by rw [ra.length, hl], (fin _ ra).1, (fin _ ra).2⟩
    · cases ev2
  · cases ev2
end
end RpS
end

section
set_option Elab.async false
set_option linter.all false
set_option maxRecDepth 100000
set_option maxHeartbeats 4000000
/-! RpS17: more statements. -/
namespace RpS
open PySem PySem.Spec PyProof.Rows L2
/-- values, some of them owned -/
inductive LO (X : Gx) (g : Gh) (H : Hp) (nw : Addr → Prop) : List Nat → List V → List Rp.D → List (List Addr) → Prop
  | nil : LO X g H nw [] [] [] []
  | cons {n : Nat} {ns : List Nat} {v : V} {vs : List V} {d : Rp.D} {ds : List Rp.D} {fp : List Addr} {fpl : List (List Addr)} : RO X g H n v d fp → fp.Nodup → (∀ a ∈ fp, nw a ∧ H a ≠ none ∧ ¬ g.F a ∧ ¬ wd g a) → (∀ fp' ∈ fpl, ∀ a ∈ fp, a ∉ fp') →
      LO X g H nw ns vs ds fpl → LO X g H nw (n :: ns) (v :: vs) (d :: ds) (fp :: fpl)
theorem LO.imp {X : Gx} {g : Gh} {H : Hp} {p q : Addr → Prop} (h : ∀ a, p a → q a) {ns : List Nat} {vs : List V} {ds : List Rp.D} {fpl : List (List Addr)} (l : LO X g H p ns vs ds fpl) : LO X g H q ns vs ds fpl := by
  induction l with
  | nil => exact .nil
  | cons a b c d _ ih => exact .cons a b (fun x hx => ⟨h x (c x hx).1, (c x hx).2⟩) d ih
theorem LO.out {X : Gx} {g : Gh} {H : Hp} {p : Addr → Prop} {ns : List Nat} {vs : List V} {ds : List Rp.D} {fpl : List (List Addr)} (l : LO X g H p ns vs ds fpl) : ∀ fp ∈ fpl, ∀ a ∈ fp, p a ∧ H a ≠ none ∧ ¬ g.F a ∧ ¬ wd g a := by
  induction l with
  | nil => intro fp h; cases h
  | cons a b c d _ ih =>
    intro fp h x hx
    rcases List.mem_cons.mp h with e | e
    · subst e; exact c x hx
    · exact ih fp e x hx
theorem LO.len {X : Gx} {g : Gh} {H : Hp} {p : Addr → Prop} {ns : List Nat} {vs : List V} {ds : List Rp.D} {fpl : List (List Addr)} (l : LO X g H p ns vs ds fpl) : vs.length = ds.length ∧ ns.length = ds.length := by
  induction l with
  | nil => exact ⟨rfl, rfl⟩
  | cons a b c d _ ih => rw [List.length_cons, List.length_cons, List.length_cons, ih.1, ih.2]; exact ⟨rfl, rfl⟩
/-- a value that is owned or not, later -/
theorem RO.later {X : Gx} {g g' : Gh} {H H' : Hp} {n : Nat} {v : V} {d : Rp.D} {fp : List Addr} (r : RO X g H n v d fp) (e : Ext g H g' H') (ok : Gok g H) (out : ∀ a ∈ fp, H a ≠ none ∧ ¬ g.F a ∧ ¬ wd g a) : RO X g' H' n v d fp ∧ ∀ a ∈ fp, H' a ≠ none ∧ ¬ g'.F a ∧ ¬ wd g' a := by
  refine ⟨RO.fm (e.fm ok) r fun a ha o ho => e.k a o ho (out a ha).2.2, fun a ha => ?_⟩
  obtain ⟨h1, h2, h3⟩ := out a ha
  refine ⟨e.t a h1, fun z => ?_, fun z => ?_⟩
  · rcases e.n a z with q | q
    · exact h2 q
    · exact h1 q
  · rcases e.wd_of z with q | q
    · exact h3 q
    · exact h1 q
theorem LO.later {X : Gx} {g g' : Gh} {H H' : Hp} {p : Addr → Prop} {ns : List Nat} {vs : List V} {ds : List Rp.D} {fpl : List (List Addr)} (l : LO X g H p ns vs ds fpl) (e : Ext g H g' H') (ok : Gok g H) : LO X g' H' p ns vs ds fpl := by
  induction l with
  | nil => exact .nil
  | cons r nd out dj _ ih =>
    obtain ⟨r2, o2⟩ := r.later e ok fun a ha => (out a ha).2
    exact .cons r2 nd (fun a ha => ⟨(out a ha).1, o2 a ha⟩) dj ih
def tAO (X : Gx) (C : Rp.Cl) (own : List Nat) (ns : List Nat) (es : List Rp.E) : TA := fun σ H Q => ∃ g env fps w ds w', ER X own g H σ env fps ∧ WR g H w ∧ Rp.evEs C es env w = .ok ds w' ∧ Rp.mutsOk ns ds = true ∧
  ∀ vs H' g' fpl, Ext g H g' H' → WR g' H' w' → LO X g' H' (fun a => H a = none) ns vs ds fpl → Q vs H'
def upown (own : List Nat) : List Nat → List Nat → List Nat
  | i :: is, n :: ns => upown (own.set i n) is ns
  | _, _ => own
section
variable {T : Tx} {X : Gx} {C : Rp.Cl} {k : Nat} {B : Tb} {sc : Scope} {N : List Str} {Xc : Cx} {own lo : List Nat} {on : Option (List Nat)} {g0 : Gh} {H0 : Hp}
theorem muts_len : ∀ {ns : List Nat} {ds : List Rp.D}, Rp.mutsOk ns ds = true → ns.length = ds.length
  | [], [], _ => rfl
  | [], _ :: _, h => by simp [Rp.mutsOk] at h
  | 0 :: ns, [], h => by simp [Rp.mutsOk] at h
  | 0 :: ns, d :: ds, h => by simp only [Rp.mutsOk] at h; rw [List.length_cons, List.length_cons, muts_len h]
  | 1 :: ns, [], h => by simp [Rp.mutsOk] at h
  | 1 :: ns, d :: ds, h => by simp only [Rp.mutsOk, Bool.and_eq_true] at h; rw [List.length_cons, List.length_cons, muts_len h.2]
  | (n + 2) :: ns, [], h => by simp [Rp.mutsOk] at h
  | (n + 2) :: ns, d :: ds, h => by simp [Rp.mutsOk] at h
theorem pa_nilO : PA Xc [] (tAO X C own [] []) := pa_nil.imp fun σ H Q ⟨g, env, fps, w, ds, w', er, wr, ev, m, q⟩ => by
  simp only [Rp.evEs, Rp.R.ok.injEq] at ev
  obtain ⟨rfl, rfl⟩ := ev
  exact q [] H g [] (.refl _ _) wr .nil
theorem pa_consO0 {ns : List Nat} {e : Rp.E} {es : List Rp.E} {x : Expr} {xs : List Expr} (ha : PE Xc x (tD X C own e)) (la : lev own e = 0) (hr : PA Xc xs (tAO X C own ns es)) (nst : nstar x = true) : PA Xc (x :: xs) (tAO X C own (0 :: ns) (e :: es)) := by
  refine (pa_cons ha hr (star_cons nst)).imp fun σ H Q ⟨g, env, fps, w, ds, w', er, wr, ev, m, q⟩ => ?_
  simp only [Rp.evEs] at ev
  obtain ⟨d, w1, e1, ev2⟩ := bind_ok ev
  obtain ⟨ds', w2, e2, ev3⟩ := bind_ok ev2
  simp only [Rp.R.ok.injEq] at ev3
  obtain ⟨rfl, rfl⟩ := ev3
  simp only [Rp.mutsOk] at m
  refine ⟨g, env, fps, w, d, w1, er, wr, e1, fun v1 H1 g1 x1 wr1 r1 => ⟨g1, env, fps, w1, ds', w2, er.ext x1 wr.ok, wr1, e2, m, fun vs H2 g2 fpl x2 wr2 l2 => ?_⟩⟩
  rw [la] at r1
  exact q _ _ _ ([] :: fpl) (x1.trans x2) wr2 (.cons ⟨rfl, Rp.fm (x2.fm wr1.ok) r1⟩ List.nodup_nil (fun a h => by cases h) (fun _ _ a h => by cases h) (l2.imp fun a h => x1.none_back h))
theorem pa_consO1 {ns : List Nat} {e : Rp.E} {es : List Rp.E} {x : Expr} {xs : List Expr} (ha : PE Xc x (tF X C own e)) (hr : PA Xc xs (tAO X C own ns es)) (nst : nstar x = true) : PA Xc (x :: xs) (tAO X C own (1 :: ns) (e :: es)) := by
  refine (pa_cons ha hr (star_cons nst)).imp fun σ H Q ⟨g, env, fps, w, ds, w', er, wr, ev, m, q⟩ => ?_
  simp only [Rp.evEs] at ev
  obtain ⟨d, w1, e1, ev2⟩ := bind_ok ev
  obtain ⟨ds', w2, e2, ev3⟩ := bind_ok ev2
  simp only [Rp.R.ok.injEq] at ev3
  obtain ⟨rfl, rfl⟩ := ev3
  simp only [Rp.mutsOk, Bool.and_eq_true] at m
  refine ⟨g, env, fps, w, d, w1, er, wr, e1, m.1, fun v1 H1 g1 fp x1 wr1 r1 nd out => ⟨g1, env, fps, w1, ds', w2, er.ext x1 wr.ok, wr1, e2, m.2, fun vs H2 g2 fpl x2 wr2 l2 => ?_⟩⟩
  obtain ⟨r2, out2⟩ := r1.later x2 wr1.ok fun a ha => (out a ha).2
  exact q _ _ _ (fp :: fpl) (x1.trans x2) wr2 (.cons r2 nd (fun a h => ⟨(out a h).1, out2 a h⟩) (fun fp' hf a h z => (out a h).2.1 (l2.out fp' hf a z).1) (l2.imp fun a h => x1.none_back h))
theorem SI.setL {g : Gh} {H : Hp} {w : Rp.W} {p : Addr → Prop} : ∀ {is ns : List Nat} {vs : List V} {ds : List Rp.D} {fpl : List (List Addr)} {own : List Nat} {σ : L2.St} {env : Rp.Env} {fps : Fps}, SI X g0 H0 own g H σ env fps w → LO X g H p ns vs ds fpl → ds.length = is.length → (∀ i ∈ is, i < own.length) →
    (∀ fp ∈ fpl, ∀ a ∈ fp, H0 a = none ∧ ∀ j, a ∉ fps j) → (∀ i ∈ is, okm g0 i) → ∃ fps', SI X g0 H0 (upown own is ns) g H (RpS.setV σ is vs) (Rp.setAll env is ds) fps' w
  | [], _, _, _, _, _, _, _, fps, si, .nil, _, _, _, _ => ⟨fps, si⟩
  | [], _, _, _, _, _, _, _, _, _, .cons .., h, _, _, _ => by simp at h
  | i :: is, _, _, _, _, _, _, _, _, _, .nil, h, _, _, _ => by simp at h
  | i :: is, _, _, _, _, _, _, _, fps, si, .cons (fp := fp) (fpl := fpl) r nd out dj l, h, hi, hf, hm => by
    unfold upown RpS.setV Rp.setAll
    refine SI.setL (si.set1 (hi i List.mem_cons_self) r nd (fun a ha => ⟨(out a ha).2.2.1, (out a ha).2.1, (out a ha).2.2.2⟩) (fun j _ a ha => (hf fp List.mem_cons_self a ha).2 j) (fun a ha => (hf fp List.mem_cons_self a ha).1) (hm i List.mem_cons_self)) l (by simpa using h)
      (fun j hj => by rw [List.length_set]; exact hi j (List.mem_cons_of_mem _ hj)) (fun fp' hfp a ha => ⟨(hf fp' (List.mem_cons_of_mem _ hfp) a ha).1, fun j => ?_⟩) fun j hj => hm j (List.mem_cons_of_mem _ hj)
    by_cases c : j = i
    · subst c; rw [upf_same]; exact fun z => dj fp' hfp a z ha
    · rw [upf_ne c]; exact (hf fp' (List.mem_cons_of_mem _ hfp) a ha).2 j
theorem par_q {is ns : List Nat} {es : List Rp.E} {D : Ends} {σ : L2.St} {H : Hp} (hm : ∀ i ∈ is, okm g0 i) (hi : ∀ i ∈ is, i < own.length) (h : tS X g0 H0 own (some (upown own is ns)) lo (fun env w => Rp.exS C (.parO is ns es) env w) D σ H) :
    tAO X C own ns es σ H fun vs H1 => vs.length = is.length ∧ D.nx (setV σ is vs) H1 ∧ ∀ p o, H1 p = none → D.nx (setV σ is vs) (upd H1 p o) := by
  obtain ⟨g, env, fps, w, fl, w', si, ev, q⟩ := h
  simp only [Rp.exS] at ev
  obtain ⟨ds, w1, e1, ev2⟩ := bind_ok ev
  split at ev2
  · rename_i m
    simp only [Rp.R.ok.injEq] at ev2
    obtain ⟨rfl, rfl⟩ := ev2
    refine ⟨g, env, fps, w, ds, w1, si.er, si.wr, e1, m.2, fun vs H1 g1 fpl x1 wr1 l => ?_⟩
    have l1 := l.len
    have key : ∀ H2, Ext g1 H1 g1 H2 → WR g1 H2 w1 → D.nx (setV σ is vs) H2 := fun H2 x2 wr2 => by
      have l2 : LO X g1 H2 (fun a => H a = none) ns vs ds fpl := l.later x2 wr1.ok
      obtain ⟨fps', s2⟩ := SI.setL (si.step (x1.trans x2) wr2) l2 m.1 hi (fun fp hf a ha => by
        have ho := l2.out fp hf a ha
        exact ⟨si.ext.none_back ho.1, fun j hj => (si.er.out j a hj).2.1 ho.1⟩) hm
      exact q _ H2 g1 fps' ((x1.trans x2).fm si.wr.ok) s2
    exact ⟨by rw [l1.1, m.1], key H1 (.refl _ _) wr1, fun p o hp => key _ (ext_upd hp) (wr1.upd hp)⟩
  · cases ev2
/-- are the stores swapped -/
def stF (sc : Scope) (ts vs : List Expr) : Option (Option (List Str)) :=
  if !(ts.length == 2 || ts.length == 3) || vs.length != ts.length then some none
  else if (vs.any fun | .Starred .. => true | _ => false) = true then some none
  else
    let line := (ts.head?.map (·.pos.line)).getD 0
    let names := ts.filterMap fun
      | .Name id pos => if sc.names.lookup id == some .local && pos.line == line then some id else none
      | _ => none
    if names.length != ts.length || names.eraseDups.length != names.length then some none
    else if vs.all (foldedForSure 8) then some none
    else if vs.all (constantsAlone 8) then none
    else some (some names)
theorem st_eq (cs : Cs T k sc N Xc) {ts vs : List Expr} {k1 k2 : Nat} {p1 p2 : Pos} {r : Option (List Str)} (h : stF sc ts vs = some r) : swappedStores [.Tuple ts k1 p1] (.Tuple vs k2 p2) Xc.env = pure r := by
  have hb : Xc.env.blockKind = .function := by unfold Env.blockKind; rw [cs.cg.sco, cs.kind]; rfl
  have ky : ∀ y, Xc.env.kindOf y = sc.names.lookup y := fun y => by show Xc.env.scope.names.lookup y = _; rw [cs.cg.sco]
  unfold stF at h
  unfold swappedStores
  simp only [hb, ky]
  split at h
  · rename_i c
    cases h
    simp only [Bool.or_eq_true] at c
    exact if_pos (by simp only [Bool.or_eq_true]; exact .inl c)
  · rename_i c
    refine (if_neg (by simp only [Bool.or_eq_true] at c ⊢; rintro (z | z); exact c z; simp at z)).trans ?_
    split at h
    · rename_i c2
      cases h
      exact if_pos c2
    · rename_i c2
      refine (if_neg c2).trans ?_
      dsimp only at h ⊢
      split at h
      · rename_i c3
        cases h
        exact if_pos c3
      · rename_i c3
        refine (if_neg c3).trans ?_
        split at h
        · rename_i c4
          cases h
          exact if_pos c4
        · rename_i c4
          refine (if_neg c4).trans ?_
          split at h
          · cases h
          · rename_i c5
            cases h
            exact if_neg c5
end
end RpS
end

section
set_option Elab.async false
set_option linter.all false
set_option maxRecDepth 100000
set_option maxHeartbeats 4000000
/-! RpS18: pairs of stores, writes into owned objects. -/
namespace RpS
open PySem PySem.Spec PyProof.Rows L2
section
variable {T : Tx} {X : Gx} {C : Rp.Cl} {k : Nat} {B : Tb} {sc : Scope} {N : List Str} {Xc : Cx} {own lo : List Nat} {on : Option (List Nat)} {g0 : Gh} {H0 : Hp}
theorem ps_parG (cs : Cs T k sc N Xc) {is ns : List Nat} (hm : ∀ i ∈ is, okm g0 i) {es : List Rp.E} {ts xs : List Expr} {kt k2 : Nat} {pt p2 pos : Pos} (ht : okTs sc (fun _ => true) N is ts = true) (ha : PA Xc xs (tAO X C own ns es)) (hi : ∀ i ∈ is, i < own.length) (h1000 : is.length ≤ 1000)
    (hw : swappedStores [.Tuple ts kt pt] (.Tuple xs k2 p2) Xc.env = pure none) :
    PS Xc (.Assign [.Tuple ts kt pt] (.Tuple xs k2 p2) pos) (tS X g0 H0 own (some (upown own is ns)) lo (fun env w => Rp.exS C (.parO is ns es) env w)) := by
  obtain ⟨h1, h2, h3⟩ := pgs_nms cs.cg ht
  refine (ps_asg (pe_tup ha) (pg_tup cs.cg.calm h1 h2 h3) rfl hw).imp fun D σ H hq => ?_
  have hq2 := par_q hm hi hq
  obtain ⟨g, env, fps, w, ds, w', er, wr, ev, m, q⟩ := hq2
  refine ⟨g, env, fps, w, ds, w', er, wr, ev, m, fun vs H1 g1 fpl x1 wr1 l => ?_⟩
  obtain ⟨q1, q2, q3⟩ := q vs H1 g1 fpl x1 wr1 l
  exact ⟨by rw [q1]; exact line_small h1000, fun p hp => ⟨p, vs, rfl, SqT.of upd_same, q1, q1, q3 p _ hp⟩⟩
theorem tAO_imp {ns : List Nat} {es : List Rp.E} {σ : L2.St} {H : Hp} {Q Q' : List V → Hp → Prop} (h : tAO X C own ns es σ H Q) (i : ∀ vs H, Q vs H → Q' vs H) : tAO X C own ns es σ H Q' := by
  obtain ⟨g, env, fps, w, ds, w', er, wr, ev, m, q⟩ := h
  exact ⟨g, env, fps, w, ds, w', er, wr, ev, m, fun vs H1 g1 fpl x1 wr1 l => i _ _ (q vs H1 g1 fpl x1 wr1 l)⟩
theorem ps_parS2 (cs : Cs T k sc N Xc) {i j : Nat} (hm : ∀ l ∈ [i, j], okm g0 l) {ns : List Nat} {es : List Rp.E} {y z : Str} {py pz : Pos} {a b : Expr} {kt k2 : Nat} {pt p2 pos : Pos} (hi : N[i]? = some y) (hj : N[j]? = some z) (hy : sc.names.lookup y = some .local) (hz : sc.names.lookup z = some .local) (hij : i ≠ j)
    (ha : PA Xc [a, b] (tAO X C own ns es)) (hb : ∀ l ∈ [i, j], l < own.length) (hw : swappedStores [.Tuple [.Name y py, .Name z pz] kt pt] (.Tuple [a, b] k2 p2) Xc.env = pure (some [y, z])) :
    PS Xc (.Assign [.Tuple [.Name y py, .Name z pz] kt pt] (.Tuple [a, b] k2 p2) pos) (tS X g0 H0 own (some (upown own [i, j] ns)) lo (fun env w => Rp.exS C (.parO [i, j] ns es) env w)) := by
  refine (ps_par (i := i) (j := j) cs.cg.calm (by rw [cs.cg.n]; exact cs.cg.nd) (by rw [cs.cg.n]; exact hi) (by rw [cs.cg.n]; exact hj) hij (by rw [cs.cg.sco]; exact hy) (by rw [cs.cg.sco]; exact hz) ha hw).imp fun D σ H hq => ?_
  refine tAO_imp (par_q hm hb hq) fun vs H1 ⟨q1, q2, q3⟩ => ?_
  match vs, q1, q2 with
  | [u, v], _, q2 => exact ⟨u, v, rfl, q2⟩
theorem ps_parS3 (cs : Cs T k sc N Xc) {i j l : Nat} (hm : ∀ m ∈ [i, j, l], okm g0 m) {ns : List Nat} {es : List Rp.E} {y z x : Str} {py pz px : Pos} {a b c : Expr} {kt k2 : Nat} {pt p2 pos : Pos} (hi : N[i]? = some y) (hj : N[j]? = some z) (hl : N[l]? = some x) (hy : sc.names.lookup y = some .local) (hz : sc.names.lookup z = some .local) (hx : sc.names.lookup x = some .local)
    (hij : i ≠ j) (hil : i ≠ l) (hjl : j ≠ l) (ha : PA Xc [a, b, c] (tAO X C own ns es)) (hb : ∀ m ∈ [i, j, l], m < own.length) (hw : swappedStores [.Tuple [.Name y py, .Name z pz, .Name x px] kt pt] (.Tuple [a, b, c] k2 p2) Xc.env = pure (some [y, z, x])) :
    PS Xc (.Assign [.Tuple [.Name y py, .Name z pz, .Name x px] kt pt] (.Tuple [a, b, c] k2 p2) pos) (tS X g0 H0 own (some (upown own [i, j, l] ns)) lo (fun env w => Rp.exS C (.parO [i, j, l] ns es) env w)) := by
  refine (ps_par3 (i := i) (j := j) (l := l) cs.cg.calm (by rw [cs.cg.n]; exact cs.cg.nd) (by rw [cs.cg.n]; exact hi) (by rw [cs.cg.n]; exact hj) (by rw [cs.cg.n]; exact hl) hij hil hjl (by rw [cs.cg.sco]; exact hy) (by rw [cs.cg.sco]; exact hz) (by rw [cs.cg.sco]; exact hx) ha hw rfl).imp fun D σ H hq => ?_
  refine tAO_imp (par_q hm hb hq) fun vs H1 ⟨q1, q2, q3⟩ => ?_
  match vs, q1, q2 with
  | [u, v, w], _, q2 => exact ⟨u, v, w, rfl, q2⟩

/-! ### writes into an owned object -/
theorem RO1.lst {g : Gh} {H : Hp} {v : V} {ds : List Rp.D} {fp : List Addr} (h : RO X g H 1 v (.lst ds) fp) : ∃ a vs, v = .ref a ∧ fp = [a] ∧ H a = some (.lst vs) ∧ RpA X g H vs ds := by
  rcases h with ⟨a, vs, ds, fq, e1, e2, e3, hh, r⟩ | ⟨hn, a, kvs, ks, e1, e2, e3, hh, r⟩ | ⟨hn, a, dx, c, fs, gs, e1, e2, e3, hh, r⟩
  · cases e2
    have : fq = [] ∧ RpA X g H vs ds := by
      clear hh e1 e3
      induction r with
      | nil => exact ⟨rfl, .nil⟩
      | cons a b ih => exact ⟨by rw [a.1, ih.1]; rfl, .cons a.2 ih.2⟩
    exact ⟨a, vs, e1, by rw [e3, this.1], hh, this.2⟩
  · cases e2
  · cases e2
theorem RO1.dic {g : Gh} {H : Hp} {v : V} {ks : List (Rp.D × Rp.D)} {fp : List Addr} (h : RO X g H 1 v (.dic ks) fp) : ∃ a vs, v = .ref a ∧ fp = [a] ∧ H a = some (.dK vs) ∧ RpK X g H vs ks := by
  rcases h with ⟨a, vs, ds, fq, e1, e2, e3, hh, r⟩ | ⟨hn, a, kvs, ks, e1, e2, e3, hh, r⟩ | ⟨hn, a, dx, c, fs, gs, e1, e2, e3, hh, r⟩
  · cases e2
  · cases e2; exact ⟨a, kvs, e1, e3, hh, r⟩
  · cases e2
theorem RO1.obj {g : Gh} {H : Hp} {v : V} {c : String} {gs : List (String × Rp.D)} {fp : List Addr} (h : RO X g H 1 v (.obj c gs) fp) : ∃ a dx fs, v = .ref a ∧ fp = [a] ∧ H a = some (.ins (X.cls c) dx fs) ∧ RpF X g H fs gs := by
  rcases h with ⟨a, vs, ds, fq, e1, e2, e3, hh, r⟩ | ⟨hn, a, kvs, ks, e1, e2, e3, hh, r⟩ | ⟨hn, a, dx, c, fs, gs, e1, e2, e3, hh, r⟩
  · cases e2
  · cases e2
  · cases e2; exact ⟨a, dx, fs, e1, e3, hh, r⟩
theorem RO1.ofL {g : Gh} {H : Hp} {a : Addr} {vs : List V} {ds : List Rp.D} (hh : H a = some (.lst vs)) (r : RpA X g H vs ds) : RO X g H 1 (.ref a) (.lst ds) [a] := .inl ⟨a, vs, ds, [], rfl, rfl, rfl, hh, .of0 r⟩
theorem RO1.ofD {g : Gh} {H : Hp} {a : Addr} {vs : List (Key × V)} {ds : List (Rp.D × Rp.D)} (hh : H a = some (.dK vs)) (r : RpK X g H vs ds) : RO X g H 1 (.ref a) (.dic ds) [a] := .inr (.inl ⟨rfl, a, vs, ds, rfl, rfl, rfl, hh, r⟩)
theorem RO1.ofO {g : Gh} {H : Hp} {a dx : Addr} {c : String} {vs : List (Str × V)} {ds : List (String × Rp.D)} (hh : H a = some (.ins (X.cls c) dx vs)) (r : RpF X g H vs ds) : RO X g H 1 (.ref a) (.obj c ds) [a] := .inr (.inr ⟨rfl, a, dx, c, vs, ds, rfl, rfl, rfl, hh, r⟩)
theorem fm_write {g : Gh} {H : Hp} {a : Addr} {o : HO} (hF : ¬ g.F a) : Fm g H g (upd H a o) := ⟨fun _ h => h, fun b o' hf h => by rw [upd_ne (fun c => by subst c; exact hF hf)]; exact h, fun _ h => h⟩
/-- the object of slot i is written -/
theorem SI.write {g : Gh} {H : Hp} {σ : L2.St} {env : Rp.Env} {fps : Fps} {w : Rp.W} (si : SI X g0 H0 own g H σ env fps w) {i : Nat} {a : Addr} {o : HO} {v : V} {d : Rp.D} (ha : a ∈ fps i) (hv : σ[i]? = some (some v)) (ro : RO X g (upd H a o) (own.getD i 0) v d (fps i)) :
    SI X g0 H0 own g (upd H a o) σ (env.set i (some d)) fps w ∧ Fm g H g (upd H a o) := by
  obtain ⟨o1, o2, o3⟩ := si.er.out i a ha
  have h0 : H0 a = none := si.fr i a ha
  have fm := fm_write (o := o) o1 (H := H)
  refine ⟨⟨⟨by rw [List.length_set]; exact si.er.len, fun j e h => ?_, si.er.nd, si.er.dis, fun j b hb => ?_⟩, ⟨fun b hb => ?_, ?_⟩, ⟨si.ext.f, si.ext.n, fun b o' h hw => ?_, si.ext.w1, si.ext.w2, fun b h => ?_⟩, si.fr, si.me⟩, fm⟩
  · by_cases c : j = i
    · subst c
      have hl : j < env.length := by
        have := (List.getElem?_eq_some_iff.mp h).1
        rwa [List.length_set] at this
      rw [List.getElem?_set_self hl] at h
      cases h
      exact ⟨v, hv, ro⟩
    · rw [List.getElem?_set_ne (Ne.symm c)] at h
      obtain ⟨u, h1, h2⟩ := si.er.slot j e h
      exact ⟨u, h1, RO.fm fm h2 fun b hb o' ho => by rw [upd_ne (fun z => by subst z; exact si.er.dis j i b c hb ha)]; exact ho⟩
  · obtain ⟨p1, p2, p3⟩ := si.er.out j b hb
    refine ⟨p1, ?_, p3⟩
    by_cases c : b = a
    · subst c; rw [upd_same]; simp
    · rw [upd_ne c]; exact p2
  · obtain ⟨p1, p2⟩ := si.wr.1 b hb
    refine ⟨?_, p2⟩
    by_cases c : b = a
    · subst c; rw [upd_same]; simp
    · rw [upd_ne c]; exact p1
  · have h2 := si.wr.2
    cases w with
    | none => exact h2
    | some st =>
      obtain ⟨p, ca, h1, h2, h3, h4, h5, h6⟩ := h2
      have c1 : p ≠ a := fun c => by subst c; exact o3 ⟨by rw [h1]; simp, .inl h1⟩
      have c2 : g.ga ≠ a := fun c => o3 ⟨by rw [h1]; simp, .inr c.symm⟩
      have c3 : ca ≠ a := fun c => by subst c; exact o1 h5
      exact ⟨p, ca, h1, h2, by rw [upd_ne c1]; exact h3, by rw [upd_ne c2]; exact h4, h5, by rw [upd_ne c3]; exact h6⟩
  · have c : b ≠ a := fun c => by subst c; rw [h0] at h; cases h
    rw [upd_ne c]; exact si.ext.k b o' h hw
  · have c : b ≠ a := fun c => by subst c; exact h h0
    rw [upd_ne c]; exact si.ext.t b h

/-! ### o[i] = v -/
def rSetD : TSet := fun o i v H Q => rSetL o i v H Q ∨ ∃ a kvs j, o = .ref a ∧ i = .int j ∧ H a = some (.dK kvs) ∧ kvs.length < sizeLine ∧ Q (upd H a (.dK (putK kvs (.inl j) v)))
theorem set_D (cg : Cg T k sc (fun _ => true) N Xc) : PSet Xc rSetD := by
  intro pins s σ H o i v ov iv u Q I ro ri rv h
  rcases h with h | ⟨a, kvs, j, rfl, rfl, hk, hl, q⟩
  · exact set_list pins s σ H o i v ov iv u Q I ro ri rv h
  · cases ro
    exact d_setItem (by have := cg.room.un; omega) I (DPut.k (k := .inl j) hk hl) ri rv fun s' I' => ⟨_, I', q⟩
theorem has_any {g : Gh} {H : Hp} {kvs : List (Key × V)} {ks : List (Rp.D × Rp.D)} (r : RpK X g H kvs ks) (j : Int) : (kvs.any fun kv => decide (kv.1 = (.inl j : Key))) = Rp.dHas ks (.int j) := by
  induction kvs generalizing ks with
  | nil => cases r; rfl
  | cons p kvs ih =>
    cases r with
    | @cons i v _ d ds a b =>
      rw [List.any_cons, ih b]
      show (decide ((Sum.inl i : Key) = Sum.inl j) || _) = (Rp.D.eqv (.int i) (.int j) || _)
      by_cases c : i = j
      · subst c; simp [Rp.D.eqv]
      · simp [Rp.D.eqv, c]
theorem put_rel {g : Gh} {H : Hp} {kvs : List (Key × V)} {ks : List (Rp.D × Rp.D)} {v : V} {d : Rp.D} (j : Int) (r : RpK X g H kvs ks) (rv : Rp X g H v d) : RpK X g H (putK kvs (.inl j) v) (Rp.dPut ks (.int j) d) := by
  have mp : ∀ {kvs : List (Key × V)} {ks : List (Rp.D × Rp.D)}, RpK X g H kvs ks → RpK X g H (kvs.map fun kv => if kv.1 = (.inl j : Key) then (kv.1, v) else kv) (ks.map fun p => if Rp.D.eqv p.1 (.int j) then (p.1, d) else p) := by
    intro kvs
    induction kvs with
    | nil => intro ks r; cases r; exact .nil
    | cons p kvs ih =>
      intro ks r
      cases r with
      | @cons i u _ e es a b =>
        rw [List.map_cons, List.map_cons]
        by_cases c : i = j
        · subst c
          simp only [Rp.D.eqv, if_true, beq_self_eq_true]
          exact .cons rv (ih b)
        · have c1 : ¬ (Sum.inl i : Key) = Sum.inl j := fun z => c (Sum.inl.inj z)
          have c2 : (i == j) = false := by simpa using c
          simp only [Rp.D.eqv, c1, c2, if_false, Bool.false_eq_true]
          exact .cons a (ih b)
  have ap : ∀ {kvs : List (Key × V)} {ks : List (Rp.D × Rp.D)}, RpK X g H kvs ks → RpK X g H (kvs ++ [(.inl j, v)]) (ks ++ [(.int j, d)]) := by
    intro kvs
    induction kvs with
    | nil => intro ks r; cases r; exact .cons rv .nil
    | cons p kvs ih =>
      intro ks r
      cases r with
      | cons a b => exact .cons a (ih b)
  unfold putK Rp.dPut
  rw [has_any r j]
  split
  · exact mp r
  · exact ap r
theorem rpk_len {g : Gh} {H : Hp} {kvs : List (Key × V)} {ks : List (Rp.D × Rp.D)} (r : RpK X g H kvs ks) : kvs.length = ks.length := by
  induction kvs generalizing ks with
  | nil => cases r; rfl
  | cons p kvs ih => cases r with | cons a b => rw [List.length_cons, List.length_cons, ih b]
/-- the write of a slot's list or dict -/
theorem set_w {g : Gh} {H : Hp} {σ : L2.St} {env : Rp.Env} {fps : Fps} {w : Rp.W} (si : SI X g0 H0 own g H σ env fps w) {i : Nat} {ov iv v : V} {x kd y z : Rp.D} {Q : Hp → Prop} (h1 : own.getD i 0 = 1) (hl : Rp.look env i = some x) (hv : σ[i]? = some (some ov)) (hk : RR X g H 9 iv kd) (ry : Rp X g H v y) (hs : Rp.setD x kd y = some z)
    (q : ∀ H', Fm g H g H' → SI X g0 H0 own g H' σ (env.set i (some z)) fps w → Q H') : rSetD ov iv v H Q := by
  obtain ⟨v', hv', ro⟩ := si.er.look hl
  rw [hv] at hv'
  cases hv'
  rw [h1] at ro
  cases x with
  | lst xs =>
    cases kd with
    | int j =>
      simp only [Rp.setD] at hs
      obtain ⟨m, hm, rfl⟩ := Option.map_eq_some_iff.mp hs
      obtain ⟨a, vs, rfl, hf, ha, ra⟩ := RO1.lst ro
      have oo := si.er.out i a (by rw [hf]; simp)
      have fm := fm_write (g := g) (H := H) (o := .lst (vs.set m v)) oo.1
      obtain ⟨s2, f2⟩ := si.write (a := a) (o := .lst (vs.set m v)) (d := .lst (xs.set m y)) (by rw [hf]; simp) hv (by rw [h1, hf]; exact RO1.ofL upd_same (RpA.fm fm (RpA.set ry m ra)))
      exact .inl ⟨a, vs, j, m, rfl, hk.int, ha, by rw [ra.length]; exact hm, q _ f2 s2⟩
    | _ => simp [Rp.setD] at hs
  | dic ks =>
    simp only [Rp.setD] at hs
    split at hs
    · rename_i c
      cases hs
      simp only [Bool.and_eq_true, decide_eq_true_eq] at c
      cases kd with
      | int j =>
        obtain ⟨a, vs, rfl, hf, ha, ra⟩ := RO1.dic ro
        have oo := si.er.out i a (by rw [hf]; simp)
        have fm := fm_write (g := g) (H := H) (o := .dK (putK vs (.inl j) v)) oo.1
        obtain ⟨s2, f2⟩ := si.write (a := a) (o := .dK (putK vs (.inl j) v)) (d := .dic (Rp.dPut ks (.int j) y)) (by rw [hf]; simp) hv (by rw [h1, hf]; exact RO1.ofD upd_same (RpK.fm fm (put_rel j ra ry)))
        exact .inr ⟨a, vs, j, rfl, hk.int, ha, line_lt (by rw [rpk_len ra]; exact c.2), q _ f2 s2⟩
      | _ => simp [Rp.D.key] at c
    · cases hs
  | _ => simp [Rp.setD] at hs
theorem sub_ok {o i : Expr} {pos : Pos} {env : Env} (h : notSl i = true) (v : Value) : assign (.Subscript o i pos) env v = (do
      let ov ← holding [v] (eval o env)
      let iv ← holding [v, ov] (eval i env)
      standAt pos
      holding [v, ov, iv] (setItem ov iv v)
      release [v, ov, iv] []) := by
  cases i <;> first | (cases h; done) | rfl
theorem sw_sub {x o i : Expr} {p pos : Pos} {env : Env} (h : noSD x = true) : swapsWithSole [.Subscript o i p] x pos.line env = pure false := by
  cases x <;> first | (cases h; done) | rfl
theorem st_sub {x o i : Expr} {p : Pos} {env : Env} : swappedStores [.Subscript o i p] x env = pure none := by
  cases x <;> rfl
theorem ps_setixD (cs : Cs T k sc N Xc) {i : Nat} {kk e : Rp.E} {y : Str} {py p2 pos : Pos} {xi x : Expr} (h1 : own.getD i 0 = 1) (hN : N[i]? = some y) (hv : Vis sc y) (hd : (y == ("__debug__" : Str)) = false) (hcd : (y == ("__classdict__" : Str)) = false)
    (dk : PE Xc xi (tD X C own kk)) (lk : lev own kk ≤ 1) (dx : PE Xc x (tD X C own e)) (lx : lev own e = 0) (hn : notSl xi = true) (hs : noSD x = true) :
    PS Xc (.Assign [.Subscript (.Name y py) xi p2] x pos) (tS X g0 H0 own (some own) lo (fun env w => Rp.exS C (.setix i kk e) env w)) := by
  have hvar : PE Xc (.Name y py) (tVar i) := pe_var (by rw [cs.cg.n]; exact hN) (by rw [cs.cg.sco]; exact hv) hd hcd
  refine (ps_asg dx (pg_sub hvar dk (set_D cs.cg) (sub_ok hn)) (sw_sub hs) st_sub).imp fun D σ H ⟨g, env, fps, w, fl, w', si, ev, q⟩ => ?_
  simp only [Rp.exS] at ev
  obtain ⟨dy, w1, e1, ev2⟩ := bind_ok ev
  obtain ⟨dx, w2, e2, ev3⟩ := bind_ok ev2
  obtain ⟨l2, rfl⟩ := lift_ok e2
  obtain ⟨dj, w3, e3, ev4⟩ := bind_ok ev3
  obtain ⟨dz, w4, e4, ev5⟩ := bind_ok ev4
  obtain ⟨l4, rfl⟩ := lift_ok e4
  simp only [Rp.R.ok.injEq] at ev5
  obtain ⟨rfl, rfl⟩ := ev5
  refine ⟨g, env, fps, w, dy, w1, si.er, si.wr, e1, fun v H1 g1 x1 wr1 r1 => ?_⟩
  rw [lx] at r1
  obtain ⟨ov, hov, _⟩ := si.er.look l2
  refine ⟨ov, hov, g1, env, fps, w1, dj, w3, si.er.ext x1 si.wr.ok, wr1, e3, fun iv H2 g2 x2 wr2 r2 => ?_⟩
  exact set_w (si.step (x1.trans x2) wr2) h1 l2 hov (r2.mono (by omega)) (Rp.fm (x2.fm wr1.ok) r1) l4 fun H' f2 s2 => q σ H' g2 fps (((x1.trans x2).fm si.wr.ok).trans f2) s2

/-! ### methods of lists -/
theorem few_ok {es : List Expr} {env : Env} {pos : Pos} (h : es.all nstar = true) (hl : es.length < 30) : ((backTo pos (starEach es env)).all (fun x => !x.1) && (backToKw pos (keywordEach [] env)).all (fun x => x.1.isSome)
      && decide (es.length + ([] : List Keyword).length + (if ([] : List Keyword).isEmpty then 0 else 1) < 30)) = true := by
  have h1 : ∀ {es : List Expr}, es.all nstar = true → (backTo pos (starEach es env)).all (fun x => !x.1) = true := by
    intro es
    induction es with
    | nil => intro _; rfl
    | cons e es ih =>
      intro h
      rw [List.all_cons, Bool.and_eq_true] at h
      rw [star_cons h.1]
      show (!false && (backTo pos (starEach es env)).all (fun x => !x.1)) = true
      rw [ih h.2]; rfl
  rw [h1 h]
  show (true && true && _) = true
  simpa using hl
theorem ps_appendD (cs : Cs T k sc N Xc) {i : Nat} {e : Rp.E} {y : Str} {py p2 p3 pos : Pos} {x : Expr} (h1 : own.getD i 0 = 1) (hN : N[i]? = some y) (hv : Vis sc y) (hd : (y == ("__debug__" : Str)) = false) (hcd : (y == ("__classdict__" : Str)) = false)
    (dx : PE Xc x (tD X C own e)) (lx : lev own e = 0) (ns : nstar x = true) (hline : (p2.endLine == p3.line) = true) :
    PS Xc (.Expr (.Call (.Attribute (.Name y py) "append" p2) [x] [] p3) pos) (tS X g0 H0 own (some own) lo (fun env w => Rp.exS C (.append i e) env w)) := by
  have hvar : PE Xc (.Name y py) (tVar i) := pe_var (by rw [cs.cg.n]; exact hN) (by rw [cs.cg.sco]; exact hv) hd hcd
  refine (ps_expr (pe_bm PySem.F.plainAttrs_list PySem.F.slot_list_append PySem.F.type_list_append mt_append hvar (pa_cons dx pa_nil (star_cons ns)) rfl (few_ok (by simp [ns]) (by simp)) hline (star_cons ns) (star_none rfl)) rfl).imp fun D σ H ⟨g, env, fps, w, fl, w', si, ev, q⟩ => ?_
  simp only [Rp.exS] at ev
  obtain ⟨dx, w2, e2, ev3⟩ := bind_ok ev
  obtain ⟨l2, rfl⟩ := lift_ok e2
  obtain ⟨dy, w3, e3, ev4⟩ := bind_ok ev3
  obtain ⟨dz, w4, e4, ev5⟩ := bind_ok ev4
  obtain ⟨l4, rfl⟩ := lift_ok e4
  simp only [Rp.R.ok.injEq] at ev5
  obtain ⟨rfl, rfl⟩ := ev5
  obtain ⟨ov, hov, ro⟩ := si.er.look l2
  rw [h1] at ro
  cases dx with
  | lst xs =>
    simp only [Rp.appD] at l4
    split at l4
    · rename_i hl
      cases l4
      obtain ⟨a, vs, rfl, hf, ha, ra⟩ := RO1.lst ro
      refine ⟨.ref a, hov, .inl ⟨rfl, vs, SqL.of ha⟩, g, env, fps, w, dy, w3, si.er, si.wr, e3, fun u H1 g1 x1 wr1 r1 => ?_⟩
      rw [lx] at r1
      have s1 := si.step x1 wr1
      have oo := s1.er.out i a (by rw [hf]; simp)
      have ha1 : H1 a = some (.lst vs) := x1.k a _ ha (si.er.out i a (by rw [hf]; simp)).2.2
      have fm := fm_write (g := g1) (H := H1) (o := .lst (vs ++ [u])) oo.1
      obtain ⟨s2, f2⟩ := s1.write (a := a) (o := .lst (vs ++ [u])) (d := .lst (xs ++ [dy])) (by rw [hf]; simp) hov (by rw [h1, hf]; exact RO1.ofL upd_same (RpA.fm fm ((RpA.fm (x1.fm si.wr.ok) ra).append (.cons r1 .nil))))
      exact ⟨a, vs, u, rfl, rfl, ha1, line_lt (by rw [ra.length]; exact hl), q σ _ g1 fps ((x1.fm si.wr.ok).trans f2) s2⟩
    · cases l4
  | _ => simp [Rp.appD] at l4
end
end RpS
end

section
set_option Elab.async false
set_option linter.all false
set_option maxRecDepth 100000
set_option maxHeartbeats 4000000
/-! RpX3: lists of owned lists, augmented assignments. -/
namespace RpS
open PySem PySem.Spec PyProof.Rows L2
/-- a list of lists or dicts that are made here -/
def tF2 (X : Gx) (C : Rp.Cl) (own : List Nat) (e : Rp.E) : TE := fun σ H Q => ∃ g env fps w d w', ER X own g H σ env fps ∧ WR g H w ∧ Rp.evE C e env w = .ok d w' ∧ Rp.allMut d = true ∧
  ∀ v H' g' fp, Ext g H g' H' → WR g' H' w' → RO X g' H' 2 v d fp → fp.Nodup → (∀ a ∈ fp, H a = none ∧ H' a ≠ none ∧ ¬ g'.F a ∧ ¬ wd g' a) → Q v H'
section
variable {X : Gx} {g : Gh} {H : Hp} {p : Addr → Prop}
theorem LO.app {v : V} {d : Rp.D} {fp : List Addr} (ro : RO X g H 1 v d fp) (nd : fp.Nodup) (out : ∀ a ∈ fp, p a ∧ H a ≠ none ∧ ¬ g.F a ∧ ¬ wd g a) : ∀ {ns : List Nat} {vs : List V} {ds : List Rp.D} {fpl : List (List Addr)}, LO X g H p ns vs ds fpl → (∀ fp' ∈ fpl, ∀ a ∈ fp', a ∉ fp) → LO X g H p (ns ++ [1]) (vs ++ [v]) (ds ++ [d]) (fpl ++ [fp])
  | _, _, _, _, .nil, _ => .cons ro nd out (fun _ h => by cases h) .nil
  | _, _, _, _, .cons r n o dj l, h => by
    refine .cons r n o (fun fp' hf a ha => ?_) (LO.app ro nd out l fun fp' hf => h fp' (List.mem_cons_of_mem _ hf))
    rcases List.mem_append.mp hf with q | q
    · exact dj fp' q a ha
    · simp at q; subst q; exact h _ List.mem_cons_self a ha
theorem LO.flat : ∀ {ns : List Nat} {vs : List V} {ds : List Rp.D} {fpl : List (List Addr)}, LO X g H p ns vs ds fpl → (∀ n ∈ ns, n = 1) → LsO (RO X g H 1) vs ds fpl.flatten ∧ fpl.flatten.Nodup ∧ ∀ a ∈ fpl.flatten, p a ∧ H a ≠ none ∧ ¬ g.F a ∧ ¬ wd g a
  | _, _, _, _, .nil, _ => ⟨.nil, List.nodup_nil, fun a h => by cases h⟩
  | _, _, _, _, .cons (n := n) (fp := fp) (fpl := fpl) r nd o dj l, h => by
    obtain ⟨h1, h2, h3⟩ := LO.flat l fun n hn => h n (List.mem_cons_of_mem _ hn)
    have hn : n = 1 := h n List.mem_cons_self
    subst hn
    refine ⟨.cons r h1, ?_, fun a ha => ?_⟩
    · rw [List.flatten_cons, List.nodup_append]
      refine ⟨nd, h2, fun a ha b hb e => ?_⟩
      subst e
      obtain ⟨fp', hf, hb⟩ := List.mem_flatten.mp hb
      exact dj fp' hf a ha hb
    · rw [List.flatten_cons] at ha
      rcases List.mem_append.mp ha with q | q
      · exact o a q
      · exact h3 a q
end
theorem zer_zer (is own : List Nat) : zer (zer own is) is = zer own is := zer_absorb fun i h => h
section
variable {T : Tx} {X : Gx} {C : Rp.Cl} {k : Nat} {B : Tb} {sc : Scope} {fc : Str → Bool} {N : List Str} {Xc : Cx} {own : List Nat} {tg : Expr}
theorem lc_turnsF {p : Rp.Pat} {e : Rp.E} {J : L2.It} {xs ds : List Rp.D} {env : Rp.Env} {g1 : Gh} {H1 : Hp} {σ : L2.St} {w1 w' : Rp.W} {Q : VK} {fps : Fps} {KK : PySem.W.Frag}
    (er : ER X own g1 H1 σ env fps) (wr : WR g1 H1 w1) (yl : Yl X J xs g1 H1) (hL : ds.length ≤ Rp.LINE) (hm : ds.all Rp.isMut = true)
    (hf : Rp.mapL (fun x w => match Rp.bindP p x env with | some env' => Rp.evE C e env' w | none => .no) xs w1 = .ok ds w')
    (q : ∀ g2 H2 v fp, Ext g1 H1 g2 H2 → WR g2 H2 w' → RO X g2 H2 2 v (.lst ds) fp → fp.Nodup → (∀ a ∈ fp, H1 a = none ∧ H2 a ≠ none ∧ ¬ g2.F a ∧ ¬ wd g2 a) → Q v H2) :
    ∀ D, H1 D = none → ∃ W : Nat → Nat → Hp → Prop, (∃ m, W 0 m (upd H1 D (.lst []))) ∧ ∀ i m H, W i m H →
      (J.stop i H ∧ Q (.ref D) H) ∨ (J.go i H ∧ ∃ Nx : Hp → Prop, (∀ H', Nx H' → ∃ m', m' < m ∧ W (i + 1) m' H') ∧ ∀ x H', J.yld i H x H' → tPat KK p x (L2.wipe σ p.is) H' fun σ2 H2 => L2.wipe σ2 p.is = L2.wipe σ p.is ∧ tYes σ2 H2 fun b H3 =>
        if b = true then tF X C (zer own p.is) e σ2 H3 fun y H4 => ∃ acc, H4 D = some (.lst acc) ∧ acc.length < sizeLine ∧ Nx (upd H4 D (.lst (acc ++ [y]))) else Nx H3) := by
  intro D hD
  refine ⟨fun i m H => m = xs.length - i ∧ i ≤ xs.length ∧ ∃ g w acc done rest ns fpl, H D = some (.lst acc) ∧ rmv H D D = none ∧ Ext g1 H1 g (rmv H D) ∧ WR g (rmv H D) w ∧ LO X g (rmv H D) (fun a => H1 a = none) ns acc done fpl ∧ (∀ n ∈ ns, n = 1) ∧ Rp.mapL (fun x w => match Rp.bindP p x env with | some env' => Rp.evE C e env' w | none => .no) (xs.drop i) w = .ok rest w' ∧ ds = done ++ rest,
    ⟨xs.length, by omega, by omega, g1, w1, [], [], ds, [], [], upd_same, rmv_self, ?_, ?_, .nil, (fun n h => by cases h), hf, rfl⟩, ?_⟩
  · rw [rmv_upd, rmv_none hD]; exact .refl _ _
  · rw [rmv_upd, rmv_none hD]; exact wr
  rintro i m H ⟨rfl, hi, g, w, acc, done, rest, ns, fpl, hH, hn, ex, wr2, la, hns, hfl, hds⟩
  have eH : upd (rmv H D) D (.lst acc) = H := upd_rmv hH
  have ex1 : Ext g (rmv H D) g H := by
    have := ext_upd (g := g) (o := .lst acc) (rmv_self (H := H) (D := D))
    rwa [eH] at this
  have wrH : WR g H w := by
    have := wr2.upd (o := .lst acc) (rmv_self (H := H) (D := D))
    rwa [eH] at this
  have exH : Ext g1 H1 g H := ex.trans ex1
  have fmH : Fm g1 H1 g H := exH.fm wr.ok
  by_cases hlt : i < xs.length
  · have hx : xs[i]? = some xs[i] := by simp [hlt]
    have hdrop : xs.drop i = xs[i] :: xs.drop (i + 1) := List.drop_eq_getElem_cons hlt
    rw [hdrop] at hfl
    obtain ⟨y, w2, zs, e1, e2, e3⟩ := mapL_step hfl
    refine .inr ⟨yl.go i g H _ fmH hx, fun H' => ∃ g w acc done rest ns fpl, H' D = some (.lst acc) ∧ Ext g1 H1 g (rmv H' D) ∧ WR g (rmv H' D) w ∧ LO X g (rmv H' D) (fun a => H1 a = none) ns acc done fpl ∧ (∀ n ∈ ns, n = 1) ∧ Rp.mapL (fun x w => match Rp.bindP p x env with | some env' => Rp.evE C e env' w | none => .no) (xs.drop (i + 1)) w = .ok rest w' ∧ ds = done ++ rest,
      fun H' ⟨g3, w3, acc3, done3, rest3, ns3, fpl3, n1, n2, n3, n4, n7, n5, n6⟩ => ⟨xs.length - (i + 1), by omega, rfl, hlt, g3, w3, acc3, done3, rest3, ns3, fpl3, n1, rmv_self, n2, n3, n4, n7, n5, n6⟩, fun v H' hy => ?_⟩
    obtain ⟨g3, ex3, wr3, rv⟩ := yl.yld i g H w _ v H' fmH wrH hx hy
    cases hb : Rp.bindP p xs[i] env with
    | none => rw [hb] at e1; cases e1
    | some env2 =>
      rw [hb] at e1
      simp only at e1
      have er3 : ER X (zer own p.is) g3 H' (L2.wipe σ p.is) (Rp.kill env p.is) (clr fps p.is) := (er.ext (exH.trans ex3) wr.ok).wipe p.is
      have hb2 := hb
      rw [← bindP_kill] at hb
      refine pat_step er3 rv hb fun us hus er4 => ⟨wipe_setV fun i h => h, ?_⟩
      rw [zer_zer] at er4
      have back : ∀ {g5 : Gh} {H5 : Hp} {w5 : Rp.W}, Ext g H g5 H5 → WR g5 H5 w5 → Ext g (rmv H D) g5 (rmv H5 D) ∧ WR g5 (rmv H5 D) w5 ∧ Fm g5 H5 g5 (rmv H5 D) ∧ H5 D = some (.lst acc) := fun {g5 H5 w5} e5 wr5 => by
        have e6 : Ext g (upd (rmv H D) D (.lst acc)) g5 H5 := by rw [eH]; exact e5
        exact rm_step rmv_self wr2 e6 wr5
      have hym : Rp.isMut y = true := by
        have : y ∈ ds := by rw [hds, e3]; simp
        exact List.all_eq_true.mp hm y this
      unfold tYes
      refine (if_pos (rfl : true = true)).mpr ?_
      obtain ⟨_, _, _, hD'⟩ := back ex3 wr3
      refine ⟨g3, env2, _, w, y, w2, er4, wr3, e1, hym, fun u H5 g5 fp ex5 wr5 ro nd out => ?_⟩
      obtain ⟨h1, h2, h3, h4⟩ := back (ex3.trans ex5) wr5
      have hneD : ∀ a ∈ fp, a ≠ D := fun a ha c => by
        have := (out a ha).1
        rw [c, hD'] at this; cases this
      have la2 := la.later h1 wr2.ok
      refine ⟨acc, h4, ?_, g5, w2, acc ++ [u], done ++ [y], zs, ns ++ [1], fpl ++ [fp], upd_same, ?_, ?_, ?_, ?_, e2, by rw [hds, e3]; simp⟩
      · have e6 := la.len.1
        refine line_lt ?_
        have : ds.length = done.length + (zs.length + 1) := by rw [hds, e3]; simp
        omega
      · rw [rmv_upd]; exact ex.trans h1
      · rw [rmv_upd]; exact h2
      · rw [rmv_upd]
        refine LO.app (RO.fm h3 ro fun a ha o ho => by rw [rmv_ne (hneD a ha)]; exact ho) nd (fun a ha => ?_) la2 (fun fp' hf a ha z => ?_)
        · obtain ⟨o1, o2, o3, o4⟩ := out a ha
          exact ⟨(exH.trans ex3).none_back o1, by rw [rmv_ne (hneD a ha)]; exact o2, o3, o4⟩
        · have q1 := (la.out fp' hf a ha).2.1
          have q2 := (out a z).1
          have c : a ≠ D := hneD a z
          rw [rmv_ne c] at q1
          exact ex3.t a q1 q2
      · intro n hn
        rcases List.mem_append.mp hn with q | q
        · exact hns n q
        · simpa using q
  · have e : i = xs.length := by omega
    subst e
    rw [List.drop_length] at hfl
    simp only [Rp.mapL, Rp.R.ok.injEq] at hfl
    obtain ⟨rfl, rfl⟩ := hfl
    rw [List.append_nil] at hds
    subst hds
    obtain ⟨f1, f2, f3⟩ := la.flat hns
    have hneD : ∀ a ∈ fpl.flatten, a ≠ D := fun a ha c => by
      have := (f3 a ha).2.1
      rw [c, rmv_self] at this; exact this rfl
    have fmr : Fm g (rmv H D) g H := ex1.fm wr2.ok
    refine .inl ⟨yl.stop g H fmH, q g H (.ref D) (D :: fpl.flatten) exH wrH (.inl ⟨D, acc, ds, fpl.flatten, rfl, rfl, rfl, hH, ?_⟩) (List.nodup_cons.mpr ⟨fun z => hneD D z rfl, f2⟩) fun a ha => ?_⟩
    · have : ∀ {vs : List V} {es : List Rp.D} {fs : List Addr}, LsO (RO X g (rmv H D) 1) vs es fs → (∀ a ∈ fs, a ≠ D) → LsO (RO X g H 1) vs es fs := by
        intro vs es fs l
        induction l with
        | nil => intro _; exact .nil
        | cons a b ih => intro h; exact .cons (RO.fm fmr a fun x hx o ho => by rw [rmv_ne (h x (List.mem_append.mpr (.inl hx)))] at ho; exact ho) (ih fun x hx => h x (List.mem_append.mpr (.inr hx)))
      exact this f1 hneD
    · rcases List.mem_cons.mp ha with c | c
      · subst c
        exact ⟨hD, by rw [hH]; simp, fun z => (wr2.1 _ z).1 rmv_self, not_wd_of_none wr2 rmv_self⟩
      · obtain ⟨p1, p2, p3, p4⟩ := f3 a c
        rw [rmv_ne (hneD a c)] at p2
        exact ⟨p1, p2, p3, p4⟩
theorem qlcF {p : Rp.Pat} {it : Rp.It} {e : Rp.E} {σ : L2.St} {H : Hp} {Q : VK} {K : PySem.W.Frag} (h : tF2 X C own (.comp p it e) σ H Q) : tLc (tIt X C own it) (tPat K p) tYes (tF X C (zer own p.is) e) p.is σ H Q := by
  obtain ⟨g, env, fps, w, d, w', er, wr, ev, am, q⟩ := h
  simp only [Rp.evE] at ev
  obtain ⟨xs, w1, e1, ev2⟩ := bind_ok ev
  obtain ⟨ds, w2, e2, ev3⟩ := bind_ok ev2
  obtain ⟨hL, rfl, rfl⟩ := fits_ok ev3
  refine ⟨g, env, fps, w, xs, w1, er, wr, e1, fun J g1 H1 x1 wr1 yl => ?_⟩
  exact lc_turnsF (er.ext x1 wr.ok) wr1 yl hL am e2 fun g2 H2 v fp x2 wr2 ro nd out => q v H2 g2 fp (x1.trans x2) wr2 ro nd fun a ha => ⟨x1.none_back (out a ha).1, (out a ha).2⟩
end
end RpS
end

section
set_option Elab.async false
set_option linter.all false
set_option maxRecDepth 100000
set_option maxHeartbeats 4000000
/-! RpX4: statements: name = list of lists, name op= value, name[i][j] += value. -/
namespace RpS
open PySem PySem.Spec PyProof.Rows L2
theorem LsO.get {p : V → Rp.D → List Addr → Prop} : ∀ {vs : List V} {ds : List Rp.D} {fs : List Addr} {n : Nat} {d : Rp.D}, LsO p vs ds fs → ds[n]? = some d → ∃ v f, vs[n]? = some v ∧ p v d f ∧ ∀ a ∈ f, a ∈ fs
  | _, _, _, _, _, .nil, h => by simp at h
  | _, _, _, 0, _, .cons a b, h => by
    simp at h; subst h
    exact ⟨_, _, rfl, a, fun x hx => List.mem_append.mpr (.inl hx)⟩
  | _, _, _, n + 1, _, .cons a b, h => by
    obtain ⟨v, f, h1, h2, h3⟩ := LsO.get (n := n) b (by simpa using h)
    exact ⟨v, f, by simpa using h1, h2, fun x hx => List.mem_append.mpr (.inr (h3 x hx))⟩
section
variable {X : Gx} {g : Gh} {H : Hp}
theorem LsO.keep {g' : Gh} {H' : Hp} (fm : Fm g H g' H') : ∀ {vs : List V} {ds : List Rp.D} {fs : List Addr}, LsO (RO X g H 1) vs ds fs → (∀ c ∈ fs, ∀ o, H c = some o → H' c = some o) → LsO (RO X g' H' 1) vs ds fs
  | _, _, _, .nil, _ => .nil
  | _, _, _, .cons a b, k => .cons (RO.fm fm a fun c hc => k c (List.mem_append.mpr (.inl hc))) (LsO.keep fm b fun c hc => k c (List.mem_append.mpr (.inr hc)))
/-- one of some owned lists is written -/
theorem LsO.wrOne {b : Addr} {us us' : List V} {ys ys' : List Rp.D} (hF : ¬ g.F b) (hb : H b = some (.lst us)) (r' : RpA X g (upd H b (.lst us')) us' ys') : ∀ {vs : List V} {ds : List Rp.D} {fs : List Addr} {n : Nat}, LsO (RO X g H 1) vs ds fs → fs.Nodup → ds[n]? = some (.lst ys) → vs[n]? = some (.ref b) → LsO (RO X g (upd H b (.lst us')) 1) vs (ds.set n (.lst ys')) fs := by
  have fm : Fm g H g (upd H b (.lst us')) := fm_write hF
  have rest : ∀ {vs : List V} {ds : List Rp.D} {fs : List Addr}, LsO (RO X g H 1) vs ds fs → b ∉ fs → LsO (RO X g (upd H b (.lst us')) 1) vs ds fs := by
    intro vs ds fs l
    induction l with
    | nil => intro _; exact .nil
    | cons a c ih => intro h; exact .cons (RO.fm fm a fun x hx o ho => by rw [upd_ne (fun e => by subst e; exact h (List.mem_append.mpr (.inl hx)))]; exact ho) (ih fun z => h (List.mem_append.mpr (.inr z)))
  intro vs ds fs n l
  induction l generalizing n with
  | nil => intro _ h; simp at h
  | @cons v vs d ds f fs a c ih =>
    intro nd h1 h2
    obtain ⟨n1, n2, n3⟩ := List.nodup_append.mp nd
    cases n with
    | zero =>
      simp at h1 h2
      subst h1 h2
      obtain ⟨a2, us2, e1, e2, e3, e4⟩ := RO1.lst a
      cases e1
      subst e2
      exact .cons (RO1.ofL upd_same r') (rest c fun z => n3 b (by simp) b z rfl)
    | succ n =>
      rw [List.set_cons_succ]
      have h1' : ds[n]? = some (.lst ys) := by simpa using h1
      have h2' : vs[n]? = some (.ref b) := by simpa using h2
      obtain ⟨v2, f2, q1, q2, q3⟩ := LsO.get c h1'
      obtain ⟨a2, us2, e1, e2, e3, e4⟩ := RO1.lst q2
      have hbf : b ∈ fs := by
        rw [h2'] at q1
        cases q1
        cases e1
        exact q3 _ (by rw [e2]; simp)
      refine .cons (RO.fm fm a fun x hx o ho => ?_) (ih n2 h1' h2')
      rw [upd_ne (fun e => n3 x hx b hbf e)]; exact ho
end
def rGetN (K : PySem.W.Frag) : V → V → Hp → VK → Prop := fun o i H Q => ∃ p xs k v, o = .ref p ∧ i = .int k ∧ 0 ≤ k ∧ SqL K H p xs ∧ xs[k.toNat]? = some v ∧ Q v H
theorem get_listN {Xc : Cx} : PGet Xc (rGetN Xc.K) := by
  intro pins s σ H o i ov iv Q I ro ri h
  obtain ⟨p, xs, k, v, rfl, rfl, h0, hq, hx, q⟩ := h
  cases ro
  obtain ⟨t, rfl⟩ := ri
  obtain ⟨its, rv, pl, hz⟩ := I.list hq
  obtain ⟨w, ew, rw'⟩ := rv.get hx
  have hl := rv.length
  have hn := line63
  have hlt := (List.getElem?_eq_some_iff.mp hx).1
  exact wpAny_getItem_list pl.isList h0 (by omega) (by simpa using ew) ⟨_, H, I, rw', q⟩
section
variable {T : Tx} {X : Gx} {C : Rp.Cl} {k : Nat} {B : Tb} {sc : Scope} {N : List Str} {Xc : Cx} {own lo : List Nat} {on : Option (List Nat)} {g0 : Gh} {H0 : Hp}
theorem asg2_q {i : Nat} {e : Rp.E} {D : Ends} {σ : L2.St} {H : Hp} (hm : okm g0 i) (hi : i < own.length) (h : tS X g0 H0 own (some (own.set i 2)) lo (fun env w => Rp.exS C (.asg2 i e) env w) D σ H) : tAsg (tF2 X C own e) (gName i) D σ H := by
  obtain ⟨g, env, fps, w, fl, w', si, ev, q⟩ := h
  simp only [Rp.exS] at ev
  obtain ⟨d, w1, e1, ev2⟩ := bind_ok ev
  split at ev2
  · rename_i m
    simp only [Rp.R.ok.injEq] at ev2
    obtain ⟨rfl, rfl⟩ := ev2
    refine ⟨g, env, fps, w, d, w1, si.er, si.wr, e1, m, fun v H1 g1 fp x1 wr1 r1 nd out => ?_⟩
    exact q _ H1 g1 _ (x1.fm si.wr.ok) ((si.step x1 wr1).set1 hi r1 nd (fun a ha => ⟨(out a ha).2.2.1, (out a ha).2.1, (out a ha).2.2.2⟩) (fun j _ a ha hj => (si.er.out j a hj).2.1 (out a ha).1) (fun a ha => si.ext.none_back (out a ha).1) hm)
  · cases ev2
theorem ps_augD (cs : Cs T k sc N Xc) {i : Nat} (hm : okm g0 i) {o : Rp.BOp} {e : Rp.E} {y : Str} {py pos : Pos} {x : Expr} (hy : okT sc (fun _ => true) N i (.Name y py) = true) (h0 : own.getD i 0 = 0) (d : PE Xc x (tD X C own e)) (ll : lev own e ≤ 1) (ho : o = .add ∨ o = .sub) :
    PS Xc (.AugAssign (.Name y py) (opB o) x pos) (tS X g0 H0 own (some (own.set i 0)) lo (fun env w => Rp.exS C (.aug i o e) env w)) := by
  obtain ⟨y2, p2, e2, h1, h2⟩ := okT_name hy
  cases e2
  have key : ∀ (f : Int → Int → Int), PIp Xc (opB o) (ipI f) → (∀ a b, Rp.augD o (.int a) (.int b) = some (.int (f a b))) → PS Xc (.AugAssign (.Name y py) (opB o) x pos) (tS X g0 H0 own (some (own.set i 0)) lo (fun env w => Rp.exS C (.aug i o e) env w)) := fun f hp hf => by
    refine (ps_aug (ti := ipI f) (by rw [cs.cg.n]; exact cs.cg.nd) (by rw [cs.cg.n]; exact h1) (by show Loc Xc.env.scope y; rw [cs.cg.sco]; exact h2) d hp (.inl (cs.cg.fn y rfl))).imp fun D σ H ⟨g, env, fps, w, fl, w', si, ev, q⟩ => ?_
    simp only [Rp.exS] at ev
    obtain ⟨dx, w1, e1, ev2⟩ := bind_ok ev
    obtain ⟨l1, rfl⟩ := lift_ok e1
    obtain ⟨dy, w2, e2, ev3⟩ := bind_ok ev2
    obtain ⟨dz, w3, e3, ev4⟩ := bind_ok ev3
    obtain ⟨l3, rfl⟩ := lift_ok e3
    simp only [Rp.R.ok.injEq] at ev4
    obtain ⟨rfl, rfl⟩ := ev4
    obtain ⟨v, hv, ro⟩ := si.er.look l1
    rw [h0] at ro
    obtain ⟨a, b, rfl, rfl⟩ : ∃ a b, dx = .int a ∧ dy = .int b := by
      cases o <;> cases dx <;> first | (simp [Rp.augD] at l3; done) | (cases dy <;> first | (simp [Rp.augD] at l3; done) | exact ⟨_, _, rfl, rfl⟩)
    rw [hf] at l3
    cases l3
    obtain ⟨hfp, rv⟩ := ro
    cases rv
    refine ⟨.int a, hv, g, env, fps, w, .int b, w2, si.er, si.wr, e2, fun v2 H1 g1 x1 wr1 r1 => ⟨a, b, rfl, r1.int, ?_⟩⟩
    exact q _ H1 g1 _ (x1.fm si.wr.ok) ((si.step x1 wr1).set0 (.int _) hm)
  rcases ho with rfl | rfl
  · exact key (fun i j => i + j) ip_add fun a b => rfl
  · exact key (fun i j => i - j) ip_sub fun a b => rfl
theorem ps_augix2D (cs : Cs T k sc N Xc) {i : Nat} {kk l e : Rp.E} {y : Str} {py p2 p3 pos : Pos} {xk xl x : Expr} (h2 : own.getD i 0 = 2) (hN : N[i]? = some y) (hv : Vis sc y) (hd : (y == ("__debug__" : Str)) = false) (hcd : (y == ("__classdict__" : Str)) = false)
    (dk : PE Xc xk (tD X C own kk)) (hpk : PlainIx xk) (dl : PE Xc xl (tD X C own l)) (hn : notSl xl = true) (de : PE Xc x (tD X C own e)) :
    PS Xc (.AugAssign (.Subscript (.Subscript (.Name y py) xk p2) xl p3) .Add x pos) (tS X g0 H0 own (some own) lo (fun env w => Rp.exS C (.augix2 i kk l .add e) env w)) := by
  have hvar : PE Xc (.Name y py) (tVar i) := pe_var (by rw [cs.cg.n]; exact hN) (by rw [cs.cg.sco]; exact hv) hd hcd
  refine (ps_augS (pe_ix ix_list hvar dk hpk) dl get_listN de ip_add set_list (fun ov iv new => by cases xl <;> first | rfl | (cases hn; done))).imp fun D σ H ⟨g, env, fps, w, fl, w', si, ev, q⟩ => ?_
  simp only [Rp.exS] at ev
  obtain ⟨dx, w1, e1, ev2⟩ := bind_ok ev
  obtain ⟨l1, rfl⟩ := lift_ok e1
  obtain ⟨dj, w2, e2, ev3⟩ := bind_ok ev2
  obtain ⟨dr, w3, e3, ev4⟩ := bind_ok ev3
  obtain ⟨l3, rfl⟩ := lift_ok e3
  obtain ⟨dm, w4, e4, ev5⟩ := bind_ok ev4
  obtain ⟨du, w5, e5, ev6⟩ := bind_ok ev5
  obtain ⟨l5, rfl⟩ := lift_ok e5
  obtain ⟨dy, w6, e6, ev7⟩ := bind_ok ev6
  obtain ⟨dv, w7, e7, ev8⟩ := bind_ok ev7
  obtain ⟨l7, rfl⟩ := lift_ok e7
  obtain ⟨dr2, w8, e8, ev9⟩ := bind_ok ev8
  obtain ⟨l8, rfl⟩ := lift_ok e8
  obtain ⟨dz, w9, e9, ev10⟩ := bind_ok ev9
  obtain ⟨l9, rfl⟩ := lift_ok e9
  simp only [Rp.R.ok.injEq] at ev10
  obtain ⟨rfl, rfl⟩ := ev10
  obtain ⟨v, hvv, ro⟩ := si.er.look l1
  rw [h2] at ro
  obtain ⟨xs, j, rfl, rfl⟩ : ∃ xs j, dx = .lst xs ∧ dj = .int j := by
    cases dx <;> first | (simp [Rp.getL] at l3; done) | (cases dj <;> first | (simp [Rp.getL] at l3; done) | exact ⟨_, _, rfl, rfl⟩)
  obtain ⟨ys, m, rfl, rfl, hm0, hmu⟩ : ∃ ys m, dr = .lst ys ∧ dm = .int m ∧ 0 ≤ m ∧ ys[m.toNat]? = some du := by
    cases dr <;> first | (simp [Rp.getN] at l5; done) | (cases dm <;> first | (simp [Rp.getN] at l5; done) | skip)
    rename_i ys m
    simp only [Rp.getN] at l5
    split at l5
    · rename_i h; exact ⟨ys, m, rfl, rfl, h, l5⟩
    · cases l5
  obtain ⟨a, b, rfl, rfl, rfl⟩ : ∃ a b, du = .int a ∧ dy = .int b ∧ dv = .int (a + b) := by
    cases du <;> first | (simp [Rp.augD] at l7; done) | (cases dy <;> first | (simp [Rp.augD] at l7; done) | (simp only [Rp.augD, Option.some.injEq] at l7; exact ⟨_, _, rfl, rfl, l7.symm⟩))
  simp only [Rp.setN, if_pos hm0, Option.some.injEq] at l8
  subst l8
  simp only [Rp.getL, Rp.atI] at l3
  simp only [Rp.setD] at l9
  obtain ⟨jj, hjj, rfl⟩ := Option.map_eq_some_iff.mp l9
  rw [hjj] at l3
  rcases ro with ⟨aa, vs, ds, fq, z1, z2, z3, hh, rl⟩ | ⟨hz, _⟩ | ⟨hz, _⟩
  · cases z2
    subst z1
    obtain ⟨u, f, hu, ru, hf⟩ := LsO.get rl l3
    obtain ⟨bb, us, rfl, rfl, hbb, rus⟩ := RO1.lst ru
    have hbf : bb ∈ fps i := by rw [z3]; exact List.mem_cons_of_mem _ (hf bb (by simp))
    have haf : aa ∈ fps i := by rw [z3]; exact List.mem_cons_self
    have oa := si.er.out i aa haf
    have ob := si.er.out i bb hbf
    refine ⟨.ref aa, hvv, g, env, fps, w, .int j, w2, si.er, si.wr, e2, fun vj H1 g1 x1 wr1 r1 => ?_⟩
    have ha1 : H1 aa = some (.lst vs) := x1.k _ _ hh oa.2.2
    have hat : L2.atI vs j = some (.ref bb) := by
      have : L2.ixN vs.length j = some jj := by rw [rl.length]; exact hjj
      unfold L2.atI
      rw [this]; exact hu
    refine ⟨aa, vs, j, .ref bb, rfl, r1.int, SqL.of ha1, hat, ?_⟩
    refine ⟨g1, env, fps, w2, .int m, w4, si.er.ext x1 si.wr.ok, wr1, e4, fun vm H2 g2 x2 wr2 r2 => ?_⟩
    have hb2 : H2 bb = some (.lst us) := (x1.trans x2).k _ _ hbb ob.2.2
    obtain ⟨uu, huu, ruu⟩ := rus.get hmu
    have euu : uu = .int a := by cases ruu; rfl
    subst euu
    refine ⟨bb, us, m, .int a, rfl, r2.int, hm0, SqL.of hb2, huu, ?_⟩
    refine ⟨g2, env, fps, w4, .int b, w6, si.er.ext (x1.trans x2) si.wr.ok, wr2, e6, fun vy H3 g3 x3 wr3 r3 => ?_⟩
    refine ⟨a, b, rfl, r3.int, ?_⟩
    have x4 := x1.trans (x2.trans x3)
    have hb3 : H3 bb = some (.lst us) := x4.k _ _ hbb ob.2.2
    have ha3 : H3 aa = some (.lst vs) := x4.k _ _ hh oa.2.2
    have hlt : m.toNat < us.length := (List.getElem?_eq_some_iff.mp huu).1
    have hixm : L2.ixN us.length m = some m.toNat := by
      unfold L2.ixN
      rw [if_pos hm0, if_pos (by omega)]
    refine ⟨bb, us, m, m.toNat, rfl, r2.int, hb3, hixm, ?_⟩
    have s3 := si.step x4 wr3
    have ob3 := s3.er.out i bb hbf
    have fm3 := x4.fm si.wr.ok
    have fmw := fm_write (g := g3) (H := H3) (o := .lst (us.set m.toNat (.int (a + b)))) ob3.1
    have rl3 : LsO (RO X g3 H3 1) vs xs fq := by
      have keep : ∀ c ∈ fq, ∀ o, H c = some o → H3 c = some o := fun c hc o ho => x4.k _ _ ho (si.er.out i c (by rw [z3]; exact List.mem_cons_of_mem _ hc)).2.2
      exact LsO.keep fm3 rl keep
    have nd := si.er.nd i
    rw [z3] at nd
    have nd2 := (List.nodup_cons.mp nd)
    have hbq : bb ∈ fq := hf bb (by simp)
    have hne : aa ≠ bb := fun e => nd2.1 (e ▸ hbq)
    have rus' : RpA X g3 (upd H3 bb (.lst (us.set m.toNat (.int (a + b))))) (us.set m.toNat (.int (a + b))) (ys.set m.toNat (.int (a + b))) := RpA.fm fmw (RpA.set (.int _) m.toNat (RpA.fm fm3 rus))
    obtain ⟨s4, f4⟩ := s3.write (a := bb) (o := .lst (us.set m.toNat (.int (a + b)))) (d := .lst (xs.set jj (.lst (ys.set m.toNat (.int (a + b)))))) hbf hvv (by
      rw [h2, z3]
      exact .inl ⟨aa, vs, _, fq, rfl, rfl, rfl, by rw [upd_ne hne]; exact ha3, LsO.wrOne ob3.1 hb3 rus' rl3 nd2.2 l3 hu⟩)
    exact q _ _ g3 _ (fm3.trans f4) s4
  · cases hz
  · cases hz
end
end RpS
end

section
set_option Elab.async false
set_option linter.all false
set_option maxRecDepth 100000
set_option maxHeartbeats 4000000
/-! RpS19: pops, blocks, loops. -/
namespace RpS
open PySem PySem.Spec PyProof.Rows L2
section
variable {T : Tx} {X : Gx} {C : Rp.Cl} {k : Nat} {B : Tb} {sc : Scope} {N : List Str} {Xc : Cx} {own lo : List Nat} {on : Option (List Nat)} {g0 : Gh} {H0 : Hp}
def tPop (X : Gx) (C : Rp.Cl) (K : PySem.W.Frag) (own : List Nat) (i : Nat) : Option Rp.E → TE
  | none => tBM0 K "list" rPop (tVar i)
  | some e => tBM K "list" rPopAt (tVar i) (tA X C own 1 [e])
theorem pe_popD (cs : Cs T k sc N Xc) {i : Nat} {kk : Option Rp.E} {y : Str} {py p2 p3 : Pos} {xs : List Expr} (hN : N[i]? = some y) (hv : Vis sc y) (hd : (y == ("__debug__" : Str)) = false) (hcd : (y == ("__classdict__" : Str)) = false)
    (hk : match kk, xs with | none, [] => True | some e, [x] => PE Xc x (tD X C own e) ∧ lev own e ≤ 1 ∧ nstar x = true | _, _ => False) (hline : (p2.endLine == p3.line) = true) :
    PE Xc (.Call (.Attribute (.Name y py) "pop" p2) xs [] p3) (tPop X C Xc.K own i kk) := by
  have hvar : PE Xc (.Name y py) (tVar i) := pe_var (by rw [cs.cg.n]; exact hN) (by rw [cs.cg.sco]; exact hv) hd hcd
  match kk, xs, hk with
  | none, [], _ => exact pe_bm0 PySem.F.plainAttrs_list PySem.F.slot_list_pop PySem.F.type_list_pop mt_pop hvar rfl hline
  | some e, [x], ⟨h1, h2, h3⟩ => exact pe_bm PySem.F.plainAttrs_list PySem.F.slot_list_pop PySem.F.type_list_pop mt_popAt hvar (pa_consD h1 h2 pa_nilD h3) rfl (few_ok (by simp [h3]) (by simp)) hline (star_cons h3) (star_none rfl)
theorem pop_q {K : PySem.W.Frag} {g : Gh} {H : Hp} {σ : L2.St} {env : Rp.Env} {fps : Fps} {w w1 : Rp.W} {i : Nat} {kk : Option Rp.E} {x : Rp.D} {j : Option Rp.D} {p : Rp.D × Rp.D} {Q : VK} (si : SI X g0 H0 own g H σ env fps w) (h1 : own.getD i 0 = 1) (hl : Rp.look env i = some x) (hj : Rp.optE C kk env w = .ok j w1) (hp : Rp.popD x j = some p)
    (q : ∀ y H3 g3, Fm g H g3 H3 → SI X g0 H0 own g3 H3 σ (env.set i (some p.2)) fps w1 → Rp X g3 H3 y p.1 → Q y H3) : tPop X C K own i kk σ H Q := by
  obtain ⟨ov, hov, ro⟩ := si.er.look hl
  rw [h1] at ro
  cases x with
  | lst xs =>
    obtain ⟨a, vs, rfl, hf, ha, ra⟩ := RO1.lst ro
    cases kk with
    | none =>
      simp only [Rp.optE, Rp.R.ok.injEq] at hj
      obtain ⟨rfl, rfl⟩ := hj
      simp only [Rp.popD] at hp
      split at hp
      · cases hp
      · obtain ⟨y, hy, rfl⟩ := Option.map_eq_some_iff.mp hp
        obtain ⟨u, hu, ru⟩ := ra.get hy
        have oo := si.er.out i a (by rw [hf]; simp)
        have fm := fm_write (g := g) (H := H) (o := .lst vs.dropLast) oo.1
        obtain ⟨s2, f2⟩ := si.write (a := a) (o := .lst vs.dropLast) (d := .lst xs.dropLast) (by rw [hf]; simp) hov (by rw [h1, hf]; exact RO1.ofL upd_same (RpA.fm fm ra.dropLast))
        exact ⟨.ref a, hov, .inl ⟨rfl, vs, SqL.of ha⟩, a, vs, u, rfl, rfl, ha, by rw [ra.length]; exact hu, q u _ g f2 s2 (Rp.fm fm ru)⟩
    | some e =>
      simp only [Rp.optE] at hj
      obtain ⟨d, w2, e1, e2⟩ := bind_ok hj
      simp only [Rp.R.ok.injEq] at e2
      obtain ⟨rfl, rfl⟩ := e2
      refine ⟨.ref a, hov, .inl ⟨rfl, vs, SqL.of ha⟩, g, env, fps, w, [d], w2, si.er, si.wr, by simp only [Rp.evEs, e1, Rp.R.bind_ok], fun us H1 g1 x1 wr1 r1 => ?_⟩
      obtain ⟨kv, rfl, rk⟩ := r1.one
      cases d with
      | int m =>
        simp only [Rp.popD] at hp
        split at hp
        · cases hp
        · rename_i hz
          obtain ⟨n, hn, hp⟩ := Option.bind_eq_some_iff.mp hp
          obtain ⟨y, hy, rfl⟩ := Option.map_eq_some_iff.mp hp
          obtain ⟨u, hu, ru⟩ := ra.get hy
          have s1 := si.step x1 wr1
          have oo := s1.er.out i a (by rw [hf]; simp)
          have ha1 : H1 a = some (.lst vs) := x1.k a _ ha (si.er.out i a (by rw [hf]; simp)).2.2
          have fm1 := x1.fm si.wr.ok
          have fm := fm_write (g := g1) (H := H1) (o := .lst (vs.eraseIdx n)) oo.1
          obtain ⟨s2, f2⟩ := s1.write (a := a) (o := .lst (vs.eraseIdx n)) (d := .lst (xs.eraseIdx n)) (by rw [hf]; simp) hov (by rw [h1, hf]; exact RO1.ofL upd_same (RpA.fm fm (RpA.fm fm1 (ra.erase n))))
          have hn2 : L2.ixN vs.length m = some n := by rw [ra.length]; exact hn
          obtain ⟨z1, z2, z3, z4⟩ := ixN_seq hn2
          have hz2 : vs.length ≤ 16777216 := by rw [ra.length]; exact Nat.le_of_not_lt hz
          exact ⟨a, vs, m, n, u, rfl, by rw [rk.int], ha1, by omega, by omega, z1, hu, q u _ g1 (fm1.trans f2) s2 (Rp.fm fm (Rp.fm fm1 ru))⟩
      | _ => simp [Rp.popD] at hp
  | _ => cases j <;> simp [Rp.popD] at hp
theorem ps_popToD (cs : Cs T k sc N Xc) {t i : Nat} (hm : okm g0 t) {kk : Option Rp.E} {y z : Str} {py pz p2 p3 pos : Pos} {xs : List Expr} (h1 : own.getD i 0 = 1) (hz : okT sc (fun _ => true) N t (.Name z pz) = true) (hp : PE Xc (.Call (.Attribute (.Name y py) "pop" p2) xs [] p3) (tPop X C Xc.K own i kk)) :
    PS Xc (.Assign [.Name z pz] (.Call (.Attribute (.Name y py) "pop" p2) xs [] p3) pos) (tS X g0 H0 own (some (own.set t 0)) lo (fun env w => Rp.exS C (.popTo t i kk) env w)) := by
  refine (ps_name cs hz rfl hp fun h => by cases h).imp fun D σ H ⟨g, env, fps, w, fl, w', si, ev, q⟩ => ?_
  simp only [Rp.exS] at ev
  obtain ⟨dx, w2, e2, ev3⟩ := bind_ok ev
  obtain ⟨l2, rfl⟩ := lift_ok e2
  obtain ⟨dj, w3, e3, ev4⟩ := bind_ok ev3
  obtain ⟨dz, w4, e4, ev5⟩ := bind_ok ev4
  obtain ⟨l4, rfl⟩ := lift_ok e4
  simp only [Rp.R.ok.injEq] at ev5
  obtain ⟨rfl, rfl⟩ := ev5
  exact pop_q si h1 l2 e3 l4 fun v H3 g3 f3 s3 rv => q _ H3 g3 _ f3 (s3.set0 rv hm)
theorem ps_popOffD (cs : Cs T k sc N Xc) {i : Nat} {kk : Option Rp.E} {y : Str} {py p2 p3 pos : Pos} {xs : List Expr} (h1 : own.getD i 0 = 1) (hp : PE Xc (.Call (.Attribute (.Name y py) "pop" p2) xs [] p3) (tPop X C Xc.K own i kk)) :
    PS Xc (.Expr (.Call (.Attribute (.Name y py) "pop" p2) xs [] p3) pos) (tS X g0 H0 own (some own) lo (fun env w => Rp.exS C (.popOff i kk) env w)) := by
  refine (ps_expr hp rfl).imp fun D σ H ⟨g, env, fps, w, fl, w', si, ev, q⟩ => ?_
  simp only [Rp.exS] at ev
  obtain ⟨dx, w2, e2, ev3⟩ := bind_ok ev
  obtain ⟨l2, rfl⟩ := lift_ok e2
  obtain ⟨dj, w3, e3, ev4⟩ := bind_ok ev3
  obtain ⟨dz, w4, e4, ev5⟩ := bind_ok ev4
  obtain ⟨l4, rfl⟩ := lift_ok e4
  simp only [Rp.R.ok.injEq] at ev5
  obtain ⟨rfl, rfl⟩ := ev5
  exact pop_q si h1 l2 e3 l4 fun v H3 g3 f3 s3 rv => q _ H3 g3 _ f3 s3
theorem look_set_ne {env : Rp.Env} {i j : Nat} {d : Option Rp.D} (h : i ≠ j) : Rp.look (env.set i d) j = Rp.look env j := by
  unfold Rp.look
  rw [List.getElem?_set_ne h]
theorem ps_popAppD (cs : Cs T k sc N Xc) {b i : Nat} {kk : Option Rp.E} {y z : Str} {py pz p2 p3 p4 p5 pos : Pos} {xs : List Expr} (h1 : own.getD i 0 = 1) (h2 : own.getD b 0 = 1) (hbi : i ≠ b) (hN : N[b]? = some z) (hv : Vis sc z) (hd : (z == ("__debug__" : Str)) = false) (hcd : (z == ("__classdict__" : Str)) = false)
    (hp : PE Xc (.Call (.Attribute (.Name y py) "pop" p2) xs [] p3) (tPop X C Xc.K own i kk)) (hline : (p4.endLine == p5.line) = true) :
    PS Xc (.Expr (.Call (.Attribute (.Name z pz) "append" p4) [.Call (.Attribute (.Name y py) "pop" p2) xs [] p3] [] p5) pos) (tS X g0 H0 own (some own) lo (fun env w => Rp.exS C (.popApp b i kk) env w)) := by
  have hvar : PE Xc (.Name z pz) (tVar b) := pe_var (by rw [cs.cg.n]; exact hN) (by rw [cs.cg.sco]; exact hv) hd hcd
  refine (ps_expr (pe_bm PySem.F.plainAttrs_list PySem.F.slot_list_append PySem.F.type_list_append mt_append hvar (pa_cons hp pa_nil rfl) rfl (few_ok rfl (by simp)) hline rfl (star_none rfl)) rfl).imp fun D σ H ⟨g, env, fps, w, fl, w', si, ev, q⟩ => ?_
  simp only [Rp.exS] at ev
  obtain ⟨db, w1, e1, ev2⟩ := bind_ok ev
  obtain ⟨l1, rfl⟩ := lift_ok e1
  obtain ⟨dx, w2, e2, ev3⟩ := bind_ok ev2
  obtain ⟨l2, rfl⟩ := lift_ok e2
  obtain ⟨dj, w3, e3, ev4⟩ := bind_ok ev3
  obtain ⟨dz, w4, e4, ev5⟩ := bind_ok ev4
  obtain ⟨l4, rfl⟩ := lift_ok e4
  obtain ⟨du, w5, e5, ev6⟩ := bind_ok ev5
  obtain ⟨l5, rfl⟩ := lift_ok e5
  simp only [Rp.R.ok.injEq] at ev6
  obtain ⟨rfl, rfl⟩ := ev6
  obtain ⟨ov, hov, ro⟩ := si.er.look l1
  rw [h2] at ro
  cases db with
  | lst xs =>
    simp only [Rp.appD] at l5
    split at l5
    · rename_i hl
      cases l5
      obtain ⟨a0, vs0, rfl, hf0, ha0, ra0⟩ := RO1.lst ro
      refine ⟨.ref a0, hov, .inl ⟨rfl, vs0, SqL.of ha0⟩, pop_q si h1 l2 e3 l4 fun v H3 g3 f3 s3 rv => ?_⟩
      obtain ⟨ov2, hov2, ro2⟩ := s3.er.look (i := b) (d := .lst xs) (by rw [look_set_ne hbi]; exact l1)
      rw [hov] at hov2
      cases hov2
      rw [h2] at ro2
      obtain ⟨a, vs, e, hf, ha, ra⟩ := RO1.lst ro2
      cases e
      have oo := s3.er.out b a0 (by rw [hf]; simp)
      have fm := fm_write (g := g3) (H := H3) (o := .lst (vs ++ [v])) oo.1
      obtain ⟨s4, f4⟩ := s3.write (a := a0) (o := .lst (vs ++ [v])) (d := .lst (xs ++ [dz.1])) (by rw [hf]; simp) hov (by rw [h2, hf]; exact RO1.ofL upd_same (RpA.fm fm (ra.append (.cons rv .nil))))
      exact ⟨a0, vs, v, rfl, rfl, ha, line_lt (by rw [ra.length]; exact hl), q σ _ g3 fps (f3.trans f4) s4⟩
    · cases l5
  | _ => simp [Rp.appD] at l5

/-! ### small ones -/
theorem ps_exD {e : Rp.E} {x : Expr} {pos : Pos} (hd : PE Xc x (tD X C own e)) (hl : isLC x = false) : PS Xc (.Expr x pos) (tS X g0 H0 own (some own) lo (fun env w => Rp.exS C (.ex e) env w)) := by
  refine (ps_expr hd (by cases x <;> first | rfl | (cases hl; done))).imp fun D σ H ⟨g, env, fps, w, fl, w', si, ev, q⟩ => ?_
  simp only [Rp.exS] at ev
  obtain ⟨dx, w2, e2, ev3⟩ := bind_ok ev
  simp only [Rp.R.ok.injEq] at ev3
  obtain ⟨rfl, rfl⟩ := ev3
  exact ⟨g, env, fps, w, dx, w2, si.er, si.wr, e2, fun v H1 g1 x1 wr1 r1 => q σ H1 g1 fps (x1.fm si.wr.ok) (si.step x1 wr1)⟩
theorem ps_retD {e : Rp.E} {x : Expr} {pos : Pos} (hd : PE Xc x (tD X C own e)) (l0 : lev own e = 0) : PS Xc (.Return (some x) pos) (tS X g0 H0 own none lo (fun env w => Rp.exS C (.ret e) env w)) := by
  refine (ps_ret hd).imp fun D σ H ⟨g, env, fps, w, fl, w', si, ev, q⟩ => ?_
  simp only [Rp.exS] at ev
  obtain ⟨dx, w2, e2, ev3⟩ := bind_ok ev
  simp only [Rp.R.ok.injEq] at ev3
  obtain ⟨rfl, rfl⟩ := ev3
  exact ⟨g, env, fps, w, dx, w2, si.er, si.wr, e2, fun v H1 g1 x1 wr1 r1 => q v H1 g1 (si.ext.trans x1) wr1 (by rw [l0] at r1; exact r1)⟩
theorem ps_retND {pos : Pos} : PS Xc (.Return none pos) (tS X g0 H0 own none lo (fun env w => Rp.exS C .retN env w)) := ps_retN.imp fun D σ H ⟨g, env, fps, w, fl, w', si, ev, q⟩ => by
  simp only [Rp.exS, Rp.R.ok.injEq] at ev
  obtain ⟨rfl, rfl⟩ := ev
  exact q .non H g si.ext si.wr .non
theorem ps_contD {pos : Pos} : PS Xc (.Continue pos) (tS X g0 H0 own none own (fun env w => Rp.exS C .cont env w)) := ps_continue.imp fun D σ H ⟨g, env, fps, w, fl, w', si, ev, q⟩ => by
  simp only [Rp.exS, Rp.R.ok.injEq] at ev
  obtain ⟨rfl, rfl⟩ := ev
  exact q σ H g fps (.refl _ _) si
theorem ps_brkD {pos : Pos} : PS Xc (.Break pos) (tS X g0 H0 own none own (fun env w => Rp.exS C .brk env w)) := ps_break.imp fun D σ H ⟨g, env, fps, w, fl, w', si, ev, q⟩ => by
  simp only [Rp.exS, Rp.R.ok.injEq] at ev
  obtain ⟨rfl, rfl⟩ := ev
  exact q σ H g fps (.refl _ _) si
theorem ps_raiseD {c : String} {es : List Rp.E} {x : Stmt} : PS Xc x (tS X g0 H0 own none lo (fun env w => Rp.exS C (.raise c es) env w)) := ps_never.imp fun D σ H ⟨g, env, fps, w, fl, w', si, ev, q⟩ => by
  simp only [Rp.exS] at ev
  obtain ⟨dx, w2, e2, ev3⟩ := bind_ok ev
  cases ev3
theorem Aft.weak {g : Gh} {H : Hp} {fl : Rp.Fl} {w : Rp.W} {D : Ends} (q : Aft X g0 H0 on lo g H fl w D) : Aft X g0 H0 none lo g H fl w D := by
  cases fl with
  | next env => trivial
  | ret d => exact q
  | brk env => exact q
  | cont env => exact q
theorem ps_ifD {oa ob : Option (List Nat)} {c : Rp.E} {sa sb : List Rp.S} {x : Expr} {xa xb : List Stmt} {pos : Pos} (hc : PT Xc x (tT X C own c)) (ha : PSs Xc xa (tS X g0 H0 own oa lo (fun env w => Rp.exSs C sa env w))) (hb : PSs Xc xb (tS X g0 H0 own ob lo (fun env w => Rp.exSs C sb env w)))
    (ea : oa = none ∨ oa = on) (eb : ob = none ∨ ob = on) : PS Xc (.If x xa xb pos) (tS X g0 H0 own on lo (fun env w => Rp.exS C (.ifs c sa sb) env w)) := by
  refine (ps_if hc ha hb).imp fun D σ H ⟨g, env, fps, w, fl, w', si, ev, q⟩ => ?_
  simp only [Rp.exS] at ev
  obtain ⟨dx, w2, e2, ev3⟩ := bind_ok ev
  obtain ⟨t, rfl, ev4⟩ := cond_ok ev3
  clear ev ev3
  refine ⟨g, env, fps, w, t, w2, si.er, si.wr, e2, fun H1 g1 x1 wr1 => ?_⟩
  have s1 := si.step x1 wr1
  have q1 := q.mono (x1.fm si.wr.ok)
  cases t with
  | true =>
    dsimp only
    rw [if_pos rfl] at ev4 ⊢
    refine ⟨g1, env, fps, w2, fl, w', s1, ev4, ?_⟩
    rcases ea with rfl | rfl
    · exact q1.weak
    · exact q1
  | false =>
    dsimp only
    rw [if_neg Bool.false_ne_true] at ev4 ⊢
    refine ⟨g1, env, fps, w2, fl, w', s1, ev4, ?_⟩
    rcases eb with rfl | rfl
    · exact q1.weak
    · exact q1

/-! ### loops -/
theorem turnS_ok {r : Rp.R Rp.Fl} {f : Rp.Env → Rp.W → Rp.R Rp.Fl} {fl : Rp.Fl} {w' : Rp.W} (h : Rp.turnS r f = .ok fl w') : ∃ fl1 w1, r = .ok fl1 w1 ∧ match fl1 with
    | .next env => f env w1 = .ok fl w' | .cont env => f env w1 = .ok fl w' | .ret d => fl = .ret d ∧ w' = w1 | .brk env => fl = .next env ∧ w' = w1 := by
  cases r with
  | ok fl1 w1 =>
    refine ⟨fl1, w1, rfl, ?_⟩
    cases fl1 with
    | next env => exact h
    | cont env => exact h
    | ret d => simp only [Rp.turnS_ret, Rp.R.ok.injEq] at h; exact ⟨h.1.symm, h.2.symm⟩
    | brk env => simp only [Rp.turnS_brk, Rp.R.ok.injEq] at h; exact ⟨h.1.symm, h.2.symm⟩
  | ex c p w => cases h
  | no => cases h
theorem while_ok {c : Rp.Env → Rp.W → Rp.R Rp.D} {b : Rp.Env → Rp.W → Rp.R Rp.Fl} {env : Rp.Env} {w w' : Rp.W} {fl : Rp.Fl} (h : Rp.whileL c b env w = .ok fl w') : ∃ n, Rp.whileN c b n env w = .ok fl w' := by
  unfold Rp.whileL at h
  split at h
  · rename_i e; exact ⟨_, h⟩
  · cases h
/-- the end of a loop's body -/
theorem body_end {ob : Option (List Nat)} {fl1 fl : Rp.Fl} {w1 w' : Rp.W} {D : Ends} {g g1 : Gh} {H H1 : Hp} {f : Rp.Env → Rp.W → Rp.R Rp.Fl} {Nx : L2.St → Hp → Prop} (hob : ob = none ∨ ob = some own)
    (h : match fl1 with | .next env => f env w1 = .ok fl w' | .cont env => f env w1 = .ok fl w' | .ret d => fl = .ret d ∧ w' = w1 | .brk env => fl = .next env ∧ w' = w1)
    (q : Aft X g0 H0 (some own) lo g H fl w' D) (m : Fm g H g1 H1)
    (hn : ∀ env σ' H' g' fps, Fm g H g' H' → SI X g0 H0 own g' H' σ' env fps w1 → f env w1 = .ok fl w' → Nx σ' H') : Aft X g0 H0 ob own g1 H1 fl1 w1 { D with nx := Nx, ct := Nx, bk := D.nx } := by
  cases fl1 with
  | next env =>
    rcases hob with rfl | rfl
    · trivial
    · exact fun σ' H' g' fps m' s' => hn env σ' H' g' fps (m.trans m') s' h
  | cont env => exact fun σ' H' g' fps m' s' => hn env σ' H' g' fps (m.trans m') s' h
  | ret d => obtain ⟨rfl, rfl⟩ := h; exact q
  | brk env => obtain ⟨rfl, rfl⟩ := h; exact fun σ' H' g' fps m' s' => q σ' H' g' fps (m.trans m') s'
theorem ps_whileD (cs : Cs T k sc N Xc) {ob : Option (List Nat)} {c : Rp.E} {sb : List Rp.S} {x : Expr} {xb : List Stmt} {pos : Pos} (hc : PT Xc x (tT X C own c)) (hb : PSs Xc xb (tS X g0 H0 own ob own (fun env w => Rp.exSs C sb env w))) (hob : ob = none ∨ ob = some own) :
    PS Xc (.While x xb [] pos) (tS X g0 H0 own (some own) lo (fun env w => Rp.exS C (.while c sb) env w)) := by
  refine (ps_while (by rw [cs.xe]; exact PassesOwn.never) hc hb).imp fun D σ H ⟨g, env, fps, w, fl, w', si, ev, q⟩ => ?_
  simp only [Rp.exS] at ev
  obtain ⟨n, hn⟩ := while_ok ev
  refine ⟨fun m σ' H' => ∃ g' env' fps' w1, Fm g H g' H' ∧ SI X g0 H0 own g' H' σ' env' fps' w1 ∧ Rp.whileN (fun env w => Rp.evE C c env w) (fun env w => Rp.exSs C sb env w) m env' w1 = .ok fl w', ⟨n, g, env, fps, w, .refl _ _, si, hn⟩, ?_⟩
  rintro m σ1 H1 ⟨g1, env1, fps1, w1, m1, s1, e1⟩
  cases m with
  | zero => cases e1
  | succ m =>
    unfold Rp.whileN at e1
    obtain ⟨dt, w2, e2, e3⟩ := bind_ok e1
    obtain ⟨t, rfl, e4⟩ := cond_ok e3
    clear e1 e3
    refine ⟨g1, env1, fps1, w1, t, w2, s1.er, s1.wr, e2, fun H2 g2 x2 wr2 => ?_⟩
    have s2 := s1.step x2 wr2
    have m2 := m1.trans (x2.fm s1.wr.ok)
    cases t with
    | false =>
      dsimp only
      rw [if_neg Bool.false_ne_true] at e4 ⊢
      simp only [Rp.R.ok.injEq] at e4
      obtain ⟨rfl, rfl⟩ := e4
      exact q σ1 H2 g2 fps1 m2 s2
    | true =>
      dsimp only
      rw [if_pos rfl] at e4 ⊢
      obtain ⟨fl1, w3, e5, e6⟩ := turnS_ok e4
      refine ⟨fun σ' H' => ∃ g' env' fps' w1, Fm g H g' H' ∧ SI X g0 H0 own g' H' σ' env' fps' w1 ∧ Rp.whileN (fun env w => Rp.evE C c env w) (fun env w => Rp.exSs C sb env w) m env' w1 = .ok fl w', fun σ' H' h => ⟨m, Nat.lt_succ_self m, h⟩, ?_⟩
      exact ⟨g2, env1, fps1, w2, fl1, w3, s2, e5, body_end hob e6 q m2 fun env' σ' H' g' fps' m' s' h' => ⟨g', env', fps', w3, m', s', h'⟩⟩
theorem clr_sub : ∀ {is : List Nat} {fps : Fps} {i : Nat} {a : Addr}, a ∈ clr fps is i → a ∈ fps i
  | [], _, _, _, h => h
  | j :: is, fps, i, a, h => by
    have := clr_sub (is := is) h
    by_cases c : i = j
    · subst c; rw [upf_same] at this; cases this
    · rw [upf_ne c] at this; exact this
theorem me_setV {g0 : Gh} : ∀ {is : List Nat} {us : List V} {σ : L2.St}, (∀ v, g0.me = some v → σ[0]? = some (some v)) → (∀ i ∈ is, okm g0 i) → ∀ v, g0.me = some v → (setV σ is us)[0]? = some (some v)
  | [], _, _, h, _ => by unfold setV; exact h
  | i :: is, [], _, h, _ => by unfold setV; exact h
  | i :: is, u :: us, σ, h, hm => by
    unfold setV
    exact me_setV (me_set h (hm i List.mem_cons_self)) fun j hj => hm j (List.mem_cons_of_mem _ hj)
theorem ps_forD (cs : Cs T k sc N Xc) {ob : Option (List Nat)} {p : Rp.Pat} {it : Rp.It} {sb : List Rp.S} {tg x : Expr} {xb : List Stmt} {pos : Pos} (hm : ∀ i ∈ p.is, okm g0 i) (hi : PI Xc tg x (tIt X C own it)) (ht : okP sc (fun _ => true) N p tg = true) (hb : PSs Xc xb (tS X g0 H0 (zer own p.is) ob own (fun env w => Rp.exSs C sb env w)))
    (hob : ob = none ∨ ob = some own) (hs : notSet x = true) : PS Xc (.For tg x xb [] pos) (tS X g0 H0 own (some own) lo (fun env w => Rp.exS C (.for p it sb) env w)) := by
  refine (ps_for (by rw [cs.xe]; exact PassesOwn.never) cs.cg.calm hi (pg_pat cs.cg ht) hb (fold_ok hs _)).imp fun D σ H ⟨g, env, fps, w, fl, w', si, ev, q⟩ => ?_
  simp only [Rp.exS] at ev
  obtain ⟨xs, w0, e0, ev2⟩ := bind_ok ev
  refine ⟨g, env, fps, w, xs, w0, si.er, si.wr, e0, fun J g1 H1 x1 wr1 yl => ?_⟩
  generalize hF : (fun (x : Rp.D) (env : Rp.Env) (w : Rp.W) => (match Rp.bindP p x env with | some env' => Rp.exSs C sb env' w | none => .no : Rp.R Rp.Fl)) = F at ev2
  have m01 := x1.fm si.wr.ok
  refine ⟨fun i m σ' H' => m = xs.length - i ∧ i ≤ xs.length ∧ ∃ g' env' fps' w1, Fm g1 H1 g' H' ∧ SI X g0 H0 own g' H' σ' env' fps' w1 ∧ Rp.forL F (xs.drop i) env' w1 = .ok fl w', ⟨xs.length, by omega, by omega, g1, env, fps, w0, .refl _ _, si.step x1 wr1, ev2⟩, ?_⟩
  rintro i m σ2 H2 ⟨rfl, hil, g2, env2, fps2, w2, m2, s2, e2⟩
  by_cases hlt : i < xs.length
  · have hx : xs[i]? = some xs[i] := by simp [hlt]
    have hdrop : xs.drop i = xs[i] :: xs.drop (i + 1) := List.drop_eq_getElem_cons hlt
    rw [hdrop] at e2
    unfold Rp.forL at e2
    obtain ⟨fl1, w3, e3, e4⟩ := turnS_ok e2
    refine .inr ⟨yl.go i g2 H2 _ m2 hx, fun σ' H' => ∃ g' env' fps' w1, Fm g1 H1 g' H' ∧ SI X g0 H0 own g' H' σ' env' fps' w1 ∧ Rp.forL F (xs.drop (i + 1)) env' w1 = .ok fl w', fun σ' H' h => ⟨xs.length - (i + 1), by omega, rfl, hlt, h⟩, fun v H3 hy => ?_⟩
    obtain ⟨g3, x3, wr3, rv⟩ := yl.yld i g2 H2 w2 _ v H3 m2 s2.wr hx hy
    have s3 := s2.step x3 wr3
    rw [← hF] at e3
    simp only at e3
    cases hbd : Rp.bindP p xs[i] env2 with
    | none => rw [hbd] at e3; cases e3
    | some env3 =>
      rw [hbd] at e3
      simp only at e3
      refine pat_step s3.er rv hbd fun us hus er4 => ?_
      have s4 : SI X g0 H0 (zer own p.is) g3 H3 (setV σ2 p.is us) env3 (clr fps2 p.is) w2 := ⟨er4, s3.wr, s3.ext, fun j a ha => s3.fr j a (clr_sub ha), me_setV s3.me hm⟩
      refine ⟨g3, env3, _, w2, fl1, w3, s4, e3, ?_⟩
      have m3 := m2.trans (x3.fm s2.wr.ok)
      exact body_end (lo := lo) hob e4 (q.mono m01) m3 fun env' σ' H' g' fps' m' s' h' => ⟨g', env', fps', w3, m', s', h'⟩
  · have e : i = xs.length := by omega
    subst e
    rw [List.drop_length] at e2
    simp only [Rp.forL, Rp.R.ok.injEq] at e2
    obtain ⟨rfl, rfl⟩ := e2
    exact .inl ⟨yl.stop g2 H2 m2, q σ2 H2 g2 fps2 (m01.trans m2) s2⟩
end
end RpS
end

section
set_option Elab.async false
set_option linter.all false
set_option maxRecDepth 100000
set_option maxHeartbeats 4000000
/-! RpS20: fields written; a look at the text of statements, and what it gives. -/
namespace RpS
open PySem PySem.Spec PyProof.Rows L2
section
variable {T : Tx} {X : Gx} {C : Rp.Cl} {k : Nat} {B : Tb} {sc : Scope} {N : List Str} {Xc : Cx} {own lo : List Nat} {on : Option (List Nat)} {g0 : Gh} {H0 : Hp}
theorem putF_rel {g : Gh} {H : Hp} {f : String} {v : V} {d : Rp.D} (rv : Rp X g H v d) : ∀ {fs : List (Str × V)} {gs : List (String × Rp.D)}, RpF X g H fs gs → RpF X g H (L2.putF (ofs f) v fs) (Rp.putF f d gs)
  | _, _, .nil => .cons rv .nil
  | _, _, .cons (f := e) a b => by
    unfold L2.putF Rp.putF
    by_cases z : e = f
    · subst z
      rw [if_pos rfl, if_pos rfl]
      exact .cons rv b
    · rw [if_neg (fun q => z (ofs_inj q)), if_neg z]
      exact .cons a (putF_rel rv b)
theorem rpf_len {g : Gh} {H : Hp} : ∀ {fs : List (Str × V)} {gs : List (String × Rp.D)}, RpF X g H fs gs → fs.length = gs.length
  | _, _, .nil => rfl
  | _, _, .cons a b => by rw [List.length_cons, List.length_cons, rpf_len b]
theorem ps_setfD (cs : Cs T k sc N Xc) (kt : Kt T X C k B) {i : Nat} {f : String} {e : Rp.E} {y : Str} {py p2 pos : Pos} {x : Expr} (h1 : own.getD i 0 = 1) (hN : N[i]? = some y) (hv : Vis sc y) (hd : (y == ("__debug__" : Str)) = false) (hcd : (y == ("__classdict__" : Str)) = false)
    (hf : f ∈ B.flds) (dx : PE Xc x (tD X C own e)) (lx : lev own e = 0) (hs : noSD x = true) :
    PS Xc (.Assign [.Attribute (.Name y py) (ofs f) p2] x pos) (tS X g0 H0 own (some own) lo (fun env w => Rp.exS C (.setf i f e) env w)) := by
  have hvar : PE Xc (.Name y py) (tVar i) := pe_var (by rw [cs.cg.n]; exact hN) (by rw [cs.cg.sco]; exact hv) hd hcd
  refine (ps_fld hvar dx (by cases x <;> first | (cases hs; done) | rfl)).imp fun D σ H ⟨g, env, fps, w, fl, w', si, ev, q⟩ => ?_
  simp only [Rp.exS] at ev
  obtain ⟨dy, w1, e1, ev2⟩ := bind_ok ev
  obtain ⟨dx, w2, e2, ev3⟩ := bind_ok ev2
  obtain ⟨l2, rfl⟩ := lift_ok e2
  obtain ⟨dz, w4, e4, ev5⟩ := bind_ok ev3
  obtain ⟨l4, rfl⟩ := lift_ok e4
  simp only [Rp.R.ok.injEq] at ev5
  obtain ⟨rfl, rfl⟩ := ev5
  refine ⟨g, env, fps, w, dy, w1, si.er, si.wr, e1, fun v H1 g1 x1 wr1 r1 => ?_⟩
  rw [lx] at r1
  have s1 := si.step x1 wr1
  obtain ⟨ov, hov, ro⟩ := s1.er.look l2
  rw [h1] at ro
  refine ⟨ov, hov, ?_⟩
  cases dx with
  | obj c gs =>
    simp only [Rp.setfD] at l4
    split at l4
    · rename_i hl
      cases l4
      obtain ⟨a, dx, fs, rfl, hfp, ha, ra⟩ := RO1.obj ro
      have oo := s1.er.out i a (by rw [hfp]; simp)
      have fm := fm_write (g := g1) (H := H1) (o := .ins (X.cls c) dx (L2.putF (ofs f) v fs)) oo.1
      obtain ⟨s2, f2⟩ := s1.write (a := a) (o := .ins (X.cls c) dx (L2.putF (ofs f) v fs)) (d := .obj c (Rp.putF f dy gs)) (by rw [hfp]; simp) hov (by rw [h1, hfp]; exact RO1.ofO upd_same (RpF.fm fm (putF_rel r1 ra)))
      exact ⟨a, X.cls c, dx, fs, rfl, ha, by rw [cs.cg.kk]; exact kt.cl c, by rw [cs.cg.kk]; exact kt.fld c f hf, by rw [rpf_len ra]; exact hl, q σ _ g1 fps ((x1.fm si.wr.ok).trans f2) s2⟩
    · cases l4
  | _ => simp [Rp.setfD] at l4
/-! ### the draws' state, written and made -/
theorem ps_setstD (cs : Cs T k sc N Xc) {i : Nat} {s : String} {e : Rp.E} {y : Str} {py p2 p3 pos : Pos} {j : Nat} {x : Expr} (hN : N[i]? = some y) (hv : Vis sc y) (hd : (y == ("__debug__" : Str)) = false) (hcd : (y == ("__classdict__" : Str)) = false)
    (dx : PE Xc x (tD X C own e)) (hs : noSD x = true) :
    PS Xc (.Assign [.Subscript (.Name y py) (.Constant (.str (ofs s)) j p3) p2] x pos) (tS X g0 H0 own (some own) lo (fun env w => Rp.exS C (.setst i s e) env w)) := by
  have hvar : PE Xc (.Name y py) (tVar i) := pe_var (by rw [cs.cg.n]; exact hN) (by rw [cs.cg.sco]; exact hv) hd hcd
  refine (ps_dput (by have := cs.cg.room.un; omega) hvar pe_str dx (by cases x <;> first | (cases hs; done) | rfl)).imp fun D σ H ⟨g, env, fps, w, fl, w', si, ev, q⟩ => ?_
  simp only [Rp.exS] at ev
  obtain ⟨dy, w1, e1, ev2⟩ := bind_ok ev
  obtain ⟨dx, w2, e2, ev3⟩ := bind_ok ev2
  obtain ⟨l2, rfl⟩ := lift_ok e2
  split at ev3
  · rename_i st
    obtain ⟨st', w3, e3, ev4⟩ := bind_ok ev3
    obtain ⟨l3, rfl⟩ := lift_ok e3
    simp only [Rp.R.ok.injEq] at ev4
    obtain ⟨rfl, rfl⟩ := ev4
    refine ⟨g, env, fps, w, dy, _, si.er, si.wr, e1, fun v H1 g1 x1 wr1 r1 => ?_⟩
    have s1 := si.step x1 wr1
    obtain ⟨ov, hov, rr⟩ := s1.er.lookR l2
    obtain ⟨st2, a, ca, e, rfl, h1, h2, h3, h4, h5, h6⟩ := wr_tok wr1 rr.tok
    cases e
    have wa : wd g1 a := ⟨by rw [h1]; simp, .inl h1⟩
    have fin : ∀ st2 : Rp.St, st2.great = st.great → st2.cells = st.cells → Ext g1 H1 g1 (upd H1 a (stO st2 g1.ga ca)) ∧ WR g1 (upd H1 a (stO st2 g1.ga ca)) (some st2) := fun st2 eg ec => by
      have ex : Ext g1 H1 g1 (upd H1 a (stO st2 g1.ga ca)) := ⟨fun _ h => h, fun _ h => .inl h, fun b o h hw => by rw [upd_ne (fun c => by subst c; exact hw wa)]; exact h, fun _ => ⟨rfl, rfl⟩, fun e => (by rw [h1] at e; cases e), fun b h => by
        by_cases c : b = a
        · subst c; rw [upd_same]; simp
        · rw [upd_ne c]; exact h⟩
      exact ⟨ex, fun b hb => ⟨ex.t b (wr1.1 b hb).1, (wr1.1 b hb).2⟩, a, ca, h1, h2, upd_same, by rw [upd_ne (Ne.symm h2), eg]; exact h4, h5, by rw [upd_ne (fun c => by rw [c] at h5; exact (wr1.1 a h5).2 wa), ec]; exact h6⟩
    unfold Rp.stSet at l3
    split at l3
    · rename_i n
      have ev := r1.int
      subst ev
      split at l3
      · rename_i c; subst c; cases l3
        obtain ⟨f1, f2⟩ := fin { st with left := n } rfl rfl
        refine ⟨.ref a, hov, a, upd H1 a (stO { st with left := n } g1.ga ca), rfl, ?_, q σ _ g1 fps ((x1.trans f1).fm si.wr.ok) (s1.step f1 f2)⟩
        have := DPut.k (k := .inr (ofs "left")) (v := .int n) h3 (by rw [sizeLine_eq]; simp)
        exact this
      · split at l3
        · rename_i c; subst c; cases l3
          obtain ⟨f1, f2⟩ := fin { st with turn := n } rfl rfl
          refine ⟨.ref a, hov, a, upd H1 a (stO { st with turn := n } g1.ga ca), rfl, ?_, q σ _ g1 fps ((x1.trans f1).fm si.wr.ok) (s1.step f1 f2)⟩
          have := DPut.k (k := .inr (ofs "turn")) (v := .int n) h3 (by rw [sizeLine_eq]; simp)
          exact this
        · cases l3
    · cases l3
  · cases ev3
theorem ps_retStD (cs : Cs T k sc N Xc) {i : Nat} {e : Rp.E} {y : Str} {py p1 p2 p3 p4 p5 p6 p7 pos : Pos} {j1 j2 j3 j4 j5 j6 : Nat} {x : Expr} (h1 : own.getD i 0 = 1) (hN : N[i]? = some y) (hv : Vis sc y) (hd : (y == ("__debug__" : Str)) = false) (hcd : (y == ("__classdict__" : Str)) = false)
    (dx : PE Xc x (tD X C own e)) (lx : lev own e = 0) :
    PS Xc (.Return (some (.Dict [some (.Constant (.str (ofs "great")) j1 p1), some (.Constant (.str (ofs "cells")) j2 p2), some (.Constant (.str (ofs "left")) j3 p3), some (.Constant (.str (ofs "turn")) j4 p4)] [.Name y py, x, .Constant (.int 0) j5 p5, .Constant (.int 0) j6 p6] p7)) pos)
      (tS X g0 H0 own none lo (fun env w => Rp.exS C (.retSt i e) env w)) := by
  have hvar : PE Xc (.Name y py) (tVar i) := pe_var (by rw [cs.cg.n]; exact hN) (by rw [cs.cg.sco]; exact hv) hd hcd
  refine (ps_ret (pe_disp (pps_cons pe_str hvar (pps_cons pe_str dx (pps_cons pe_str pe_int (pps_cons pe_str pe_int pps_nil)))) rfl rfl (by simp) (by simp))).imp fun D σ H ⟨g, env, fps, w, fl, w', si, ev, q⟩ => ?_
  simp only [Rp.exS] at ev
  obtain ⟨dx, w1, e1, ev2⟩ := bind_ok ev
  obtain ⟨l1, rfl⟩ := lift_ok e1
  obtain ⟨dy, w2, e2, ev3⟩ := bind_ok ev2
  split at ev3
  · rename_i xs ys
    split at ev3
    · rename_i hint
      simp only [Rp.R.ok.injEq] at ev3
      obtain ⟨rfl, rfl⟩ := ev3
      obtain ⟨ov, hov, ro⟩ := si.er.look l1
      rw [h1] at ro
      obtain ⟨a, vs, rfl, hf, ha, ra⟩ := RO1.lst ro
      obtain ⟨o1, o2, o3⟩ := si.er.out i a (by rw [hf]; simp)
      intro p hp
      have x0 := ext_upd (g := g) (o := .dK []) hp
      have wr0 := si.wr.upd (o := .dK []) hp
      refine ⟨.ref a, hov, g, env, fps, w, .lst ys, none, si.er.ext x0 si.wr.ok, wr0, e2, fun v H2 g2 x2 wr2 r2 => ?_⟩
      rw [lx] at r2
      obtain ⟨b1, b2, b3, b4⟩ := rm_step hp si.wr x2 wr2
      have e3 := ra.intL hint.1
      refine ⟨b4, [(.inr (ofs "great"), .ref a), (.inr (ofs "cells"), v), (.inr (ofs "left"), .int 0), (.inr (ofs "turn"), .int 0)], rfl, by simp, ?_⟩
      cases r2 with
      | @lst ca vs2 _ fc hc rc =>
        have e4 := rc.intL hint.2
        subst e3 e4
        have pa : p ≠ a := fun c => by subst c; exact o2 hp
        have nFp : ¬ g2.F p := fun z => by
          rcases x2.n p z with c | c
          · exact (si.wr.1 p c).1 hp
          · rw [upd_same] at c; cases c
        have nFa : ¬ g2.F a := fun z => by
          rcases x2.n a z with c | c
          · exact o1 c
          · rw [upd_ne (Ne.symm pa)] at c; exact o2 c
        have ha2 : H2 a = some (.lst ((Rp.intL xs).map V.int)) := x2.k a _ (by rw [upd_ne (Ne.symm pa)]; exact ha) o3
        have gw : g2.wa = none := wr2.2
        have gw1 : g.wa = none := Classical.byContradiction fun z => by
          have := ((x0.trans x2).w1 z).1
          rw [gw] at this
          exact z this.symm
        have gw0 : g0.wa = none := Classical.byContradiction fun z => by
          have := (si.ext.w1 z).1
          rw [gw1] at this
          exact z this.symm
        have exA := si.ext.trans b1
        have H0p : H0 p = none := si.ext.none_back hp
        have H0a : H0 a = none := si.fr i a (by rw [hf]; simp)
        show D.rt (.ref p) (upd H2 p (stO { great := Rp.intL xs, cells := Rp.intL ys, left := 0, turn := 0 } a ca))
        refine q _ _ { g2 with wa := some p, ga := a } ⟨exA.f, exA.n, fun c o h hw => ?_, fun z => absurd gw0 z, fun _ c hc => ?_, fun c h => ?_⟩ ⟨fun c hc => ⟨?_, fun z => ?_⟩, p, ca, rfl, pa, upd_same, ?_, fc, ?_⟩ (Rp.tok rfl)
        · have cp : c ≠ p := fun z => by subst z; rw [H0p] at h; cases h
          have := exA.k c o h hw
          rw [rmv_ne cp] at this
          rw [upd_ne cp]; exact this
        · rcases hc.2 with z | z
          · have : p = c := Option.some.inj z
            subst this; exact H0p
          · have z : c = a := z
            subst z; exact H0a
        · by_cases cp : c = p
          · subst cp; rw [upd_same]; simp
          · have := exA.t c h
            rw [rmv_ne cp] at this
            rw [upd_ne cp]; exact this
        · have cp : c ≠ p := fun z => by subst z; exact nFp hc
          rw [upd_ne cp]; exact (wr2.1 c hc).1
        · rcases z.2 with z | z
          · have : p = c := Option.some.inj z
            subst this; exact nFp hc
          · have z : c = a := z
            subst z; exact nFa hc
        · show upd H2 p _ a = _
          rw [upd_ne (Ne.symm pa)]; exact ha2
        · rw [upd_ne (fun z => by rw [z] at fc; exact nFp fc)]; exact hc
    · cases ev3
  · cases ev3
end

/-! ### the look -/
abbrev fcT : Str → Bool := fun _ => true
def okM (cl : Bool) (i : Nat) : Bool := !cl || !(i == 0)
def vnB (N : List Str) (sc : Scope) (i : Nat) : Expr → Bool
  | .Name y _ => decide (N[i]? = some y) && visB sc y && ndB y
  | _ => false
def parB (B : Tb) (N : List Str) (sc : Scope) (own : List Nat) : List Nat → List Rp.E → List Expr → Bool
  | [], [], [] => true
  | 0 :: ns, e :: es, x :: xs => nstar x && decide (lev own e = 0) && chkE B N e own sc fcT x && parB B N sc own ns es xs
  | 1 :: ns, e :: es, x :: xs => nstar x && frE e && chkE B N e own sc fcT x && parB B N sc own ns es xs
  | _, _, _ => false
def swapOk (sc : Scope) (is : List Nat) (ts : List Expr) (r : Option (Option (List Str))) : Bool := match r with
  | none => false
  | some none => true
  | some (some names) => match is, ts, names with
    | [i, j], [.Name y _, .Name z _], [a, b] => decide (a = y) && decide (b = z) && decide (sc.names.lookup y = some .local) && decide (sc.names.lookup z = some .local) && decide (i ≠ j)
    | [i, j, l], [.Name y _, .Name z _, .Name x _], [a, b, c] => decide (a = y) && decide (b = z) && decide (c = x) && decide (sc.names.lookup y = some .local) && decide (sc.names.lookup z = some .local) && decide (sc.names.lookup x = some .local) && decide (i ≠ j) && decide (i ≠ l) && decide (j ≠ l)
    | _, _, _ => false
def popB (B : Tb) (N : List Str) (sc : Scope) (own : List Nat) : Option Rp.E → List Expr → Bool
  | none, [] => true
  | some e, [x] => chkE B N e own sc fcT x && decide (lev own e ≤ 1) && nstar x
  | _, _ => false
def joinO (a b : Option (Option (List Nat))) : Option (Option (List Nat)) := match a, b with
  | some none, r => r
  | r, some none => r
  | some (some x), some (some y) => if x = y then some (some x) else none
  | _, _ => none
def loopO (own : List Nat) (a : Option (Option (List Nat))) : Option (Option (List Nat)) := match a with
  | some none => some (some own)
  | some (some o) => if o = own then some (some own) else none
  | none => none
def grd (c : Bool) (r : Option (List Nat)) : Option (Option (List Nat)) := if c then some r else none
mutual
def chkS (B : Tb) (N : List Str) (sc : Scope) (cl : Bool) : Rp.S → List Nat → List Nat → Stmt → Option (Option (List Nat))
  | .asg i e, own, lo, s => match s with
    | .Assign [t] x _ => grd (okM cl i && okT sc fcT N i t && noSD x && decide (lev own e = 0) && chkE B N e own sc fcT x) (some (own.set i 0))
    | _ => none
  | .asgO i e, own, lo, s => match s with
    | .Assign [t] x _ => grd (okM cl i && okT sc fcT N i t && noSD x && frE e && decide (i < own.length) && chkE B N e own sc fcT x) (some (own.set i 1))
    | _ => none
  | .unpack is e, own, lo, s => match s with
    | .Assign [.Tuple ts _ _] x _ => grd (is.all (okM cl) && okTs sc fcT N is ts && noSD x && notTup x && decide (lev own e = 0) && chkE B N e own sc fcT x) (some (zer own is))
    | _ => none
  | .parO is ns es, own, lo, s => match s with
    | .Assign [.Tuple ts _ _] (.Tuple xs _ _) _ => grd (is.all (okM cl) && okTs sc fcT N is ts && parB B N sc own ns es xs && (is.all fun i => decide (i < own.length)) && decide (is.length ≤ 1000) && swapOk sc is ts (stF sc ts xs)) (some (upown own is ns))
    | _ => none
  | .setix i kk e, own, lo, s => match s with
    | .Assign [.Subscript c xi _] x _ => grd (decide (own.getD i 0 = 1) && vnB N sc i c && decide (lev own kk ≤ 1) && decide (lev own e = 0) && notSl xi && noSD x && chkE B N kk own sc fcT xi && chkE B N e own sc fcT x) (some own)
    | _ => none
  | .append i e, own, lo, s => match s with
    | .Expr (.Call (.Attribute c f p2) [x] [] p3) _ => grd (decide (f = "append") && decide (own.getD i 0 = 1) && vnB N sc i c && decide (lev own e = 0) && nstar x && (p2.endLine == p3.line) && chkE B N e own sc fcT x) (some own)
    | _ => none
  | .popTo t i kk, own, lo, s => match s with
    | .Assign [tg] (.Call (.Attribute c f p2) xs [] p3) _ => grd (okM cl t && okT sc fcT N t tg && decide (f = "pop") && decide (own.getD i 0 = 1) && vnB N sc i c && (p2.endLine == p3.line) && popB B N sc own kk xs) (some (own.set t 0))
    | _ => none
  | .popOff i kk, own, lo, s => match s with
    | .Expr (.Call (.Attribute c f p2) xs [] p3) _ => grd (decide (f = "pop") && decide (own.getD i 0 = 1) && vnB N sc i c && (p2.endLine == p3.line) && popB B N sc own kk xs) (some own)
    | _ => none
  | .popApp b i kk, own, lo, s => match s with
    | .Expr (.Call (.Attribute d g p4) [.Call (.Attribute c f p2) xs [] p3] [] p5) _ => grd (decide (g = "append") && decide (f = "pop") && decide (own.getD i 0 = 1) && decide (own.getD b 0 = 1) && decide (i ≠ b) && vnB N sc i c && vnB N sc b d && (p2.endLine == p3.line) && (p4.endLine == p5.line) && popB B N sc own kk xs) (some own)
    | _ => none
  | .ex e, own, lo, s => match s with
    | .Expr x _ => grd (!isLC x && chkE B N e own sc fcT x) (some own)
    | _ => none
  | .ifs c a b, own, lo, s => match s with
    | .If x xa xb _ => if tstE c && chkE B N c own sc fcT x then joinO (chkSs B N sc cl a own lo xa) (chkSs B N sc cl b own lo xb) else none
    | _ => none
  | .while c b, own, lo, s => match s with
    | .While x xb [] _ => if tstE c && chkE B N c own sc fcT x then loopO own (chkSs B N sc cl b own own xb) else none
    | _ => none
  | .for p it b, own, lo, s => match s with
    | .For tg x xb [] _ => if p.is.all (okM cl) && notSet x && okP sc fcT N p tg && chkI B N it own sc fcT tg x then loopO own (chkSs B N sc cl b (zer own p.is) own xb) else none
    | _ => none
  | .ret e, own, lo, s => match s with
    | .Return (some x) _ => grd (decide (lev own e = 0) && chkE B N e own sc fcT x) none
    | _ => none
  | .retN, own, lo, s => match s with
    | .Return none _ => some none
    | _ => none
  | .cont, own, lo, s => match s with
    | .Continue _ => grd (decide (own = lo)) none
    | _ => none
  | .brk, own, lo, s => match s with
    | .Break _ => grd (decide (own = lo)) none
    | _ => none
  | .raise c es, own, lo, s => some none
  | .setst i k e, own, lo, s => match s with
    | .Assign [.Subscript c (.Constant (.str z) _ _) _] x _ => grd (vnB N sc i c && decide (ofs k = z) && noSD x && chkE B N e own sc fcT x) (some own)
    | _ => none
  | .retSt i e, own, lo, s => match s with
    | .Return (some (.Dict [some (.Constant (.str k1) _ _), some (.Constant (.str k2) _ _), some (.Constant (.str k3) _ _), some (.Constant (.str k4) _ _)] [c, x, .Constant (.int 0) _ _, .Constant (.int 0) _ _] _)) _ =>
      grd (decide (k1 = ofs "great") && decide (k2 = ofs "cells") && decide (k3 = ofs "left") && decide (k4 = ofs "turn") && decide (own.getD i 0 = 1) && vnB N sc i c && decide (lev own e = 0) && chkE B N e own sc fcT x) none
    | _ => none
  | .setf i f e, own, lo, s => match s with
    | .Assign [.Attribute c g _] x _ => grd (B.flds.contains f && decide (ofs f = g) && decide (own.getD i 0 = 1) && vnB N sc i c && decide (lev own e = 0) && noSD x && chkE B N e own sc fcT x) (some own)
    | _ => none
  | .asg2 i e, own, lo, s => match e, s with
    | .comp p it e', .Assign [t] (.ListComp elt gs scope pos) _ => grd (okM cl i && okT sc fcT N i t && frE e' && decide (i < own.length) && chkE B N (.comp p it e') own sc fcT (.ListComp elt gs scope pos)) (some (own.set i 2))
    | _, _ => none
  | .aug i o e, own, lo, s => match s with
    | .AugAssign t op x _ => grd (okM cl i && okT sc fcT N i t && decide (op = opB o) && (decide (o = .add) || decide (o = .sub)) && decide (own.getD i 0 = 0) && decide (lev own e ≤ 1) && chkE B N e own sc fcT x) (some (own.set i 0))
    | _ => none
  | .augix2 i k l o e, own, lo, s => match s with
    | .AugAssign (.Subscript (.Subscript c xk _) xl _) op x _ => grd (decide (o = .add) && decide (op = .Add) && decide (own.getD i 0 = 2) && vnB N sc i c && notSl xk && notSl xl && chkE B N k own sc fcT xk && chkE B N l own sc fcT xl && chkE B N e own sc fcT x) (some own)
    | _ => none
  | _, _, _, _ => none
def chkSs (B : Tb) (N : List Str) (sc : Scope) (cl : Bool) : List Rp.S → List Nat → List Nat → List Stmt → Option (Option (List Nat))
  | [], own, lo, xs => if xs.isEmpty then some (some own) else none
  | .kill is :: ss, own, lo, xs => chkSs B N sc cl ss (zer own is) lo xs
  | .frz is :: ss, own, lo, xs => chkSs B N sc cl ss (zer own is) lo xs
  | s :: ss, own, lo, xs => match xs with
    | [] => none
    | x :: xs => match chkS B N sc cl s own lo x with
      | none => none
      | some none => some none
      | some (some o) => chkSs B N sc cl ss o lo xs
end
end RpS
end

section
set_option Elab.async false
set_option linter.all false
set_option maxRecDepth 100000
set_option maxHeartbeats 4000000
/-! RpS21: what the look at statements gives. -/
namespace RpS
open PySem PySem.Spec PyProof.Rows L2
theorem grd_ok {c : Bool} {r on : Option (List Nat)} (h : grd c r = some on) : c = true ∧ r = on := by
  unfold grd at h
  split at h
  · rename_i e; cases h; exact ⟨e, rfl⟩
  · cases h
theorem vn_of {N : List Str} {sc : Scope} {i : Nat} {x : Expr} (h : vnB N sc i x = true) : ∃ y p, x = .Name y p ∧ N[i]? = some y ∧ Vis sc y ∧ (y == ("__debug__" : Str)) = false ∧ (y == ("__classdict__" : Str)) = false := by
  unfold vnB at h
  split at h
  · rename_i y p
    simp only [Bool.and_eq_true, decide_eq_true_eq] at h
    exact ⟨y, p, rfl, h.1.1, vis_of h.1.2, (nd_of h.2).1, (nd_of h.2).2⟩
  · cases h
theorem join_ok {a b : Option (Option (List Nat))} {on : Option (List Nat)} (h : joinO a b = some on) : ∃ oa ob, a = some oa ∧ b = some ob ∧ (oa = none ∨ oa = on) ∧ (ob = none ∨ ob = on) := by
  unfold joinO at h
  split at h
  · exact ⟨none, on, rfl, h, .inl rfl, .inr rfl⟩
  · exact ⟨on, none, h, rfl, .inr rfl, .inl rfl⟩
  · split at h
    · rename_i x y e; subst e; cases h; exact ⟨_, _, rfl, rfl, .inr rfl, .inr rfl⟩
    · cases h
  · cases h
theorem loop_ok {own : List Nat} {a : Option (Option (List Nat))} {on : Option (List Nat)} (h : loopO own a = some on) : on = some own ∧ ∃ ob, a = some ob ∧ (ob = none ∨ ob = some own) := by
  unfold loopO at h
  split at h
  · cases h; exact ⟨rfl, none, rfl, .inl rfl⟩
  · split at h
    · rename_i o e; subst e; cases h; exact ⟨rfl, _, rfl, .inr rfl⟩
    · cases h
  · cases h
section
variable {T : Tx} {X : Gx} {C : Rp.Cl} {k : Nat} {B : Tb} {sc : Scope} {N : List Str} {Xc : Cx} {g0 : Gh} {H0 : Hp} {cl : Bool}
theorem okM_of (hcl : cl = false → g0.me = none) {i : Nat} (h : okM cl i = true) : okm g0 i := by
  unfold okM at h
  cases cl with
  | false => exact .inl (hcl rfl)
  | true => exact .inr (by simpa using h)
theorem okMs_of (hcl : cl = false → g0.me = none) {is : List Nat} (h : is.all (okM cl) = true) : ∀ i ∈ is, okm g0 i := fun i hi => okM_of hcl (List.all_eq_true.mp h i hi)
theorem sndPar (hk : 40 ≤ k) (kt : Kt T X C k B) (cg : Cg T (k + 1) sc fcT N Xc) {own : List Nat} : ∀ {ns : List Nat} {es : List Rp.E} {xs : List Expr}, parB B N sc own ns es xs = true → PA Xc xs (tAO X C own ns es)
  | [], [], [], _ => pa_nilO
  | 0 :: ns, e :: es, x :: xs, h => by
    simp only [parB, Bool.and_eq_true, decide_eq_true_eq] at h
    exact pa_consO0 (sndE hk kt e own sc fcT x Xc cg h.1.2).d h.1.1.2 (sndPar hk kt cg h.2) h.1.1.1
  | 1 :: ns, e :: es, x :: xs, h => by
    simp only [parB, Bool.and_eq_true] at h
    exact pa_consO1 ((sndE hk kt e own sc fcT x Xc cg h.1.2).f h.1.1.2) (sndPar hk kt cg h.2) h.1.1.1
  | [], [], _ :: _, h => by simp [parB] at h
  | [], _ :: _, _, h => by simp [parB] at h
  | 0 :: _, [], _, h => by simp [parB] at h
  | 0 :: _, _ :: _, [], h => by simp [parB] at h
  | 1 :: _, [], _, h => by simp [parB] at h
  | 1 :: _, _ :: _, [], h => by simp [parB] at h
  | (_ + 2) :: _, _, _, h => by simp [parB] at h
theorem sndPop (hk : 40 ≤ k) (kt : Kt T X C k B) (cs : Cs T k sc N Xc) {own : List Nat} {i : Nat} {kk : Option Rp.E} {c : Expr} {xs : List Expr} {p2 p3 : Pos} (hv : vnB N sc i c = true) (hl : (p2.endLine == p3.line) = true) (hp : popB B N sc own kk xs = true) :
    ∃ y py, c = .Name y py ∧ PE Xc (.Call (.Attribute (.Name y py) "pop" p2) xs [] p3) (tPop X C Xc.K own i kk) := by
  obtain ⟨y, py, rfl, h1, h2, h3, h4⟩ := vn_of hv
  refine ⟨y, py, rfl, pe_popD cs h1 h2 h3 h4 ?_ hl⟩
  unfold popB at hp
  split at hp
  · trivial
  · simp only [Bool.and_eq_true, decide_eq_true_eq] at hp
    exact ⟨(sndE hk kt _ own sc fcT _ Xc cs.cg hp.1.1).d, hp.1.2, hp.2⟩
  · cases hp
theorem chkSs_cons {s : Rp.S} {ss : List Rp.S} {own lo : List Nat} {xs : List Stmt} (h1 : ∀ is, s ≠ .kill is) (h2 : ∀ is, s ≠ .frz is) : chkSs B N sc cl (s :: ss) own lo xs = (match xs with
    | [] => none
    | x :: xs => match chkS B N sc cl s own lo x with
      | none => none
      | some none => some none
      | some (some o) => chkSs B N sc cl ss o lo xs) := by
  cases s <;> first | rfl | exact absurd rfl (h1 _) | exact absurd rfl (h2 _)
mutual
theorem sndS (hk : 40 ≤ k) (kt : Kt T X C k B) (cs : Cs T k sc N Xc) (hcl : cl = false → g0.me = none) : ∀ (s : Rp.S) (own lo : List Nat) (x : Stmt) (on : Option (List Nat)), chkS B N sc cl s own lo x = some on → PS Xc x (tS X g0 H0 own on lo (fun env w => Rp.exS C s env w))
  | .asg i e, own, lo, x, on, h => by
    unfold chkS at h
    split at h
    · have hg := grd_ok h
      clear h
      obtain ⟨h, rfl⟩ := hg
      simp only [Bool.and_eq_true, decide_eq_true_eq] at h
      obtain ⟨⟨⟨⟨h1, h2⟩, h3⟩, h4⟩, h5⟩ := h
      obtain ⟨y, py, rfl, _, _⟩ := okT_name h2
      exact ps_asgD cs (okM_of hcl h1) h2 h3 (sndE hk kt e own sc fcT _ Xc cs.cg h5) h4
    · cases h
  | .asgO i e, own, lo, x, on, h => by
    unfold chkS at h
    split at h
    · have hg := grd_ok h
      clear h
      obtain ⟨h, rfl⟩ := hg
      simp only [Bool.and_eq_true, decide_eq_true_eq] at h
      obtain ⟨⟨⟨⟨⟨h1, h2⟩, h3⟩, h4⟩, h6⟩, h5⟩ := h
      obtain ⟨y, py, rfl, _, _⟩ := okT_name h2
      exact ps_asgOD cs (okM_of hcl h1) h2 h3 (sndE hk kt e own sc fcT _ Xc cs.cg h5) h4 h6
    · cases h
  | .unpack is e, own, lo, x, on, h => by
    unfold chkS at h
    split at h
    · have hg := grd_ok h
      clear h
      obtain ⟨h, rfl⟩ := hg
      simp only [Bool.and_eq_true, decide_eq_true_eq] at h
      obtain ⟨⟨⟨⟨⟨h1, h2⟩, h3⟩, h4⟩, h6⟩, h5⟩ := h
      exact ps_unpackD cs (okMs_of hcl h1) h2 h3 h4 (sndE hk kt e own sc fcT _ Xc cs.cg h5).d h6
    · cases h
  | .parO is ns es, own, lo, x, on, h => by
    unfold chkS at h
    split at h
    · rename_i ts kt1 pt xs k2 p2 pos
      have hg := grd_ok h
      clear h
      obtain ⟨h, rfl⟩ := hg
      simp only [Bool.and_eq_true, decide_eq_true_eq] at h
      obtain ⟨⟨⟨⟨⟨h1, h2⟩, h3⟩, h4⟩, h6⟩, h5⟩ := h
      have ha := sndPar hk kt cs.cg h3
      have hb : ∀ i ∈ is, i < own.length := fun i hi => of_decide_eq_true (List.all_eq_true.mp h4 i hi)
      have hm := okMs_of hcl h1
      unfold swapOk at h5
      split at h5
      · cases h5
      · rename_i e
        exact ps_parG cs hm h2 ha hb h6 (st_eq cs e)
      · rename_i names e
        have e2 := st_eq cs (k1 := kt1) (p1 := pt) (k2 := k2) (p2 := p2) e
        split at h5
        · simp only [Bool.and_eq_true, decide_eq_true_eq] at h5
          obtain ⟨⟨⟨⟨rfl, rfl⟩, z1⟩, z2⟩, z3⟩ := h5
          match xs, ha, e2, e with
          | [a, b], ha, e2, _ =>
            simp only [okTs, okT, Bool.and_eq_true, decide_eq_true_eq, and_true] at h2
            exact ps_parS2 cs hm h2.1.1 h2.2.1 z1 z2 z3 ha hb e2
          | [], _, _, e => simp [stF] at e
          | [_], _, _, e => simp [stF] at e
          | _ :: _ :: _ :: _, _, _, e => simp [stF] at e
        · simp only [Bool.and_eq_true, decide_eq_true_eq] at h5
          obtain ⟨⟨⟨⟨⟨⟨⟨⟨rfl, rfl⟩, rfl⟩, z1⟩, z2⟩, z3⟩, z4⟩, z5⟩, z6⟩ := h5
          match xs, ha, e2, e with
          | [a, b, c], ha, e2, _ =>
            simp only [okTs, okT, Bool.and_eq_true, decide_eq_true_eq, and_true] at h2
            exact ps_parS3 cs hm h2.1.1 h2.2.1.1 h2.2.2.1 z1 z2 z3 z4 z5 z6 ha hb e2
          | [], _, _, e => simp [stF] at e
          | [_], _, _, e => simp [stF] at e
          | [_, _], _, _, e => simp [stF] at e
          | _ :: _ :: _ :: _ :: _, _, _, e => simp [stF] at e
        · cases h5
    · cases h
  | .setix i kk e, own, lo, x, on, h => by
    unfold chkS at h
    split at h
    · have hg := grd_ok h
      clear h
      obtain ⟨h, rfl⟩ := hg
      simp only [Bool.and_eq_true, decide_eq_true_eq] at h
      obtain ⟨⟨⟨⟨⟨⟨⟨h1, h2⟩, h3⟩, h4⟩, h5⟩, h6⟩, h7⟩, h8⟩ := h
      obtain ⟨y, py, rfl, v1, v2, v3, v4⟩ := vn_of h2
      exact ps_setixD cs h1 v1 v2 v3 v4 (sndE hk kt kk own sc fcT _ Xc cs.cg h7).d h3 (sndE hk kt e own sc fcT _ Xc cs.cg h8).d h4 h5 h6
    · cases h
  | .append i e, own, lo, x, on, h => by
    unfold chkS at h
    split at h
    · have hg := grd_ok h
      clear h
      obtain ⟨h, rfl⟩ := hg
      simp only [Bool.and_eq_true, decide_eq_true_eq] at h
      obtain ⟨⟨⟨⟨⟨⟨rfl, h1⟩, h2⟩, h4⟩, h5⟩, h6⟩, h7⟩ := h
      obtain ⟨y, py, rfl, v1, v2, v3, v4⟩ := vn_of h2
      exact ps_appendD cs h1 v1 v2 v3 v4 (sndE hk kt e own sc fcT _ Xc cs.cg h7).d h4 h5 h6
    · cases h
  | .popTo t i kk, own, lo, x, on, h => by
    unfold chkS at h
    split at h
    · have hg := grd_ok h
      clear h
      obtain ⟨h, rfl⟩ := hg
      simp only [Bool.and_eq_true, decide_eq_true_eq] at h
      obtain ⟨⟨⟨⟨⟨⟨h0, h1⟩, rfl⟩, h2⟩, h4⟩, h5⟩, h6⟩ := h
      obtain ⟨z, pz, rfl, _, _⟩ := okT_name h1
      obtain ⟨y, py, rfl, hp⟩ := sndPop hk kt cs h4 h5 h6
      exact ps_popToD cs (okM_of hcl h0) h2 h1 hp
    · cases h
  | .popOff i kk, own, lo, x, on, h => by
    unfold chkS at h
    split at h
    · have hg := grd_ok h
      clear h
      obtain ⟨h, rfl⟩ := hg
      simp only [Bool.and_eq_true, decide_eq_true_eq] at h
      obtain ⟨⟨⟨⟨rfl, h2⟩, h4⟩, h5⟩, h6⟩ := h
      obtain ⟨y, py, rfl, hp⟩ := sndPop hk kt cs h4 h5 h6
      exact ps_popOffD cs h2 hp
    · cases h
  | .popApp b i kk, own, lo, x, on, h => by
    unfold chkS at h
    split at h
    · have hg := grd_ok h
      clear h
      obtain ⟨h, rfl⟩ := hg
      simp only [Bool.and_eq_true, decide_eq_true_eq] at h
      obtain ⟨⟨⟨⟨⟨⟨⟨⟨⟨rfl, rfl⟩, h1⟩, h2⟩, h3⟩, h4⟩, h5⟩, h6⟩, h7⟩, h8⟩ := h
      obtain ⟨y, py, rfl, hp⟩ := sndPop hk kt cs h4 h6 h8
      obtain ⟨z, pz, rfl, v1, v2, v3, v4⟩ := vn_of h5
      exact ps_popAppD cs h1 h2 h3 v1 v2 v3 v4 hp h7
    · cases h
  | .ex e, own, lo, x, on, h => by
    unfold chkS at h
    split at h
    · have hg := grd_ok h
      clear h
      obtain ⟨h, rfl⟩ := hg
      simp only [Bool.and_eq_true, Bool.not_eq_true'] at h
      exact ps_exD (sndE hk kt e own sc fcT _ Xc cs.cg h.2).d h.1
    · cases h
  | .ifs c a b, own, lo, x, on, h => by
    unfold chkS at h
    split at h
    · split at h
      · rename_i hc
        simp only [Bool.and_eq_true] at hc
        obtain ⟨oa, ob, ea, eb, ha, hb⟩ := join_ok h
        exact ps_ifD ((sndE hk kt c own sc fcT _ Xc cs.cg hc.2).t hc.1) (sndSs hk kt cs hcl a own lo _ oa ea) (sndSs hk kt cs hcl b own lo _ ob eb) ha hb
      · cases h
    · cases h
  | .while c b, own, lo, x, on, h => by
    unfold chkS at h
    split at h
    · split at h
      · rename_i hc
        simp only [Bool.and_eq_true] at hc
        obtain ⟨rfl, ob, eb, hb⟩ := loop_ok h
        exact ps_whileD cs ((sndE hk kt c own sc fcT _ Xc cs.cg hc.2).t hc.1) (sndSs hk kt cs hcl b own own _ ob eb) hb
      · cases h
    · cases h
  | .for p it b, own, lo, x, on, h => by
    unfold chkS at h
    split at h
    · split at h
      · rename_i hc
        simp only [Bool.and_eq_true] at hc
        obtain ⟨rfl, ob, eb, hb⟩ := loop_ok h
        exact ps_forD cs (okMs_of hcl hc.1.1.1) (sndI hk kt it own sc fcT _ _ Xc cs.cg hc.2) hc.1.2 (sndSs hk kt cs hcl b (zer own p.is) own _ ob eb) hb hc.1.1.2
      · cases h
    · cases h
  | .ret e, own, lo, x, on, h => by
    unfold chkS at h
    split at h
    · have hg := grd_ok h
      clear h
      obtain ⟨h, rfl⟩ := hg
      simp only [Bool.and_eq_true, decide_eq_true_eq] at h
      exact ps_retD (sndE hk kt e own sc fcT _ Xc cs.cg h.2).d h.1
    · cases h
  | .retN, own, lo, x, on, h => by
    unfold chkS at h
    split at h
    · cases h; exact ps_retND
    · cases h
  | .cont, own, lo, x, on, h => by
    unfold chkS at h
    split at h
    · have hg := grd_ok h
      clear h
      obtain ⟨h, rfl⟩ := hg
      obtain rfl : own = lo := of_decide_eq_true h
      exact ps_contD
    · cases h
  | .brk, own, lo, x, on, h => by
    unfold chkS at h
    split at h
    · have hg := grd_ok h
      clear h
      obtain ⟨h, rfl⟩ := hg
      obtain rfl : own = lo := of_decide_eq_true h
      exact ps_brkD
    · cases h
  | .raise c es, own, lo, x, on, h => by
    unfold chkS at h
    cases h
    exact ps_raiseD
  | .setf i f e, own, lo, x, on, h => by
    unfold chkS at h
    split at h
    · have hg := grd_ok h
      clear h
      obtain ⟨h, rfl⟩ := hg
      simp only [Bool.and_eq_true, decide_eq_true_eq] at h
      obtain ⟨⟨⟨⟨⟨⟨h1, rfl⟩, h2⟩, h3⟩, h4⟩, h5⟩, h6⟩ := h
      obtain ⟨y, py, rfl, v1, v2, v3, v4⟩ := vn_of h3
      exact ps_setfD cs kt h2 v1 v2 v3 v4 (by simpa using h1) (sndE hk kt e own sc fcT _ Xc cs.cg h6).d h4 h5
    · cases h
  | .setst i z e, own, lo, x, on, h => by
    unfold chkS at h
    split at h
    · have hg := grd_ok h
      clear h
      obtain ⟨h, rfl⟩ := hg
      simp only [Bool.and_eq_true, decide_eq_true_eq] at h
      obtain ⟨⟨⟨h2, rfl⟩, h4⟩, h5⟩ := h
      obtain ⟨y, py, rfl, v1, v2, v3, v4⟩ := vn_of h2
      exact ps_setstD cs v1 v2 v3 v4 (sndE hk kt e own sc fcT _ Xc cs.cg h5).d h4
    · cases h
  | .retSt i e, own, lo, x, on, h => by
    unfold chkS at h
    split at h
    · have hg := grd_ok h
      clear h
      obtain ⟨h, rfl⟩ := hg
      simp only [Bool.and_eq_true, decide_eq_true_eq] at h
      obtain ⟨⟨⟨⟨⟨⟨⟨rfl, rfl⟩, rfl⟩, rfl⟩, h1⟩, h2⟩, h3⟩, h4⟩ := h
      obtain ⟨y, py, rfl, v1, v2, v3, v4⟩ := vn_of h2
      exact ps_retStD cs h1 v1 v2 v3 v4 (sndE hk kt e own sc fcT _ Xc cs.cg h4).d h3
    · cases h
  | .par is es, own, lo, x, on, h => by simp [chkS] at h
  | .asg2 i e, own, lo, x, on, h => by
    unfold chkS at h
    split at h
    · rename_i p it e' t elt gs scope pos pos2
      have hg := grd_ok h
      clear h
      obtain ⟨h, rfl⟩ := hg
      simp only [Bool.and_eq_true, decide_eq_true_eq] at h
      obtain ⟨⟨⟨⟨h1, h2⟩, fr⟩, h4⟩, h5⟩ := h
      obtain ⟨y, py, rfl, hN, _⟩ := okT_name h2
      unfold chkE at h5
      split at h5
      · rename_i elt tg iter scope pos hx
        cases hx
        simp only [Bool.and_eq_true, decide_eq_true_eq] at h5
        obtain ⟨⟨⟨⟨⟨q1, q2⟩, q3⟩, q4⟩, q5⟩, q6⟩ := h5
        have cg := cs.cg
        have hi := sndI hk kt it own sc fcT tg iter Xc cg q5
        have ok := blkOk_by q3
        rw [← cg.n, ← cg.sco] at ok
        have key := pe_lc (g := tPat Xc.K p) (pos := pos) cg.calm (by rw [cg.n]; exact cg.nd) hi ok
          (fun s H C0 cl fp => pg_pat (cg.blk scope s H C0 cl fp) q4) (fun s H C0 cl fp => pts_nil)
          (fun s H C0 cl fp => (sndE hk kt e' _ _ _ elt _ (cg.blk scope s H C0 cl fp) q6).f fr) (fold_ok q1 _)
        rw [cg.n, slots_snd] at key
        have key2 := fun (i : Nat) (y : Str) (py spos : Pos) (e1 : N[i]? = some y) (e2 : sc.names.lookup y = some .local) (e3 : swapsWith _ (some (.Name y py)) spos.line Xc.env = pure true) => ps_setLc (i := i) (g := tPat Xc.K p) (pos := pos) cg.calm (by rw [cg.n]; exact cg.nd) (by rw [cg.n]; exact e1) (by rw [cg.sco]; exact e2) e3 hi ok
          (fun s H C0 cl fp => pg_pat (cg.blk scope s H C0 cl fp) q4) (fun s H C0 cl fp => pts_nil)
          (fun s H C0 cl fp => (sndE hk kt e' _ _ _ elt _ (cg.blk scope s H C0 cl fp) q6).f fr) (fold_ok q1 _)
        simp only [cg.n, slots_snd] at key2
        exact (ps_name cs h2 rfl (key.imp fun σ H Q hq => qlcF hq) fun _ e3 e2 => (key2 i y py _ hN e2 e3).imp fun D σ H hq => qlcF hq).imp fun D σ H q => asg2_q (okM_of hcl h1) h4 q
      · cases h5
    · cases h
  | .aug i o e, own, lo, x, on, h => by
    unfold chkS at h
    split at h
    · have hg := grd_ok h
      clear h
      obtain ⟨h, rfl⟩ := hg
      simp only [Bool.and_eq_true, Bool.or_eq_true, decide_eq_true_eq] at h
      obtain ⟨⟨⟨⟨⟨⟨h1, h2⟩, rfl⟩, h4⟩, h5⟩, h6⟩, h7⟩ := h
      obtain ⟨y, py, rfl, _, _⟩ := okT_name h2
      exact ps_augD cs (okM_of hcl h1) h2 h5 (sndE hk kt e own sc fcT _ Xc cs.cg h7).d h6 h4
    · cases h
  | .augix i a o e, own, lo, x, on, h => by simp [chkS] at h
  | .augix2 i a b o e, own, lo, x, on, h => by
    unfold chkS at h
    split at h
    · have hg := grd_ok h
      clear h
      obtain ⟨h, rfl⟩ := hg
      simp only [Bool.and_eq_true, decide_eq_true_eq] at h
      obtain ⟨⟨⟨⟨⟨⟨⟨⟨rfl, rfl⟩, h2⟩, h3⟩, h4⟩, h5⟩, h6⟩, h7⟩, h8⟩ := h
      obtain ⟨y, py, rfl, v1, v2, v3, v4⟩ := vn_of h3
      exact ps_augix2D cs h2 v1 v2 v3 v4 (sndE hk kt a own sc fcT _ Xc cs.cg h6).d (plainIx h4) (sndE hk kt b own sc fcT _ Xc cs.cg h7).d h5 (sndE hk kt e own sc fcT _ Xc cs.cg h8).d
    · cases h
  | .extend i e, own, lo, x, on, h => by simp [chkS] at h
  | .kill is, own, lo, x, on, h => by simp [chkS] at h
  | .frz is, own, lo, x, on, h => by simp [chkS] at h
theorem sndSs (hk : 40 ≤ k) (kt : Kt T X C k B) (cs : Cs T k sc N Xc) (hcl : cl = false → g0.me = none) : ∀ (ss : List Rp.S) (own lo : List Nat) (xs : List Stmt) (on : Option (List Nat)), chkSs B N sc cl ss own lo xs = some on → PSs Xc xs (tS X g0 H0 own on lo (fun env w => Rp.exSs C ss env w))
  | [], own, lo, xs, on, h => by
    unfold chkSs at h
    split at h
    · rename_i e
      cases h
      cases xs with
      | nil => exact pss_nilD
      | cons x xs => cases e
    · cases h
  | s :: ss, own, lo, xs, on, h => by
    by_cases hk1 : ∃ is, s = .kill is
    · obtain ⟨is, rfl⟩ := hk1
      exact pss_kill (sndSs hk kt cs hcl ss (zer own is) lo xs on h)
    · by_cases hk2 : ∃ is, s = .frz is
      · obtain ⟨is, rfl⟩ := hk2
        exact pss_frz (sndSs hk kt cs hcl ss (zer own is) lo xs on h)
      · rw [chkSs_cons (fun is e => hk1 ⟨is, e⟩) (fun is e => hk2 ⟨is, e⟩)] at h
        cases xs with
        | nil => cases h
        | cons x xs =>
          simp only at h
          split at h
          · cases h
          · rename_i e1
            cases h
            exact pss_last (sndS hk kt cs hcl s own lo x none e1)
          · rename_i o e1
            exact pss_consD (sndS hk kt cs hcl s own lo x (some o) e1) (sndSs hk kt cs hcl ss o lo xs on h)
end
end
end RpS
end

section
set_option Elab.async false
set_option linter.all false
set_option maxRecDepth 100000
set_option maxHeartbeats 4000000
/-! RpS22: defs keep their promises. -/
namespace RpS
open PySem PySem.Spec PyProof.Rows L2
theorem lookup_zip : ∀ {ns : List Str} {us : List Value} {n : Str}, us.length = ns.length → n ∈ ns → ((ns.zip us).lookup n).isSome = true
  | [], _, _, _, h => by cases h
  | m :: ns, [], _, h, _ => by simp at h
  | m :: ns, u :: us, n, h, hm => by
    rw [List.zip_cons_cons, List.lookup_cons]
    cases e : n == m with
    | true => rfl
    | false =>
      rcases List.mem_cons.mp hm with z | z
      · subst z; simp at e
      · exact lookup_zip (by simpa using h) z
theorem filterMap_zip : ∀ {ns : List Str} {us : List Value} {l : List (Str × Value)}, us.length = ns.length → ns.Nodup → (∀ n ∈ ns, l.lookup n = (ns.zip us).lookup n) → ns.filterMap (fun n => (l.lookup n).map (n, ·)) = ns.zip us
  | [], _, _, _, _, _ => by simp
  | m :: ns, [], _, h, _, _ => by simp at h
  | m :: ns, u :: us, l, h, nd, hl => by
    have h1 := hl m List.mem_cons_self
    rw [List.zip_cons_cons, List.lookup_cons] at h1
    simp only [beq_self_eq_true] at h1
    rw [List.filterMap_cons, h1]
    simp only [Option.map_some, List.zip_cons_cons]
    congr 1
    refine filterMap_zip (by simpa using h) (List.nodup_cons.mp nd).2 fun n hn => ?_
    rw [hl n (List.mem_cons_of_mem _ hn), List.zip_cons_cons, List.lookup_cons]
    have : (n == m) = false := by
      simp only [beq_eq_false_iff_ne, ne_eq]
      intro e; subst e
      exact (List.nodup_cons.mp nd).1 hn
    rw [this]
theorem binds_plain {x qual : Str} {args : List Arg} {kd : List (Option Expr)} {df : List Expr} {body : List Stmt} {scope : Scope} {kV doc pm : Value} {an : Option Addr} {cdv ct : Value} (us : List Value) (hn : (args.map (·.arg)).Nodup) (hl : us.length = (args.map (·.arg)).length) :
    bindArgs (PySem.W.fnOf x qual ⟨[], args, none, [], kd, none, df⟩ body scope .none kV doc pm an cdv ct) ⟨us, []⟩ = pure ((args.map (·.arg)).zip us) := by
  have f1 : (args.map (·.arg)).filterMap (fun n => (((args.map (·.arg)).zip us).lookup n).map (n, ·)) = (args.map (·.arg)).zip us := filterMap_zip hl hn fun _ _ => rfl
  have f2 : ((args.map (·.arg)).filter fun n => (((args.map (·.arg)).zip us).lookup n).isNone) = [] := by
    rw [List.filter_eq_nil_iff]
    intro n hm
    have := lookup_zip hl hm
    simp only [Option.isNone_iff_eq_none]
    intro z; rw [z] at this; cases this
  generalize hN : args.map (·.arg) = N at *
  have e1 : ∀ {fd : FuncData}, fd.params = ⟨[], args, none, [], kd, none, df⟩ → fd.defaults = .none → bindArgs fd ⟨us, []⟩ = pure (N.zip us) := by
    intro fd hp hd
    unfold bindArgs
    rw [hp, hd]
    have s0 : seqItems? Value.none = (pure none : Sem (Option (Array Value))) := rfl
    simp only [List.map_nil, List.nil_append, hN, List.append_nil, forIn, List.forIn_nil, s0, pure_bind]
    have l1 : ¬ (us.length > N.length) := by omega
    simp [List.forIn'_nil, l1, f1, f2]
  exact e1 rfl rfl

theorem ER.start {X : Gx} {g : Gh} {H : Hp} {fn : Rp.Fn} {N : List Str} {vs : List V} {ds : List Rp.D} (hN : N.length = fn.nl) (ra : RpA X g H vs ds) (hl : ds.length ≤ fn.nl) : ER X (List.replicate fn.nl 0) g H (L2.start N vs) (Rp.start fn ds) (fun _ => []) where
  len := by
    have := ra.length
    simp [L2.start, Rp.start, hN, this]
  slot i d h := by
    have e := ra.length
    unfold Rp.start at h
    unfold L2.start
    by_cases c : i < ds.length
    · rw [List.getElem?_append_left (by simpa using c), List.getElem?_map] at h
      cases hd : ds[i]? with
      | none => rw [hd] at h; cases h
      | some d' =>
        rw [hd] at h
        simp only [Option.map_some, Option.some.injEq] at h
        subst h
        obtain ⟨v, h1, h2⟩ := ra.get hd
        refine ⟨v, by rw [List.getElem?_append_left (by simp; omega), List.getElem?_map, h1]; rfl, ?_⟩
        have : (List.replicate fn.nl 0).getD i 0 = 0 := by
          simp only [List.getD, List.getElem?_replicate]
          split <;> rfl
        rw [this]
        exact ⟨rfl, h2⟩
    · rw [List.getElem?_append_right (by simpa using c), List.getElem?_replicate] at h
      split at h <;> cases h
  nd i := List.nodup_nil
  dis i j a _ h := by cases h
  out i a h := by cases h
theorem Ext.me {g : Gh} {H : Hp} (m : Option V) : Ext { g with me := m } H g H := ⟨fun _ h => h, fun _ h => .inl h, fun _ _ h _ => h, fun _ => ⟨rfl, rfl⟩, fun e a h => absurd e h.1, fun _ h => h⟩
theorem Ext.me2 {g : Gh} {H : Hp} (m : Option V) : Ext g H { g with me := m } H := ⟨fun _ h => h, fun _ h => .inl h, fun _ _ h _ => h, fun _ => ⟨rfl, rfl⟩, fun e a h => absurd e h.1, fun _ h => h⟩
section
variable {T : Tx} {X : Gx} {C : Rp.Cl} {k : Nat} {B : Tb} {sc : Scope} {N ps : List Str} {P : Rp.Tbl} {m : Nat}
theorem cs_of {CX : CXT} {qual : Str} {f : Addr} {cdv : Value} {A : Around} {outer : List Env} {s : Shared} {H : Hp} {E : XK} (S : FnScope N ps sc) (hr : Room (k + 1) (A.deeper (envOfC qual sc s.heap.objs.size f cdv))) :
    Cs T k sc N (cxOf CX T.P T.w T.K T.mg T.base N qual sc f cdv A outer s H E).nox :=
  ⟨⟨rfl, rfl, rfl, rfl, rfl, hr, rfl, rfl, S.nd, fun _ _ => rfl, rfl⟩, S.kind, rfl⟩
/-- a def -/
theorem def_ok {f : String} {fn : Rp.Fn} {x qual : Str} {params : Arguments} {body : List Stmt} {a : Addr} {fd : FuncData} {on : Option (List Nat)} (hk : 40 ≤ k) (kt : Kt T X (Rp.callN P m) k B) (F : FunD T.K x qual params body sc [] [] a fd) (S : FnScope N ps sc)
    (hN : N.length = fn.nl) (hp : ps.length = fn.np) (hcls : fn.cls = none) (hP : P f = some fn) (hc : chkSs B N sc false fn.body (List.replicate fn.nl 0) [] body = some on) :
    FnOk T.P T.w T.K T.mg T.base C8.CX0 (k + 2) a fd ps (sp X (Rp.callN P (m + 1)) f fn.np) := by
  refine F.ok S (fun vs H Q E h => by rw [hp]; exact h.1) fun cdv A outer s H vs Q E hr ⟨hl, g, w, ds, d, w', wr, ra, ev, q⟩ => ?_
  simp only [Rp.callN, hP, hcls] at ev
  split at ev
  · rename_i hlen
    unfold Rp.endD at ev
    obtain ⟨fl, w1, e1, e2⟩ := bind_ok ev
    have hpl : ps.length ≤ N.length := by have := congrArg List.length S.pre; rw [List.length_take] at this; omega
    refine ⟨_, PSs.nox (sndSs (g0 := { g with me := none }) (H0 := H) (cl := false) hk kt (cs_of S hr) (fun _ => rfl) fn.body _ [] body on hc), g, Rp.start fn ds, fun _ => [], w, fl, w1, ⟨ER.start hN ra (by omega), wr, .me none, fun i a h => (by cases h), fun v e => (by cases e)⟩, e1, ?_⟩
    cases fl with
    | next env =>
      simp only [Rp.R.ok.injEq] at e2
      obtain ⟨rfl, rfl⟩ := e2
      cases on with
      | none => trivial
      | some o => exact fun σ' H' g' fps _ si => q .non H' g' (Ext.trans (.me2 none) si.ext) si.wr .non
    | ret d2 =>
      simp only [Rp.R.ok.injEq] at e2
      obtain ⟨rfl, rfl⟩ := e2
      exact fun v H' g' ex wr' rv => q v H' g' (Ext.trans (.me2 none) ex) wr' rv
    | brk env => cases e2
    | cont env => cases e2
  · cases ev
theorem ER.startI {g : Gh} {H : Hp} {fn : Rp.Fn} {N : List Str} {x dx : Addr} {c : String} {vs : List V} {ds : List Rp.D} (hN : N.length = fn.nl) (ra : RpA X g H vs ds) (hl : ds.length + 1 ≤ fn.nl) (hx : H x = some (.ins (X.cls c) dx [])) (hF : ¬ g.F x) (hw : ¬ wd g x) :
    ER X (1 :: List.replicate (fn.nl - 1) 0) g H (L2.start N (.ref x :: vs)) (Rp.start fn (.obj c [] :: ds)) (fun i => if i = 0 then [x] else []) where
  len := by
    have := ra.length
    simp [L2.start, Rp.start, hN, this]
  slot i d h := by
    have e := ra.length
    unfold Rp.start at h
    unfold L2.start
    cases i with
    | zero =>
      simp only [List.map_cons, List.cons_append, List.getElem?_cons_zero, Option.some.injEq] at h
      subst h
      exact ⟨.ref x, by simp, RO1.ofO hx .nil⟩
    | succ i =>
      rw [List.map_cons, List.cons_append, List.getElem?_cons_succ] at h
      rw [List.map_cons, List.cons_append, List.getElem?_cons_succ]
      by_cases c : i < ds.length
      · rw [List.getElem?_append_left (by simpa using c), List.getElem?_map] at h
        cases hd : ds[i]? with
        | none => rw [hd] at h; cases h
        | some d' =>
          rw [hd] at h
          simp only [Option.map_some, Option.some.injEq] at h
          subst h
          obtain ⟨v, h1, h2⟩ := ra.get hd
          refine ⟨v, by rw [List.getElem?_append_left (by simp; omega), List.getElem?_map, h1]; rfl, ?_⟩
          have : (1 :: List.replicate (fn.nl - 1) 0).getD (i + 1) 0 = 0 := by
            simp only [List.getD, List.getElem?_cons_succ, List.getElem?_replicate]
            split <;> rfl
          rw [this]
          exact ⟨rfl, h2⟩
      · rw [List.getElem?_append_right (by simpa using c), List.getElem?_replicate] at h
        split at h <;> cases h
  nd i := by split <;> simp
  dis i j a hij h := by
    try dsimp only at h ⊢
    split at h
    · rename_i z; subst z; rw [if_neg (Ne.symm hij)]; simp
    · cases h
  out i a h := by
    try dsimp only at h
    split at h
    · have : a = x := by simpa using h
      subst this
      exact ⟨hF, by rw [hx]; simp, hw⟩
    · cases h
/-- a class's making -/
theorem init_ok {c : String} {fn : Rp.Fn} {x qual : Str} {params : Arguments} {body : List Stmt} {a : Addr} {fd : FuncData} {on : Option (List Nat)} (hk : 40 ≤ k) (kt : Kt T X (Rp.callN P m) k B) (F : FunD T.K x qual params body sc [] [] a fd) (S : FnScope N ps sc)
    (hN : N.length = fn.nl) (hp : ps.length = fn.np) (hcls : fn.cls = some c) (hP : P c = some fn) (hc : chkSs B N sc true fn.body (1 :: List.replicate (fn.nl - 1) 0) [] body = some on) :
    FnOk T.P T.w T.K T.mg T.base C8.CX0 (k + 2) a fd ps (spI X (Rp.callN P (m + 1)) c fn.np) := by
  refine F.ok S (fun vs H Q E h => by rw [hp]; exact h.1) fun cdv A outer s H vs Q E hr ⟨hl, y, dx, us, H1, g, w, ds, d, w', hvs, hx, hdx, hne, hH, wr, ra, ev, q⟩ => ?_
  subst hvs hH
  simp only [Rp.callN, hP, hcls] at ev
  split at ev
  · rename_i hlen
    unfold Rp.endO at ev
    obtain ⟨fl, w1, e1, e2⟩ := bind_ok ev
    have hpl : ps.length ≤ N.length := by have := congrArg List.length S.pre; rw [List.length_take] at this; omega
    have x1 := ext_upd (g := g) (o := .own y) hdx
    have hx2 : upd H1 dx (.own y) y = none := by rw [upd_ne (Ne.symm hne)]; exact hx
    have x2 := ext_upd (g := g) (o := .ins (X.cls c) dx []) hx2
    have wr2 := (wr.upd (o := .own y) hdx).upd (o := .ins (X.cls c) dx []) hx2
    have ex := x1.trans x2
    refine ⟨_, PSs.nox (sndSs (g0 := { g with me := some (.ref y) }) (H0 := H1) (cl := true) hk kt (cs_of S hr) (fun z => by cases z) fn.body _ [] body on hc), g, Rp.start fn (.obj c [] :: ds), fun i => if i = 0 then [y] else [], w, fl, w1,
      ⟨ER.startI hN (RpA.fm (ex.fm wr.ok) ra) (by omega) upd_same (fun z => (wr.1 y z).1 hx) (not_wd_of_none wr hx), wr2, Ext.trans (.me _) ex, fun i a h => ?_, fun v e => ?_⟩, e1, ?_⟩
    · try dsimp only at h
      split at h
      · have : a = y := by simpa using h
        subst this; exact hx
      · cases h
    · cases e; simp [L2.start]
    · cases fl with
      | next env =>
        simp only at e2
        obtain ⟨l2, rfl⟩ := lift_ok e2
        cases on with
        | none => trivial
        | some o =>
          intro σ' H' g' fps _ si
          obtain ⟨g2, fps2, _, s2⟩ := si.frz [0]
          obtain ⟨v, hv, ro⟩ := s2.er.look l2
          have hz : (zer o [0]).getD 0 0 = 0 := by show (o.set 0 0).getD 0 0 = 0; rw [getD_set0, if_pos rfl]
          rw [hz] at ro
          have hme := si.me (.ref y) rfl
          rw [hme] at hv
          cases hv
          exact q H' g2 (Ext.trans (.me2 _) s2.ext) s2.wr ro.2
      | ret d2 => cases e2
      | brk env => cases e2
      | cont env => cases e2
  · cases ev
end
end RpS
end

section
set_option Elab.async false
set_option linter.all false
set_option maxRecDepth 100000
set_option maxHeartbeats 4000000
/-! RpS23: all defs of a text, at every depth; the law. -/
namespace RpS
open PySem PySem.Spec PyProof.Rows L2
/-- what is known of a text's names -/
structure Ks (T : Tx) (X : Gx) (B : Tb) : Prop where
  free : ∀ x ∈ blts, T.mg (ofs x) = none
  gcd : "gcd" ∈ B.mods → T.mg (ofs "gcd") = some (.builtin "math.gcd")
  con : ∀ p ∈ B.cons, ∃ t, T.mg (ofs p.1) = some (.int p.2 t)
  cl : ∀ c, Cls T.K (X.cls c)
  fld : ∀ c, ∀ f ∈ B.flds, NoAttr T.K (X.cls c) (ofs f)
  isi : ∀ c, PySem.W.findIn T.K (.ref (X.cls c)) "__class__" = some (some (.builtin "object.__class__")) ∧ PySem.W.specialIn T.K (.builtin "object.__class__") "__get__" = some (some (.builtin "getset_descriptor.__get__")) ∧
    PySem.W.takesIn T.K (.builtin "object.__class__") = some true ∧ PySem.W.mroIn T.K (X.cls c) (.type "object") = some true ∧ PySem.W.kitOne T.K (.ref (X.cls c)) (.ref (X.cls c)) = some true
  kl : ∀ a ns, X.kl a ns → ∀ H, SqL T.K H a (ns.map V.int)
  cname : ∀ c ∈ B.cls, T.mg (ofs c) = some (.ref (X.cls c))
/-- a look at a def: its text against its term -/
def lookF (B : Tb) (N ps : List Str) (args : Arguments) (sc : Scope) (cl : Bool) (fn : Rp.Fn) (body : List Stmt) : Bool :=
  (match args with | ⟨[], as, none, [], _, none, _⟩ => decide (as.map (·.arg) = ps) | _ => false) && C8.scC N ps sc && decide (N.length = fn.nl) && decide (ps.length = fn.np) &&
    (chkSs B N sc cl fn.body (if cl then 1 :: List.replicate (fn.nl - 1) 0 else List.replicate fn.nl 0) [] body).isSome
structure DefE (T : Tx) (B : Tb) (P : Rp.Tbl) (f : String) : Prop where
  ex : ∃ (fn : Rp.Fn) (N ps : List Str) (x qual : Str) (args : Arguments) (body : List Stmt) (sc : Scope) (a : Addr) (fd : FuncData), P f = some fn ∧ fn.cls = none ∧ FunD T.K x qual args body sc [] [] a fd ∧ T.mg (ofs f) = some (.ref a) ∧ lookF B N ps args sc false fn body = true
structure ClsE (T : Tx) (X : Gx) (B : Tb) (P : Rp.Tbl) (c : String) : Prop where
  ex : ∃ (fn : Rp.Fn) (N ps : List Str) (x qual : Str) (args : Arguments) (body : List Stmt) (sc : Scope) (a : Addr) (fd : FuncData), P c = some fn ∧ fn.cls = some c ∧ FunD T.K x qual args body sc [] [] a fd ∧ T.mg (ofs c) = some (.ref (X.cls c)) ∧ Mk T.K (X.cls c) a ∧ lookF B N ps args sc true fn body = true
theorem look_of {B : Tb} {N ps : List Str} {args : Arguments} {sc : Scope} {cl : Bool} {fn : Rp.Fn} {body : List Stmt} (h : lookF B N ps args sc cl fn body = true) :
    FnScope N ps sc ∧ N.length = fn.nl ∧ ps.length = fn.np ∧ (∃ on, chkSs B N sc cl fn.body (if cl then 1 :: List.replicate (fn.nl - 1) 0 else List.replicate fn.nl 0) [] body = some on) ∧
      ∀ (x qual : Str) (kV doc pm : Value) (an : Option Addr) (cdv ct : Value) (us : List Value), us.length = ps.length → bindArgs (PySem.W.fnOf x qual args body sc .none kV doc pm an cdv ct) ⟨us, []⟩ = pure (ps.zip us) := by
  unfold lookF at h
  simp only [Bool.and_eq_true, decide_eq_true_eq] at h
  obtain ⟨⟨⟨⟨h1, h2⟩, h3⟩, h4⟩, h5⟩ := h
  have S := C8.fnScope_by h2
  refine ⟨S, h3, h4, Option.isSome_iff_exists.mp h5, ?_⟩
  split at h1
  · rename_i as kd df
    have e : as.map (·.arg) = ps := of_decide_eq_true h1
    subst e
    intro x qual kV doc pm an cdv ct us hl
    refine binds_plain us ?_ hl
    rw [← S.pre]; exact S.nd.sublist (List.take_sublist _ _)
  · cases h1
section
variable {T : Tx} {X : Gx} {B : Tb} {P : Rp.Tbl}
theorem fn_none {k : Nat} {f : Addr} {fd : FuncData} {ps : List Str} {s : Sp} (h : ∀ vs H Q E, ¬ s vs H Q E) : FnOk T.P T.w T.K T.mg T.base C8.CX0 k f fd ps s :=
  ⟨fun vs H Q E z => (h _ _ _ _ z).elim, fun A outer s H args us vs Q E _ _ _ _ z => (h _ _ _ _ z).elim⟩
theorem kt_all (ks : Ks T X B) (hd : ∀ f ∈ B.fns, DefE T B P f) (hc : ∀ c ∈ B.cls, ClsE T X B P c) : ∀ m, Kt T X (Rp.callN P m) (40 + 2 * m) B
  | 0 => by
    refine ⟨ks.free, ks.gcd, fun f hf => ?_, fun c hcl => ?_, ks.con, ks.cl, ks.fld, ks.isi, ks.kl, ks.cname⟩
    · obtain ⟨fn, N, ps, x, qual, args, body, sc, a, fd, h1, h2, h3, h4, h5⟩ := (hd f hf).ex
      obtain ⟨_, _, _, _, hb⟩ := look_of h5
      exact ⟨0, (fun ds w d w' z => by cases z), ⟨⟨a, fd, ps, [], fn_none (fun vs H Q E z => by obtain ⟨_, _, _, _, _, _, _, _, z, _⟩ := z; cases z), h4, h3.kp, h3.bindsN (fun kV doc pm an cdv ct us hl => hb _ _ _ _ _ _ _ _ us hl), .nil⟩⟩⟩
    · obtain ⟨fn, N, ps, x, qual, args, body, sc, a, fd, h1, h2, h3, h4, h6, h5⟩ := (hc c hcl).ex
      obtain ⟨_, _, _, _, hb⟩ := look_of h5
      exact ⟨0, (fun ds w d w' z => by cases z), ⟨⟨a, fd, ps, [], h6, fn_none (fun vs H Q E z => by obtain ⟨_, _, _, _, _, _, _, _, _, _, _, _, _, _, _, _, _, z, _⟩ := z; cases z), h4, h3.bindsN (fun kV doc pm an cdv ct us hl => hb _ _ _ _ _ _ _ _ us hl), .nil⟩⟩⟩
  | m + 1 => by
    have ih := kt_all ks hd hc m
    have e : 40 + 2 * (m + 1) = 40 + 2 * m + 2 := by omega
    rw [e]
    refine ⟨ks.free, ks.gcd, fun f hf => ?_, fun c hcl => ?_, ks.con, ks.cl, ks.fld, ks.isi, ks.kl, ks.cname⟩
    · obtain ⟨fn, N, ps, x, qual, args, body, sc, a, fd, h1, h2, h3, h4, h5⟩ := (hd f hf).ex
      obtain ⟨S, hN, hp, ⟨on, hck⟩, hb⟩ := look_of h5
      refine ⟨fn.np, fun ds w d w' z => ?_, ⟨⟨a, fd, ps, [], def_ok (by omega) ih h3 S hN hp h2 h1 hck, h4, h3.kp, h3.bindsN (fun kV doc pm an cdv ct us hl => hb _ _ _ _ _ _ _ _ us hl), .nil⟩⟩⟩
      simp only [Rp.callN, h1, h2] at z
      split at z
      · assumption
      · cases z
    · obtain ⟨fn, N, ps, x, qual, args, body, sc, a, fd, h1, h2, h3, h4, h6, h5⟩ := (hc c hcl).ex
      obtain ⟨S, hN, hp, ⟨on, hck⟩, hb⟩ := look_of h5
      refine ⟨fn.np, fun ds w d w' z => ?_, ⟨⟨a, fd, ps, [], h6, init_ok (by omega) ih h3 S hN hp h2 h1 hck, h4, h3.bindsN (fun kV doc pm an cdv ct us hl => hb _ _ _ _ _ _ _ _ us hl), .nil⟩⟩⟩
      simp only [Rp.callN, h1, h2] at z
      split at z
      · assumption
      · cases z
/-- the law's own promise -/
theorem law_ok {fn : Rp.Fn} {N ps : List Str} {x qual : Str} {args : Arguments} {body : List Stmt} {sc : Scope} {a : Addr} {fd : FuncData} (m : Nat) (ks : Ks T X B) (hd : ∀ f ∈ B.fns, DefE T B P f) (hc : ∀ c ∈ B.cls, ClsE T X B P c) (h1 : P "law" = some fn) (h2 : fn.cls = none)
    (h3 : FunD T.K x qual args body sc [] [] a fd) (h5 : lookF B N ps args sc false fn body = true) :
    FnOk T.P T.w T.K T.mg T.base C8.CX0 (40 + 2 * m + 2) a fd ps (sp X (Rp.callN P (m + 1)) "law" fn.np) := by
  obtain ⟨S, hN, hp, ⟨on, hck⟩, hb⟩ := look_of h5
  exact def_ok (by omega) (kt_all ks hd hc m) h3 S hN hp h2 h1 hck
end
end RpS
end

section
set_option Elab.async false
set_option linter.all false
set_option maxRecDepth 100000
set_option maxHeartbeats 4000000
/-! RpH: the head's facts for a text of the small language. -/
namespace RpS
open PySem PySem.Spec PyProof.Rows L2
theorem split2 {X A B : Type} {o : Option X} {f : X → A} {a : A} {g : X → B} {b : B} (h1 : o.map f = some a) (h2 : o.map g = some b) : o.map (fun x => (f x, g x)) = some (a, b) := by
  cases o with
  | none => cases h1
  | some x => exact congrArg some (Prod.ext (Option.some.inj h1) (Option.some.inj h2))
theorem splitA {X A : Type} {o : Option X} {f g : X → List A} {a b : List A} (h1 : o.map f = some a) (h2 : o.map g = some b) : o.map (fun x => f x ++ g x) = some (a ++ b) := by
  cases o with
  | none => cases h1
  | some x =>
    have e1 : f x = a := Option.some.inj h1
    have e2 : g x = b := Option.some.inj h2
    show some (f x ++ g x) = some (a ++ b)
    rw [e1, e2]
theorem splitM {X A B : Type} {o : Option X} {F : X → B → A} {v : B → A} {l l1 l2 : List B} (e : l = l1 ++ l2) (h1 : (o.map fun x => l1.map (F x)) = some (l1.map v)) (h2 : (o.map fun x => l2.map (F x)) = some (l2.map v)) : (o.map fun x => l.map (F x)) = some (l.map v) := by
  subst e
  simp only [List.map_append]
  exact splitA h1 h2
theorem splitB {X B : Type} {o : Option X} {F : X → B → Bool} {l l1 l2 : List B} (e : l = l1 ++ l2) (h1 : (o.map fun x => l1.all (F x)) = some true) (h2 : (o.map fun x => l2.all (F x)) = some true) : (o.map fun x => l.all (F x)) = some true := by
  subst e
  cases o with
  | none => cases h1
  | some x =>
    have e1 : l1.all (F x) = true := Option.some.inj h1
    have e2 : l2.all (F x) = true := Option.some.inj h2
    show some ((l1 ++ l2).all (F x)) = some true
    rw [List.all_append, e1, e2]; rfl
theorem splitC {X : Type} {o : Option X} {f g : X → Bool} (h1 : o.map f = some true) (h2 : o.map g = some true) : (o.map fun x => f x && g x) = some true := by
  cases o with
  | none => cases h1
  | some x =>
    have e1 : f x = true := Option.some.inj h1
    have e2 : g x = true := Option.some.inj h2
    show some (f x && g x) = some true
    rw [e1, e2]; rfl
/-- more facts by names -/
inductive Fx where
  | imp (x : Str) (b : String)
  | isi (x : Str)
def Fx.ok (K : PySem.W.Frag) : Fx → Bool
  | .imp x b => decide (PySem.W.nsIn K mainGlobals x = some (some (.builtin b)))
  | .isi x => decide (PySem.W.findIn K (.ref (He.ga K x)) "__class__" = some (some (.builtin "object.__class__"))) && (decide (PySem.W.specialIn K (.builtin "object.__class__") "__get__" = some (some (.builtin "getset_descriptor.__get__"))) &&
    (decide (PySem.W.takesIn K (.builtin "object.__class__") = some true) && (decide (PySem.W.mroIn K (He.ga K x) (.type "object") = some true) && decide (PySem.W.kitOne K (.ref (He.ga K x)) (.ref (He.ga K x)) = some true))))
def obsX (fa : List He.Fa) (fx : List Fx) (fn : List He.DefD) (K : PySem.W.Frag) : He.AlD := ((fa.all (fun f => f.ok K) && fx.all fun f => f.ok K) && fn.all fun d => d.ok K, fn.map fun d => He.fnW K d.at_)
def SaysX (fa : List He.Fa) (fx : List Fx) (fn : List He.DefD) (K : PySem.W.Frag) : Prop := obsX fa fx fn K = He.valD fn
def obsXG (n : Nat) (fa : List He.Fa) (fx : List Fx) (fn : List He.DefD) (g : Addr → Option Obj) : He.AlD := obsX fa fx fn (He.frG g (He.asD g n))
def hookX (n : Nat) (fa : List He.Fa) (fx : List Fx) (fn : List He.DefD) : PySem.W.Hook where
  α := He.AlD
  obs := fun s => obsXG n fa fx fn s.heap.get?
  val := fun _ => He.valD fn
  says := fun _ h => ∃ K : PySem.W.Frag, K.In h ∧ SaysX fa fx fn K
  of := fun _ _ e => ⟨_, He.frG_in, e⟩
  keeps := fun _ _ _ ⟨K, hK, c⟩ k => ⟨K, PySem.W.Frag.In.keeps hK k, c⟩
theorem obsXG_eq {n : Nat} {fa : List He.Fa} {fx : List Fx} {fn : List He.DefD} {g : Addr → Option Obj} {s : Shared} (h : ∀ a, g a = s.heap.get? a) : obsXG n fa fx fn g = (hookX n fa fx fn).obs s := by
  have e : g = s.heap.get? := funext h
  rw [e] <;> rfl
section
variable {fa : List He.Fa} {fx : List Fx} {fn : List He.DefD} {K : PySem.W.Frag}
theorem SaysX.bools (c : SaysX fa fx fn K) : (∀ f ∈ fa, f.ok K = true) ∧ (∀ f ∈ fx, f.ok K = true) ∧ ∀ d ∈ fn, d.ok K = true := by
  have c1 : ((fa.all (fun f => f.ok K) && fx.all fun f => f.ok K) && fn.all fun d => d.ok K) = true := congrArg (fun z : He.AlD => z.1) c
  simp only [Bool.and_eq_true, List.all_eq_true] at c1
  exact ⟨c1.1.1, c1.1.2, c1.2⟩
theorem SaysX.def_ (c : SaysX fa fx fn K) {d : He.DefD} (h : d ∈ fn) : ∃ fd, FunD K d.name d.qual d.params d.body d.scope (d.dvs K) (d.kws K) (He.fAd K d.at_) fd := by
  obtain ⟨i, hi⟩ := List.getElem?_of_mem h
  have e : fn.map (fun d => He.fnW K d.at_) = fn.map He.DefD.val := congrArg (fun z : He.AlD => z.2) c
  have e2 : (fn.map fun d => He.fnW K d.at_)[i]? = (fn.map He.DefD.val)[i]? := by rw [e]
  rw [List.getElem?_map, List.getElem?_map, hi] at e2
  exact He.DefD.funD (Option.some.inj e2) (c.bools.2.2 d h)
end
/-! ### a text: its defs by index -/
structure Ent where
  name : String
  st : Stmt
  fn : Rp.Fn
  N : List String
def Ent.dd (e : Ent) : He.DefD := ⟨(ofs e.name, none), ofs e.name, ofs e.name, defArgs e.st, defBody e.st, defScope e.st, [], []⟩
/-- a class's __init__ -/
def Ent.cd (e : Ent) : He.DefD := ⟨(ofs e.name, some (ofs "__init__")), ofs "__init__", ofs (e.name ++ ".__init__"), defArgs e.st, defBody e.st, defScope e.st, [], []⟩
def Ent.look (B : Tb) (cl : Bool) (e : Ent) : Bool := lookF B (e.N.map ofs) ((e.N.take e.fn.np).map ofs) (defArgs e.st) (defScope e.st) cl e.fn (defBody e.st)
def faOf (B : Tb) (house : String) : List He.Fa :=
  (B.fns.map fun f => .glo (ofs f)) ++ (blts.map fun x => .free (ofs x)) ++ (B.cons.map fun p => .int (ofs p.1) p.2) ++ [.glo (ofs house), .cls (ofs house), .mkr (ofs house)] ++ (B.flds.map fun f => .noat (ofs house) (ofs f))
def fxOf (B : Tb) (house : String) : List Fx := (B.mods.map fun m => .imp (ofs m) ("math." ++ m)) ++ [.isi (ofs house)]
def fnOf (es : List Ent) (ce : Ent) : List He.DefD := es.map Ent.dd ++ [ce.cd]
section
variable {P : Program} {w : World} {K : PySem.W.Frag} {h : Heap} {mg : Str → Option Value} {base : Heap} {B : Tb} {es : List Ent} {ce : Ent} {tb : Rp.Tbl} {house : String}
def gxOf (K : PySem.W.Frag) (house : String) : Gx := ⟨fun _ => He.ga K (ofs house), fun _ => 0, fun a ns => ∀ H, SqL K H a (ns.map V.int)⟩
theorem ks_of (X : K.In h) (G : h.Ns mainGlobals mg) (c : SaysX (faOf B house) (fxOf B house) (fnOf es ce) K) (hc : B.cls = [house]) (hm : ∀ m ∈ B.mods, m = "gcd") : Ks ⟨P, w, K, mg, base⟩ (gxOf K house) B := by
  obtain ⟨c1, c2, c3⟩ := c.bools
  have m1 : ∀ f, f ∈ faOf B house → f.ok K = true := c1
  refine ⟨fun x hx => He.free_ok X G (m1 _ ?_), fun hg => ?_, fun p hp => He.int_ok X G (m1 (.int (ofs p.1) p.2) ?_), fun _ => He.cls_ok (m1 (.cls (ofs house)) ?_), fun _ f hf => He.noat_ok (m1 (.noat (ofs house) (ofs f)) ?_), fun _ => ?_, fun a ns z => z, fun cn hcn => ?_⟩
  · unfold faOf; simp only [List.mem_append, List.mem_map]; exact .inl (.inl (.inl (.inr ⟨x, hx, rfl⟩)))
  · have := c2 (.imp (ofs "gcd") ("math." ++ "gcd")) (by unfold fxOf; simp only [List.mem_append, List.mem_map]; exact .inl ⟨"gcd", hg, rfl⟩)
    exact PySem.W.mg_of X G (of_decide_eq_true this)
  · unfold faOf; simp only [List.mem_append, List.mem_map]; exact .inl (.inl (.inr ⟨p, hp, rfl⟩))
  · unfold faOf; simp
  · unfold faOf; simp only [List.mem_append, List.mem_map]; exact .inr ⟨f, hf, rfl⟩
  · have := c2 (.isi (ofs house)) (by unfold fxOf; simp)
    simp only [Fx.ok, Bool.and_eq_true, decide_eq_true_eq] at this
    exact this
  · rw [hc] at hcn
    have : cn = house := by simpa using hcn
    subst this
    exact He.glo_ok X G (m1 (.glo (ofs cn)) (by unfold faOf; simp))
theorem defs_of (X : K.In h) (G : h.Ns mainGlobals mg) (c : SaysX (faOf B house) (fxOf B house) (fnOf es ce) K) (hn : B.fns = es.map (·.name)) (hl : es.all (Ent.look B false) = true) (hP : ∀ e ∈ es, tb e.name = some e.fn ∧ e.fn.cls = none) : ∀ f ∈ B.fns, DefE ⟨P, w, K, mg, base⟩ B tb f := by
  intro f hf
  have hf2 := hf
  rw [hn, List.mem_map] at hf
  obtain ⟨e, he, rfl⟩ := hf
  obtain ⟨fd, F⟩ := c.def_ (d := e.dd) (by unfold fnOf; simp only [List.mem_append, List.mem_map]; exact .inl ⟨e, he, rfl⟩)
  have hg := He.glo_ok X G (c.bools.1 (.glo (ofs e.name)) (by unfold faOf; simp only [List.mem_append, List.mem_map]; exact .inl (.inl (.inl (.inl ⟨e.name, hf2, rfl⟩)))))
  exact ⟨e.fn, e.N.map ofs, (e.N.take e.fn.np).map ofs, _, _, _, _, _, _, fd, (hP e he).1, (hP e he).2, F, hg, List.all_eq_true.mp hl e he⟩
theorem cls_of (X : K.In h) (G : h.Ns mainGlobals mg) (c : SaysX (faOf B house) (fxOf B house) (fnOf es ce) K) (hc : B.cls = [house]) (hce : ce.name = house) (hl : ce.look B true = true) (hP : tb house = some ce.fn ∧ ce.fn.cls = some house) : ∀ c ∈ B.cls, ClsE ⟨P, w, K, mg, base⟩ (gxOf K house) B tb c := by
  intro c2 hc2
  rw [hc] at hc2
  have : c2 = house := by simpa using hc2
  subst this
  obtain ⟨fd, F⟩ := c.def_ (d := ce.cd) (by unfold fnOf; simp)
  have hg := He.glo_ok X G (c.bools.1 (.glo (ofs c2)) (by unfold faOf; simp))
  have hM := He.mkr_ok (c.bools.1 (.mkr (ofs c2)) (by unfold faOf; simp))
  have e : He.fAd K ce.cd.at_ = He.ma K (He.ga K (ofs c2)) (ofs "__init__") := by rw [← hce]; rfl
  rw [e] at F
  exact ⟨ce.fn, ce.N.map ofs, (ce.N.take ce.fn.np).map ofs, _, _, _, _, _, _, fd, hP.1, hP.2, F, hg, hM, hl⟩
/-- the law's end -/
theorem law_sp {a : Addr} {H : Hp} {ns : List Int} {m : Nat} {w' : Rp.W} (hO : Only H) (hS : SqL K H a (ns.map V.int)) (hev : Rp.callN tb m "law" [.scr ns] none = .ok (.bl true) w') : sp (gxOf K house) (Rp.callN tb m) "law" 1 [.ref a] H (fun v _ => v = .bl true) fun _ _ _ => False := by
  have q : ∀ g : Gh, ∀ (v : V) (H' : Hp) (g' : Gh), Ext g H g' H' → WR g' H' w' → Rp (gxOf K house) g' H' v (.bl true) → v = .bl true := fun g v H' g' _ _ r => by cases r; rfl
  rcases hS with hS | ⟨o, its, n, hk, hc, hd, hs, hz, r⟩
  · refine ⟨rfl, { F := fun b => b = a, wa := none, ga := 0 }, none, [.scr ns], .bl true, w', ⟨fun b hb => ⟨?_, fun z => z.1 rfl⟩, rfl⟩, .cons (.scr (.inl ⟨rfl, hS⟩)) .nil, hev, q _⟩
    have hb : b = a := hb
    subst hb
    rcases hS with hS | ⟨o, hS⟩ <;> (rw [hS]; simp)
  · refine ⟨rfl, { F := fun b => False, wa := none, ga := 0 }, none, [.scr ns], .bl true, w', ⟨fun b hb => False.elim hb, rfl⟩, .cons (.scr (.inr fun H2 => .inr ⟨o, its, n, hk, hc, hd, hs, hz, r⟩)) .nil, hev, q _⟩
end
end RpS
end

section
set_option linter.all false
set_option maxRecDepth 100000
namespace Lw
open Rp
def f_is_number : Fn := { np := 1, nl := 1, body := [
  .ret (.and (.isi (.v 0) .int) (.not (.isi (.v 0) .bool)))] }

def f_is_below : Fn := { np := 2, nl := 2, body := [
  .ret (.and (.call "is_number" [.v 0]) (.chain .le .lt (.c (.int 0)) (.v 0) (.v 1)))] }

def f_are_numbers_c1 : E := .comp (.n 1) (.seq (.v 0)) (.call "is_number" [.v 1])
def f_are_numbers : Fn := { np := 1, nl := 2, body := [
  .ret (.and (.isi (.v 0) .tuple) (.bi .all [f_are_numbers_c1]))] }

def f_is_door_c1 : E := .comp (.n 6) (.seq (.tup [.v 3, .v 5])) (.and (.call "is_number" [.v 6]) (.and (.cmp .ne (.v 6) (.c (.int 0))) (.chain .le .le (.neg (.c (.int 999))) (.v 6) (.c (.int 999)))))
def f_is_door : Fn := { np := 2, nl := 7, body := [
  .ifs (.or (.not (.isi (.v 0) .tuple)) (.cmp .ne (.bi .len [.v 0]) (.c (.int 4)))) [.ret (.c (.bl false))] [],
  .unpack [2, 3, 4, 5] (.v 0),
  .ifs (.or (.not (.call "is_below" [.v 2, .v 1])) (.not (.call "is_below" [.v 4, .v 1]))) [.ret (.c (.bl false))] [],
  .ret (.bi .all [f_is_door_c1])] }

def f_are_doors_c1 : E := .comp (.n 2) (.seq (.v 0)) (.call "is_door" [.v 2, .v 1])
def f_are_doors : Fn := { np := 2, nl := 3, body := [
  .ifs (.or (.not (.isi (.v 0) .tuple)) (.cmp .gt (.bi .len [.v 0]) (.c (.int 20)))) [.ret (.c (.bl false))] [],
  .ret (.bi .all [f_are_doors_c1])] }

def f_joined_rooms_l1 : S := .for (.t [8, 9]) (.seq (.tup [.tup [.v 4, .v 6], .tup [.v 6, .v 4]])) [.ifs (.and (.cmp .eq (.v 8) (.v 3)) (.cmp .notIn (.v 9) (.v 1))) [.setix 1 (.v 9) (.c (.bl true)), .append 2 (.v 9)] [], .kill [8, 9]]
def f_joined_rooms_l2 : S := .for (.t [4, 5, 6, 7]) (.seq (.v 0)) [.kill [8, 9], f_joined_rooms_l1, .kill [4, 5, 6, 7, 8, 9]]
def f_joined_rooms_l3 : S := .while (.cmp .ne (.v 2) (.lst [])) [.popTo 3 2 none, .kill [4, 5, 6, 7, 8, 9], f_joined_rooms_l2, .kill [3, 4, 5, 6, 7, 8, 9]]
def f_joined_rooms : Fn := { np := 1, nl := 10, body := [
  .parO [1, 2] [1, 1] [.dic (.c (.int 0)) (.c (.bl true)), .lst [.c (.int 0)]],
  .kill [3, 4, 5, 6, 7, 8, 9],
  f_joined_rooms_l3,
  .frz [1],
  .ret (.v 1)] }

def f_need_house : Fn := { np := 1, nl := 1, body := [
  .ifs (.not (.isi (.v 0) (.cls "House"))) [.raise "BadHouse" [.c (.str "no house")]] []] }

def f_is_pass : Fn := { np := 2, nl := 2, body := [
  .ifs (.or (.not (.isi (.v 1) .tuple)) (.cmp .ne (.bi .len [.v 1]) (.c (.int 2)))) [.ret (.c (.bl false))] [],
  .ret (.and (.call "is_below" [.ix (.v 1) (.c (.int 0)), .bi .len [.fld (.v 0) "doors"]]) (.call "is_below" [.ix (.v 1) (.c (.int 1)), .c (.int 2)]))] }

def f_gate_of : Fn := { np := 2, nl := 6, body := [
  .unpack [2, 3, 4, 5] (.ix (.fld (.v 0) "doors") (.ix (.v 1) (.c (.int 0)))),
  .ret (.ite (.cmp .eq (.ix (.v 1) (.c (.int 1))) (.c (.int 0))) (.tup [.v 2, .v 3, .v 4, .v 5]) (.tup [.v 4, .v 5, .v 2, .v 3]))] }

def f_are_steps_l1 : S := .for (.n 4) (.seq (.v 2)) [.ifs (.or (.not (.call "is_pass" [.v 0, .v 4])) (.cmp .ne (.ix (.call "gate_of" [.v 0, .v 4]) (.c (.int 0))) (.v 3))) [.ret (.c (.bl false))] [], .asg 3 (.ix (.call "gate_of" [.v 0, .v 4]) (.c (.int 2))), .kill [4]]
def f_are_steps : Fn := { np := 3, nl := 5, body := [
  .ifs (.not (.isi (.v 2) .tuple)) [.ret (.c (.bl false))] [],
  .asg 3 (.v 1),
  .kill [4],
  f_are_steps_l1,
  .ret (.c (.bl true))] }

def f_is_walk_of : Fn := { np := 2, nl := 5, body := [
  .ifs (.or (.not (.isi (.v 1) .tuple)) (.or (.cmp .ne (.bi .len [.v 1]) (.c (.int 3))) (.not (.call "is_below" [.ix (.v 1) (.c (.int 0)), .fld (.v 0) "rooms"])))) [.ret (.c (.bl false))] [],
  .unpack [2, 3, 4] (.v 1),
  .ret (.and (.call "are_numbers" [.v 3]) (.and (.call "are_steps" [.v 0, .v 2, .v 4]) (.cmp .eq (.bi .len [.v 3]) (.bin .add (.bi .len [.v 4]) (.c (.int 1))))))] }

def f_need_walk : Fn := { np := 2, nl := 2, body := [
  .ifs (.not (.call "is_walk_of" [.v 0, .v 1])) [.raise "BadWalk" [.c (.str "no walk of the house")]] []] }

def f_end_for : Fn := { np := 2, nl := 2, body := [
  .ret (.ite (.cmp .ne (.ix (.v 1) (.c (.int 2))) (.tup [])) (.ix (.call "gate_of" [.v 0, .ix (.ix (.v 1) (.c (.int 2))) (.neg (.c (.int 1)))]) (.c (.int 2))) (.ix (.v 1) (.c (.int 0))))] }

def f_join_of : Fn := { np := 2, nl := 3, body := [
  .asg 2 (.bin .add (.ix (.ix (.v 0) (.c (.int 1))) (.neg (.c (.int 1)))) (.ix (.ix (.v 1) (.c (.int 1))) (.c (.int 0)))),
  .ret (.tup [.ix (.v 0) (.c (.int 0)), .bin .add (.bin .add (.sl (.ix (.v 0) (.c (.int 1))) none (some (.neg (.c (.int 1))))) (.tup [.v 2])) (.sl (.ix (.v 1) (.c (.int 1))) (some (.c (.int 1))) none), .bin .add (.ix (.v 0) (.c (.int 2))) (.ix (.v 1) (.c (.int 2)))])] }

def f_back_of_c1 : E := .comp (.n 4) (.rev (.ix (.v 1) (.c (.int 1)))) (.bin .sub (.c (.int 0)) (.v 4))
def f_back_of_c2 : E := .comp (.t [5, 6]) (.rev (.ix (.v 1) (.c (.int 2)))) (.tup [.v 5, .bin .sub (.c (.int 1)) (.v 6)])
def f_back_of : Fn := { np := 2, nl := 7, body := [
  .asg 2 (.bi .tuple [f_back_of_c1]),
  .asg 3 (.bi .tuple [f_back_of_c2]),
  .ret (.tup [.call "end_for" [.v 0, .v 1], .v 2, .v 3])] }

def f_reverses : Fn := { np := 2, nl := 2, body := [
  .ret (.cmp .eq (.v 1) (.tup [.ix (.v 0) (.c (.int 0)), .bin .sub (.c (.int 1)) (.ix (.v 0) (.c (.int 1)))]))] }

def f_is_multiple : Fn := { np := 2, nl := 2, body := [
  .ret (.cmp .eq (.bin .sub (.v 0) (.bin .mul (.bin .fdiv (.v 0) (.v 1)) (.v 1))) (.c (.int 0)))] }

def f_carry : Fn := { np := 4, nl := 9, body := [
  .unpack [4, 5, 6, 7] (.call "gate_of" [.v 0, .ix (.ix (.v 1) (.c (.int 2))) (.v 2)]),
  .asgO 8 (.bi .list [.ix (.v 1) (.c (.int 1))]),
  .setix 8 (.v 2) (.bin .sub (.ix (.v 8) (.v 2)) (.bin .mul (.v 5) (.v 3))),
  .setix 8 (.bin .add (.v 2) (.c (.int 1))) (.bin .add (.ix (.v 8) (.bin .add (.v 2) (.c (.int 1)))) (.bin .mul (.v 7) (.v 3))),
  .ret (.tup [.ix (.v 1) (.c (.int 0)), .bi .tuple [.v 8], .ix (.v 1) (.c (.int 2))])] }

def f_cancel : Fn := { np := 2, nl := 6, body := [
  .unpack [2, 3, 4] (.v 0),
  .asg 5 (.tup [.bin .add (.ix (.v 3) (.v 1)) (.ix (.v 3) (.bin .add (.v 1) (.c (.int 2))))]),
  .ret (.tup [.v 2, .bin .add (.bin .add (.sl (.v 3) none (some (.v 1))) (.v 5)) (.sl (.v 3) (some (.bin .add (.v 1) (.c (.int 3)))) none), .bin .add (.sl (.v 4) none (some (.v 1))) (.sl (.v 4) (some (.bin .add (.v 1) (.c (.int 2)))) none)])] }

def f_turns_back : Fn := { np := 2, nl := 2, body := [
  .ret (.and (.chain .le .lt (.c (.int 0)) (.v 1) (.bin .sub (.bi .len [.ix (.v 0) (.c (.int 2))]) (.c (.int 1)))) (.call "reverses" [.ix (.ix (.v 0) (.c (.int 2))) (.v 1), .ix (.ix (.v 0) (.c (.int 2))) (.bin .add (.v 1) (.c (.int 1)))]))] }

def f_spots_of_c1 : E := .compIf (.n 3) (.range (.c (.int 0)) (.bin .sub (.bi .len [.ix (.v 1) (.c (.int 2))]) (.c (.int 1)))) (.call "turns_back" [.v 1, .v 3]) (.v 3)
def f_spots_of_c2 : E := .compIf (.n 3) (.seq (.v 2)) (.call "is_multiple" [.ix (.ix (.v 1) (.c (.int 1))) (.bin .add (.v 3) (.c (.int 1))), .ix (.call "gate_of" [.v 0, .ix (.ix (.v 1) (.c (.int 2))) (.v 3)]) (.c (.int 3))]) (.v 3)
def f_spots_of : Fn := { np := 2, nl := 4, body := [
  .asg 2 f_spots_of_c1,
  .ret (.bi .tuple [f_spots_of_c2])] }

def f_times_to_shorten : Fn := { np := 3, nl := 3, body := [
  .ret (.bin .sub (.c (.int 0)) (.bin .fdiv (.ix (.ix (.v 1) (.c (.int 1))) (.bin .add (.v 2) (.c (.int 1)))) (.ix (.call "gate_of" [.v 0, .ix (.ix (.v 1) (.c (.int 2))) (.v 2)]) (.c (.int 3)))))] }

def f_times_to_fit : Fn := { np := 3, nl := 6, body := [
  .asg 3 (.ix (.call "gate_of" [.v 0, .ix (.ix (.v 1) (.c (.int 2))) (.v 2)]) (.c (.int 1))),
  .asg 4 (.bi .abs [.v 3]),
  .asg 5 (.bin .sub (.ix (.ix (.v 1) (.c (.int 1))) (.v 2)) (.bin .mul (.bin .fdiv (.ix (.ix (.v 1) (.c (.int 1))) (.v 2)) (.v 4)) (.v 4))),
  .ret (.bin .fdiv (.bin .sub (.ix (.ix (.v 1) (.c (.int 1))) (.v 2)) (.v 5)) (.v 3))] }

def f_plain_with_moves_l1 : S := .while (.cmp .ne (.v 3) (.tup [])) [.asg 4 (.ix (.v 3) (.c (.int 0))), .asg 5 (.call "times_to_shorten" [.v 0, .v 1, .v 4]), .ifs (.cmp .ne (.v 5) (.c (.int 0))) [.append 2 (.tup [.tup [.c (.str "carry"), .v 4, .v 5], .tup [.c (.str "carry"), .v 4, .bin .sub (.c (.int 0)) (.v 5)]]), .asg 1 (.call "carry" [.v 0, .v 1, .v 4, .v 5])] [], .append 2 (.tup [.tup [.c (.str "cancel"), .v 4], .tup [.c (.str "put"), .v 4, .ix (.ix (.v 1) (.c (.int 2))) (.v 4), .ix (.ix (.v 1) (.c (.int 1))) (.v 4)]]), .asg 1 (.call "cancel" [.v 1, .v 4]), .asg 3 (.call "spots_of" [.v 0, .v 1]), .kill [4, 5]]
def f_plain_with_moves_l2 : S := .for (.n 4) (.range (.c (.int 0)) (.bi .len [.ix (.v 1) (.c (.int 2))])) [.asg 5 (.call "times_to_fit" [.v 0, .v 1, .v 4]), .ifs (.cmp .ne (.v 5) (.c (.int 0))) [.append 2 (.tup [.tup [.c (.str "carry"), .v 4, .v 5], .tup [.c (.str "carry"), .v 4, .bin .sub (.c (.int 0)) (.v 5)]]), .asg 1 (.call "carry" [.v 0, .v 1, .v 4, .v 5])] [], .kill [4, 5]]
def f_plain_with_moves : Fn := { np := 2, nl := 6, body := [
  .asgO 2 (.lst []),
  .asg 3 (.call "spots_of" [.v 0, .v 1]),
  .kill [4, 5],
  f_plain_with_moves_l1,
  .kill [4, 5],
  f_plain_with_moves_l2,
  .frz [2],
  .ret (.tup [.v 1, .v 2])] }

def f_plain_of : Fn := { np := 2, nl := 2, body := [
  .ret (.ix (.call "plain_with_moves" [.v 0, .v 1]) (.c (.int 0)))] }

def f_looks_plain_c1 : E := .comp (.n 2) (.range (.c (.int 0)) (.bi .len [.ix (.v 1) (.c (.int 2))])) (.cmp .eq (.call "times_to_fit" [.v 0, .v 1, .v 2]) (.c (.int 0)))
def f_looks_plain : Fn := { np := 2, nl := 3, body := [
  .ifs (.cmp .ne (.call "spots_of" [.v 0, .v 1]) (.tup [])) [.ret (.c (.bl false))] [],
  .ret (.bi .all [f_looks_plain_c1])] }

def f_are_one : Fn := { np := 3, nl := 3, body := [
  .ex (.call "need_house" [.v 0]),
  .ex (.call "need_walk" [.v 0, .v 1]),
  .ex (.call "need_walk" [.v 0, .v 2]),
  .ret (.cmp .eq (.call "plain_of" [.v 0, .v 1]) (.call "plain_of" [.v 0, .v 2]))] }

def f_is_foot_of : Fn := { np := 2, nl := 2, body := [
  .ret (.and (.call "is_walk_of" [.v 0, .v 1]) (.and (.cmp .eq (.ix (.ix (.v 1) (.c (.int 1))) (.neg (.c (.int 1)))) (.c (.int 0))) (.call "looks_plain" [.v 0, .v 1])))] }

def f_is_foot : Fn := { np := 2, nl := 2, body := [
  .ex (.call "need_house" [.v 0]),
  .ret (.call "is_foot_of" [.v 0, .v 1])] }

def f_need_foot : Fn := { np := 2, nl := 2, body := [
  .ifs (.not (.call "is_foot_of" [.v 0, .v 1])) [.raise "BadFoot" [.c (.str "no foot of the house")]] []] }

def f_foot_of : Fn := { np := 2, nl := 5, body := [
  .ex (.call "need_house" [.v 0]),
  .ex (.call "need_walk" [.v 0, .v 1]),
  .unpack [2, 3, 4] (.call "plain_of" [.v 0, .v 1]),
  .ret (.tup [.tup [.v 2, .bin .add (.sl (.v 3) none (some (.neg (.c (.int 1))))) (.tup [.c (.int 0)]), .v 4], .ix (.v 3) (.neg (.c (.int 1)))])] }

def f_shared_of_l1 : S := .while (.and (.cmp .lt (.v 2) (.bi .min2 [.bi .len [.ix (.v 0) (.c (.int 2))], .bi .len [.ix (.v 1) (.c (.int 2))]])) (.and (.cmp .eq (.ix (.ix (.v 0) (.c (.int 2))) (.v 2)) (.ix (.ix (.v 1) (.c (.int 2))) (.v 2))) (.cmp .eq (.ix (.ix (.v 0) (.c (.int 1))) (.v 2)) (.ix (.ix (.v 1) (.c (.int 1))) (.v 2))))) [.aug 2 .add (.c (.int 1))]
def f_shared_of : Fn := { np := 2, nl := 3, body := [
  .asg 2 (.c (.int 0)),
  f_shared_of_l1,
  .ret (.tup [.ix (.v 0) (.c (.int 0)), .bin .add (.sl (.ix (.v 0) (.c (.int 1))) none (some (.v 2))) (.tup [.c (.int 0)]), .sl (.ix (.v 0) (.c (.int 2))) none (some (.v 2))])] }

def f_need_two_feet : Fn := { np := 3, nl := 3, body := [
  .ex (.call "need_house" [.v 0]),
  .ex (.call "need_foot" [.v 0, .v 1]),
  .ex (.call "need_foot" [.v 0, .v 2]),
  .ifs (.cmp .ne (.ix (.v 1) (.c (.int 0))) (.ix (.v 2) (.c (.int 0)))) [.raise "Elsewhere" [.c (.str "two feet from two rooms")]] []] }

def f_shared_foot : Fn := { np := 3, nl := 3, body := [
  .ex (.call "need_two_feet" [.v 0, .v 1, .v 2]),
  .ret (.call "shared_of" [.v 1, .v 2])] }

def f_feet_between : Fn := { np := 3, nl := 3, body := [
  .ex (.call "need_two_feet" [.v 0, .v 1, .v 2]),
  .ret (.bi .len [.ix (.call "plain_of" [.v 0, .call "join_of" [.call "back_of" [.v 0, .v 1], .v 2]]) (.c (.int 2))])] }

def f_meeting_foot : Fn := { np := 4, nl := 5, body := [
  .ex (.call "need_two_feet" [.v 0, .v 1, .v 2]),
  .ex (.call "need_two_feet" [.v 0, .v 1, .v 3]),
  .asg 4 (.lst [.call "shared_of" [.v 1, .v 2], .call "shared_of" [.v 1, .v 3], .call "shared_of" [.v 2, .v 3]]),
  .ret (.maxK "length_of" (.v 4))] }

def f_length_of : Fn := { np := 1, nl := 1, body := [
  .ret (.bi .len [.ix (.v 0) (.c (.int 2))])] }

def f_law_pick : Fn := { np := 2, nl := 2, body := [
  .ret (.ix (.v 1) (.call "_law_draw" [.v 0, .bi .len [.v 1]]))] }

def f_law_mixed_l1 : S := .while (.cmp .ne (.v 2) (.lst [])) [.popApp 3 2 (some (.call "_law_draw" [.v 0, .bi .len [.v 2]]))]
def f_law_mixed : Fn := { np := 2, nl := 4, body := [
  .parO [2, 3] [1, 1] [.bi .list [.v 1], .lst []],
  f_law_mixed_l1,
  .frz [3],
  .ret (.v 3)] }

def f_law_is_truth : Fn := { np := 2, nl := 2, body := [
  .ret (.ite (.v 1) (.cmp .is (.v 0) (.c (.bl true))) (.cmp .is (.v 0) (.c (.bl false))))] }

def f_law_is_whole : Fn := { np := 1, nl := 1, body := [
  .ret (.and (.isi (.v 0) .int) (.not (.isi (.v 0) .bool)))] }

def f_law_size : Fn := { np := 1, nl := 2, body := [
  .asg 1 (.call "_law_pick" [.v 0, .lst [.c (.int 2), .c (.int 3), .c (.int 1), .c (.int 4), .c (.int 6), .c (.int 2), .c (.int 1), .c (.int 3), .c (.int 5), .c (.int 8), .c (.int 9), .c (.int 12)]]),
  .ret (.bin .mul (.v 1) (.call "_law_pick" [.v 0, .lst [.c (.int 1), .c (.int 1), .c (.int 1), .neg (.c (.int 1))]]))] }

def f_law_doors_l1 : S := .for (.n 4) (.range (.c (.int 1)) (.v 1)) [.append 3 (.tup [.call "_law_draw" [.v 0, .v 4], .call "_law_size" [.v 0], .v 4, .call "_law_size" [.v 0]]), .kill [4]]
def f_law_doors_l2 : S := .for (.n 5) (.range (.c (.int 0)) (.call "_law_draw" [.v 0, .bin .add (.v 2) (.c (.int 1))])) [.parO [6, 7] [0, 0] [.call "_law_draw" [.v 0, .v 1], .call "_law_draw" [.v 0, .v 1]], .append 3 (.tup [.v 6, .call "_law_size" [.v 0], .v 7, .call "_law_size" [.v 0]]), .kill [5, 6, 7]]
def f_law_doors_c1 : E := .comp (.n 8) (.seq (.v 3)) (.ite (.cmp .eq (.call "_law_draw" [.v 0, .c (.int 2)]) (.c (.int 0))) (.v 8) (.tup [.ix (.v 8) (.c (.int 2)), .ix (.v 8) (.c (.int 3)), .ix (.v 8) (.c (.int 0)), .ix (.v 8) (.c (.int 1))]))
def f_law_doors : Fn := { np := 3, nl := 9, body := [
  .asgO 3 (.lst []),
  .kill [4],
  f_law_doors_l1,
  .kill [5, 6, 7],
  f_law_doors_l2,
  .frz [3],
  .asgO 3 f_law_doors_c1,
  .frz [3],
  .ret (.bi .tuple [.call "_law_mixed" [.v 0, .v 3]])] }

def f_law_gate : Fn := { np := 2, nl := 6, body := [
  .unpack [2, 3, 4, 5] (.ix (.v 0) (.ix (.v 1) (.c (.int 0)))),
  .ret (.ite (.cmp .eq (.ix (.v 1) (.c (.int 1))) (.c (.int 0))) (.tup [.v 2, .v 3, .v 4, .v 5]) (.tup [.v 4, .v 5, .v 2, .v 3]))] }

def f_law_steps_c1 : E := .comp (.t [3, 4]) (.seq (.call "_law_sides" [.bi .len [.v 0]])) (.tup [.v 3, .v 4])
def f_law_steps_c2 : E := .compIf (.n 5) (.seq (.v 2)) (.cmp .eq (.ix (.call "_law_gate" [.v 0, .v 5]) (.c (.int 0))) (.v 1)) (.v 5)
def f_law_steps : Fn := { np := 2, nl := 6, body := [
  .asg 2 f_law_steps_c1,
  .ret f_law_steps_c2] }

def f_law_sides_l1 : S := .for (.n 2) (.range (.c (.int 0)) (.v 0)) [.asg 1 (.bin .add (.v 1) (.lst [.tup [.v 2, .c (.int 0)], .tup [.v 2, .c (.int 1)]])), .kill [2]]
def f_law_sides : Fn := { np := 1, nl := 3, body := [
  .asg 1 (.lst []),
  .kill [2],
  f_law_sides_l1,
  .ret (.v 1)] }

def f_law_pulls : Fn := { np := 3, nl := 3, body := [
  .ifs (.cmp .eq (.call "_law_draw" [.v 0, .c (.int 2)]) (.c (.int 0))) [.ret (.bin .sub (.call "_law_draw" [.v 0, .c (.int 7)]) (.c (.int 3)))] [],
  .ret (.bin .mul (.ix (.call "_law_gate" [.v 1, .v 2]) (.c (.int 1))) (.bin .sub (.call "_law_draw" [.v 0, .c (.int 5)]) (.c (.int 2))))] }

def f_law_strolled_l1 : S := .for (.n 7) (.range (.c (.int 0)) (.call "_law_draw" [.v 0, .bin .add (.v 3) (.c (.int 1))])) [.asg 8 (.call "_law_steps" [.v 1, .v 4]), .ifs (.cmp .ne (.v 8) (.lst [])) [.asg 9 (.call "_law_pick" [.v 0, .v 8]), .ifs (.and (.cmp .ne (.v 6) (.lst [])) (.cmp .eq (.call "_law_draw" [.v 0, .c (.int 3)]) (.c (.int 0)))) [.asg 9 (.tup [.ix (.ix (.v 6) (.neg (.c (.int 1)))) (.c (.int 0)), .bin .sub (.c (.int 1)) (.ix (.ix (.v 6) (.neg (.c (.int 1)))) (.c (.int 1)))])] [], .append 5 (.call "_law_pulls" [.v 0, .v 1, .v 9]), .append 6 (.v 9), .asg 4 (.ix (.call "_law_gate" [.v 1, .v 9]) (.c (.int 2)))] [], .kill [9], .kill [7, 8, 9]]
def f_law_strolled : Fn := { np := 4, nl := 10, body := [
  .parO [4, 5, 6] [0, 1, 1] [.v 2, .lst [], .lst []],
  .kill [7, 8, 9],
  f_law_strolled_l1,
  .ret (.tup [.v 2, .bi .tuple [.bin .add (.v 5) (.lst [.bin .sub (.call "_law_draw" [.v 0, .c (.int 9)]) (.c (.int 4))])], .bi .tuple [.v 6]])] }

def f_law_end : Fn := { np := 2, nl := 2, body := [
  .ret (.ite (.cmp .ne (.ix (.v 1) (.c (.int 2))) (.tup [])) (.ix (.call "_law_gate" [.v 0, .ix (.ix (.v 1) (.c (.int 2))) (.neg (.c (.int 1)))]) (.c (.int 2))) (.ix (.v 1) (.c (.int 0))))] }

def f_law_way_l1 : S := .for (.n 6) (.seq (.call "_law_steps" [.v 0, .ix (.v 4) (.v 5)])) [.asg 7 (.ix (.call "_law_gate" [.v 0, .v 6]) (.c (.int 2))), .ifs (.cmp .notIn (.v 7) (.v 3)) [.setix 3 (.v 7) (.bin .add (.ix (.v 3) (.ix (.v 4) (.v 5))) (.tup [.v 6])), .append 4 (.v 7)] [], .kill [6, 7]]
def f_law_way_l2 : S := .while (.cmp .lt (.v 5) (.bi .len [.v 4])) [.kill [6, 7], f_law_way_l1, .asg 5 (.bin .add (.v 5) (.c (.int 1))), .kill [6, 7]]
def f_law_way : Fn := { np := 3, nl := 8, body := [
  .parO [3, 4, 5] [1, 1, 0] [.dic (.v 1) (.tup []), .lst [.v 1], .c (.int 0)],
  .kill [6, 7],
  f_law_way_l2,
  .ret (.ix (.v 3) (.v 2))] }

def f_law_joined : Fn := { np := 2, nl := 3, body := [
  .asg 2 (.bin .add (.ix (.ix (.v 0) (.c (.int 1))) (.neg (.c (.int 1)))) (.ix (.ix (.v 1) (.c (.int 1))) (.c (.int 0)))),
  .ret (.tup [.ix (.v 0) (.c (.int 0)), .bin .add (.bin .add (.sl (.ix (.v 0) (.c (.int 1))) none (some (.neg (.c (.int 1))))) (.tup [.v 2])) (.sl (.ix (.v 1) (.c (.int 1))) (some (.c (.int 1))) none), .bin .add (.ix (.v 0) (.c (.int 2))) (.ix (.v 1) (.c (.int 2)))])] }

def f_law_back_c1 : E := .comp (.n 3) (.seq (.rsl (.ix (.v 1) (.c (.int 2))))) (.tup [.ix (.v 3) (.c (.int 0)), .bin .sub (.c (.int 1)) (.ix (.v 3) (.c (.int 1)))])
def f_law_back_c2 : E := .comp (.n 4) (.seq (.rsl (.ix (.v 1) (.c (.int 1))))) (.bin .sub (.c (.int 0)) (.v 4))
def f_law_back : Fn := { np := 2, nl := 5, body := [
  .asg 2 (.bi .tuple [f_law_back_c1]),
  .ret (.tup [.call "_law_end" [.v 0, .v 1], .bi .tuple [f_law_back_c2], .v 2])] }

def f_law_bare : Fn := { np := 3, nl := 3, body := [
  .ret (.tup [.v 1, .bin .mul (.tup [.c (.int 0)]) (.bin .add (.bi .len [.v 2]) (.c (.int 1))), .bi .tuple [.v 2]])] }

def f_law_homing_c1 : E := .comp (.n 8) (.seq (.ix (.v 5) (.c (.int 1)))) (.bin .add (.v 8) (.call "_law_pick" [.v 0, .lst [.c (.int 0), .c (.int 0), .c (.int 0), .c (.int 1), .neg (.c (.int 1)), .c (.int 2)]]))
def f_law_homing : Fn := { np := 4, nl := 9, body := [
  .asg 4 (.call "_law_strolled" [.v 0, .v 1, .v 2, .v 3]),
  .ifs (.cmp .eq (.call "_law_draw" [.v 0, .c (.int 2)]) (.c (.int 0))) [.asg 5 (.call "_law_back" [.v 1, .v 4]), .asg 6 (.bi .tuple [f_law_homing_c1]), .ret (.call "_law_joined" [.v 4, .tup [.ix (.v 5) (.c (.int 0)), .v 6, .ix (.v 5) (.c (.int 2))]])] [],
  .asg 7 (.call "_law_end" [.v 1, .v 4]),
  .ret (.call "_law_joined" [.v 4, .call "_law_bare" [.v 1, .v 7, .call "_law_way" [.v 1, .v 7, .v 2]]])] }

def f_law_plain_l1 : S := .for (.t [4, 5]) (.zip (.ix (.v 1) (.c (.int 2))) (.sl (.ix (.v 1) (.c (.int 1))) (some (.c (.int 1))) none)) [.unpack [6, 7, 8, 9] (.call "_law_gate" [.v 0, .v 4]), .asg 10 (.ix (.v 2) (.neg (.c (.int 1)))), .ifs (.and (.cmp .ne (.v 3) (.lst [])) (.and (.cmp .eq (.ix (.v 3) (.neg (.c (.int 1)))) (.tup [.ix (.v 4) (.c (.int 0)), .bin .sub (.c (.int 1)) (.ix (.v 4) (.c (.int 1)))])) (.cmp .eq (.bin .mod (.bi .int1 [.v 10]) (.bi .abs [.v 7])) (.c (.int 0))))) [.popOff 3 none, .popOff 2 none, .setix 2 (.neg (.c (.int 1))) (.bin .add (.bin .add (.ix (.v 2) (.neg (.c (.int 1)))) (.bin .mul (.bin .fdiv (.v 10) (.v 7)) (.v 9))) (.v 5))] [.asg 11 (.bin .mod (.bi .int1 [.v 10]) (.bi .abs [.v 7])), .setix 2 (.neg (.c (.int 1))) (.v 11), .append 3 (.v 4), .append 2 (.bin .add (.bin .mul (.bin .fdiv (.bin .sub (.v 10) (.v 11)) (.v 7)) (.v 9)) (.v 5))], .kill [11], .kill [4, 5, 6, 7, 8, 9, 10, 11]]
def f_law_plain : Fn := { np := 2, nl := 12, body := [
  .parO [2, 3] [1, 1] [.lst [.ix (.ix (.v 1) (.c (.int 1))) (.c (.int 0))], .lst []],
  .kill [4, 5, 6, 7, 8, 9, 10, 11],
  f_law_plain_l1,
  .ret (.tup [.ix (.v 1) (.c (.int 0)), .bi .tuple [.v 2], .bi .tuple [.v 3]])] }

def f_law_pf_turned : Fn := { np := 1, nl := 1, body := [
  .ret (.tup [.ix (.v 0) (.c (.int 0)), .bin .sub (.c (.int 1)) (.ix (.v 0) (.c (.int 1)))])] }

def f_law_pf_turns : Fn := { np := 3, nl := 4, body := [
  .asg 3 (.ix (.v 1) (.c (.int 2))),
  .ifs (.not (.chain .le .lt (.c (.int 0)) (.v 2) (.bin .sub (.bi .len [.v 3]) (.c (.int 1))))) [.ret (.c (.bl false))] [],
  .ret (.cmp .eq (.ix (.v 3) (.bin .add (.v 2) (.c (.int 1)))) (.call "_law_pf_turned" [.ix (.v 3) (.v 2)]))] }

def f_law_pf_spots_l1 : S := .for (.n 3) (.range (.c (.int 0)) (.bi .len [.ix (.v 1) (.c (.int 2))])) [.ifs (.call "_law_pf_turns" [.v 0, .v 1, .v 3]) [.asg 4 (.ix (.call "_law_gate" [.v 0, .ix (.ix (.v 1) (.c (.int 2))) (.v 3)]) (.c (.int 3))), .ifs (.cmp .eq (.bin .mod (.bi .int1 [.ix (.ix (.v 1) (.c (.int 1))) (.bin .add (.v 3) (.c (.int 1)))]) (.bi .abs [.v 4])) (.c (.int 0))) [.append 2 (.v 3)] []] [], .kill [4], .kill [3, 4]]
def f_law_pf_spots : Fn := { np := 2, nl := 5, body := [
  .asgO 2 (.lst []),
  .kill [3, 4],
  f_law_pf_spots_l1,
  .ret (.bi .tuple [.v 2])] }

def f_law_pf_carried : Fn := { np := 4, nl := 9, body := [
  .unpack [4, 5, 6, 7] (.call "_law_gate" [.v 0, .ix (.ix (.v 1) (.c (.int 2))) (.v 2)]),
  .asgO 8 (.bi .list [.ix (.v 1) (.c (.int 1))]),
  .setix 8 (.v 2) (.bin .sub (.ix (.v 8) (.v 2)) (.bin .mul (.v 5) (.v 3))),
  .setix 8 (.bin .add (.v 2) (.c (.int 1))) (.bin .add (.ix (.v 8) (.bin .add (.v 2) (.c (.int 1)))) (.bin .mul (.v 7) (.v 3))),
  .ret (.tup [.ix (.v 1) (.c (.int 0)), .bi .tuple [.v 8], .ix (.v 1) (.c (.int 2))])] }

def f_law_pf_cancelled : Fn := { np := 2, nl := 5, body := [
  .parO [2, 3] [0, 0] [.ix (.v 0) (.c (.int 1)), .ix (.v 0) (.c (.int 2))],
  .asg 4 (.tup [.bin .add (.ix (.v 2) (.v 1)) (.ix (.v 2) (.bin .add (.v 1) (.c (.int 2))))]),
  .asg 2 (.bin .add (.bin .add (.sl (.v 2) none (some (.v 1))) (.v 4)) (.sl (.v 2) (some (.bin .add (.v 1) (.c (.int 3)))) none)),
  .ret (.tup [.ix (.v 0) (.c (.int 0)), .v 2, .bin .add (.sl (.v 3) none (some (.v 1))) (.sl (.v 3) (some (.bin .add (.v 1) (.c (.int 2)))) none)])] }

def f_law_pf_room : Fn := { np := 3, nl := 3, body := [
  .ret (.ite (.cmp .gt (.v 2) (.c (.int 0))) (.ix (.call "_law_gate" [.v 0, .ix (.ix (.v 1) (.c (.int 2))) (.bin .sub (.v 2) (.c (.int 1)))]) (.c (.int 2))) (.ix (.v 1) (.c (.int 0))))] }

def f_law_pf_put : Fn := { np := 4, nl := 8, body := [
  .parO [4, 5] [0, 0] [.ix (.v 0) (.c (.int 1)), .ix (.v 0) (.c (.int 2))],
  .asg 6 (.tup [.v 3, .c (.int 0), .bin .sub (.ix (.v 4) (.v 1)) (.v 3)]),
  .asg 4 (.bin .add (.bin .add (.sl (.v 4) none (some (.v 1))) (.v 6)) (.sl (.v 4) (some (.bin .add (.v 1) (.c (.int 1)))) none)),
  .asg 7 (.tup [.v 2, .call "_law_pf_turned" [.v 2]]),
  .ret (.tup [.ix (.v 0) (.c (.int 0)), .v 4, .bin .add (.bin .add (.sl (.v 5) none (some (.v 1))) (.v 7)) (.sl (.v 5) (some (.v 1)) none)])] }

def f_law_pf_is_step : Fn := { np := 2, nl := 2, body := [
  .ifs (.or (.not (.isi (.v 1) .tuple)) (.or (.cmp .ne (.bi .len [.v 1]) (.c (.int 2))) (.or (.not (.call "_law_is_whole" [.ix (.v 1) (.c (.int 0))])) (.not (.call "_law_is_whole" [.ix (.v 1) (.c (.int 1))]))))) [.ret (.c (.bl false))] [],
  .ret (.and (.chain .le .lt (.c (.int 0)) (.ix (.v 1) (.c (.int 0))) (.bi .len [.v 0])) (.cmp .in_ (.ix (.v 1) (.c (.int 1))) (.tup [.c (.int 0), .c (.int 1)])))] }

def f_law_pf_in : Fn := { np := 2, nl := 2, body := [
  .ret (.and (.call "_law_is_whole" [.v 0]) (.chain .le .lt (.c (.int 0)) (.v 0) (.v 1)))] }

def f_law_pf_behind : Fn := { np := 3, nl := 4, body := [
  .ifs (.or (.not (.isi (.v 2) .tuple)) (.or (.cmp .eq (.v 2) (.tup [])) (.not (.isi (.ix (.v 2) (.c (.int 0))) .str)))) [.ret (.c .non)] [],
  .asg 3 (.bi .len [.ix (.v 1) (.c (.int 2))]),
  .ifs (.and (.cmp .eq (.ix (.v 2) (.c (.int 0))) (.c (.str "carry"))) (.cmp .eq (.bi .len [.v 2]) (.c (.int 3)))) [.ifs (.and (.call "_law_pf_in" [.ix (.v 2) (.c (.int 1)), .v 3]) (.call "_law_is_whole" [.ix (.v 2) (.c (.int 2))])) [.ret (.call "_law_pf_carried" [.v 0, .v 1, .ix (.v 2) (.c (.int 1)), .ix (.v 2) (.c (.int 2))])] []] [],
  .ifs (.and (.cmp .eq (.ix (.v 2) (.c (.int 0))) (.c (.str "cancel"))) (.cmp .eq (.bi .len [.v 2]) (.c (.int 2)))) [.ifs (.and (.call "_law_pf_in" [.ix (.v 2) (.c (.int 1)), .v 3]) (.call "_law_pf_turns" [.v 0, .v 1, .ix (.v 2) (.c (.int 1))])) [.ret (.ite (.cmp .eq (.ix (.ix (.v 1) (.c (.int 1))) (.bin .add (.ix (.v 2) (.c (.int 1))) (.c (.int 1)))) (.c (.int 0))) (.call "_law_pf_cancelled" [.v 1, .ix (.v 2) (.c (.int 1))]) (.c .non))] []] [],
  .ifs (.and (.cmp .eq (.ix (.v 2) (.c (.int 0))) (.c (.str "put"))) (.cmp .eq (.bi .len [.v 2]) (.c (.int 4)))) [.ifs (.and (.call "_law_pf_in" [.ix (.v 2) (.c (.int 1)), .bin .add (.v 3) (.c (.int 1))]) (.and (.call "_law_pf_is_step" [.v 0, .ix (.v 2) (.c (.int 2))]) (.call "_law_is_whole" [.ix (.v 2) (.c (.int 3))]))) [.ifs (.cmp .eq (.ix (.call "_law_gate" [.v 0, .ix (.v 2) (.c (.int 2))]) (.c (.int 0))) (.call "_law_pf_room" [.v 0, .v 1, .ix (.v 2) (.c (.int 1))])) [.ret (.call "_law_pf_put" [.v 1, .ix (.v 2) (.c (.int 1)), .ix (.v 2) (.c (.int 2)), .ix (.v 2) (.c (.int 3))])] []] []] [],
  .ret (.c .non)] }

def f_law_pf_move_c1 : E := .compIf (.n 8) (.range (.c (.int 0)) (.v 3)) (.and (.call "_law_pf_turns" [.v 1, .v 2, .v 8]) (.cmp .eq (.ix (.ix (.v 2) (.c (.int 1))) (.bin .add (.v 8) (.c (.int 1)))) (.c (.int 0)))) (.v 8)
def f_law_pf_move : Fn := { np := 3, nl := 9, body := [
  .asg 3 (.bi .len [.ix (.v 2) (.c (.int 2))]),
  .asg 4 (.call "_law_draw" [.v 0, .c (.int 4)]),
  .ifs (.and (.cmp .eq (.v 4) (.c (.int 0))) (.cmp .gt (.v 3) (.c (.int 0)))) [.ret (.tup [.c (.str "carry"), .call "_law_draw" [.v 0, .v 3], .bin .sub (.call "_law_draw" [.v 0, .c (.int 9)]) (.c (.int 4))])] [],
  .ifs (.cmp .eq (.v 4) (.c (.int 1))) [.asg 5 f_law_pf_move_c1, .ifs (.cmp .ne (.v 5) (.lst [])) [.ret (.tup [.c (.str "cancel"), .call "_law_pick" [.v 0, .v 5]])] []] [],
  .kill [5],
  .ifs (.cmp .eq (.v 4) (.c (.int 2))) [.asg 5 (.call "_law_pf_spots" [.v 1, .v 2]), .ifs (.cmp .ne (.v 5) (.tup [])) [.asg 6 (.call "_law_pick" [.v 0, .v 5]), .asg 7 (.ix (.call "_law_gate" [.v 1, .ix (.ix (.v 2) (.c (.int 2))) (.v 6)]) (.c (.int 3))), .ret (.tup [.c (.str "carry"), .v 6, .bin .sub (.c (.int 0)) (.bin .fdiv (.ix (.ix (.v 2) (.c (.int 1))) (.bin .add (.v 6) (.c (.int 1)))) (.v 7))])] []] [],
  .kill [5, 6, 7],
  .asg 6 (.call "_law_draw" [.v 0, .bin .add (.v 3) (.c (.int 1))]),
  .asg 5 (.call "_law_steps" [.v 1, .call "_law_pf_room" [.v 1, .v 2, .v 6]]),
  .ifs (.or (.cmp .eq (.v 5) (.lst [])) (.cmp .gt (.v 3) (.c (.int 14)))) [.ret (.c .non)] [],
  .ret (.tup [.c (.str "put"), .v 6, .call "_law_pick" [.v 0, .v 5], .bin .sub (.call "_law_draw" [.v 0, .c (.int 11)]) (.c (.int 5))])] }

def f_law_pf_moves_l1 : S := .for (.n 5) (.range (.c (.int 0)) (.v 3)) [.asg 6 (.call "_law_pf_move" [.v 0, .v 1, .v 2]), .ifs (.cmp .isNot (.v 6) (.c .non)) [.append 4 (.v 6), .asg 2 (.call "_law_pf_behind" [.v 1, .v 2, .v 6])] [], .kill [5, 6]]
def f_law_pf_moves : Fn := { np := 4, nl := 7, body := [
  .asgO 4 (.lst []),
  .kill [5, 6],
  f_law_pf_moves_l1,
  .frz [4],
  .ret (.tup [.v 4, .v 2])] }

def f_law_pf_doors : Fn := { np := 1, nl := 3, body := [
  .asg 1 (.call "_law_pick" [.v 0, .lst [.c (.int 1), .c (.int 2), .c (.int 1), .c (.int 3), .c (.int 2), .c (.int 1)]]),
  .asg 2 (.call "_law_doors" [.v 0, .v 1, .ite (.cmp .eq (.v 1) (.c (.int 1))) (.c (.int 3)) (.c (.int 2))]),
  .ret (.tup [.v 1, .v 2])] }

def f_law_gr_beyond_l1 : S := .for (.n 4) (.seq (.call "_law_steps" [.v 0, .v 1])) [.asg 5 (.and (.cmp .isNot (.v 2) (.c .non)) (.cmp .eq (.v 4) (.tup [.ix (.v 2) (.c (.int 0)), .bin .sub (.c (.int 1)) (.ix (.v 2) (.c (.int 1)))]))), .append 3 (.tup [.v 4, .bi .int1 [.v 5], .bi .abs [.ix (.call "_law_gate" [.v 0, .v 4]) (.c (.int 1))]]), .kill [4, 5]]
def f_law_gr_beyond : Fn := { np := 3, nl := 6, body := [
  .asgO 3 (.lst []),
  .kill [4, 5],
  f_law_gr_beyond_l1,
  .frz [3],
  .ret (.v 3)] }

def f_law_gr_drawn_c1 : E := .compIf (.n 11) (.seq (.call "_law_gr_beyond" [.v 1, .call "_law_end" [.v 1, .v 4], .v 6])) (.cmp .lt (.ix (.v 11) (.c (.int 1))) (.ix (.v 11) (.c (.int 2)))) (.v 11)
def f_law_gr_drawn_l1 : S := .for (.n 5) (.range (.c (.int 0)) (.call "_law_draw" [.v 0, .bin .add (.v 3) (.c (.int 1))])) [.asg 6 (.ite (.cmp .ne (.ix (.v 4) (.c (.int 2))) (.tup [])) (.ix (.ix (.v 4) (.c (.int 2))) (.neg (.c (.int 1)))) (.c .non)), .asg 7 f_law_gr_drawn_c1, .ifs (.cmp .ne (.v 7) (.lst [])) [.unpack [8, 9, 10] (.call "_law_pick" [.v 0, .v 7]), .asg 4 (.tup [.v 2, .bin .add (.sl (.ix (.v 4) (.c (.int 1))) none (some (.neg (.c (.int 1))))) (.tup [.bin .add (.v 9) (.call "_law_draw" [.v 0, .bin .sub (.v 10) (.v 9)]), .c (.int 0)]), .bin .add (.ix (.v 4) (.c (.int 2))) (.tup [.v 8])])] [], .kill [8, 9, 10], .kill [5, 6, 7, 8, 9, 10]]
def f_law_gr_drawn : Fn := { np := 4, nl := 12, body := [
  .asg 4 (.tup [.v 2, .tup [.c (.int 0)], .tup []]),
  .kill [5, 6, 7, 8, 9, 10],
  f_law_gr_drawn_l1,
  .ret (.v 4)] }

def f_law_k01_middle_c1 : E := .comp (.n 8) (.seq (.v 1)) (.call "feet_between" [.v 0, .v 6, .v 8])
def f_law_k01_middle_l1 : S := .for (.t [3, 4, 5]) (.seq (.lst [.tup [.c (.int 0), .c (.int 1), .c (.int 2)], .tup [.c (.int 0), .c (.int 2), .c (.int 1)], .tup [.c (.int 1), .c (.int 2), .c (.int 0)]])) [.asg 6 (.call "shared_foot" [.v 0, .ix (.v 1) (.v 3), .ix (.v 1) (.v 4)]), .asg 7 f_law_k01_middle_c1, .ifs (.cmp .eq (.lst [.bin .add (.ix (.v 7) (.c (.int 0))) (.ix (.v 7) (.c (.int 1))), .bin .add (.ix (.v 7) (.c (.int 0))) (.ix (.v 7) (.c (.int 2))), .bin .add (.ix (.v 7) (.c (.int 1))) (.ix (.v 7) (.c (.int 2)))]) (.v 2)) [.ret (.v 6)] [], .kill [3, 4, 5, 6, 7]]
def f_law_k01_middle : Fn := { np := 2, nl := 9, body := [
  .asg 2 (.lst [.call "feet_between" [.v 0, .ix (.v 1) (.c (.int 0)), .ix (.v 1) (.c (.int 1))], .call "feet_between" [.v 0, .ix (.v 1) (.c (.int 0)), .ix (.v 1) (.c (.int 2))], .call "feet_between" [.v 0, .ix (.v 1) (.c (.int 1)), .ix (.v 1) (.c (.int 2))]]),
  .kill [3, 4, 5, 6, 7],
  f_law_k01_middle_l1,
  .ret (.c .non)] }

def f_law_c1 : E := .comp (.n 17) (.range (.c (.int 0)) (.c (.int 3))) (.call "_law_gr_drawn" [.v 1, .v 4, .v 6, .c (.int 5)])
def f_law_c2 : E := .comp (.n 18) (.seq (.v 12)) (.ix (.call "foot_of" [.v 5, .call "_law_joined" [.v 11, .v 18]]) (.c (.int 0)))
def f_law_l1 : S := .for (.n 15) (.range (.c (.int 0)) (.v 14)) [.ifs (.cmp .ne (.call "feet_between" [.v 5, .ix (.v 13) (.v 14), .ix (.v 13) (.v 15)]) (.call "feet_between" [.v 5, .ix (.v 12) (.v 14), .ix (.v 12) (.v 15)])) [.ret (.c (.bl false))] [], .ifs (.or (.cmp .ne (.ix (.call "shared_foot" [.v 5, .ix (.v 13) (.v 14), .ix (.v 13) (.v 15)]) (.c (.int 0))) (.v 6)) (.cmp .ne (.ix (.call "meeting_foot" [.v 5, .ix (.v 12) (.c (.int 0)), .ix (.v 12) (.c (.int 1)), .ix (.v 12) (.c (.int 2))]) (.c (.int 0))) (.v 6))) [.ret (.c (.bl false))] [], .kill [15]]
def f_law_l2 : S := .for (.n 14) (.range (.c (.int 0)) (.c (.int 3))) [.ifs (.or (.cmp .ne (.call "foot_of" [.v 5, .ix (.v 12) (.v 14)]) (.tup [.ix (.v 12) (.v 14), .c (.int 0)])) (.cmp .isNot (.call "is_foot" [.v 5, .ix (.v 13) (.v 14)]) (.c (.bl true)))) [.ret (.c (.bl false))] [], .kill [15], f_law_l1, .kill [14, 15]]
def f_law_l3 : S := .for (.n 2) (.range (.c (.int 0)) (.bin .add (.c (.int 3)) (.bi .min2 [.bi .len [.v 0], .c (.int 4)]))) [.unpack [3, 4] (.call "_law_pf_doors" [.v 1]), .parO [5, 6] [0, 0] [.call "House" [.v 3, .v 4], .call "_law_draw" [.v 1, .v 3]], .asg 7 (.call "_law_strolled" [.v 1, .v 4, .v 6, .c (.int 7)]), .asg 8 (.call "_law_pick" [.v 1, .lst [.ix (.call "_law_pf_moves" [.v 1, .v 4, .v 7, .c (.int 4)]) (.c (.int 1)), .call "_law_strolled" [.v 1, .v 4, .v 6, .c (.int 5)]]]), .ifs (.not (.call "_law_is_truth" [.call "are_one" [.v 5, .v 7, .v 8], .cmp .eq (.call "foot_of" [.v 5, .v 7]) (.call "foot_of" [.v 5, .v 8])])) [.ret (.c (.bl false))] [], .ifs (.cmp .ne (.cmp .eq (.call "foot_of" [.v 5, .v 7]) (.call "foot_of" [.v 5, .v 8])) (.cmp .eq (.call "_law_plain" [.v 4, .v 7]) (.call "_law_plain" [.v 4, .v 8]))) [.ret (.c (.bl false))] [], .asg 9 (.bin .sub (.call "_law_draw" [.v 1, .c (.int 40)]) (.c (.int 20))), .asg 10 (.tup [.ix (.v 7) (.c (.int 0)), .bin .add (.sl (.ix (.v 7) (.c (.int 1))) none (some (.neg (.c (.int 1))))) (.tup [.bin .add (.ix (.ix (.v 7) (.c (.int 1))) (.neg (.c (.int 1)))) (.v 9)]), .ix (.v 7) (.c (.int 2))]), .ifs (.cmp .ne (.call "foot_of" [.v 5, .v 10]) (.tup [.ix (.call "foot_of" [.v 5, .v 7]) (.c (.int 0)), .bin .add (.ix (.call "foot_of" [.v 5, .v 7]) (.c (.int 1))) (.v 9)])) [.ret (.c (.bl false))] [], .asg 11 (.call "_law_homing" [.v 1, .v 4, .v 6, .c (.int 5)]), .asg 12 f_law_c1, .asg 13 f_law_c2, .kill [14, 15], f_law_l2, .asg 16 (.call "meeting_foot" [.v 5, .ix (.v 12) (.c (.int 0)), .ix (.v 12) (.c (.int 1)), .ix (.v 12) (.c (.int 2))]), .ifs (.cmp .ne (.ix (.call "foot_of" [.v 5, .call "_law_joined" [.v 11, .v 16]]) (.c (.int 0))) (.call "_law_k01_middle" [.v 5, .v 13])) [.ret (.c (.bl false))] [], .kill [2, 3, 4, 5, 6, 7, 8, 9, 10, 11, 12, 13, 14, 15, 16]]
def f_law : Fn := { np := 1, nl := 19, body := [
  .asg 1 (.call "_law_begun" [.v 0]),
  .kill [2, 3, 4, 5, 6, 7, 8, 9, 10, 11, 12, 13, 14, 15, 16],
  f_law_l3,
  .ret (.c (.bl true))] }

def f_House_l1 : S := .for (.n 4) (.range (.c (.int 0)) (.v 1)) [.ifs (.cmp .notIn (.v 4) (.v 3)) [.raise "Apart" [.v 4]] [], .kill [4]]
def f_House : Fn := { np := 3, nl := 5, cls := some "House", body := [
  .ifs (.or (.not (.call "is_number" [.v 1])) (.not (.chain .le .le (.c (.int 1)) (.v 1) (.c (.int 12))))) [.raise "BadRooms" [.c (.str "no number of rooms")]] [],
  .ifs (.not (.call "are_doors" [.v 2, .v 1])) [.raise "BadDoors" [.c (.str "no tuple of doors")]] [],
  .asg 3 (.call "joined_rooms" [.v 2]),
  .kill [4],
  f_House_l1,
  .setf 0 "rooms" (.v 1),
  .setf 0 "doors" (.v 2)] }

def f_law_begun_c1 : E := .compIf (.n 2) (.seq (.v 0)) (.cmp .ge (.bi .abs [.v 2]) (.bin .pow (.c (.int 10)) (.c (.int 18)))) (.bin .sub (.bi .abs [.v 2]) (.bin .pow (.c (.int 10)) (.c (.int 18))))
def f_law_begun_c2 : E := .comp (.n 2) (.seq (.v 0)) (.bi .abs [.v 2])
def f_law_begun : Fn := { np := 1, nl := 3, body := [
  .asgO 1 f_law_begun_c1,
  .retSt 1 f_law_begun_c2] }

def f_law_blended_l1 : S := .for (.n 5) (.seq (.stg 0 "cells")) [.asg 4 (.bin .mod (.bi .int1 [.bin .add (.bin .add (.bin .mul (.v 4) (.c (.int 69621))) (.v 5)) (.v 1)]) (.v 3)), .kill [5]]
def f_law_blended_l2 : S := .for (.n 3) (.seq (.lst [.c (.int 2147483587), .c (.int 2147483563), .c (.int 2147483549)])) [.asg 4 (.bin .add (.bin .mul (.c (.int 40692)) (.v 1)) (.bin .fdiv (.v 3) (.c (.int 61)))), f_law_blended_l1, .asg 2 (.bin .add (.bin .mul (.v 2) (.c (.int 2147483647))) (.bin .mod (.bi .int1 [.bin .pow (.v 4) (.c (.int 5))]) (.v 3))), .kill [3, 4, 5]]
def f_law_blended : Fn := { np := 1, nl := 6, body := [
  .parO [1, 2] [0, 0] [.bin .add (.stg 0 "turn") (.c (.int 1)), .c (.int 0)],
  .setst 0 "turn" (.v 1),
  .kill [3, 4, 5],
  f_law_blended_l2,
  .ret (.v 2)] }

def f_law_draw : Fn := { np := 2, nl := 3, body := [
  .ifs (.cmp .eq (.stg 0 "left") (.c (.int 0))) [.setst 0 "left" (.ite (.gne 0) (.gpop 0) (.call "_law_blended" [.v 0]))] [],
  .asg 2 (.bin .mod (.bi .int1 [.stg 0 "left"]) (.v 1)),
  .setst 0 "left" (.bin .fdiv (.stg 0 "left") (.v 1)),
  .ret (.v 2)] }

def P : Tbl := fun f => match f with
  | "is_number" => some f_is_number
  | "is_below" => some f_is_below
  | "are_numbers" => some f_are_numbers
  | "is_door" => some f_is_door
  | "are_doors" => some f_are_doors
  | "joined_rooms" => some f_joined_rooms
  | "need_house" => some f_need_house
  | "is_pass" => some f_is_pass
  | "gate_of" => some f_gate_of
  | "are_steps" => some f_are_steps
  | "is_walk_of" => some f_is_walk_of
  | "need_walk" => some f_need_walk
  | "end_for" => some f_end_for
  | "join_of" => some f_join_of
  | "back_of" => some f_back_of
  | "reverses" => some f_reverses
  | "is_multiple" => some f_is_multiple
  | "carry" => some f_carry
  | "cancel" => some f_cancel
  | "turns_back" => some f_turns_back
  | "spots_of" => some f_spots_of
  | "times_to_shorten" => some f_times_to_shorten
  | "times_to_fit" => some f_times_to_fit
  | "plain_with_moves" => some f_plain_with_moves
  | "plain_of" => some f_plain_of
  | "looks_plain" => some f_looks_plain
  | "are_one" => some f_are_one
  | "is_foot_of" => some f_is_foot_of
  | "is_foot" => some f_is_foot
  | "need_foot" => some f_need_foot
  | "foot_of" => some f_foot_of
  | "shared_of" => some f_shared_of
  | "need_two_feet" => some f_need_two_feet
  | "shared_foot" => some f_shared_foot
  | "feet_between" => some f_feet_between
  | "meeting_foot" => some f_meeting_foot
  | "length_of" => some f_length_of
  | "_law_pick" => some f_law_pick
  | "_law_mixed" => some f_law_mixed
  | "_law_is_truth" => some f_law_is_truth
  | "_law_is_whole" => some f_law_is_whole
  | "_law_size" => some f_law_size
  | "_law_doors" => some f_law_doors
  | "_law_gate" => some f_law_gate
  | "_law_steps" => some f_law_steps
  | "_law_sides" => some f_law_sides
  | "_law_pulls" => some f_law_pulls
  | "_law_strolled" => some f_law_strolled
  | "_law_end" => some f_law_end
  | "_law_way" => some f_law_way
  | "_law_joined" => some f_law_joined
  | "_law_back" => some f_law_back
  | "_law_bare" => some f_law_bare
  | "_law_homing" => some f_law_homing
  | "_law_plain" => some f_law_plain
  | "_law_pf_turned" => some f_law_pf_turned
  | "_law_pf_turns" => some f_law_pf_turns
  | "_law_pf_spots" => some f_law_pf_spots
  | "_law_pf_carried" => some f_law_pf_carried
  | "_law_pf_cancelled" => some f_law_pf_cancelled
  | "_law_pf_room" => some f_law_pf_room
  | "_law_pf_put" => some f_law_pf_put
  | "_law_pf_is_step" => some f_law_pf_is_step
  | "_law_pf_in" => some f_law_pf_in
  | "_law_pf_behind" => some f_law_pf_behind
  | "_law_pf_move" => some f_law_pf_move
  | "_law_pf_moves" => some f_law_pf_moves
  | "_law_pf_doors" => some f_law_pf_doors
  | "_law_gr_beyond" => some f_law_gr_beyond
  | "_law_gr_drawn" => some f_law_gr_drawn
  | "_law_k01_middle" => some f_law_k01_middle
  | "law" => some f_law
  | "House" => some f_House
  | "_law_begun" => some f_law_begun
  | "_law_blended" => some f_law_blended
  | "_law_draw" => some f_law_draw
  | _ => none

end Lw
end

section
set_option Elab.async false
set_option linter.all false
set_option maxRecDepth 100000
set_option maxHeartbeats 0
namespace Lw
open PySem PySem.Spec PyProof.Rows L2 RpS
def B : RpS.Tb := ⟨["_law_begun", "_law_blended", "_law_draw", "is_number", "is_below", "are_numbers", "is_door", "are_doors", "joined_rooms", "need_house", "is_pass", "gate_of", "are_steps", "is_walk_of", "need_walk", "end_for", "join_of", "back_of", "reverses", "is_multiple", "carry", "cancel", "turns_back", "spots_of", "times_to_shorten", "times_to_fit", "plain_with_moves", "plain_of", "looks_plain", "are_one", "is_foot_of", "is_foot", "need_foot", "foot_of", "shared_of", "need_two_feet", "shared_foot", "feet_between", "meeting_foot", "length_of", "_law_pick", "_law_mixed", "_law_is_truth", "_law_is_whole", "_law_size", "_law_doors", "_law_gate", "_law_steps", "_law_sides", "_law_pulls", "_law_strolled", "_law_end", "_law_way", "_law_joined", "_law_back", "_law_bare", "_law_homing", "_law_plain", "_law_pf_turned", "_law_pf_turns", "_law_pf_spots", "_law_pf_carried", "_law_pf_cancelled", "_law_pf_room", "_law_pf_put", "_law_pf_is_step", "_law_pf_in", "_law_pf_behind", "_law_pf_move", "_law_pf_moves", "_law_pf_doors", "_law_gr_beyond", "_law_gr_drawn", "_law_k01_middle", "law"], ["House"], [("MOST_ROOMS", 12), ("MOST_DOORS", 20), ("GREATEST", 999)], ["doors", "rooms"], []⟩
def top (i : Nat) : PySem.Stmt := PySem.Challenge.pw_ropescounted_k01_whole_feet_and_walks_th.main.body.getD i (.Pass ⟨0, 0, 0, 0⟩)
def cbody : PySem.Stmt → List PySem.Stmt
  | .ClassDef (body := b) .. => b
  | _ => []
def met (i j : Nat) : PySem.Stmt := (cbody (top i)).getD j (.Pass ⟨0, 0, 0, 0⟩)
def es : List Ent := [
  ⟨"_law_begun", top 56, f_law_begun, ["script", "great", "cell"]⟩,
  ⟨"_law_blended", top 57, f_law_blended, ["state", "turn", "found", "prime", "blend", "cell"]⟩,
  ⟨"_law_draw", top 58, f_law_draw, ["state", "size_here", "found"]⟩,
  ⟨"is_number", top 10, f_is_number, ["value"]⟩,
  ⟨"is_below", top 11, f_is_below, ["value", "size"]⟩,
  ⟨"are_numbers", top 12, f_are_numbers, ["value", "item"]⟩,
  ⟨"is_door", top 17, f_is_door, ["value", "rooms", "near", "first", "far", "second", "item"]⟩,
  ⟨"are_doors", top 18, f_are_doors, ["value", "rooms", "door"]⟩,
  ⟨"joined_rooms", top 19, f_joined_rooms, ["doors", "known", "line", "here", "near", "first", "far", "second", "one", "other"]⟩,
  ⟨"need_house", top 21, f_need_house, ["house"]⟩,
  ⟨"is_pass", top 22, f_is_pass, ["house", "value"]⟩,
  ⟨"gate_of", top 23, f_gate_of, ["house", "step", "near", "first", "far", "second"]⟩,
  ⟨"are_steps", top 25, f_are_steps, ["house", "room", "value", "here", "step"]⟩,
  ⟨"is_walk_of", top 26, f_is_walk_of, ["house", "value", "room", "pulls", "passes"]⟩,
  ⟨"need_walk", top 27, f_need_walk, ["house", "walk"]⟩,
  ⟨"end_for", top 28, f_end_for, ["house", "walk"]⟩,
  ⟨"join_of", top 29, f_join_of, ["one", "other", "middle"]⟩,
  ⟨"back_of", top 30, f_back_of, ["house", "walk", "pulls", "passes", "item", "at", "side"]⟩,
  ⟨"reverses", top 32, f_reverses, ["step", "other"]⟩,
  ⟨"is_multiple", top 33, f_is_multiple, ["number", "base"]⟩,
  ⟨"carry", top 34, f_carry, ["house", "walk", "spot", "times", "here", "leaving", "there", "arriving", "pulls"]⟩,
  ⟨"cancel", top 35, f_cancel, ["walk", "spot", "room", "pulls", "passes", "middle"]⟩,
  ⟨"turns_back", top 36, f_turns_back, ["walk", "spot"]⟩,
  ⟨"spots_of", top 37, f_spots_of, ["house", "walk", "found", "spot"]⟩,
  ⟨"times_to_shorten", top 38, f_times_to_shorten, ["house", "walk", "spot"]⟩,
  ⟨"times_to_fit", top 39, f_times_to_fit, ["house", "walk", "spot", "leaving", "size", "rest"]⟩,
  ⟨"plain_with_moves", top 40, f_plain_with_moves, ["house", "walk", "found", "spots", "spot", "times"]⟩,
  ⟨"plain_of", top 41, f_plain_of, ["house", "walk"]⟩,
  ⟨"looks_plain", top 42, f_looks_plain, ["house", "walk", "spot"]⟩,
  ⟨"are_one", top 43, f_are_one, ["house", "one", "other"]⟩,
  ⟨"is_foot_of", top 45, f_is_foot_of, ["house", "value"]⟩,
  ⟨"is_foot", top 46, f_is_foot, ["house", "thing"]⟩,
  ⟨"need_foot", top 47, f_need_foot, ["house", "foot"]⟩,
  ⟨"foot_of", top 48, f_foot_of, ["house", "walk", "room", "pulls", "passes"]⟩,
  ⟨"shared_of", top 49, f_shared_of, ["one", "other", "many"]⟩,
  ⟨"need_two_feet", top 50, f_need_two_feet, ["house", "one", "other"]⟩,
  ⟨"shared_foot", top 51, f_shared_foot, ["house", "one", "other"]⟩,
  ⟨"feet_between", top 52, f_feet_between, ["house", "one", "other"]⟩,
  ⟨"meeting_foot", top 53, f_meeting_foot, ["house", "one", "other", "third", "some"]⟩,
  ⟨"length_of", top 54, f_length_of, ["foot"]⟩,
  ⟨"_law_pick", top 59, f_law_pick, ["state", "several"]⟩,
  ⟨"_law_mixed", top 60, f_law_mixed, ["state", "several", "left", "found"]⟩,
  ⟨"_law_is_truth", top 61, f_law_is_truth, ["found", "due"]⟩,
  ⟨"_law_is_whole", top 62, f_law_is_whole, ["item"]⟩,
  ⟨"_law_size", top 63, f_law_size, ["state", "size_here"]⟩,
  ⟨"_law_doors", top 64, f_law_doors, ["state", "rooms_here", "more", "found", "room_here", "turn", "one", "other", "item"]⟩,
  ⟨"_law_gate", top 65, f_law_gate, ["doors_here", "step", "near", "first", "far", "second"]⟩,
  ⟨"_law_steps", top 66, f_law_steps, ["doors_here", "room_here", "some", "spot", "turn", "step"]⟩,
  ⟨"_law_sides", top 67, f_law_sides, ["many", "found", "spot"]⟩,
  ⟨"_law_pulls", top 68, f_law_pulls, ["state", "doors_here", "step"]⟩,
  ⟨"_law_strolled", top 69, f_law_strolled, ["state", "doors_here", "room_here", "many", "here", "pulls_here", "steps_here", "turn", "some", "step"]⟩,
  ⟨"_law_end", top 70, f_law_end, ["doors_here", "walk_here"]⟩,
  ⟨"_law_way", top 71, f_law_way, ["doors_here", "start", "goal", "known", "queue", "turn", "step", "there"]⟩,
  ⟨"_law_joined", top 72, f_law_joined, ["one", "other", "middle"]⟩,
  ⟨"_law_back", top 73, f_law_back, ["doors_here", "walk_here", "steps_here", "step", "item"]⟩,
  ⟨"_law_bare", top 74, f_law_bare, ["doors_here", "room_here", "steps_here"]⟩,
  ⟨"_law_homing", top 75, f_law_homing, ["state", "doors_here", "room_here", "many", "out", "back_here", "turned", "end", "item"]⟩,
  ⟨"_law_plain", top 76, f_law_plain, ["doors_here", "walk_here", "pulls_here", "steps_here", "step", "more", "here", "leaving", "there", "arriving", "now", "rest_here"]⟩,
  ⟨"_law_pf_turned", top 77, f_law_pf_turned, ["step"]⟩,
  ⟨"_law_pf_turns", top 78, f_law_pf_turns, ["doors_here", "walk_here", "spot_here", "steps_here"]⟩,
  ⟨"_law_pf_spots", top 79, f_law_pf_spots, ["doors_here", "walk_here", "found", "spot_here", "arriving"]⟩,
  ⟨"_law_pf_carried", top 80, f_law_pf_carried, ["doors_here", "walk_here", "spot_here", "times_here", "here", "leaving", "there", "arriving", "pulls_here"]⟩,
  ⟨"_law_pf_cancelled", top 81, f_law_pf_cancelled, ["walk_here", "spot_here", "pulls_here", "steps_here", "middle"]⟩,
  ⟨"_law_pf_room", top 82, f_law_pf_room, ["doors_here", "walk_here", "spot_here"]⟩,
  ⟨"_law_pf_put", top 83, f_law_pf_put, ["walk_here", "spot_here", "step", "ahead", "pulls_here", "steps_here", "more", "both"]⟩,
  ⟨"_law_pf_is_step", top 84, f_law_pf_is_step, ["doors_here", "thing"]⟩,
  ⟨"_law_pf_in", top 85, f_law_pf_in, ["item", "size_here"]⟩,
  ⟨"_law_pf_behind", top 86, f_law_pf_behind, ["doors_here", "walk_here", "thing", "many"]⟩,
  ⟨"_law_pf_move", top 87, f_law_pf_move, ["state", "doors_here", "walk_here", "many", "way", "some", "spot_here", "arriving", "at"]⟩,
  ⟨"_law_pf_moves", top 88, f_law_pf_moves, ["state", "doors_here", "walk_here", "many", "found", "lap", "move_here"]⟩,
  ⟨"_law_pf_doors", top 89, f_law_pf_doors, ["state", "rooms_here", "doors_here"]⟩,
  ⟨"_law_gr_beyond", top 90, f_law_gr_beyond, ["doors_here", "room_here", "last", "found", "step", "turned"]⟩,
  ⟨"_law_gr_drawn", top 91, f_law_gr_drawn, ["state", "doors_here", "room_here", "many", "found", "turn", "last", "some", "step", "least", "size_here", "item"]⟩,
  ⟨"_law_k01_middle", top 92, f_law_k01_middle, ["house", "some", "far", "one", "other", "rest_here", "found", "ways", "foot_here"]⟩,
  ⟨"law", top 93, f_law, ["script", "state", "turn", "rooms_here", "doors_here", "house", "room_here", "one", "other", "more", "longer", "home", "some", "led", "at", "to", "meet", "lap", "foot_here"]⟩]
def ce : Ent := ⟨"House", met 20 0, f_House, ["self", "rooms", "doors", "known", "room"]⟩
theorem looks : es.all (Ent.look B false) = true := by kernel_rfl
theorem lookc : ce.look B true = true := by kernel_rfl
theorem hP : ∀ e ∈ es, P e.name = some e.fn ∧ e.fn.cls = none := List.forall_mem_cons.mpr ⟨⟨rfl, rfl⟩, List.forall_mem_cons.mpr ⟨⟨rfl, rfl⟩, List.forall_mem_cons.mpr ⟨⟨rfl, rfl⟩, List.forall_mem_cons.mpr ⟨⟨rfl, rfl⟩, List.forall_mem_cons.mpr ⟨⟨rfl, rfl⟩, List.forall_mem_cons.mpr ⟨⟨rfl, rfl⟩, List.forall_mem_cons.mpr ⟨⟨rfl, rfl⟩, List.forall_mem_cons.mpr ⟨⟨rfl, rfl⟩, List.forall_mem_cons.mpr ⟨⟨rfl, rfl⟩, List.forall_mem_cons.mpr ⟨⟨rfl, rfl⟩, List.forall_mem_cons.mpr ⟨⟨rfl, rfl⟩, List.forall_mem_cons.mpr ⟨⟨rfl, rfl⟩, List.forall_mem_cons.mpr ⟨⟨rfl, rfl⟩, List.forall_mem_cons.mpr ⟨⟨rfl, rfl⟩, List.forall_mem_cons.mpr ⟨⟨rfl, rfl⟩, List.forall_mem_cons.mpr ⟨⟨rfl, rfl⟩, List.forall_mem_cons.mpr ⟨⟨rfl, rfl⟩, List.forall_mem_cons.mpr ⟨⟨rfl, rfl⟩, List.forall_mem_cons.mpr ⟨⟨rfl, rfl⟩, List.forall_mem_cons.mpr ⟨⟨rfl, rfl⟩, List.forall_mem_cons.mpr ⟨⟨rfl, rfl⟩, List.forall_mem_cons.mpr ⟨⟨rfl, rfl⟩, List.forall_mem_cons.mpr ⟨⟨rfl, rfl⟩, List.forall_mem_cons.mpr ⟨⟨rfl, rfl⟩, List.forall_mem_cons.mpr ⟨⟨rfl, rfl⟩, List.forall_mem_cons.mpr ⟨⟨rfl, rfl⟩, List.forall_mem_cons.mpr ⟨⟨rfl, rfl⟩, List.forall_mem_cons.mpr ⟨⟨rfl, rfl⟩, List.forall_mem_cons.mpr ⟨⟨rfl, rfl⟩, List.forall_mem_cons.mpr ⟨⟨rfl, rfl⟩, List.forall_mem_cons.mpr ⟨⟨rfl, rfl⟩, List.forall_mem_cons.mpr ⟨⟨rfl, rfl⟩, List.forall_mem_cons.mpr ⟨⟨rfl, rfl⟩, List.forall_mem_cons.mpr ⟨⟨rfl, rfl⟩, List.forall_mem_cons.mpr ⟨⟨rfl, rfl⟩, List.forall_mem_cons.mpr ⟨⟨rfl, rfl⟩, List.forall_mem_cons.mpr ⟨⟨rfl, rfl⟩, List.forall_mem_cons.mpr ⟨⟨rfl, rfl⟩, List.forall_mem_cons.mpr ⟨⟨rfl, rfl⟩, List.forall_mem_cons.mpr ⟨⟨rfl, rfl⟩, List.forall_mem_cons.mpr ⟨⟨rfl, rfl⟩, List.forall_mem_cons.mpr ⟨⟨rfl, rfl⟩, List.forall_mem_cons.mpr ⟨⟨rfl, rfl⟩, List.forall_mem_cons.mpr ⟨⟨rfl, rfl⟩, List.forall_mem_cons.mpr ⟨⟨rfl, rfl⟩, List.forall_mem_cons.mpr ⟨⟨rfl, rfl⟩, List.forall_mem_cons.mpr ⟨⟨rfl, rfl⟩, List.forall_mem_cons.mpr ⟨⟨rfl, rfl⟩, List.forall_mem_cons.mpr ⟨⟨rfl, rfl⟩, List.forall_mem_cons.mpr ⟨⟨rfl, rfl⟩, List.forall_mem_cons.mpr ⟨⟨rfl, rfl⟩, List.forall_mem_cons.mpr ⟨⟨rfl, rfl⟩, List.forall_mem_cons.mpr ⟨⟨rfl, rfl⟩, List.forall_mem_cons.mpr ⟨⟨rfl, rfl⟩, List.forall_mem_cons.mpr ⟨⟨rfl, rfl⟩, List.forall_mem_cons.mpr ⟨⟨rfl, rfl⟩, List.forall_mem_cons.mpr ⟨⟨rfl, rfl⟩, List.forall_mem_cons.mpr ⟨⟨rfl, rfl⟩, List.forall_mem_cons.mpr ⟨⟨rfl, rfl⟩, List.forall_mem_cons.mpr ⟨⟨rfl, rfl⟩, List.forall_mem_cons.mpr ⟨⟨rfl, rfl⟩, List.forall_mem_cons.mpr ⟨⟨rfl, rfl⟩, List.forall_mem_cons.mpr ⟨⟨rfl, rfl⟩, List.forall_mem_cons.mpr ⟨⟨rfl, rfl⟩, List.forall_mem_cons.mpr ⟨⟨rfl, rfl⟩, List.forall_mem_cons.mpr ⟨⟨rfl, rfl⟩, List.forall_mem_cons.mpr ⟨⟨rfl, rfl⟩, List.forall_mem_cons.mpr ⟨⟨rfl, rfl⟩, List.forall_mem_cons.mpr ⟨⟨rfl, rfl⟩, List.forall_mem_cons.mpr ⟨⟨rfl, rfl⟩, List.forall_mem_cons.mpr ⟨⟨rfl, rfl⟩, List.forall_mem_cons.mpr ⟨⟨rfl, rfl⟩, List.forall_mem_cons.mpr ⟨⟨rfl, rfl⟩, List.forall_mem_cons.mpr ⟨⟨rfl, rfl⟩, List.forall_mem_cons.mpr ⟨⟨rfl, rfl⟩, (fun e he => by cases he)⟩⟩⟩⟩⟩⟩⟩⟩⟩⟩⟩⟩⟩⟩⟩⟩⟩⟩⟩⟩⟩⟩⟩⟩⟩⟩⟩⟩⟩⟩⟩⟩⟩⟩⟩⟩⟩⟩⟩⟩⟩⟩⟩⟩⟩⟩⟩⟩⟩⟩⟩⟩⟩⟩⟩⟩⟩⟩⟩⟩⟩⟩⟩⟩⟩⟩⟩⟩⟩⟩⟩⟩⟩⟩⟩
def loose0 : List PySem.Str := ["PullError", "Apart", "BadDoors", "BadFoot", "BadHouse", "BadRooms", "BadWalk", "Elsewhere", "is_number", "is_below", "are_numbers", "MOST_ROOMS", "MOST_DOORS", "GREATEST", "is_door", "are_doors", "joined_rooms", "House", "need_house", "is_pass", "gate_of", "are_steps", "is_walk_of", "need_walk", "end_for", "join_of", "back_of", "reverses", "is_multiple", "carry"]
def loose1 : List PySem.Str := ["cancel", "turns_back", "spots_of", "times_to_shorten", "times_to_fit", "plain_with_moves", "plain_of", "looks_plain", "are_one", "is_foot_of", "is_foot", "need_foot", "foot_of", "shared_of", "need_two_feet", "shared_foot", "feet_between", "meeting_foot", "length_of", "_law_begun", "_law_blended", "_law_draw", "_law_pick", "_law_mixed", "_law_is_truth", "_law_is_whole", "_law_size", "_law_doors", "_law_gate", "_law_steps"]
def loose2 : List PySem.Str := ["_law_sides", "_law_pulls", "_law_strolled", "_law_end", "_law_way", "_law_joined", "_law_back", "_law_bare", "_law_homing", "_law_plain", "_law_pf_turned", "_law_pf_turns", "_law_pf_spots", "_law_pf_carried", "_law_pf_cancelled", "_law_pf_room", "_law_pf_put", "_law_pf_is_step", "_law_pf_in", "_law_pf_behind", "_law_pf_move", "_law_pf_moves", "_law_pf_doors", "_law_gr_beyond", "_law_gr_drawn", "_law_k01_middle"]
def loose : List PySem.Str := loose0 ++ loose1 ++ loose2
abbrev R : PySem.W.OpenRow := PySem.W.OpenLaw.row PySem.Challenge.rw_ropescounted_k01_whole_feet_and_walks_th
abbrev fa : List He.Fa := faOf B "House"
abbrev fx : List Fx := fxOf B "House"
abbrev fns : List He.DefD := fnOf es ce
abbrev hk : PySem.W.Hook := hookX 4 fa fx fns
def ob (s : PySem.W.SharedT) : He.AlD := obsXG 4 fa fx fns (HandSHeadRun.getT s)
theorem ob_eq (s : PySem.W.SharedT) : ob s = hk.obs s.abs := obsXG_eq (HandSHeadRun.getT_eq s)
section
open HandSHeadRun PySem.W
/-- the run of the head; asked in parts: each part's memory is let go before the next -/
noncomputable def whole (w : World) := wholeF (fun p => stepQ (denQ tabQ) p w) fenceQ 9000 R.prog
def KX (s : PySem.W.SharedT) : PySem.W.Frag := He.frG (getT s) (He.asD (getT s) 4)
def fns1 : List He.DefD := fns.take 24
def fns2 : List He.DefD := (fns.drop 24).take 24
def fns3 : List He.DefD := (fns.drop 24).drop 24
theorem fns12 : fns = fns1 ++ (fns2 ++ fns3) := by
  unfold fns1 fns2 fns3
  rw [List.take_append_drop, List.take_append_drop]
theorem run1 (w : World) : (whole w).map (fun x => looksF R.prog x.1.heap x.2.abs) = some true := by
  unfold whole
  kernel_rfl
theorem run2 (w : World) : (whole w).map (fun x => seenQ (PySem.W.view R.prog [93]) loose (importedModules R.prog.main.body) (fun s => xlAt (PySem.W.view R.prog [93]) [] s && recOk R.toRowW.records s) x.2.abs) = some (openGood (PySem.W.view R.prog [93]) loose) := by
  unfold whole
  kernel_rfl
theorem run3 (w : World) : (whole w).map (fun x => fa.all (fun f => f.ok (KX x.2)) && fx.all fun f => f.ok (KX x.2)) = some true := by
  unfold whole
  kernel_rfl
theorem runB1 (w : World) : ((whole w).map fun x => fns1.all fun d => d.ok (KX x.2)) = some true := by
  unfold whole
  kernel_rfl
theorem runV1 (w : World) : ((whole w).map fun x => fns1.map fun d => He.fnW (KX x.2) d.at_) = some (fns1.map He.DefD.val) := by
  unfold whole
  kernel_rfl
theorem runB2 (w : World) : ((whole w).map fun x => fns2.all fun d => d.ok (KX x.2)) = some true := by
  unfold whole
  kernel_rfl
theorem runV2 (w : World) : ((whole w).map fun x => fns2.map fun d => He.fnW (KX x.2) d.at_) = some (fns2.map He.DefD.val) := by
  unfold whole
  kernel_rfl
theorem runB3 (w : World) : ((whole w).map fun x => fns3.all fun d => d.ok (KX x.2)) = some true := by
  unfold whole
  kernel_rfl
theorem runV3 (w : World) : ((whole w).map fun x => fns3.map fun d => He.fnW (KX x.2) d.at_) = some (fns3.map He.DefD.val) := by
  unfold whole
  kernel_rfl
theorem run (w : World) : HandSHeadRun.RunEqI R (PySem.W.view R.prog [93]) hk ob 9000 loose w := by
  unfold HandSHeadRun.RunEqI
  exact split2 (run1 w) (split2 (run2 w) (split2 (splitC (run3 w) (splitB fns12 (runB1 w) (splitB rfl (runB2 w) (runB3 w)))) (splitM fns12 (runV1 w) (splitM rfl (runV2 w) (runV3 w)))))
end
def eL : Ent := es.getD 74 ⟨"", top 0, f_law, []⟩
theorem eL_mem : eL ∈ es := List.mem_of_getElem? (i := 74) rfl
end Lw
open PySem PySem.W PySem.Calls PyProof.Rows
theorem holds_of (m : Nat) (hm : m ≤ 80) (plain : ∀ ns : List Int, ns.length ≤ 63 → ∃ w', Rp.callN Lw.P (m + 1) "law" [.scr ns] none = .ok (.bl true) w') : PySem.Challenge.rw_ropescounted_k01_whole_feet_and_walks_th.Holds := by
  w_on; o_law
  refine HandSHeadRun.head_imp (r := OpenLaw.row PySem.Challenge.rw_ropescounted_k01_whole_feet_and_walks_th) (q := view (OpenLaw.row PySem.Challenge.rw_ropescounted_k01_whole_feet_and_walks_th).prog [93]) (H := Lw.hk) (ob := Lw.ob) (M := 9000) (loose := Lw.loose) (d := HandSHeadRun.topDef (OpenLaw.row PySem.Challenge.rw_ropescounted_k01_whole_feet_and_walks_th).prog 93) (kwd := []) Lw.ob_eq
    Lw.run (by kernel_rfl) (by kernel_rfl) (by kernel_rfl) (by rfl) (by first | assumption | decide +kernel) (by decide +kernel) ⟨rfl, rfl, rfl, rfl, rfl, by decide +kernel⟩ ?hw ?hc
  case hw => w_witness2
  case hc =>
    refine L2.walk_ofE (l := PySem.Challenge.rw_ropescounted_k01_whole_feet_and_walks_th) (n := 63) (k := 40 + 2 * m + 2) (x := "script") (CX := C8.CX0) rfl (by decide) (by kernel_rfl) ⟨rfl, ?_, ?_⟩ ?F (fun _ _ _ _ z => z)
    · show _ + 3 * (40 + 2 * m + 2) + 5 < recursionLimit
      have e1 : callerA.depth ≤ 301 := by decide
      have e2 : recursionLimit = 1000 := rfl
      omega
    · show _ + 16 * (40 + 2 * m + 2) + 200 < cLine
      have e1 : callerA.units ≤ 100 := by decide
      have e2 : cLine = 9900 := rfl
      omega
    intro w mg fa h Y G hmg0
    obtain ⟨K, KX, c⟩ := Y
    have hmg : mg ("law" : PySem.Str) = some (.ref fa) := by
      have e : (HandSHeadRun.topDef (OpenLaw.row PySem.Challenge.rw_ropescounted_k01_whole_feet_and_walks_th).prog 93).name = ("law" : PySem.Str) := by kernel_rfl
      rw [← e]
      exact hmg0
    have hs : ∀ base : Heap, RpS.Ks ⟨(PySem.Challenge.rw_ropescounted_k01_whole_feet_and_walks_th).prog, w, K, mg, base⟩ (RpS.gxOf K "House") Lw.B := fun base => RpS.ks_of KX G c rfl (by simp [Lw.B])
    have hd : ∀ base : Heap, ∀ f ∈ Lw.B.fns, RpS.DefE ⟨(PySem.Challenge.rw_ropescounted_k01_whole_feet_and_walks_th).prog, w, K, mg, base⟩ Lw.B Lw.P f := fun base => RpS.defs_of KX G c rfl Lw.looks Lw.hP
    have hcl : ∀ base : Heap, ∀ f ∈ Lw.B.cls, RpS.ClsE ⟨(PySem.Challenge.rw_ropescounted_k01_whole_feet_and_walks_th).prog, w, K, mg, base⟩ (RpS.gxOf K "House") Lw.B Lw.P f := fun base => RpS.cls_of KX G c rfl rfl Lw.lookc ⟨rfl, rfl⟩
    obtain ⟨fd, F⟩ := RpS.SaysX.def_ c (d := Lw.eL.dd) (by unfold Lw.fns RpS.fnOf; simp only [List.mem_append, List.mem_map]; exact .inl ⟨Lw.eL, Lw.eL_mem, rfl⟩)
    have hg : mg ("law" : PySem.Str) = some (.ref (He.ga K "law")) := He.glo_ok KX G (c.bools.1 (.glo (RpS.ofs "law")) (by unfold Lw.fa RpS.faOf; simp only [List.mem_append, List.mem_map]; exact .inl (.inl (.inl (.inl ⟨"law", by decide, rfl⟩)))))
    have e := hmg.symm.trans hg
    cases e
    have hl : RpS.Ent.look Lw.B false Lw.eL = true := List.all_eq_true.mp Lw.looks Lw.eL Lw.eL_mem
    obtain ⟨_, _, _, _, hb⟩ := RpS.look_of hl
    exact ⟨K, fd, RpS.sp (RpS.gxOf K "House") (Rp.callN Lw.P (m + 1)) "law" 1, KX, fun s v => L2.FunD.bindsA (ps := ["script"]) F (fun kV doc pm an cdv ct us hl => hb _ _ kV doc pm an cdv ct us hl) s [v] rfl, fun H a ns hn hO hS => (plain ns hn).elim fun w' hw => RpS.law_sp hO hS hw,
      fun base _ _ => RpS.law_ok m (hs base) (hd base) (hcl base) (fn := Lw.f_law) rfl rfl F hl⟩
end

section
set_option linter.all false
set_option maxRecDepth 100000
/-! RpEv: the small language's equations, for simp. -/
namespace Rp
section
variable {C : Cl} {env : Env} {w : W}
@[simp] theorem ev_v (i : Nat) : evE C (.v i) env w = lift (look env i) w := by first | (simp only [evE]; done) | (simp only [evE]; rfl)
@[simp] theorem ev_c (d : D) : evE C (.c d) env w = .ok d w := by first | (simp only [evE]; done) | (simp only [evE]; rfl)
@[simp] theorem ev_tup (es : List E) : evE C (.tup es) env w = (evEs C es env w).bind fun ds w => .ok (.tup ds) w := by first | (simp only [evE]; done) | (simp only [evE]; rfl)
@[simp] theorem ev_lst (es : List E) : evE C (.lst es) env w = (evEs C es env w).bind fun ds w => .ok (.lst ds) w := by first | (simp only [evE]; done) | (simp only [evE]; rfl)
@[simp] theorem ev_bin (o : BOp) (a b : E) : evE C (.bin o a b) env w = (evE C a env w).bind fun x w => (evE C b env w).bind fun y w => lift (binD o x y) w := by first | (simp only [evE]; done) | (simp only [evE]; rfl)
@[simp] theorem ev_neg (a : E) : evE C (.neg a) env w = (evE C a env w).bind fun x w => lift (negD x) w := by first | (simp only [evE]; done) | (simp only [evE]; rfl)
@[simp] theorem ev_cmp (o : COp) (a b : E) : evE C (.cmp o a b) env w = (evE C a env w).bind fun x w => (evE C b env w).bind fun y w => lift ((cmpD o x y).map .bl) w := by first | (simp only [evE]; done) | (simp only [evE]; rfl)
@[simp] theorem ev_chain (o p : COp) (a b c : E) : evE C (.chain o p a b c) env w = (evE C a env w).bind fun x w => (evE C b env w).bind fun y w => (lift ((cmpD o x y).map .bl) w).bind fun t w =>
      cond t ((evE C c env w).bind fun z w => lift ((cmpD p y z).map .bl) w) (.ok (.bl false) w) := by first | (simp only [evE]; done) | (simp only [evE]; rfl)
@[simp] theorem ev_and (a b : E) : evE C (.and a b) env w = (evE C a env w).bind fun x w => cond x (evE C b env w) (.ok (.bl false) w) := by first | (simp only [evE]; done) | (simp only [evE]; rfl)
@[simp] theorem ev_or (a b : E) : evE C (.or a b) env w = (evE C a env w).bind fun x w => cond x (.ok (.bl true) w) (evE C b env w) := by first | (simp only [evE]; done) | (simp only [evE]; rfl)
@[simp] theorem ev_not (a : E) : evE C (.not a) env w = (evE C a env w).bind fun x w => cond x (.ok (.bl false) w) (.ok (.bl true) w) := by first | (simp only [evE]; done) | (simp only [evE]; rfl)
@[simp] theorem ev_ite (c a b : E) : evE C (.ite c a b) env w = (evE C c env w).bind fun x w => cond x (evE C a env w) (evE C b env w) := by first | (simp only [evE]; done) | (simp only [evE]; rfl)
@[simp] theorem ev_ix (a i : E) : evE C (.ix a i) env w = (evE C a env w).bind fun x w => (evE C i env w).bind fun y w => lift (ixD x y) w := by first | (simp only [evE]; done) | (simp only [evE]; rfl)
@[simp] theorem ev_sl0 (a : E) : evE C (.sl a none none) env w = (evE C a env w).bind fun x w => lift (slD x none none) w := by first | (simp only [evE]; done) | (simp only [evE]; rfl)
@[simp] theorem ev_sl1 (a l : E) : evE C (.sl a (some l) none) env w = (evE C a env w).bind fun x w => (evE C l env w).bind fun y w => lift ((bdI y).bind fun lo => slD x lo none) w := by first | (simp only [evE]; done) | (simp only [evE]; rfl)
@[simp] theorem ev_sl2 (a h : E) : evE C (.sl a none (some h)) env w = (evE C a env w).bind fun x w => (evE C h env w).bind fun y w => lift ((bdI y).bind fun hi => slD x none hi) w := by first | (simp only [evE]; done) | (simp only [evE]; rfl)
@[simp] theorem ev_sl3 (a l h : E) : evE C (.sl a (some l) (some h)) env w = (evE C a env w).bind fun x w => (evE C l env w).bind fun y w => (evE C h env w).bind fun z w => lift ((bdI y).bind fun lo => (bdI z).bind fun hi => slD x lo hi) w := by first | (simp only [evE]; done) | (simp only [evE]; rfl)
@[simp] theorem ev_fld (a : E) (f : String) : evE C (.fld a f) env w = (evE C a env w).bind fun x w => lift (fldD x f) w := by first | (simp only [evE]; done) | (simp only [evE]; rfl)
@[simp] theorem ev_call (f : String) (es : List E) : evE C (.call f es) env w = (evEs C es env w).bind fun ds w => C f ds w := by first | (simp only [evE]; done) | (simp only [evE]; rfl)
@[simp] theorem ev_bi (b : BI) (es : List E) : evE C (.bi b es) env w = (evEs C es env w).bind fun ds w => lift (biD b ds) w := by first | (simp only [evE]; done) | (simp only [evE]; rfl)
@[simp] theorem ev_isi (a : E) (t : Ty) : evE C (.isi a t) env w = (evE C a env w).bind fun x w => lift ((isiD x t).map .bl) w := by first | (simp only [evE]; done) | (simp only [evE]; rfl)
theorem ev_comp (p : Pat) (it : It) (e : E) : evE C (.comp p it e) env w = (evI C it env w).bind fun xs w => (mapL (fun x w => match bindP p x env with | some env' => evE C e env' w | none => .no) xs w).bind fun ys w => fits ys w := by first | (simp only [evE]; done) | (simp only [evE]; rfl)
theorem ev_compIf (p : Pat) (it : It) (c e : E) : evE C (.compIf p it c e) env w = (evI C it env w).bind fun xs w => (filtL (fun x w => match bindP p x env with
      | some env' => (evE C c env' w).bind fun t w => cond t ((evE C e env' w).bind fun y w => .ok (some y) w) (.ok none w)
      | none => .no) xs w).bind fun ys w => fits ys w := by first | (simp only [evE]; done) | (simp only [evE]; rfl)
theorem ev_comp2 (p : Pat) (it : It) (q : Pat) (jt : It) (e : E) : evE C (.comp2 p it q jt e) env w = (evI C it env w).bind fun xs w => (catL (fun x w => match bindP p x (kill env q.is) with
      | some env' => (evI C jt env' w).bind fun zs w => mapL (fun z w => match bindP q z env' with | some env'' => evE C e env'' w | none => .no) zs w
      | none => .no) xs w).bind fun ys w => fits ys w := by first | (simp only [evE]; done) | (simp only [evE]; rfl)
@[simp] theorem ev_dic (k v : E) : evE C (.dic k v) env w = (evE C k env w).bind fun x w => (evE C v env w).bind fun y w => if x.key then .ok (.dic [(x, y)]) w else .no := by first | (simp only [evE]; done) | (simp only [evE]; rfl)
@[simp] theorem ev_dic0 : evE C .dic0 env w = .ok (.dic []) w := by first | (simp only [evE]; done) | (simp only [evE]; rfl)
@[simp] theorem ev_star1 (a b : E) : evE C (.star1 a b) env w = (evE C a env w).bind fun x w => (evE C b env w).bind fun y w => lift (match x with | .tup xs => (if xs.length + 1 ≤ LINE then some (.tup (xs ++ [y])) else none) | _ => none) w := by first | (simp only [evE]; done) | (simp only [evE]; rfl)
@[simp] theorem ev_rsl (a : E) : evE C (.rsl a) env w = (evE C a env w).bind fun x w => lift (rvD x) w := by first | (simp only [evE]; done) | (simp only [evE]; rfl)
@[simp] theorem ev_maxK (f : String) (a : E) : evE C (.maxK f a) env w = (evE C a env w).bind fun x w => maxKD (fun y w => C f [y] w) x w := by first | (simp only [evE]; done) | (simp only [evE]; rfl)
@[simp] theorem ev_idx (a b : E) : evE C (.idx a b) env w = (evE C a env w).bind fun x w => (evE C b env w).bind fun y w => lift (biD .index [x, y]) w := by first | (simp only [evE]; done) | (simp only [evE]; rfl)
@[simp] theorem evs_nil : evEs C [] env w = .ok [] w := by first | (simp only [evEs]; done) | (simp only [evEs]; rfl)
@[simp] theorem evs_cons (e : E) (es : List E) : evEs C (e :: es) env w = (evE C e env w).bind fun x w => (evEs C es env w).bind fun xs w => .ok (x :: xs) w := by first | (simp only [evEs]; done) | (simp only [evEs]; rfl)
@[simp] theorem evi_seq (e : E) : evI C (.seq e) env w = (evE C e env w).bind fun x w => lift (items x) w := by first | (simp only [evI]; done) | (simp only [evI]; rfl)
@[simp] theorem evi_range (a b : E) : evI C (.range a b) env w = (evE C a env w).bind fun x w => (evE C b env w).bind fun y w => lift (rangeL x y) w := by first | (simp only [evI]; done) | (simp only [evI]; rfl)
@[simp] theorem evi_down (a b : E) : evI C (.down a b) env w = (evE C a env w).bind fun x w => (evE C b env w).bind fun y w => lift (downL x y) w := by first | (simp only [evI]; done) | (simp only [evI]; rfl)
@[simp] theorem evi_enum (e : E) : evI C (.enum e) env w = (evE C e env w).bind fun x w => lift ((uItems x).map (enumL 0)) w := by first | (simp only [evI]; done) | (simp only [evI]; rfl)
@[simp] theorem evi_zip (a b : E) : evI C (.zip a b) env w = (evE C a env w).bind fun x w => (evE C b env w).bind fun y w => lift (zipD x y) w := by first | (simp only [evI]; done) | (simp only [evI]; rfl)
@[simp] theorem evi_rev (e : E) : evI C (.rev e) env w = (evE C e env w).bind fun x w => lift ((uItems x).map List.reverse) w := by first | (simp only [evI]; done) | (simp only [evI]; rfl)
@[simp] theorem exs_nil : exSs C [] env w = .ok (.next env) w := by first | (simp only [exSs]; done) | (simp only [exSs]; rfl)
@[simp] theorem exs_cons (s : S) (ss : List S) : exSs C (s :: ss) env w = thenS (exS C s env w) fun env w => exSs C ss env w := by first | (simp only [exSs]; done) | (simp only [exSs]; rfl)
@[simp] theorem ex_asg (i : Nat) (e : E) : exS C (.asg i e) env w = (evE C e env w).bind fun d w => .ok (.next (env.set i (some d))) w := by first | (simp only [exS]; done) | (simp only [exS]; rfl)
@[simp] theorem ex_asgO (i : Nat) (e : E) : exS C (.asgO i e) env w = (evE C e env w).bind fun d w => if isMut d then .ok (.next (env.set i (some d))) w else .no := by first | (simp only [exS]; done) | (simp only [exS]; rfl)
@[simp] theorem ex_asg2 (i : Nat) (e : E) : exS C (.asg2 i e) env w = (evE C e env w).bind fun d w => if allMut d then .ok (.next (env.set i (some d))) w else .no := by first | (simp only [exS]; done) | (simp only [exS]; rfl)
@[simp] theorem ex_aug (i : Nat) (o : BOp) (e : E) : exS C (.aug i o e) env w = (lift (look env i) w).bind fun x w => (evE C e env w).bind fun y w => (lift (augD o x y) w).bind fun z w => .ok (.next (env.set i (some z))) w := by first | (simp only [exS]; done) | (simp only [exS]; rfl)
@[simp] theorem ex_augix2 (i : Nat) (k l : E) (o : BOp) (e : E) : exS C (.augix2 i k l o e) env w = (lift (look env i) w).bind fun x w => (evE C k env w).bind fun j w => (lift (getL x j) w).bind fun r w => (evE C l env w).bind fun m w => (lift (getN r m) w).bind fun u w =>
      (evE C e env w).bind fun y w => (lift (augD o u y) w).bind fun v w => (lift (setN r m v) w).bind fun r' w => (lift (setD x j r') w).bind fun z w => .ok (.next (env.set i (some z))) w := by first | (simp only [exS]; done) | (simp only [exS]; rfl)
@[simp] theorem ex_parO (is ns : List Nat) (es : List E) : exS C (.parO is ns es) env w = (evEs C es env w).bind fun ds w => if ds.length = is.length ∧ mutsOk ns ds = true then .ok (.next (setAll env is ds)) w else .no := by first | (simp only [exS]; done) | (simp only [exS]; rfl)
@[simp] theorem ex_unpack (is : List Nat) (e : E) : exS C (.unpack is e) env w = (evE C e env w).bind fun d w => match uItems d with
      | some ds => if ds.length = is.length then .ok (.next (setAll env is ds)) w else .no
      | none => .no := by first | (simp only [exS]; done) | (simp only [exS]; rfl)
@[simp] theorem ex_setix (i : Nat) (k e : E) : exS C (.setix i k e) env w = (evE C e env w).bind fun y w => (lift (look env i) w).bind fun x w => (evE C k env w).bind fun j w => (lift (setD x j y) w).bind fun z w => .ok (.next (env.set i (some z))) w := by first | (simp only [exS]; done) | (simp only [exS]; rfl)
@[simp] theorem ex_append (i : Nat) (e : E) : exS C (.append i e) env w = (lift (look env i) w).bind fun x w => (evE C e env w).bind fun y w => (lift (appD x y) w).bind fun z w => .ok (.next (env.set i (some z))) w := by first | (simp only [exS]; done) | (simp only [exS]; rfl)
@[simp] theorem ex_popTo (t i : Nat) (k : Option E) : exS C (.popTo t i k) env w = (lift (look env i) w).bind fun x w => (optE C k env w).bind fun j w => (lift (popD x j) w).bind fun p w => .ok (.next ((env.set i (some p.2)).set t (some p.1))) w := by first | (simp only [exS]; done) | (simp only [exS]; rfl)
@[simp] theorem ex_popApp (a i : Nat) (k : Option E) : exS C (.popApp a i k) env w = (lift (look env a) w).bind fun y w => (lift (look env i) w).bind fun x w => (optE C k env w).bind fun j w => (lift (popD x j) w).bind fun p w =>
      (lift (appD y p.1) w).bind fun z w => .ok (.next ((env.set i (some p.2)).set a (some z))) w := by first | (simp only [exS]; done) | (simp only [exS]; rfl)
@[simp] theorem ex_ex (e : E) : exS C (.ex e) env w = (evE C e env w).bind fun _ w => .ok (.next env) w := by first | (simp only [exS]; done) | (simp only [exS]; rfl)
@[simp] theorem ex_ifs (c : E) (a b : List S) : exS C (.ifs c a b) env w = (evE C c env w).bind fun t w => cond t (exSs C a env w) (exSs C b env w) := by first | (simp only [exS]; done) | (simp only [exS]; rfl)
theorem ex_while (c : E) (b : List S) : exS C (.while c b) env w = whileL (fun env w => evE C c env w) (fun env w => exSs C b env w) env w := by first | (simp only [exS]; done) | (simp only [exS]; rfl)
theorem ex_for (p : Pat) (it : It) (b : List S) : exS C (.for p it b) env w = (evI C it env w).bind fun xs w => forL (fun x env w => match bindP p x env with | some env' => exSs C b env' w | none => .no) xs env w := by first | (simp only [exS]; done) | (simp only [exS]; rfl)
@[simp] theorem ex_ret (e : E) : exS C (.ret e) env w = (evE C e env w).bind fun d w => .ok (.ret d) w := by first | (simp only [exS]; done) | (simp only [exS]; rfl)
@[simp] theorem ex_retN : exS C .retN env w = .ok (.ret .non) w := by first | (simp only [exS]; done) | (simp only [exS]; rfl)
@[simp] theorem ex_cont : exS C .cont env w = .ok (.cont env) w := by first | (simp only [exS]; done) | (simp only [exS]; rfl)
@[simp] theorem ex_brk : exS C .brk env w = .ok (.brk env) w := by first | (simp only [exS]; done) | (simp only [exS]; rfl)
@[simp] theorem ex_raise (c : String) (es : List E) : exS C (.raise c es) env w = (evEs C es env w).bind fun ds w => .ex c ds w := by first | (simp only [exS]; done) | (simp only [exS]; rfl)
@[simp] theorem ex_setf (i : Nat) (f : String) (e : E) : exS C (.setf i f e) env w = (evE C e env w).bind fun y w => (lift (look env i) w).bind fun x w => (lift (setfD x f y) w).bind fun z w => .ok (.next (env.set i (some z))) w := by first | (simp only [exS]; done) | (simp only [exS]; rfl)
@[simp] theorem ex_kill (is : List Nat) : exS C (.kill is) env w = .ok (.next (kill env is)) w := by first | (simp only [exS]; done) | (simp only [exS]; rfl)
@[simp] theorem ex_frz (is : List Nat) : exS C (.frz is) env w = .ok (.next env) w := by first | (simp only [exS]; done) | (simp only [exS]; rfl)
end
/-- a call of a def of the table -/
theorem call_def {P : Tbl} {f : String} {fn : Fn} (h : P f = some fn) (hc : fn.cls = none) (k : Nat) (ds : List D) (w : W) (hl : ds.length = fn.np) : callN P (k + 1) f ds w = endD (exSs (callN P k) fn.body (start fn ds) w) := by
  simp only [callN, h, hc, hl, if_true]
@[simp] theorem look_zero (d : D) (env : Env) : look (some d :: env) 0 = some d := rfl
@[simp] theorem look_succ (o : Option D) (env : Env) (i : Nat) : look (o :: env) (i + 1) = look env i := by simp [look]
@[simp] theorem kill_nil (env : Env) : kill env [] = env := rfl
@[simp] theorem kill_cons (env : Env) (i : Nat) (is : List Nat) : kill env (i :: is) = kill (env.set i none) is := rfl
@[simp] theorem setAll_nil (env : Env) : setAll env [] [] = env := rfl
@[simp] theorem setAll_cons (env : Env) (i : Nat) (is : List Nat) (d : D) (ds : List D) : setAll env (i :: is) (d :: ds) = setAll (env.set i (some d)) is ds := rfl
@[simp] theorem bindP_n (i : Nat) (d : D) (env : Env) : bindP (.n i) d env = some (env.set i (some d)) := rfl
end Rp
end

section
set_option linter.all false
set_option maxRecDepth 100000
/-! RpEv2: loops and comprehensions of the small language. -/
namespace Rp
theorem forL_fold {σ α : Type} (E : σ → Env) (f : α → D) (step : σ → α → σ) (b : D → Env → W → R Fl) (w : W) (I : List α → σ → Prop) (h : ∀ x xs s, I (x :: xs) s → b (f x) (E s) w = .ok (.next (E (step s x))) w ∧ I xs (step s x)) :
    ∀ (xs : List α) (s : σ), I xs s → forL b (xs.map f) (E s) w = .ok (.next (E (xs.foldl step s))) w
  | [], s, _ => rfl
  | x :: xs, s, i => by
    obtain ⟨h1, h2⟩ := h x xs s i
    rw [List.map_cons, forL, h1]
    simp only [turnS_next, List.foldl_cons]
    exact forL_fold E f step b w I h xs (step s x) h2
theorem mapL_ok {α : Type} (F : D → W → R D) (f g : α → D) (w : W) : ∀ (xs : List α), (∀ x ∈ xs, F (f x) w = .ok (g x) w) → mapL F (xs.map f) w = .ok (xs.map g) w
  | [], _ => rfl
  | x :: xs, h => by
    rw [List.map_cons, mapL, h x List.mem_cons_self]
    simp only [R.bind_ok]
    rw [mapL_ok F f g w xs fun y hy => h y (List.mem_cons_of_mem _ hy)]
    rfl
theorem filtL_ok {α : Type} (F : D → W → R (Option D)) (f g : α → D) (p : α → Bool) (w : W) : ∀ (xs : List α), (∀ x ∈ xs, F (f x) w = .ok (if p x then some (g x) else none) w) → filtL F (xs.map f) w = .ok ((xs.filter p).map g) w
  | [], _ => rfl
  | x :: xs, h => by
    rw [List.map_cons, filtL, h x List.mem_cons_self]
    simp only [R.bind_ok]
    rw [filtL_ok F f g p w xs fun y hy => h y (List.mem_cons_of_mem _ hy)]
    cases e : p x <;> simp [List.filter_cons, e]
theorem fits_of {xs : List D} {w : W} (h : xs.length ≤ LINE) : fits xs w = .ok (.lst xs) w := by unfold fits; rw [if_pos h]
theorem isInts_map {α : Type} (f : α → Int) : ∀ xs : List α, isInts (xs.map fun x => .int (f x)) = true
  | [] => rfl
  | x :: xs => by simp [isInts, isInts_map f xs]
theorem ints_map {α : Type} (f : α → Int) : ∀ xs : List α, intL (xs.map fun x => .int (f x)) = xs.map f
  | [] => rfl
  | x :: xs => by simp [intL, ints_map f xs]
theorem isBls_map {α : Type} (f : α → Bool) : ∀ xs : List α, isBls (xs.map fun x => .bl (f x)) = true
  | [] => rfl
  | x :: xs => by simp [isBls, isBls_map f xs]
theorem bls_map {α : Type} (f : α → Bool) : ∀ xs : List α, bls (xs.map fun x => .bl (f x)) = xs.map f
  | [] => rfl
  | x :: xs => by simp [bls, bls_map f xs]
theorem dInts_eq (n : Nat) : ∀ lo : Int, dInts lo n = (List.range n).map fun i => .int (lo + (i : Nat)) := by
  induction n with
  | zero => intro lo; rfl
  | succ n ih =>
    intro lo
    rw [dInts, ih, List.range_succ_eq_map, List.map_cons, List.map_map]
    simp only [Int.natCast_zero, Int.add_zero, List.cons.injEq, true_and]
    apply List.map_congr_left
    intro i _
    simp only [Function.comp, D.int.injEq]
    omega
theorem ixN_nat {n i : Nat} (h : i < n) : ixN n (i : Int) = some i := by
  unfold ixN
  rw [if_pos (by omega), if_pos (by omega)]
  simp
theorem atI_nat {α : Type} {xs : List α} {i : Nat} {x : α} (h : xs[i]? = some x) : atI xs (i : Int) = some x := by
  have hl := (List.getElem?_eq_some_iff.mp h).1
  unfold atI
  rw [ixN_nat hl]
  exact h
@[simp] theorem ix0 (x : D) (xs : List D) : ixD (.tup (x :: xs)) (.int 0) = some x := atI_nat (i := 0) (by simp)
@[simp] theorem ix1 (x y : D) (xs : List D) : ixD (.tup (x :: y :: xs)) (.int 1) = some y := atI_nat (i := 1) (by simp)
@[simp] theorem ix2 (x y z : D) (xs : List D) : ixD (.tup (x :: y :: z :: xs)) (.int 2) = some z := atI_nat (i := 2) (by simp)
@[simp] theorem ix3 (x y z u : D) (xs : List D) : ixD (.tup (x :: y :: z :: u :: xs)) (.int 3) = some u := atI_nat (i := 3) (by simp)
@[simp] theorem eqO_int (i j : Int) : D.eqO (.int i) (.int j) = some (i == j) := by simp [D.eqO, D.pl, D.dep, D.eqv]
@[simp] theorem uItems_tup (xs : List D) : uItems (.tup xs) = some xs := rfl
@[simp] theorem uItems_lst (xs : List D) : uItems (.lst xs) = some xs := rfl
@[simp] theorem items_tup (xs : List D) : items (.tup xs) = some xs := rfl
@[simp] theorem items_lst (xs : List D) : items (.lst xs) = some xs := rfl
@[simp] theorem cmp_eq (a b : D) : cmpD .eq a b = D.eqO a b := by cases a <;> cases b <;> rfl
@[simp] theorem cmp_ne (a b : D) : cmpD .ne a b = (D.eqO a b).map (!·) := by cases a <;> cases b <;> rfl
@[simp] theorem cmp_lt (a b : Int) : cmpD .lt (.int a) (.int b) = some (decide (a < b)) := rfl
@[simp] theorem cmp_le (a b : Int) : cmpD .le (.int a) (.int b) = some (decide (a ≤ b)) := rfl
@[simp] theorem cmp_gt (a b : Int) : cmpD .gt (.int a) (.int b) = some (decide (b < a)) := rfl
@[simp] theorem cmp_ge (a b : Int) : cmpD .ge (.int a) (.int b) = some (decide (b ≤ a)) := rfl
@[simp] theorem b_add (a b : Int) : binD .add (.int a) (.int b) = some (.int (a + b)) := rfl
@[simp] theorem b_sub (a b : Int) : binD .sub (.int a) (.int b) = some (.int (a - b)) := rfl
theorem b_mul {a b : Int} (h : mulOk a b = true) : binD .mul (.int a) (.int b) = some (.int (a * b)) := by simp [binD, h]
theorem mul_l {a : Int} (b : Int) (h : a.natAbs < 18446744073709551616) : mulOk a b = true := by simp [mulOk, h]
theorem mul_r (a : Int) {b : Int} (h : b.natAbs < 18446744073709551616) : mulOk a b = true := by simp [mulOk, h]
theorem b_fdiv {a b : Int} (h : b ≠ 0) (h2 : bits b ≤ 9000) : binD .fdiv (.int a) (.int b) = some (.int (a.fdiv b)) := by simp [binD, h, h2]
theorem b_mod {a b : Int} (h : b ≠ 0) : binD .mod (.int a) (.int b) = some (.int (a.fmod b)) := by simp [binD, h]
@[simp] theorem neg_int (a : Int) : negD (.int a) = some (.int (-a)) := rfl
@[simp] theorem bi_len_tup (xs : List D) : biD .len [.tup xs] = some (.int xs.length) := rfl
@[simp] theorem bi_len_lst (xs : List D) : biD .len [.lst xs] = some (.int xs.length) := rfl
@[simp] theorem bi_abs_int (i : Int) : biD .abs [.int i] = some (.int i.natAbs) := rfl
@[simp] theorem bi_int_int (i : Int) : biD .int1 [.int i] = some (.int i) := rfl
@[simp] theorem bi_gcd_int (a b : Int) : biD .gcd [.int a, .int b] = some (.int ((Nat.gcd a.natAbs b.natAbs : Nat) : Int)) := rfl
@[simp] theorem bi_tuple_lst (xs : List D) : biD .tuple [.lst xs] = some (.tup xs) := rfl
@[simp] theorem bi_tuple_tup (xs : List D) : biD .tuple [.tup xs] = some (.tup xs) := rfl
@[simp] theorem bi_list_lst (xs : List D) : biD .list [.lst xs] = some (.lst xs) := rfl
@[simp] theorem bi_list_tup (xs : List D) : biD .list [.tup xs] = some (.lst xs) := rfl
/-- small divisors -/
theorem bits_small {b : Int} (h : b.natAbs < 2 ^ 8999) : bits b ≤ 9000 := by
  unfold bits
  by_cases h0 : b.natAbs = 0
  · rw [h0]; decide
  · have := (Nat.log2_lt h0).mpr h
    omega
/-- while, by a word and a measure -/
theorem whileN_some {c : Env → W → R D} {b : Env → W → R Fl} {env : Env} {w : W} {n : Nat} {r : R Fl} (h : whileN c b n env w = r) (hr : r ≠ .no) : ∀ m, n ≤ m → whileN c b m env w = r := by
  induction n generalizing env w with
  | zero => rw [whileN] at h; exact absurd h.symm hr
  | succ n ih =>
    intro m hm
    obtain ⟨m, rfl⟩ : ∃ k, m = k + 1 := ⟨m - 1, by omega⟩
    rw [whileN] at h ⊢
    cases hc : c env w with
    | no => rw [hc] at h; exact absurd h.symm hr
    | ex p q s => rw [hc] at h; exact h
    | ok t w1 =>
      rw [hc] at h
      simp only [R.bind_ok] at h ⊢
      cases t <;> first | (exact absurd h.symm hr) | skip
      rename_i t
      cases t with
      | false => exact h
      | true =>
        simp only [cond_true] at h ⊢
        cases hb : b env w1 with
        | no => rw [hb] at h; exact absurd h.symm hr
        | ex p q s => rw [hb] at h; exact h
        | ok fl w2 =>
          rw [hb] at h
          cases fl with
          | next e => simp only [turnS_next] at h ⊢; exact ih h m (by omega)
          | cont e => simp only [turnS_cont] at h ⊢; exact ih h m (by omega)
          | ret d => exact h
          | brk e => exact h
theorem whileL_of {c : Env → W → R D} {b : Env → W → R Fl} {env : Env} {w : W} {n : Nat} {r : R Fl} (h : whileN c b n env w = r) (hr : r ≠ .no) : whileL c b env w = r := by
  have ex : ∃ n, whileN c b n env w ≠ .no := ⟨n, by rw [h]; exact hr⟩
  unfold whileL
  rw [dif_pos ex]
  have h1 := whileN_some (r := whileN c b ex.choose env w) rfl ex.choose_spec (max n ex.choose) (Nat.le_max_right _ _)
  have h2 := whileN_some h hr (max n ex.choose) (Nat.le_max_left _ _)
  rw [← h1, h2]
/-- a while of states: every turn goes on by step while the word holds -/
theorem while_fold {σ : Type} (E : σ → Env) (go : σ → Bool) (step : σ → σ) (μ : σ → Nat) (I : σ → Prop) {c : Env → W → R D} {b : Env → W → R Fl} {w : W}
    (hc : ∀ s, I s → c (E s) w = .ok (.bl (go s)) w) (hb : ∀ s, I s → go s = true → b (E s) w = .ok (.next (E (step s))) w ∧ I (step s) ∧ μ (step s) < μ s) :
    ∀ (n : Nat) (s : σ), μ s = n → I s → ∃ s', I s' ∧ go s' = false ∧ whileL c b (E s) w = .ok (.next (E s')) w := by
  have key : ∀ (n : Nat) (s : σ), μ s ≤ n → I s → ∃ s', I s' ∧ go s' = false ∧ whileN c b (n + 1) (E s) w = .ok (.next (E s')) w := by
    intro n
    induction n with
    | zero =>
      intro s hs i
      cases hg : go s with
      | true => obtain ⟨_, _, h3⟩ := hb s i hg; omega
      | false => exact ⟨s, i, hg, by rw [whileN, hc s i, hg]; rfl⟩
    | succ n ih =>
      intro s hs i
      cases hg : go s with
      | false => exact ⟨s, i, hg, by rw [whileN, hc s i, hg]; rfl⟩
      | true =>
        obtain ⟨h1, h2, h3⟩ := hb s i hg
        obtain ⟨s', i', g', e'⟩ := ih (step s) (by omega) h2
        refine ⟨s', i', g', ?_⟩
        rw [whileN, hc s i, hg]
        simp only [R.bind_ok, cond_true]
        rw [h1]
        simp only [turnS_next]
        exact e'
  intro n s hs i
  obtain ⟨s', i', g', e'⟩ := key n s (by omega) i
  exact ⟨s', i', g', whileL_of e' (by simp)⟩
end Rp
end

section
set_option linter.all false
set_option maxRecDepth 100000
/-! RpEv3: loops and comprehensions whose turns change the draws' state; lists. -/
namespace Rp
inductive All2 {α β : Type} (Q : α → β → Prop) : List α → List β → Prop where
  | nil : All2 Q [] []
  | cons {x : α} {y : β} {xs : List α} {ys : List β} : Q x y → All2 Q xs ys → All2 Q (x :: xs) (y :: ys)
theorem All2.length {α β : Type} {Q : α → β → Prop} : ∀ {xs : List α} {ys : List β}, All2 Q xs ys → ys.length = xs.length
  | _, _, .nil => rfl
  | _, _, .cons _ h => by simp [h.length]
theorem All2.right {α β : Type} {Q : α → β → Prop} : ∀ {xs : List α} {ys : List β}, All2 Q xs ys → ∀ y ∈ ys, ∃ x ∈ xs, Q x y
  | _, _, .nil, y, h => by cases h
  | _, _, .cons (x := a) (xs := as) q h, y, hy => by
    rcases List.mem_cons.mp hy with e | e
    · subst e; exact ⟨a, List.mem_cons_self, q⟩
    · obtain ⟨x, h1, h2⟩ := h.right y e
      exact ⟨x, List.mem_cons_of_mem _ h1, h2⟩
theorem All2.left {α β : Type} {Q : α → β → Prop} : ∀ {xs : List α} {ys : List β}, All2 Q xs ys → ∀ x ∈ xs, ∃ y ∈ ys, Q x y
  | _, _, .nil, y, h => by cases h
  | _, _, .cons (y := b) (ys := bs) q h, x, hy => by
    rcases List.mem_cons.mp hy with e | e
    · subst e; exact ⟨b, List.mem_cons_self, q⟩
    · obtain ⟨z, h1, h2⟩ := h.left x e
      exact ⟨z, List.mem_cons_of_mem _ h1, h2⟩
theorem forL_inv {σ α : Type} (E : σ → Env) (f : α → D) (b : D → Env → W → R Fl) (I : List α → σ → W → Prop)
    (h : ∀ x xs s w, I (x :: xs) s w → ∃ s' w', b (f x) (E s) w = .ok (.next (E s')) w' ∧ I xs s' w') :
    ∀ (xs : List α) (s : σ) (w : W), I xs s w → ∃ s' w', forL b (xs.map f) (E s) w = .ok (.next (E s')) w' ∧ I [] s' w'
  | [], s, w, i => ⟨s, w, rfl, i⟩
  | x :: xs, s, w, i => by
    obtain ⟨s1, w1, e1, i1⟩ := h x xs s w i
    obtain ⟨s2, w2, e2, i2⟩ := forL_inv E f b I h xs s1 w1 i1
    refine ⟨s2, w2, ?_, i2⟩
    rw [List.map_cons, forL, e1]
    exact e2
theorem mapL_inv {α β : Type} (F : D → W → R D) (f : α → D) (g : β → D) (I : List α → W → Prop) (Q : α → β → Prop)
    (h : ∀ x xs w, I (x :: xs) w → ∃ y w', F (f x) w = .ok (g y) w' ∧ Q x y ∧ I xs w') :
    ∀ (xs : List α) (w : W), I xs w → ∃ ys w', mapL F (xs.map f) w = .ok (ys.map g) w' ∧ All2 Q xs ys ∧ I [] w'
  | [], w, i => ⟨[], w, rfl, .nil, i⟩
  | x :: xs, w, i => by
    obtain ⟨y, w1, e1, q1, i1⟩ := h x xs w i
    obtain ⟨ys, w2, e2, q2, i2⟩ := mapL_inv F f g I Q h xs w1 i1
    refine ⟨y :: ys, w2, ?_, .cons q1 q2, i2⟩
    rw [List.map_cons, mapL, e1]
    simp only [R.bind_ok]
    rw [e2]
    rfl
theorem while_inv {σ : Type} (E : σ → Env) (go : σ → Bool) (μ : σ → Nat) (I : σ → W → Prop) {c : Env → W → R D} {b : Env → W → R Fl}
    (hc : ∀ s w, I s w → c (E s) w = .ok (.bl (go s)) w) (hb : ∀ s w, I s w → go s = true → ∃ s' w', b (E s) w = .ok (.next (E s')) w' ∧ I s' w' ∧ μ s' < μ s) :
    ∀ (s : σ) (w : W), I s w → ∃ s' w', I s' w' ∧ go s' = false ∧ whileL c b (E s) w = .ok (.next (E s')) w' := by
  have key : ∀ (n : Nat) (s : σ) (w : W), μ s ≤ n → I s w → ∃ s' w', I s' w' ∧ go s' = false ∧ whileN c b (n + 1) (E s) w = .ok (.next (E s')) w' := by
    intro n
    induction n with
    | zero =>
      intro s w hs i
      cases hg : go s with
      | true => obtain ⟨_, _, _, _, h3⟩ := hb s w i hg; omega
      | false => exact ⟨s, w, i, hg, by rw [whileN, hc s w i, hg]; rfl⟩
    | succ n ih =>
      intro s w hs i
      cases hg : go s with
      | false => exact ⟨s, w, i, hg, by rw [whileN, hc s w i, hg]; rfl⟩
      | true =>
        obtain ⟨s1, w1, h1, h2, h3⟩ := hb s w i hg
        obtain ⟨s', w', i', g', e'⟩ := ih s1 w1 (by omega) h2
        refine ⟨s', w', i', g', ?_⟩
        rw [whileN, hc s w i, hg]
        simp only [R.bind_ok, cond_true]
        rw [h1]
        simp only [turnS_next]
        exact e'
  intro s w i
  obtain ⟨s', w', i', g', e'⟩ := key (μ s) s w (Nat.le_refl _) i
  exact ⟨s', w', i', g', whileL_of e' (by simp)⟩
theorem whileL_no {c : Env → W → R D} {b : Env → W → R Fl} {env : Env} {w : W} (h : c env w = .ok (.bl false) w) : whileL c b env w = .ok (.next env) w := by
  refine whileL_of (n := 1) ?_ (by simp)
  rw [whileN, h]
  rfl
theorem le_line {n : Nat} (h : n ≤ 1000) : n ≤ LINE := by unfold LINE; omega
theorem appD_ok {xs : List D} {v : D} (h : xs.length ≤ 1000) : appD (.lst xs) v = some (.lst (xs ++ [v])) := by
  have : xs.length < LINE := by unfold LINE; omega
  unfold appD
  exact if_pos this
theorem fits_ok {xs : List D} {w : W} (h : xs.length ≤ 1000) : fits xs w = .ok (.lst xs) w := fits_of (le_line h)
theorem dInts_one (n : Nat) : dInts 1 n = (List.range n).map fun i => .int ((i + 1 : Nat) : Int) := by
  rw [dInts_eq]
  apply List.map_congr_left
  intro i _
  simp only [D.int.injEq]
  omega
theorem range_ok {n : Nat} (h : n ≤ 1000) : rangeL (.int 0) (.int n) = some ((List.range n).map fun i => .int (i : Nat)) := by
  have h1 : (-4611686018427387904 : Int) ≤ 0 ∧ (0 : Int) < 4611686018427387904 ∧ (-4611686018427387904 : Int) ≤ (n : Int) ∧ (n : Int) < 4611686018427387904 := by omega
  have h2 : ((n : Int) - 0).toNat = n := by omega
  simp only [rangeL]
  rw [if_pos h1, h2, dInts_eq]
  congr 1
  apply List.map_congr_left
  intro i _
  simp
theorem range1_ok {n : Nat} (h : n ≤ 1000) : rangeL (.int 1) (.int n) = some ((List.range (n - 1)).map fun i => .int ((i + 1 : Nat) : Int)) := by
  have h1 : (-4611686018427387904 : Int) ≤ 1 ∧ (1 : Int) < 4611686018427387904 ∧ (-4611686018427387904 : Int) ≤ (n : Int) ∧ (n : Int) < 4611686018427387904 := by omega
  have h2 : ((n : Int) - 1).toNat = n - 1 := by omega
  simp only [rangeL]
  rw [if_pos h1, h2, dInts_one]
theorem evi_r0 {C : Cl} {b : E} {env : Env} {w w' : W} {n : Nat} (e : evE C b env w = .ok (.int n) w') (h : n ≤ 1000) : evI C (.range (.c (.int 0)) b) env w = .ok ((List.range n).map fun i => .int (i : Nat)) w' := by
  rw [evi_range, ev_c, R.bind_ok, e, R.bind_ok, range_ok h, lift_some]
theorem evi_r1 {C : Cl} {b : E} {env : Env} {w w' : W} {n : Nat} (e : evE C b env w = .ok (.int n) w') (h : n ≤ 1000) : evI C (.range (.c (.int 1)) b) env w = .ok ((List.range (n - 1)).map fun i => .int ((i + 1 : Nat) : Int)) w' := by
  rw [evi_range, ev_c, R.bind_ok, e, R.bind_ok, range1_ok h, lift_some]
def inB {β : Type} (p : Pat) (x : D) (env : Env) (f : Env → R β) : R β := match bindP p x env with | some e => f e | none => .no
@[simp] theorem inB_n {β : Type} (i : Nat) (x : D) (env : Env) (f : Env → R β) : inB (.n i) x env f = f (env.set i (some x)) := by simp [inB]
theorem inB_t {β : Type} (is : List Nat) (ds : List D) (env : Env) (f : Env → R β) (h : ds.length = is.length) : inB (.t is) (.tup ds) env f = f (setAll env is ds) := by simp [inB, bindP, h]
theorem ev_comp_of {C : Cl} {p : Pat} {it : It} {e : E} {env : Env} {w w1 w2 : W} {xs ys : List D} (h1 : evI C it env w = .ok xs w1) (h2 : mapL (fun x w => inB p x env fun env => evE C e env w) xs w1 = .ok ys w2) (h : ys.length ≤ 1000) : evE C (.comp p it e) env w = .ok (.lst ys) w2 := by
  have h3 := (congrArg (fun r => R.bind r fun ys w => fits ys w) h2).trans ((R.bind_ok _ _ _).trans (fits_ok h))
  rw [ev_comp, h1, R.bind_ok]
  exact h3
theorem ev_compIf_of {C : Cl} {p : Pat} {it : It} {c e : E} {env : Env} {w w1 w2 : W} {xs ys : List D} (h1 : evI C it env w = .ok xs w1) (h2 : filtL (fun x w => inB p x env fun env => (evE C c env w).bind fun t w => cond t ((evE C e env w).bind fun y w => .ok (some y) w) (.ok none w)) xs w1 = .ok ys w2) (h : ys.length ≤ 1000) : evE C (.compIf p it c e) env w = .ok (.lst ys) w2 := by
  have h3 := (congrArg (fun r => R.bind r fun ys w => fits ys w) h2).trans ((R.bind_ok _ _ _).trans (fits_ok h))
  rw [ev_compIf, h1, R.bind_ok]
  exact h3
theorem ev_comp2_of {C : Cl} {p : Pat} {it : It} {q : Pat} {jt : It} {e : E} {env : Env} {w w1 w2 : W} {xs ys : List D} (h1 : evI C it env w = .ok xs w1) (h2 : catL (fun x w => inB p x (kill env q.is) fun env => (evI C jt env w).bind fun zs w => mapL (fun z w => inB q z env fun env => evE C e env w) zs w) xs w1 = .ok ys w2) (h : ys.length ≤ 1000) : evE C (.comp2 p it q jt e) env w = .ok (.lst ys) w2 := by
  have h3 := (congrArg (fun r => R.bind r fun ys w => fits ys w) h2).trans ((R.bind_ok _ _ _).trans (fits_ok h))
  rw [ev_comp2, h1, R.bind_ok]
  exact h3
theorem ex_for_of {C : Cl} {p : Pat} {it : It} {b : List S} {env : Env} {w w1 : W} {xs : List D} {r : R Fl} (h1 : evI C it env w = .ok xs w1) (h2 : forL (fun x env w => inB p x env fun env => exSs C b env w) xs env w1 = r) : exS C (.for p it b) env w = r := by
  rw [ex_for, h1, R.bind_ok]
  exact h2
theorem catL_ok {α : Type} (F : D → W → R (List D)) (f : α → D) (g : α → List D) (w : W) : ∀ (xs : List α), (∀ x ∈ xs, F (f x) w = .ok (g x) w) → catL F (xs.map f) w = .ok ((xs.map g).flatten) w
  | [], _ => rfl
  | x :: xs, h => by
    rw [List.map_cons, catL, h x List.mem_cons_self]
    simp only [R.bind_ok]
    rw [catL_ok F f g w xs fun y hy => h y (List.mem_cons_of_mem _ hy)]
    rfl
theorem filter_no {α : Type} (xs : List α) : xs.filter (fun _ => false) = [] := by
  induction xs with
  | nil => rfl
  | cons x xs ih => simp [List.filter_cons, ih]
end Rp
end

section
set_option linter.all false
set_option maxRecDepth 100000
namespace Lw
open Rp
/-! ### data -/
structure Dr where
  n : Nat
  a : Int
  f : Nat
  b : Int
  deriving DecidableEq
instance : Inhabited Dr := ⟨⟨0, 0, 0, 0⟩⟩
def Dr.flip (d : Dr) : Dr := ⟨d.f, d.b, d.n, d.a⟩
def dr (d : Dr) : D := .tup [.int d.n, .int d.a, .int d.f, .int d.b]
def drs (ds : List Dr) : D := .tup (ds.map dr)
def hs (R : Nat) (ds : List Dr) : D := .obj "House" [("rooms", .int R), ("doors", drs ds)]
/-- a step: the door's place, its side -/
structure Sp where
  i : Nat
  s : Bool
  deriving DecidableEq
def st (s : Sp) : D := .tup [.int s.i, .int (if s.s then 1 else 0)]
def gt (ds : List Dr) (s : Sp) : Dr := if s.s then (ds.getD s.i default).flip else ds.getD s.i default
def sts (p : List Sp) : D := .tup (p.map st)
def tI (xs : List Int) : D := .tup (xs.map D.int)
/-- what is asked of a house's doors -/
structure Ok (R : Nat) (ds : List Dr) : Prop where
  r1 : 1 ≤ R
  r12 : R ≤ 12
  len : ds.length ≤ 20
  d : ∀ d ∈ ds, d.n < R ∧ d.f < R ∧ d.a ≠ 0 ∧ d.b ≠ 0 ∧ -999 ≤ d.a ∧ d.a ≤ 999 ∧ -999 ≤ d.b ∧ d.b ≤ 999
theorem Ok.gt {R : Nat} {ds : List Dr} (o : Ok R ds) {s : Sp} (h : s.i < ds.length) : (gt ds s).n < R ∧ (gt ds s).f < R ∧ (gt ds s).a ≠ 0 ∧ (gt ds s).b ≠ 0 ∧ -999 ≤ (gt ds s).a ∧ (gt ds s).a ≤ 999 ∧ -999 ≤ (gt ds s).b ∧ (gt ds s).b ≤ 999 := by
  have hm : ds.getD s.i default ∈ ds := by
    simp only [List.getD, List.getElem?_eq_getElem h, Option.getD_some]
    exact List.getElem_mem h
  obtain ⟨h1, h2, h3, h4, h5, h6, h7, h8⟩ := o.d _ hm
  unfold Lw.gt
  cases s.s
  · exact ⟨h1, h2, h3, h4, h5, h6, h7, h8⟩
  · exact ⟨h2, h1, h4, h3, h7, h8, h5, h6⟩

/-! ### small defs -/
section
variable {k : Nat} {w : W}
theorem s_is_number (i : Int) : callN P (k + 1) "is_number" [.int i] w = .ok (.bl true) w := by
  rw [call_def (fn := f_is_number) rfl rfl _ _ _ rfl]
  simp [f_is_number, start, isiD]
theorem s_is_below (i n : Int) (h0 : 0 ≤ i) (h1 : i < n) : callN P (k + 2) "is_below" [.int i, .int n] w = .ok (.bl true) w := by
  rw [call_def (fn := f_is_below) rfl rfl _ _ _ rfl]
  simp [f_is_below, start, s_is_number, cmpD, h0, h1]
theorem s_reverses (a b c d : Int) : callN P (k + 1) "reverses" [.tup [.int a, .int b], .tup [.int c, .int d]] w = .ok (.bl (decide (c = a) && decide (d = 1 - b))) w := by
  rw [call_def (fn := f_reverses) rfl rfl _ _ _ rfl]
  have : ∀ x y : Int, (x == y) = decide (x = y) := fun x y => by
    by_cases h : x = y <;> simp [h]
  simp [f_reverses, start, cmpD, ixD, atI, ixN, binD, D.eqO, D.pl, plAll, D.dep, depAll, D.eqv, eqvAll, this]
theorem s_need_house (R : Nat) (ds : List Dr) : callN P (k + 1) "need_house" [hs R ds] w = .ok .non w := by
  rw [call_def (fn := f_need_house) rfl rfl _ _ _ rfl]
  simp [f_need_house, start, isiD, hs]
theorem ix_dr {ds : List Dr} {i : Nat} (h : i < ds.length) : ixD (drs ds) (.int i) = some (dr (ds.getD i default)) := by
  unfold drs
  refine atI_nat ?_
  rw [List.getElem?_map, List.getElem?_eq_getElem h]
  simp [List.getD, h]
@[simp] theorem fld_doors (R : Nat) (ds : List Dr) : fldD (hs R ds) "doors" = some (drs ds) := rfl
@[simp] theorem fld_rooms (R : Nat) (ds : List Dr) : fldD (hs R ds) "rooms" = some (.int R) := rfl
@[simp] theorem st0 (s : Sp) : ixD (st s) (.int 0) = some (.int s.i) := by simp [st]
@[simp] theorem st1 (s : Sp) : ixD (st s) (.int 1) = some (.int (if s.s then 1 else 0)) := by simp [st]
@[simp] theorem dr0 (d : Dr) : ixD (dr d) (.int 0) = some (.int d.n) := by simp [dr]
@[simp] theorem dr1 (d : Dr) : ixD (dr d) (.int 1) = some (.int d.a) := by simp [dr]
@[simp] theorem dr2 (d : Dr) : ixD (dr d) (.int 2) = some (.int d.f) := by simp [dr]
@[simp] theorem dr3 (d : Dr) : ixD (dr d) (.int 3) = some (.int d.b) := by simp [dr]
@[simp] theorem dr_u (d : Dr) : uItems (dr d) = some [.int d.n, .int d.a, .int d.f, .int d.b] := rfl
theorem s_gate_of {R : Nat} {ds : List Dr} {s : Sp} (h : s.i < ds.length) : callN P (k + 1) "gate_of" [hs R ds, st s] w = .ok (dr (gt ds s)) w := by
  rw [call_def (fn := f_gate_of) rfl rfl _ _ _ rfl]
  cases hs : s.s <;> simp [f_gate_of, start, ix_dr h, hs, gt, Dr.flip] <;> rfl
theorem s_law_gate {ds : List Dr} {s : Sp} (h : s.i < ds.length) : callN P (k + 1) "_law_gate" [drs ds, st s] w = .ok (dr (gt ds s)) w := by
  rw [call_def (fn := f_law_gate) rfl rfl _ _ _ rfl]
  cases hs : s.s <;> simp [f_law_gate, start, ix_dr h, hs, gt, Dr.flip] <;> rfl
end
end Lw
end

section
set_option linter.all false
set_option maxRecDepth 100000
namespace Lw
open Rp
/-! ### walks -/
def Walk (ds : List Dr) : Nat → List Sp → Prop
  | _, [] => True
  | x, s :: p => s.i < ds.length ∧ (gt ds s).n = x ∧ Walk ds (gt ds s).f p
def wk (x : Nat) (us : List Int) (p : List Sp) : D := .tup [.int x, tI us, sts p]
section
variable {k : Nat} {w : W} {R : Nat} {ds : List Dr}
theorem len_drs : (match drs ds with | .tup xs => xs.length | _ => 0) = ds.length := by simp [drs]
theorem bi_len_drs : biD .len [drs ds] = some (.int ds.length) := by simp [drs]
theorem s_is_pass {s : Sp} (h : s.i < ds.length) : callN P (k + 3) "is_pass" [hs R ds, st s] w = .ok (.bl true) w := by
  rw [call_def (fn := f_is_pass) rfl rfl _ _ _ rfl]
  have e1 : isiD (st s) .tuple = some true := rfl
  have e2 : biD .len [st s] = some (.int 2) := rfl
  have e3 : ∀ w, callN P (k + 2) "is_below" [.int s.i, .int ds.length] w = .ok (.bl true) w := fun w => s_is_below _ _ (by omega) (by omega)
  have e4 : ∀ w, callN P (k + 2) "is_below" [.int (if s.s then 1 else 0), .int 2] w = .ok (.bl true) w := fun w => by cases s.s <;> exact s_is_below _ _ (by decide) (by decide)
  simp [f_is_pass, start, e1, e2, bi_len_drs, e3, e4]
theorem l_are_steps {x : Nat} {p : List Sp} (h : Walk ds x p) : exS (callN P (k + 3)) f_are_steps_l1 [some (hs R ds), some (.int x), some (sts p), some (.int x), none] w =
    .ok (.next [some (hs R ds), some (.int x), some (sts p), some (.int ((p.foldl (fun _ s => (gt ds s).f) x : Nat) : Int)), none]) w := by
  rw [f_are_steps_l1, ex_for]
  simp only [evi_seq, ev_v, look_zero, look_succ, lift_some, Rp.R.bind_ok, sts, items_tup]
  exact forL_fold (fun here : Nat => [some (hs R ds), some (.int x), some (sts p), some (.int here), none]) st (fun _ s => (gt ds s).f) _ w (fun q here => Walk ds here q) (fun s q here hw => by
      obtain ⟨h1, h2, h3⟩ := hw
      refine ⟨?_, h3⟩
      simp [s_is_pass h1, s_gate_of h1, h2]) p x h
theorem s_are_steps {x : Nat} {p : List Sp} (h : Walk ds x p) : callN P (k + 4) "are_steps" [hs R ds, .int x, sts p] w = .ok (.bl true) w := by
  rw [call_def (fn := f_are_steps) rfl rfl _ _ _ rfl]
  have e1 : isiD (sts p) .tuple = some true := rfl
  simp [f_are_steps, start, e1, l_are_steps h]
theorem s_are_numbers (us : List Int) (h : us.length ≤ LINE) : callN P (k + 2) "are_numbers" [tI us] w = .ok (.bl true) w := by
  rw [call_def (fn := f_are_numbers) rfl rfl _ _ _ rfl]
  have e1 : isiD (tI us) .tuple = some true := rfl
  have c1 : ∀ w, evE (callN P (k + 1)) f_are_numbers_c1 [some (tI us), none] w = .ok (.lst (us.map fun _ => .bl true)) w := fun w => by
    rw [f_are_numbers_c1, ev_comp]
    simp only [evi_seq, ev_v, look_zero, lift_some, Rp.R.bind_ok, tI, items_tup]
    rw [mapL_ok _ D.int (fun _ => .bl true) w us (fun i _ => by simp [s_is_number])]
    simp [fits, h]
  simp [f_are_numbers, start, e1, c1, biD, isBls_map, bls_map]
theorem s_is_walk_of {x : Nat} {us : List Int} {p : List Sp} (hx : x < R) (hp : Walk ds x p) (hl : us.length = p.length + 1) (hL : us.length ≤ LINE) : callN P (k + 5) "is_walk_of" [hs R ds, wk x us p] w = .ok (.bl true) w := by
  rw [call_def (fn := f_is_walk_of) rfl rfl _ _ _ rfl]
  have e1 : isiD (wk x us p) .tuple = some true := rfl
  have e2 : biD .len [wk x us p] = some (.int 3) := rfl
  have e3 : ∀ w, callN P (k + 4) "is_below" [.int x, .int R] w = .ok (.bl true) w := fun w => s_is_below (k := k + 2) _ _ (by omega) (by omega)
  have e4 : ixD (wk x us p) (.int 0) = some (.int x) := by simp [wk]
  have e5 : uItems (wk x us p) = some [.int x, tI us, sts p] := rfl
  have e6 : ∀ w, callN P (k + 4) "are_numbers" [tI us] w = .ok (.bl true) w := fun w => s_are_numbers (k := k + 2) us hL
  have e7 : ∀ w, callN P (k + 4) "are_steps" [hs R ds, .int x, sts p] w = .ok (.bl true) w := fun w => s_are_steps hp
  have e8 : biD .len [tI us] = some (.int us.length) := by simp [tI]
  have e9 : biD .len [sts p] = some (.int p.length) := by simp [sts]
  simp [f_is_walk_of, start, e1, e2, e3, e4, e5, e6, e7, e8, e9]
  omega
theorem s_need_walk {x : Nat} {us : List Int} {p : List Sp} (hx : x < R) (hp : Walk ds x p) (hl : us.length = p.length + 1) (hL : us.length ≤ LINE) : callN P (k + 6) "need_walk" [hs R ds, wk x us p] w = .ok .non w := by
  rw [call_def (fn := f_need_walk) rfl rfl _ _ _ rfl]
  simp [f_need_walk, start, s_is_walk_of hx hp hl hL]
end
end Lw
end

section
set_option linter.all false
set_option maxRecDepth 100000
set_option exponentiation.threshold 20000
namespace Lw
open Rp
/-! ### forms -/
theorem ix_sts {p : List Sp} {i : Nat} (h : i < p.length) : ixD (sts p) (.int i) = some (st p[i]) := by
  unfold sts
  exact atI_nat (by rw [List.getElem?_map, List.getElem?_eq_getElem h]; rfl)
theorem ix_sts1 {p : List Sp} {i : Nat} (h : i + 1 < p.length) : ixD (sts p) (.int ((i : Int) + 1)) = some (st p[i + 1]) := ix_sts (i := i + 1) h
theorem ix_tI {us : List Int} {i : Nat} (h : i < us.length) : ixD (tI us) (.int i) = some (.int us[i]) := by
  unfold tI
  exact atI_nat (by rw [List.getElem?_map, List.getElem?_eq_getElem h]; rfl)
theorem ix_tI1 {us : List Int} {i : Nat} (h : i + 1 < us.length) : ixD (tI us) (.int ((i : Int) + 1)) = some (.int us[i + 1]) := ix_tI (i := i + 1) h
@[simp] theorem wk0 (x : Nat) (us : List Int) (p : List Sp) : ixD (wk x us p) (.int 0) = some (.int x) := by simp [wk]
@[simp] theorem wk1 (x : Nat) (us : List Int) (p : List Sp) : ixD (wk x us p) (.int 1) = some (tI us) := by simp [wk]
@[simp] theorem wk2 (x : Nat) (us : List Int) (p : List Sp) : ixD (wk x us p) (.int 2) = some (sts p) := by simp [wk]
@[simp] theorem len_sts (p : List Sp) : biD .len [sts p] = some (.int p.length) := by simp [sts]
@[simp] theorem len_tI (us : List Int) : biD .len [tI us] = some (.int us.length) := by simp [tI]
/-- two steps that turn back -/
def tb (p : List Sp) (i : Nat) : Bool := match p[i]?, p[i + 1]? with
  | some a, some b => decide (b.i = a.i) && (b.s == !a.s)
  | _, _ => false
/-- all steps stand on doors -/
def On (ds : List Dr) (p : List Sp) : Prop := ∀ s ∈ p, s.i < ds.length
section
variable {k : Nat} {w : W} {R : Nat} {ds : List Dr}
theorem Walk.on : ∀ {p : List Sp} {x : Nat}, Walk ds x p → On ds p
  | [], _, _ => fun s h => by cases h
  | s :: p, x, h => fun t ht => by
    rcases List.mem_cons.mp ht with e | e
    · subst e; exact h.1
    · exact Walk.on h.2.2 t e
theorem bits999 {b : Int} (h : b.natAbs ≤ 999) : bits b ≤ 9000 := by
  unfold bits
  have : b.natAbs.log2 ≤ 999 := by
    by_cases h0 : b.natAbs = 0
    · rw [h0]; decide
    · have := Nat.log2_lt h0 (k := 1000) |>.mpr (Nat.lt_of_le_of_lt h (Nat.lt_of_lt_of_le (by decide : 999 < 2 ^ 10) (Nat.pow_le_pow_right (by decide) (by decide))))
      omega
  omega
theorem s_is_multiple (u b : Int) (hb : b ≠ 0) (h9 : b.natAbs ≤ 999) : callN P (k + 1) "is_multiple" [.int u, .int b] w = .ok (.bl (u - u.fdiv b * b == 0)) w := by
  rw [call_def (fn := f_is_multiple) rfl rfl _ _ _ rfl]
  simp [f_is_multiple, start, b_fdiv hb (bits999 h9), b_mul (mul_r (u.fdiv b) (b := b) (by omega))]
theorem s_turns_back {x : Nat} {us : List Int} {p : List Sp} {i : Nat} (h : i + 1 < p.length) : callN P (k + 2) "turns_back" [wk x us p, .int i] w = .ok (.bl (tb p i)) w := by
  rw [call_def (fn := f_turns_back) rfl rfl _ _ _ rfl]
  have h0 : (0 : Int) ≤ i := by omega
  have h1 : (i : Int) < (p.length : Int) - 1 := by omega
  have hi : i < p.length := by omega
  have e : ∀ w, callN P (k + 1) "reverses" [st p[i], st p[i + 1]] w = .ok (.bl (tb p i)) w := fun w => by
    unfold st
    rw [s_reverses]
    unfold tb
    rw [List.getElem?_eq_getElem hi, List.getElem?_eq_getElem h]
    congr 2
    by_cases c : p[i + 1].i = p[i].i
    · have c2 : ((p[i + 1].i : Nat) : Int) = (p[i].i : Nat) := by omega
      cases ha : p[i].s <;> cases hb : p[i + 1].s <;> simp [c, ha, hb]
    · have c2 : ¬ ((p[i + 1].i : Nat) : Int) = (p[i].i : Nat) := by omega
      simp [c, c2]
  simp [f_turns_back, start, h0, h1, ix_sts hi, ix_sts1 h, e]
/-- how often a pull fits -/
def tf (a u : Int) : Int := (u - (u - u.fdiv a.natAbs * a.natAbs)).fdiv a
theorem s_times_to_fit {x : Nat} {us : List Int} {p : List Sp} {i : Nat} (o : Ok R ds) (hon : On ds p) (h : i < p.length) (hu : i < us.length) :
    callN P (k + 2) "times_to_fit" [hs R ds, wk x us p, .int i] w = .ok (.int (tf (gt ds p[i]).a us[i])) w := by
  rw [call_def (fn := f_times_to_fit) rfl rfl _ _ _ rfl]
  have hd := hon _ (List.getElem_mem h)
  obtain ⟨_, _, ha, _, h1, h2, _, _⟩ := o.gt hd
  have hg : ∀ w, callN P (k + 1) "gate_of" [hs R ds, st p[i]] w = .ok (dr (gt ds p[i])) w := fun w => s_gate_of hd
  have n1 : ((gt ds p[i]).a.natAbs : Int) ≠ 0 := by omega
  have n2 : bits ((gt ds p[i]).a.natAbs : Int) ≤ 9000 := bits999 (by omega)
  have n3 : bits (gt ds p[i]).a ≤ 9000 := bits999 (by omega)
  have m1 : binD .mul (.int (us[i].fdiv (gt ds p[i]).a.natAbs)) (.int (gt ds p[i]).a.natAbs) = some (.int (us[i].fdiv (gt ds p[i]).a.natAbs * (gt ds p[i]).a.natAbs)) := b_mul (mul_r _ (by omega))
  simp [f_times_to_fit, start, ix_sts h, ix_tI hu, hg, b_fdiv n1 n2, m1, b_fdiv ha n3, tf]
/-- the pulls behind a carry -/
def carryL (g : Dr) (us : List Int) (i : Nat) (t : Int) : List Int := let vs := us.set i (us.getD i 0 - g.a * t); vs.set (i + 1) (vs.getD (i + 1) 0 + g.b * t)
theorem s_carry {x : Nat} {us : List Int} {p : List Sp} {i : Nat} {t : Int} (o : Ok R ds) (hon : On ds p) (h : i < p.length) (hu : us.length = p.length + 1) :
    callN P (k + 2) "carry" [hs R ds, wk x us p, .int i, .int t] w = .ok (wk x (carryL (gt ds p[i]) us i t) p) w := by
  rw [call_def (fn := f_carry) rfl rfl _ _ _ rfl]
  have hd := hon _ (List.getElem_mem h)
  obtain ⟨_, _, ha, _, h1, h2, h3, h4⟩ := o.gt hd
  have hg : ∀ w, callN P (k + 1) "gate_of" [hs R ds, st p[i]] w = .ok (dr (gt ds p[i])) w := fun w => s_gate_of hd
  have m1 : binD .mul (.int (gt ds p[i]).a) (.int t) = some (.int ((gt ds p[i]).a * t)) := b_mul (mul_l _ (by omega))
  have m2 : binD .mul (.int (gt ds p[i]).b) (.int t) = some (.int ((gt ds p[i]).b * t)) := b_mul (mul_l _ (by omega))
  have l1 : biD .list [tI us] = some (.lst (us.map D.int)) := by simp [tI]
  have e1 : ∀ (vs : List Int) (j : Nat) (hj : j < vs.length), ixD (.lst (vs.map D.int)) (.int j) = some (.int vs[j]) := fun vs j hj => by
    exact atI_nat (by rw [List.getElem?_map, List.getElem?_eq_getElem hj]; rfl)
  have s1 : ∀ (vs : List Int) (j : Nat) (y : Int), j < vs.length → setD (.lst (vs.map D.int)) (.int j) (.int y) = some (.lst ((vs.set j y).map D.int)) := fun vs j y hj => by
    have : ixN (vs.map D.int).length (j : Int) = some j := ixN_nat (by simpa using hj)
    simp only [setD, this, Option.map_some, List.map_set]
  have hi : i < us.length := by omega
  have hi1 : i + 1 < us.length := by omega
  have hs2 : i + 1 < (us.set i (us[i] - (gt ds p[i]).a * t)).length := by rw [List.length_set]; exact hi1
  have e2 : ixD (.lst ((us.set i (us[i] - (gt ds p[i]).a * t)).map D.int)) (.int ((i : Int) + 1)) = some (.int (us.set i (us[i] - (gt ds p[i]).a * t))[i + 1]) := e1 _ (i + 1) hs2
  have s2 : ∀ y, setD (.lst ((us.set i (us[i] - (gt ds p[i]).a * t)).map D.int)) (.int ((i : Int) + 1)) (.int y) = some (.lst (((us.set i (us[i] - (gt ds p[i]).a * t)).set (i + 1) y).map D.int)) := fun y => s1 _ (i + 1) y hs2
  simp only [f_carry, start, List.map_cons, List.map_nil, List.length_cons, List.length_nil, exs_cons, exs_nil, ex_unpack, ex_asgO, ex_setix, ex_ret, ev_call, evs_cons, evs_nil, ev_v, ev_ix, ev_c, ev_bi, ev_bin, ev_tup, List.cons_append, List.nil_append, List.replicate, Nat.reduceAdd, Nat.reduceSub, List.set_cons_zero, List.set_cons_succ, look_zero, look_succ, lift_some, Rp.R.bind_ok, wk0, wk1, wk2,
    ix_sts h, hg, dr_u, if_true, setAll_cons, setAll_nil, thenS_next, l1, isMut, e1 us i hi, m1, m2, b_sub, b_add, s1 us i _ hi, e2, s2, bi_tuple_lst, thenS_ret, endD_ret]
  simp only [wk, tI, carryL]
  simp [List.getD, hi, hi1, List.getElem?_set]
end
end Lw
end

section
set_option linter.all false
set_option maxRecDepth 100000
namespace Lw
open Rp
/-- nothing is to be shortened -/
def Firm (ds : List Dr) (p : List Sp) (us : List Int) : Prop := ∀ i (h : i + 1 < p.length) (h2 : i + 1 < us.length), tb p i = true → (us[i + 1] - us[i + 1].fdiv (gt ds p[i]).b * (gt ds p[i]).b == 0) = false
def mvD (i : Nat) (t : Int) : D := .tup [.tup [.str "carry", .int i, .int t], .tup [.str "carry", .int i, .int (0 - t)]]
def fstep (ds : List Dr) (p : List Sp) (s : List Int × List D) (i : Nat) : List Int × List D :=
  let t := tf (gt ds (p.getD i ⟨0, false⟩)).a (s.1.getD i 0)
  if t = 0 then s else (carryL (gt ds (p.getD i ⟨0, false⟩)) s.1 i t, s.2 ++ [mvD i t])
section
variable {k : Nat} {w : W} {R : Nat} {ds : List Dr}
theorem carryL_len (g : Dr) (us : List Int) (i : Nat) (t : Int) : (carryL g us i t).length = us.length := by simp [carryL]
theorem s_spots_of {x : Nat} {us : List Int} {p : List Sp} (o : Ok R ds) (hon : On ds p) (hu : us.length = p.length + 1) (hL : us.length ≤ 1000) (hf : Firm ds p us) : callN P (k + 3) "spots_of" [hs R ds, wk x us p] w = .ok (.tup []) w := by
  rw [call_def (fn := f_spots_of) rfl rfl _ _ _ rfl]
  have hm : ((p.length : Int) - 1).toNat = p.length - 1 := by omega
  have c1 : ∀ w, evE (callN P (k + 2)) f_spots_of_c1 [some (hs R ds), some (wk x us p), none, none] w = .ok (.lst (((List.range (p.length - 1)).filter (tb p)).map fun i => .int (i : Nat))) w := fun w => by
    rw [f_spots_of_c1, ev_compIf]
    have hr : rangeL (.int 0) (.int ((p.length : Int) - 1)) = some ((List.range (p.length - 1)).map fun i => .int (i : Nat)) := by
      by_cases h0 : p.length = 0
      · rw [h0]; rfl
      · have : (p.length : Int) - 1 = ((p.length - 1 : Nat) : Int) := by omega
        rw [this]; exact range_ok (by omega)
    simp only [evi_range, ev_c, ev_bin, ev_bi, evs_cons, evs_nil, ev_ix, ev_v, look_zero, look_succ, lift_some, Rp.R.bind_ok, wk2, len_sts, b_sub, hr]
    rw [filtL_ok _ (fun i : Nat => .int (i : Nat)) (fun i => .int (i : Nat)) (tb p) w (List.range (p.length - 1)) (fun i hi => ?_)]
    · simp only [Rp.R.bind_ok]
      rw [fits_ok]
      have := List.length_filter_le (tb p) (List.range (p.length - 1))
      simp at this ⊢
      omega
    · have hi : i + 1 < p.length := by have := List.mem_range.mp hi; omega
      simp [s_turns_back hi]
      cases tb p i <;> simp
  have c2 : ∀ w, evE (callN P (k + 2)) f_spots_of_c2 [some (hs R ds), some (wk x us p), some (.lst (((List.range (p.length - 1)).filter (tb p)).map fun i => .int (i : Nat))), none] w = .ok (.lst []) w := fun w => by
    rw [f_spots_of_c2, ev_compIf]
    simp only [evi_seq, ev_v, look_zero, look_succ, lift_some, Rp.R.bind_ok, items_lst]
    rw [filtL_ok _ (fun i : Nat => .int (i : Nat)) (fun i => .int (i : Nat)) (fun _ => false) w _ (fun i hi => ?_)]
    · rw [filter_no]; rfl
    · obtain ⟨h1, h2⟩ := List.mem_filter.mp hi
      have hi : i + 1 < p.length := by have := List.mem_range.mp h1; omega
      have hi0 : i < p.length := by omega
      have hiu : i + 1 < us.length := by omega
      have hd := hon _ (List.getElem_mem hi0)
      obtain ⟨_, _, _, hb, _, _, h3, h4⟩ := o.gt hd
      have hg : ∀ w, callN P (k + 2) "gate_of" [hs R ds, st p[i]] w = .ok (dr (gt ds p[i])) w := fun w => s_gate_of hd
      have hmul : ∀ w, callN P (k + 2) "is_multiple" [.int us[i + 1], .int (gt ds p[i]).b] w = .ok (.bl false) w := fun w => by
        rw [s_is_multiple _ _ hb (by omega), hf i hi hiu h2]
      simp only [bindP_n, List.set_cons_zero, List.set_cons_succ, ev_call, evs_cons, evs_nil, ev_ix, ev_v, ev_bin, ev_c, look_zero, look_succ, lift_some, Rp.R.bind_ok, wk1, wk2, b_add, ix_tI1 hiu, ix_sts hi0, hg, dr3, hmul, Rp.cond_false]
      simp
  simp [f_spots_of, start, c1, c2]
theorem q_noc (C : Cl) (a b c : Option D) (w : W) : evE C (.cmp .ne (.v 3) (.c (.tup []))) [a, b, c, some (.tup []), none, none] w = .ok (.bl false) w := by
  simp [D.eqO, D.pl, plAll, D.dep, depAll, D.eqv, eqvAll]
theorem l_plain1 (C : Cl) (a b c : Option D) (w : W) : exS C f_plain_with_moves_l1 [a, b, c, some (.tup []), none, none] w = .ok (.next [a, b, c, some (.tup []), none, none]) w := by
  rw [f_plain_with_moves_l1, ex_while]
  exact whileL_no (q_noc C a b c w)
theorem l_plain2 {x : Nat} {us : List Int} {p : List Sp} (o : Ok R ds) (hon : On ds p) (hu : us.length = p.length + 1) (hL : us.length ≤ 1000) : exS (callN P (k + 3)) f_plain_with_moves_l2 [some (hs R ds), some (wk x us p), some (.lst []), some (.tup []), none, none] w =
    .ok (.next [some (hs R ds), some (wk x ((List.range p.length).foldl (fstep ds p) (us, [])).1 p), some (.lst ((List.range p.length).foldl (fstep ds p) (us, [])).2), some (.tup []), none, none]) w := by
  unfold f_plain_with_moves_l2
  refine ex_for_of (evi_r0 (n := p.length) (w' := w) (by simp) (by omega)) ?_
  refine forL_fold (fun s : List Int × List D => [some (hs R ds), some (wk x s.1 p), some (.lst s.2), some (.tup []), none, none]) (fun i : Nat => .int (i : Nat)) (fstep ds p) _ w
    (fun is s => s.1.length = p.length + 1 ∧ s.2.length + is.length ≤ p.length ∧ ∀ i ∈ is, i < p.length) (fun i is s hI => ?_) (List.range p.length) (us, []) ⟨hu, by simp, fun i hi => List.mem_range.mp hi⟩
  obtain ⟨i1, i2, i3⟩ := hI
  have hi : i < p.length := i3 i List.mem_cons_self
  have hiu : i < s.1.length := by omega
  have g1 : p.getD i ⟨0, false⟩ = p[i] := by simp [List.getD, hi]
  have g2 : s.1.getD i 0 = s.1[i] := by simp [List.getD, hiu]
  have ht : ∀ w, callN P (k + 3) "times_to_fit" [hs R ds, wk x s.1 p, .int i] w = .ok (.int (tf (gt ds p[i]).a s.1[i])) w := fun w => s_times_to_fit (k := k + 1) o hon hi hiu
  have hc : ∀ t w, callN P (k + 3) "carry" [hs R ds, wk x s.1 p, .int i, .int t] w = .ok (wk x (carryL (gt ds p[i]) s.1 i t) p) w := fun t w => s_carry (k := k + 1) o hon hi i1
  have hz : ∀ v, appD (.lst s.2) v = some (.lst (s.2 ++ [v])) := fun v => appD_ok (by simp only [List.length_cons] at i2; omega)
  unfold fstep
  rw [g1, g2]
  simp only [List.length_cons] at i2
  by_cases c : tf (gt ds p[i]).a s.1[i] = 0
  · refine ⟨?_, ?_⟩
    · simp [ht, c]
    · simp only [c, if_true]
      exact ⟨i1, by omega, fun j hj => i3 j (List.mem_cons_of_mem _ hj)⟩
  · refine ⟨?_, ?_⟩
    · have c2 : (tf (gt ds p[i]).a s.1[i] == 0) = false := by simp [c]
      simp [ht, c, c2, hc, hz, mvD]
    · simp only [c, if_false]
      exact ⟨by rw [carryL_len]; exact i1, by simp; omega, fun j hj => i3 j (List.mem_cons_of_mem _ hj)⟩
theorem s_plain_of {x : Nat} {us : List Int} {p : List Sp} (o : Ok R ds) (hon : On ds p) (hu : us.length = p.length + 1) (hL : us.length ≤ 1000) (hf : Firm ds p us) :
    callN P (k + 5) "plain_of" [hs R ds, wk x us p] w = .ok (wk x ((List.range p.length).foldl (fstep ds p) (us, [])).1 p) w := by
  rw [call_def (fn := f_plain_of) rfl rfl _ _ _ rfl]
  have e : ∀ w, callN P (k + 4) "plain_with_moves" [hs R ds, wk x us p] w = .ok (.tup [wk x ((List.range p.length).foldl (fstep ds p) (us, [])).1 p, .lst ((List.range p.length).foldl (fstep ds p) (us, [])).2]) w := fun w => by
    rw [call_def (fn := f_plain_with_moves) rfl rfl _ _ _ rfl]
    simp -implicitDefEqProofs only [f_plain_with_moves, start, List.map_cons, List.map_nil, List.length_cons, List.length_nil, exs_cons, exs_nil, ex_asgO, ex_asg, ex_ret, ev_call, ev_lst, evs_cons, evs_nil, ev_v, ev_tup, List.cons_append, List.nil_append, List.replicate, Nat.reduceAdd, Nat.reduceSub, List.set_cons_zero, List.set_cons_succ, look_zero, look_succ, lift_some, Rp.R.bind_ok, isMut, if_true, thenS_next, thenS_ret, endD_ret, s_spots_of (k := k) o hon hu hL hf, l_plain1, l_plain2 o hon hu hL, ex_kill, kill, ex_frz]
  simp -implicitDefEqProofs [f_plain_of, start, e]
end
end Lw
end

section
set_option linter.all false
set_option maxRecDepth 100000
set_option exponentiation.threshold 20000
namespace Rp
theorem ev_stg_of {C : Cl} {i : Nat} {k : String} {env : Env} {s : St} (h : look env i = some .tok) : evE C (.stg i k) env (some s) = lift (stGet s k) (some s) := by
  simp only [evE, h, lift_some, R.bind_ok]
theorem ev_gne_of {C : Cl} {i : Nat} {env : Env} {s : St} (h : look env i = some .tok) : evE C (.gne i) env (some s) = .ok (.bl (!s.great.isEmpty)) (some s) := by
  simp only [evE, h, lift_some, R.bind_ok]
theorem ev_gpop_of {C : Cl} {i : Nat} {env : Env} {s : St} {g : Int} {r : List Int} (h : look env i = some .tok) (hg : s.great = g :: r) : evE C (.gpop i) env (some s) = .ok (.int g) (some { s with great := r }) := by
  simp only [evE, h, lift_some, R.bind_ok, hg]
theorem ex_setst_of {C : Cl} {i : Nat} {k : String} {e : E} {env : Env} {w : W} {s s' : St} {y : D} (h1 : evE C e env w = .ok y (some s)) (h : look env i = some .tok) (h2 : stSet s k y = some s') : exS C (.setst i k e) env w = .ok (.next env) (some s') := by
  simp only [exS, h1, h, lift_some, R.bind_ok, h2]
theorem bits_lt {a : Int} {n : Nat} (h : a.natAbs < 2 ^ n) : bits a ≤ n + 1 := by
  unfold bits
  by_cases h0 : a.natAbs = 0
  · rw [h0]; simp
  · have := (Nat.log2_lt h0).mpr h
    omega
theorem b_pow5 {a : Int} (h : a.natAbs < 2 ^ 100) : binD .pow (.int a) (.int 5) = some (.int (a ^ 5)) := by
  have := bits_lt h
  have h2 : (0 : Int) ≤ 5 ∧ (bits a : Int) * 5 ≤ 100000000 := by omega
  simp only [binD]
  rw [if_pos h2]
  rfl
end Rp
namespace Lw
open Rp
/-- the draws' state after at most n draws -/
def Dw (n : Nat) (w : W) : Prop := ∃ s : St, w = some s ∧ 0 ≤ s.turn ∧ s.turn ≤ n
theorem Dw.mono {n m : Nat} {w : W} (h : Dw n w) (hm : n ≤ m) : Dw m w := by
  obtain ⟨s, h1, h2, h3⟩ := h
  exact ⟨s, h1, h2, by omega⟩
section
variable {k : Nat}
theorem l_blended1 (C : Cl) (s : St) (t f p b : Int) (hp : 0 < p) (hp2 : p < 2 ^ 32) (hb : b.natAbs < 2 ^ 100) :
    ∃ b', b'.natAbs < 2 ^ 100 ∧ exS C f_law_blended_l1 [some .tok, some (.int t), some (.int f), some (.int p), some (.int b), none] (some s) = .ok (.next [some .tok, some (.int t), some (.int f), some (.int p), some (.int b'), none]) (some s) := by
  have hl := forL_inv (fun b : Int => [some .tok, some (.int t), some (.int f), some (.int p), some (.int b), none]) D.int (fun x env w => inB (.n 5) x env fun env => exSs C [.asg 4 (.bin .mod (.bi .int1 [.bin .add (.bin .add (.bin .mul (.v 4) (.c (.int 69621))) (.v 5)) (.v 1)]) (.v 3)), .kill [5]] env w)
    (fun _ b w => b.natAbs < 2 ^ 100 ∧ w = some s) (fun c cs b w hI => by
      obtain ⟨i1, rfl⟩ := hI
      refine ⟨(b * 69621 + c + t).fmod p, some s, ?_, ?_, rfl⟩
      · have m1 : binD .mul (.int b) (.int 69621) = some (.int (b * 69621)) := b_mul (mul_r _ (by decide))
        have m2 : ∀ x, binD .mod (.int x) (.int p) = some (.int (x.fmod p)) := fun x => b_mod (by omega)
        simp -implicitDefEqProofs [m1, m2]
      · have h1 := Int.fmod_nonneg_of_pos (b * 69621 + c + t) hp
        have h2 := Int.fmod_lt_of_pos (b * 69621 + c + t) hp
        have : (2 : Nat) ^ 32 < 2 ^ 100 := by decide
        omega) s.cells b (some s) ⟨hb, rfl⟩
  obtain ⟨b', w', e, h1, rfl⟩ := hl
  refine ⟨b', h1, ?_⟩
  unfold f_law_blended_l1
  refine ex_for_of (xs := s.cells.map D.int) (w1 := some s) ?_ e
  rw [evi_seq, ev_stg_of (by simp)]
  simp [stGet]
theorem s_blended {w : W} {n : Nat} (hw : Dw n w) (hn : n ≤ 2 ^ 40) : ∃ x w', callN P (k + 1) "_law_blended" [.tok] w = .ok (.int x) w' ∧ Dw (n + 1) w' := by
  obtain ⟨s, rfl, h0, h1⟩ := hw
  have hl := forL_inv (fun f : Int => [some .tok, some (.int (s.turn + 1)), some (.int f), none, none, none]) D.int (fun x env w => inB (.n 3) x env fun env => exSs (callN P k) [.asg 4 (.bin .add (.bin .mul (.c (.int 40692)) (.v 1)) (.bin .fdiv (.v 3) (.c (.int 61)))), f_law_blended_l1, .asg 2 (.bin .add (.bin .mul (.v 2) (.c (.int 2147483647))) (.bin .mod (.bi .int1 [.bin .pow (.v 4) (.c (.int 5))]) (.v 3))), .kill [3, 4, 5]] env w)
    (fun ps f w => w = some { s with turn := s.turn + 1 } ∧ ∀ p ∈ ps, 0 < p ∧ p < 2 ^ 32) (fun p ps f w hI => by
      obtain ⟨rfl, hp⟩ := hI
      obtain ⟨p0, p1⟩ := hp p List.mem_cons_self
      have h61 : p.fdiv 61 = p / 61 := Int.fdiv_eq_ediv_of_nonneg _ (by omega)
      obtain ⟨b', hb, e⟩ := l_blended1 (callN P k) { s with turn := s.turn + 1 } (s.turn + 1) f p (40692 * (s.turn + 1) + p.fdiv 61) p0 p1 (by
        have : (2 : Nat) ^ 100 = 2 ^ 40 * 2 ^ 60 := by decide
        rw [h61]; omega)
      refine ⟨f * 2147483647 + (b' ^ 5).fmod p, _, ?_, rfl, fun q hq => hp q (List.mem_cons_of_mem _ hq)⟩
      have m1 : binD .mul (.int 40692) (.int (s.turn + 1)) = some (.int (40692 * (s.turn + 1))) := b_mul (mul_l _ (by decide))
      have m2 : binD .fdiv (.int p) (.int 61) = some (.int (p.fdiv 61)) := b_fdiv (by decide) (by decide)
      have m3 : binD .mul (.int f) (.int 2147483647) = some (.int (f * 2147483647)) := b_mul (mul_r _ (by decide))
      have m4 : binD .mod (.int (b' ^ 5)) (.int p) = some (.int ((b' ^ 5).fmod p)) := b_mod (by omega)
      simp -implicitDefEqProofs [m1, m2, m3, m4, e, b_pow5 hb]) [2147483587, 2147483563, 2147483549] 0 (some { s with turn := s.turn + 1 }) ⟨rfl, by decide⟩
  obtain ⟨f', w', e, rfl, _⟩ := hl
  have el : exS (callN P k) f_law_blended_l2 [some .tok, some (.int (s.turn + 1)), some (.int 0), none, none, none] (some { s with turn := s.turn + 1 }) = .ok (.next [some .tok, some (.int (s.turn + 1)), some (.int f'), none, none, none]) (some { s with turn := s.turn + 1 }) := by
    unfold f_law_blended_l2
    refine ex_for_of (xs := [2147483587, 2147483563, 2147483549].map D.int) (w1 := some { s with turn := s.turn + 1 }) ?_ e
    simp
  refine ⟨f', some { s with turn := s.turn + 1 }, ?_, ⟨{ s with turn := s.turn + 1 }, rfl, by simp; omega, by simp; omega⟩⟩
  rw [call_def (fn := f_law_blended) rfl rfl _ _ _ rfl]
  have e1 : evE (callN P k) (.stg 0 "turn") [some .tok, none, none, none, none, none] (some s) = .ok (.int s.turn) (some s) := by
    rw [ev_stg_of (by simp)]; simp [stGet]
  have e2 : exS (callN P k) (.setst 0 "turn" (.v 1)) [some .tok, some (.int (s.turn + 1)), some (.int 0), none, none, none] (some s) = .ok (.next [some .tok, some (.int (s.turn + 1)), some (.int 0), none, none, none]) (some { s with turn := s.turn + 1 }) :=
    ex_setst_of (s := s) (y := .int (s.turn + 1)) (by simp) (by simp) (by simp [stSet])
  simp -implicitDefEqProofs [f_law_blended, start, e1, mutsOk, e2, el]
theorem s_draw {w : W} {n : Nat} (hw : Dw n w) (hn : n ≤ 2 ^ 40) {m : Nat} (hm : 0 < m) (hm2 : m ≤ 2 ^ 64) : ∃ (r : Nat) (w' : W), r < m ∧ callN P (k + 2) "_law_draw" [.tok, .int m] w = .ok (.int r) w' ∧ Dw (n + 1) w' := by
  have fin : ∀ s : St, 0 ≤ s.turn → s.turn ≤ (n + 1 : Nat) → ∃ (r : Nat) (w' : W), r < m ∧ exSs (callN P (k + 1)) [.asg 2 (.bin .mod (.bi .int1 [.stg 0 "left"]) (.v 1)), .setst 0 "left" (.bin .fdiv (.stg 0 "left") (.v 1)), .ret (.v 2)] [some .tok, some (.int m), none] (some s) = .ok (.ret (.int r)) w' ∧ Dw (n + 1) w' := by
    intro s h0 h1
    have hmp : (0 : Int) < m := by omega
    have f0 := Int.fmod_nonneg_of_pos s.left hmp
    have f1 := Int.fmod_lt_of_pos s.left hmp
    obtain ⟨r, hr⟩ : ∃ r : Nat, s.left.fmod m = r := ⟨(s.left.fmod m).toNat, by omega⟩
    refine ⟨r, some { s with left := s.left.fdiv m }, by omega, ?_, ⟨_, rfl, h0, h1⟩⟩
    have e1 : ∀ env, look env 0 = some .tok → evE (callN P (k + 1)) (.stg 0 "left") env (some s) = .ok (.int s.left) (some s) := fun env he => by
      rw [ev_stg_of he]; simp [stGet]
    have m1 : binD .mod (.int s.left) (.int m) = some (.int r) := by rw [b_mod (by omega), hr]
    have hb65 : (m : Int).natAbs < 2 ^ 65 := by
      have : (2 : Nat) ^ 65 = 2 * 2 ^ 64 := by decide
      omega
    have hb66 := bits_lt hb65
    have m2 : binD .fdiv (.int s.left) (.int m) = some (.int (s.left.fdiv m)) := b_fdiv (by omega) (by omega)
    have e2 : exS (callN P (k + 1)) (.setst 0 "left" (.bin .fdiv (.stg 0 "left") (.v 1))) [some .tok, some (.int m), some (.int r)] (some s) = .ok (.next [some .tok, some (.int m), some (.int r)]) (some { s with left := s.left.fdiv m }) :=
      ex_setst_of (s := s) (y := .int (s.left.fdiv m)) (by rw [ev_bin, e1 _ (by simp)]; simp [m2]) (by simp) (by simp [stSet])
    have e3 := e1 [some .tok, some (.int m), none] (by simp)
    simp -implicitDefEqProofs [e3, m1, e2]
  have hh := hw
  obtain ⟨s, rfl, h0, h1⟩ := hw
  have ea : ∀ s : St, evE (callN P (k + 1)) (.stg 0 "left") [some .tok, some (.int m), none] (some s) = .ok (.int s.left) (some s) := fun s => by
    rw [ev_stg_of (by simp)]; simp [stGet]
  have hcall : ∀ w, callN P (k + 2) "_law_draw" [.tok, .int m] w = endD (exSs (callN P (k + 1)) f_law_draw.body (start f_law_draw [.tok, .int m]) w) := fun w => call_def (fn := f_law_draw) rfl rfl _ _ _ rfl
  by_cases hz : s.left = 0
  · cases hg : s.great with
    | nil =>
      obtain ⟨x, w1, e1, d1⟩ := s_blended (k := k) hh hn
      obtain ⟨s1, rfl, t0, t1⟩ := d1
      obtain ⟨r, w2, hr, e2, d2⟩ := fin { s1 with left := x } t0 t1
      refine ⟨r, w2, hr, ?_, d2⟩
      have es : exS (callN P (k + 1)) (.setst 0 "left" (.ite (.gne 0) (.gpop 0) (.call "_law_blended" [.v 0]))) [some .tok, some (.int m), none] (some s) = .ok (.next [some .tok, some (.int m), none]) (some { s1 with left := x }) :=
        ex_setst_of (s := s1) (y := .int x) (by rw [ev_ite, ev_gne_of (by simp)]; simp [hg, e1]) (by simp) (by simp [stSet])
      rw [hcall]
      simp only [f_law_draw, start]
      rw [exs_cons]
      have : exS (callN P (k + 1)) (.ifs (.cmp .eq (.stg 0 "left") (.c (.int 0))) [.setst 0 "left" (.ite (.gne 0) (.gpop 0) (.call "_law_blended" [.v 0]))] []) [some .tok, some (.int m), none] (some s) = .ok (.next [some .tok, some (.int m), none]) (some { s1 with left := x }) := by
        simp -implicitDefEqProofs [ea, hz, es]
      have e3 := (congrArg (fun r => thenS r fun env w => exSs (callN P (k + 1)) [.asg 2 (.bin .mod (.bi .int1 [.stg 0 "left"]) (.v 1)), .setst 0 "left" (.bin .fdiv (.stg 0 "left") (.v 1)), .ret (.v 2)] env w) this).trans e2
      exact (congrArg endD e3)
    | cons g gs =>
      obtain ⟨r, w2, hr, e2, d2⟩ := fin { s with great := gs, left := g } h0 (by show s.turn ≤ _; omega)
      refine ⟨r, w2, hr, ?_, d2⟩
      have es : exS (callN P (k + 1)) (.setst 0 "left" (.ite (.gne 0) (.gpop 0) (.call "_law_blended" [.v 0]))) [some .tok, some (.int m), none] (some s) = .ok (.next [some .tok, some (.int m), none]) (some { s with great := gs, left := g }) :=
        ex_setst_of (s := { s with great := gs }) (y := .int g) (by rw [ev_ite, ev_gne_of (by simp)]; simp [hg, ev_gpop_of (env := [some .tok, some (.int m), none]) (i := 0) (C := callN P (k + 1)) (by simp) hg]) (by simp) (by simp [stSet])
      rw [hcall]
      have : exS (callN P (k + 1)) (.ifs (.cmp .eq (.stg 0 "left") (.c (.int 0))) [.setst 0 "left" (.ite (.gne 0) (.gpop 0) (.call "_law_blended" [.v 0]))] []) [some .tok, some (.int m), none] (some s) = .ok (.next [some .tok, some (.int m), none]) (some { s with great := gs, left := g }) := by
        simp -implicitDefEqProofs [ea, hz, es]
      have e3 := (congrArg (fun r => thenS r fun env w => exSs (callN P (k + 1)) [.asg 2 (.bin .mod (.bi .int1 [.stg 0 "left"]) (.v 1)), .setst 0 "left" (.bin .fdiv (.stg 0 "left") (.v 1)), .ret (.v 2)] env w) this).trans e2
      simp only [f_law_draw, start]
      rw [exs_cons]
      exact (congrArg endD e3)
  · obtain ⟨r, w2, hr, e2, d2⟩ := fin s h0 (by omega)
    refine ⟨r, w2, hr, ?_, d2⟩
    rw [hcall]
    have : exS (callN P (k + 1)) (.ifs (.cmp .eq (.stg 0 "left") (.c (.int 0))) [.setst 0 "left" (.ite (.gne 0) (.gpop 0) (.call "_law_blended" [.v 0]))] []) [some .tok, some (.int m), none] (some s) = .ok (.next [some .tok, some (.int m), none]) (some s) := by
      have : (s.left == 0) = false := by simp [hz]
      simp -implicitDefEqProofs [ea, this]
    have e3 := (congrArg (fun r => thenS r fun env w => exSs (callN P (k + 1)) [.asg 2 (.bin .mod (.bi .int1 [.stg 0 "left"]) (.v 1)), .setst 0 "left" (.bin .fdiv (.stg 0 "left") (.v 1)), .ret (.v 2)] env w) this).trans e2
    simp only [f_law_draw, start]
    rw [exs_cons]
    exact (congrArg endD e3)
end
end Lw
end

section
set_option linter.all false
set_option maxRecDepth 100000
namespace Rp
theorem plAll_of {xs : List D} (h : ∀ d ∈ xs, d.pl = true ∧ d.dep ≤ 50) : plAll xs = true ∧ depAll xs ≤ 50 := by
  induction xs with
  | nil => simp [plAll, depAll]
  | cons x xs ih =>
    obtain ⟨h1, h2⟩ := ih fun d hd => h d (List.mem_cons_of_mem _ hd)
    obtain ⟨h3, h4⟩ := h x List.mem_cons_self
    simp only [plAll, depAll, h1, h3, Bool.and_self, true_and]
    omega
theorem eqO_lst_nil {xs : List D} (h : ∀ d ∈ xs, d.pl = true ∧ d.dep ≤ 50) : D.eqO (.lst xs) (.lst []) = some xs.isEmpty := by
  obtain ⟨h1, h2⟩ := plAll_of h
  have h3 : depAll xs + 1 ≤ 60 := by omega
  cases xs <;> simp_all [D.eqO, D.pl, plAll, D.dep, depAll, D.eqv, eqvAll]
theorem eraseIdx_perm {α : Type} : ∀ (l : List α) (i : Nat) (h : i < l.length), (l[i] :: l.eraseIdx i).Perm l
  | [], i, h => by simp at h
  | x :: l, 0, h => by simp
  | x :: l, i + 1, h => by
    have := eraseIdx_perm l i (by simpa using h)
    simp only [List.getElem_cons_succ, List.eraseIdx_cons_succ]
    exact (List.Perm.swap _ _ _).trans (List.Perm.cons _ this)
theorem popD_at {xs : List D} {i : Nat} (h : i < xs.length) (hl : xs.length ≤ 1000) : popD (.lst xs) (some (.int i)) = some (xs[i], .lst (xs.eraseIdx i)) := by
  have h1 : ¬ LINE < xs.length := by unfold LINE; omega
  simp only [popD, h1, if_false, ixN_nat h, Option.bind_some, List.getElem?_eq_getElem h, Option.map_some]
theorem popD_none {xs : List D} {x : D} : popD (.lst (xs ++ [x])) none = some (x, .lst xs) := by
  simp [popD]
theorem ix_lst {xs : List D} {i : Nat} (h : i < xs.length) : ixD (.lst xs) (.int i) = some xs[i] := by
  exact atI_nat (List.getElem?_eq_getElem h)
@[simp] theorem optE_some {C : Cl} {e : E} {env : Env} {w : W} : optE C (some e) env w = (evE C e env w).bind fun d w => .ok (some d) w := rfl
@[simp] theorem optE_none {C : Cl} {env : Env} {w : W} : optE C none env w = .ok none w := rfl
end Rp
namespace Lw
open Rp
section
variable {k : Nat}
theorem s_pick {w : W} {n : Nat} (hw : Dw n w) (hn : n ≤ 2 ^ 40) {xs : List D} (h0 : 0 < xs.length) (h1 : xs.length ≤ 1000) : ∃ (x : D) (w' : W), x ∈ xs ∧ callN P (k + 3) "_law_pick" [.tok, .lst xs] w = .ok x w' ∧ Dw (n + 1) w' := by
  obtain ⟨r, w', hr, e, d⟩ := s_draw (k := k) hw hn h0 (by omega)
  refine ⟨xs[r], w', List.getElem_mem hr, ?_, d⟩
  rw [call_def (fn := f_law_pick) rfl rfl _ _ _ rfl]
  simp -implicitDefEqProofs [f_law_pick, start, e, ix_lst hr]
theorem s_mixed {w : W} {n : Nat} (hw : Dw n w) (hn : n ≤ 2 ^ 39) {xs : List D} (h1 : xs.length ≤ 500) (hp : ∀ d ∈ xs, d.pl = true ∧ d.dep ≤ 50) : ∃ (ys : List D) (w' : W), ys.Perm xs ∧ callN P (k + 3) "_law_mixed" [.tok, .lst xs] w = .ok (.lst ys) w' ∧ Dw (n + xs.length) w' := by
  have hl := while_inv (fun s : List D × List D => [some .tok, some (.lst xs), some (.lst s.1), some (.lst s.2)]) (fun s => !s.1.isEmpty) (fun s => s.1.length) (fun s w => (s.1 ++ s.2).Perm xs ∧ Dw (n + s.2.length) w)
    (c := fun env w => evE (callN P (k + 2)) (.cmp .ne (.v 2) (.lst [])) env w) (b := fun env w => exSs (callN P (k + 2)) [.popApp 3 2 (some (.call "_law_draw" [.v 0, .bi .len [.v 2]]))] env w)
    (fun s w hI => by
      have := eqO_lst_nil (xs := s.1) fun d hd => hp d (hI.1.mem_iff.mp (List.mem_append_left _ hd))
      simp -implicitDefEqProofs [this])
    (fun s w hI hg => by
      obtain ⟨i1, i2⟩ := hI
      have hlen := i1.length_eq
      simp only [List.length_append] at hlen
      have h0 : 0 < s.1.length := by
        rcases s with ⟨_ | ⟨a, l⟩, r⟩
        · simp at hg
        · simp
      obtain ⟨r, w', hr, e, d⟩ := s_draw (k := k) i2 (by omega) h0 (by omega)
      refine ⟨(s.1.eraseIdx r, s.2 ++ [s.1[r]]), w', ?_, ⟨?_, ?_⟩, ?_⟩
      · simp -implicitDefEqProofs [e, popD_at hr (by omega), appD_ok (xs := s.2) (by omega)]
      · refine List.Perm.trans ?_ i1
        have := eraseIdx_perm s.1 r hr
        refine List.Perm.trans ?_ (List.Perm.append_right s.2 this)
        show (s.1.eraseIdx r ++ (s.2 ++ [s.1[r]])).Perm (s.1[r] :: (s.1.eraseIdx r ++ s.2))
        rw [← List.append_assoc]
        exact List.perm_append_singleton _ _
      · refine d.mono ?_
        simp; omega
      · simp only [List.length_eraseIdx]
        rw [if_pos hr]
        omega) (xs, []) w ⟨by simp, by simpa using hw⟩
  obtain ⟨s, w', ⟨i1, i2⟩, hg, e⟩ := hl
  rcases s with ⟨_ | ⟨a, l⟩, ys⟩
  · simp only [List.nil_append] at i1
    refine ⟨ys, w', i1, ?_, i2.mono (by rw [i1.length_eq]; omega)⟩
    rw [call_def (fn := f_law_mixed) rfl rfl _ _ _ rfl]
    have el : exS (callN P (k + 2)) f_law_mixed_l1 [some .tok, some (.lst xs), some (.lst xs), some (.lst [])] w = .ok (.next [some .tok, some (.lst xs), some (.lst []), some (.lst ys)]) w' := by
      unfold f_law_mixed_l1
      rw [ex_while]
      exact e
    simp -implicitDefEqProofs [f_law_mixed, start, mutsOk, isMut, el]
  · simp at hg
theorem bits60 {b : Int} (h : b.natAbs ≤ 2 ^ 60) : bits b ≤ 9000 := by
  have := bits_lt (a := b) (n := 61) (by have : (2 : Nat) ^ 61 = 2 * 2 ^ 60 := by decide
                                         omega)
  omega
theorem fdiv_nat (a b : Nat) : Int.fdiv (a : Int) (b : Int) = ((a / b : Nat) : Int) := by
  rw [Int.fdiv_eq_ediv_of_nonneg _ (by omega)]
  simp
end
end Lw
end

section
set_option linter.all false
set_option maxRecDepth 100000
namespace Rp
theorem range_drop_cons {n j i : Nat} {is : List Nat} (h : (List.range n).drop j = i :: is) : i = j ∧ j < n ∧ is = (List.range n).drop (j + 1) := by
  have hj : j < n := by
    have := congrArg List.length h
    simp at this
    omega
  rw [List.drop_eq_getElem_cons (by simpa using hj)] at h
  simp only [List.cons.injEq, List.getElem_range] at h
  exact ⟨h.1.symm, hj, h.2.symm⟩
theorem range_drop_nil {n j : Nat} (h : [] = (List.range n).drop j) : n ≤ j := by
  have := congrArg List.length h
  simp at this
  omega
theorem perm_map_inv {α β : Type} (f : α → β) : ∀ {ys zs : List β}, ys.Perm zs → ∀ xs : List α, zs = xs.map f → ∃ us : List α, us.Perm xs ∧ ys = us.map f := by
  intro ys zs h
  induction h with
  | nil => intro xs e; exact ⟨xs, .refl _, e⟩
  | cons x h ih =>
    intro xs e
    cases xs with
    | nil => simp at e
    | cons a xs =>
      simp only [List.map_cons, List.cons.injEq] at e
      obtain ⟨us, h1, h2⟩ := ih xs e.2
      exact ⟨a :: us, .cons _ h1, by simp [h2, e.1]⟩
  | swap x y l =>
    intro xs e
    match xs, e with
    | a :: b :: xs, e =>
      simp only [List.map_cons, List.cons.injEq] at e
      exact ⟨b :: a :: xs, .swap _ _ _, by simp [e.1, e.2.1, e.2.2]⟩
  | trans h1 h2 ih1 ih2 =>
    intro xs e
    obtain ⟨us, h3, h4⟩ := ih2 xs e
    obtain ⟨vs, h5, h6⟩ := ih1 us h4
    exact ⟨vs, h5.trans h3, h6⟩
end Rp
namespace Lw
open Rp
def DOk (R : Nat) (d : Dr) : Prop := d.n < R ∧ d.f < R ∧ d.a ≠ 0 ∧ d.b ≠ 0 ∧ -999 ≤ d.a ∧ d.a ≤ 999 ∧ -999 ≤ d.b ∧ d.b ≤ 999
def Cn (m : Nat) (ds : List Dr) : Prop := ∀ r, 1 ≤ r → r < m → ∃ d ∈ ds, (d.n = r ∧ d.f < r) ∨ (d.f = r ∧ d.n < r)
theorem dr_plain (d : Dr) : (dr d).pl = true ∧ (dr d).dep ≤ 50 := by simp [dr, D.pl, plAll, D.dep, depAll]
section
variable {k : Nat}
theorem s_size {w : W} {n : Nat} (hw : Dw n w) (hn : n ≤ 2 ^ 39) :
    ∃ (z : Int) (w' : W), (z ≠ 0 ∧ -999 ≤ z ∧ z ≤ 999) ∧ callN P (k + 4) "_law_size" [.tok] w = .ok (.int z) w' ∧ Dw (n + 2) w' := by
  obtain ⟨a, w1, ha, e1, d1⟩ := s_pick (k := k) hw (by omega) (xs := [.int 2, .int 3, .int 1, .int 4, .int 6, .int 2, .int 1, .int 3, .int 5, .int 8, .int 9, .int 12]) (by simp) (by simp)
  obtain ⟨x, hx, rfl⟩ : ∃ x : Int, (1 ≤ x ∧ x ≤ 12) ∧ a = .int x := by
    simp only [List.mem_cons, List.not_mem_nil, or_false] at ha
    rcases ha with h | h | h | h | h | h | h | h | h | h | h | h <;> exact ⟨_, by decide, h⟩
  obtain ⟨b, w2, hb, e2, d2⟩ := s_pick (k := k) d1 (by omega) (xs := [.int 1, .int 1, .int 1, .int (-1)]) (by simp) (by simp)
  obtain ⟨y, hy, rfl⟩ : ∃ y : Int, (y = 1 ∨ y = -1) ∧ b = .int y := by
    simp at hb
    rcases hb with h | h
    · exact ⟨1, .inl rfl, h⟩
    · exact ⟨-1, .inr rfl, h⟩
  have m : binD .mul (.int x) (.int y) = some (.int (x * y)) := b_mul (mul_l _ (by omega))
  refine ⟨x * y, w2, by rcases hy with rfl | rfl <;> omega, ?_, d2⟩
  rw [call_def (fn := f_law_size) rfl rfl _ _ _ rfl]
  simp -implicitDefEqProofs [f_law_size, start, e1, e2, m]
theorem l_doors1 {w : W} {n R : Nat} (more : D) (hw : Dw n w) (hn : n ≤ 2 ^ 38) (hR : 1 ≤ R) (hR2 : R ≤ 12) :
    ∃ (ds : List Dr) (w' : W), exS (callN P (k + 4)) f_law_doors_l1 [some .tok, some (.int R), some more, some (.lst []), none, none, none, none, none] w =
      .ok (.next [some .tok, some (.int R), some more, some (.lst (ds.map dr)), none, none, none, none, none]) w' ∧ ds.length = R - 1 ∧ (∀ d ∈ ds, DOk R d) ∧ Cn R ds ∧ Dw (n + 5 * (R - 1)) w' := by
  have hl := forL_inv (fun s : List Dr => [some .tok, some (.int R), some more, some (.lst (s.map dr)), none, none, none, none, none]) (fun i : Nat => .int ((i + 1 : Nat) : Int))
    (fun x env w => inB (.n 4) x env fun env => exSs (callN P (k + 4)) [.append 3 (.tup [.call "_law_draw" [.v 0, .v 4], .call "_law_size" [.v 0], .v 4, .call "_law_size" [.v 0]]), .kill [4]] env w)
    (fun is s w => is = (List.range (R - 1)).drop s.length ∧ s.length ≤ R - 1 ∧ (∀ d ∈ s, DOk R d) ∧ Cn (s.length + 1) s ∧ Dw (n + 5 * s.length) w)
    (fun i is s w hI => by
      obtain ⟨i1, i2, i3, i4, i5⟩ := hI
      obtain ⟨rfl, h3, h4⟩ := range_drop_cons i1.symm
      obtain ⟨a, w1, ha, e1, d1⟩ := s_draw (k := k + 2) i5 (by omega) (m := s.length + 1) (by omega) (by omega)
      obtain ⟨y, w2, hy, e2, d2⟩ := s_size (k := k) d1 (by omega)
      obtain ⟨z, w3, hz, e3, d3⟩ := s_size (k := k) d2 (by omega)
      push_cast at e1
      refine ⟨s ++ [⟨a, y, s.length + 1, z⟩], w3, ?_, ?_, ?_, ?_, ?_, ?_⟩
      · have ap : ∀ v, appD (.lst (s.map dr)) v = some (.lst (s.map dr ++ [v])) := fun v => appD_ok (by simp; omega)
        simp -implicitDefEqProofs [e1, e2, e3, ap, dr]
      · simpa using h4
      · simp; omega
      · intro d hd
        rcases List.mem_append.mp hd with h | h
        · exact i3 d h
        · simp at h; subst h
          exact ⟨by show a < R; omega, by show s.length + 1 < R; omega, hy.1, hz.1, hy.2.1, hy.2.2, hz.2.1, hz.2.2⟩
      · intro r r1 r2
        simp at r2
        by_cases hr : r < s.length + 1
        · obtain ⟨d, hd, h⟩ := i4 r r1 hr
          exact ⟨d, List.mem_append_left _ hd, h⟩
        · refine ⟨_, List.mem_append_right _ List.mem_cons_self, .inr ⟨by show s.length + 1 = r; omega, by show a < r; omega⟩⟩
      · exact d3.mono (by simp; omega)) (List.range (R - 1)) [] w ⟨by simp, by simp, by simp, fun r r1 r2 => by simp only [List.length_nil] at r2; omega, by simpa using hw⟩
  obtain ⟨ds, w', e, j1, j2, j3, j4, j5⟩ := hl
  have hlen : ds.length = R - 1 := by have := range_drop_nil j1; omega
  refine ⟨ds, w', ?_, hlen, j3, ?_, by rw [← hlen]; exact j5⟩
  · unfold f_law_doors_l1
    refine ex_for_of (evi_r1 (n := R) (w' := w) (by simp) (by omega)) ?_
    exact e
  · have : ds.length + 1 = R := by omega
    rw [this] at j4
    exact j4
theorem l_doors2 {w : W} {n R more : Nat} (hw : Dw n w) (hn : n ≤ 2 ^ 38) (hR : 1 ≤ R) (hR2 : R ≤ 12) (hm : more ≤ 8)
    (ds : List Dr) (g1 : ds.length = R - 1) (g2 : ∀ d ∈ ds, DOk R d) (g3 : Cn R ds) :
    ∃ (ds' : List Dr) (w' : W), exS (callN P (k + 4)) f_law_doors_l2 [some .tok, some (.int R), some (.int more), some (.lst (ds.map dr)), none, none, none, none, none] w =
      .ok (.next [some .tok, some (.int R), some (.int more), some (.lst (ds'.map dr)), none, none, none, none, none]) w' ∧ ds'.length ≤ R - 1 + more ∧ (∀ d ∈ ds', DOk R d) ∧ Cn R ds' ∧ Dw (n + 1 + 6 * more) w' := by
  obtain ⟨m, w0, hm0, e0, d0⟩ := s_draw (k := k + 2) hw (by omega) (m := more + 1) (by omega) (by omega)
  push_cast at e0
  have hl := forL_inv (fun s : List Dr => [some .tok, some (.int R), some (.int more), some (.lst (s.map dr)), none, none, none, none, none]) (fun i : Nat => .int (i : Int))
    (fun x env w => inB (.n 5) x env fun env => exSs (callN P (k + 4)) [.parO [6, 7] [0, 0] [.call "_law_draw" [.v 0, .v 1], .call "_law_draw" [.v 0, .v 1]], .append 3 (.tup [.v 6, .call "_law_size" [.v 0], .v 7, .call "_law_size" [.v 0]]), .kill [5, 6, 7]] env w)
    (fun is s w => ∃ j, is.length + j = m ∧ s.length = R - 1 + j ∧ (∀ d ∈ s, DOk R d) ∧ Cn R s ∧ Dw (n + 1 + 6 * j) w)
    (fun i is s w hI => by
      obtain ⟨j, i1, i2, i3, i4, i5⟩ := hI
      simp only [List.length_cons] at i1
      obtain ⟨a, w1, ha, e1, d1⟩ := s_draw (k := k + 2) i5 (by omega) (m := R) (by omega) (by omega)
      obtain ⟨b, w2, hb, e2, d2⟩ := s_draw (k := k + 2) d1 (by omega) (m := R) (by omega) (by omega)
      obtain ⟨y, w3, hy, e3, d3⟩ := s_size (k := k) d2 (by omega)
      obtain ⟨z, w4, hz, e4, d4⟩ := s_size (k := k) d3 (by omega)
      refine ⟨s ++ [⟨a, y, b, z⟩], w4, ?_, j + 1, by omega, by simp; omega, ?_, ?_, ?_⟩
      · have ap : ∀ v, appD (.lst (s.map dr)) v = some (.lst (s.map dr ++ [v])) := fun v => appD_ok (by simp; omega)
        simp -implicitDefEqProofs [e1, e2, e3, e4, ap, dr, mutsOk]
      · intro d hd
        rcases List.mem_append.mp hd with h | h
        · exact i3 d h
        · simp at h; subst h
          exact ⟨ha, hb, hy.1, hz.1, hy.2.1, hy.2.2, hz.2.1, hz.2.2⟩
      · intro r r1 r2
        obtain ⟨d, hd, h⟩ := i4 r r1 r2
        exact ⟨d, List.mem_append_left _ hd, h⟩
      · exact d4.mono (by omega)) (List.range m) ds w0 ⟨0, by simp, g1, g2, g3, by simpa using d0⟩
  obtain ⟨ds', w', e, j, j1, j2, j3, j4, j5⟩ := hl
  simp only [List.length_nil] at j1
  refine ⟨ds', w', ?_, by omega, j3, j4, j5.mono (by omega)⟩
  unfold f_law_doors_l2
  refine ex_for_of (evi_r0 (n := m) (w' := w0) (by simp -implicitDefEqProofs [e0]) (by omega)) ?_
  exact e
theorem l_doors3 {w : W} {n : Nat} (a b : D) (hw : Dw n w) (hn : n ≤ 2 ^ 38) (ds : List Dr) (hl : ds.length ≤ 100) :
    ∃ (ds' : List Dr) (w' : W), evE (callN P (k + 4)) f_law_doors_c1 [some .tok, some a, some b, some (.lst (ds.map dr)), none, none, none, none, none] w = .ok (.lst (ds'.map dr)) w' ∧ All2 (fun d d' => d' = d ∨ d' = d.flip) ds ds' ∧ Dw (n + ds.length) w' := by
  obtain ⟨ds', w', e, q, i⟩ := mapL_inv (fun x w => inB (.n 8) x [some .tok, some a, some b, some (.lst (ds.map dr)), none, none, none, none, none] fun env => evE (callN P (k + 4)) (.ite (.cmp .eq (.call "_law_draw" [.v 0, .c (.int 2)]) (.c (.int 0))) (.v 8) (.tup [.ix (.v 8) (.c (.int 2)), .ix (.v 8) (.c (.int 3)), .ix (.v 8) (.c (.int 0)), .ix (.v 8) (.c (.int 1))])) env w)
    dr dr (fun xs w => xs.length ≤ ds.length ∧ Dw (n + (ds.length - xs.length)) w) (fun d d' => d' = d ∨ d' = d.flip) (fun d xs w hI => by
      obtain ⟨i1, i2⟩ := hI
      simp only [List.length_cons] at i1 i2
      obtain ⟨a, w1, ha, e1, d1⟩ := s_draw (k := k + 2) i2 (by omega) (m := 2) (by omega) (by omega)
      have e1' : callN P (k + 4) "_law_draw" [.tok, .int 2] w = .ok (.int a) w1 := e1
      by_cases h : a = 0
      · refine ⟨d, w1, ?_, .inl rfl, by omega, d1.mono (by omega)⟩
        simp -implicitDefEqProofs [e1', h]
      · refine ⟨d.flip, w1, ?_, .inr rfl, by omega, d1.mono (by omega)⟩
        have h2 : ((a : Int) == 0) = false := by simp [h]
        simp -implicitDefEqProofs [e1', h, h2]
        rfl) ds w ⟨by omega, by simpa using hw⟩
  refine ⟨ds', w', ?_, q, by simpa using i.2⟩
  unfold f_law_doors_c1
  refine ev_comp_of (w1 := w) (xs := ds.map dr) (by simp) e ?_
  have := q.length
  simp; omega
theorem s_doors {w : W} {n R more : Nat} (hw : Dw n w) (hn : n ≤ 2 ^ 37) (hR : 1 ≤ R) (hR2 : R ≤ 12) (hm : more ≤ 8) :
    ∃ (ds : List Dr) (w' : W), callN P (k + 5) "_law_doors" [.tok, .int R, .int more] w = .ok (drs ds) w' ∧ ds.length ≤ R - 1 + more ∧ (∀ d ∈ ds, DOk R d) ∧ Cn R ds ∧ Dw (n + 200) w' := by
  obtain ⟨d1, w1, e1, a1, a2, a3, a4⟩ := l_doors1 (k := k) (.int more) hw (by omega) hR hR2
  obtain ⟨d2, w2, e2, b1, b2, b3, b4⟩ := l_doors2 (k := k) a4 (by omega) hR hR2 hm d1 a1 a2 a3
  obtain ⟨d3, w3, e3, c1, c2⟩ := l_doors3 (k := k) (.int R) (.int more) b4 (by omega) d2 (by omega)
  have c3 := c1.length
  obtain ⟨ys, w4, f1, e4, f2⟩ := s_mixed (k := k + 1) c2 (by omega) (xs := d3.map dr) (by simp; omega) (fun d hd => by
    obtain ⟨x, _, rfl⟩ := List.mem_map.mp hd
    exact dr_plain x)
  obtain ⟨d4, g1, rfl⟩ := perm_map_inv dr f1 d3 rfl
  refine ⟨d4, w4, ?_, ?_, ?_, ?_, f2.mono (by simp; omega)⟩
  · rw [call_def (fn := f_law_doors) rfl rfl _ _ _ rfl]
    simp -implicitDefEqProofs [f_law_doors, start, e1, e2, e3, e4, isMut, List.replicate, drs]
  · rw [g1.length_eq, c3]; exact b1
  · intro d hd
    obtain ⟨x, hx, h⟩ := c1.right d (g1.mem_iff.mp hd)
    obtain ⟨i1, i2, i3, i4, i5, i6, i7, i8⟩ := b2 x hx
    rcases h with rfl | rfl
    · exact ⟨i1, i2, i3, i4, i5, i6, i7, i8⟩
    · exact ⟨i2, i1, i4, i3, i7, i8, i5, i6⟩
  · intro r r1 r2
    obtain ⟨x, hx, h⟩ := b3 r r1 r2
    obtain ⟨y, hy, q⟩ := c1.left x hx
    refine ⟨y, g1.mem_iff.mpr hy, ?_⟩
    rcases q with rfl | rfl
    · exact h
    · rcases h with ⟨p1, p2⟩ | ⟨p1, p2⟩
      · exact .inr ⟨p1, p2⟩
      · exact .inl ⟨p1, p2⟩
end
end Lw
end

section
set_option linter.all false
set_option maxRecDepth 100000
namespace Lw
open Rp
/-- a house's doors as drawn -/
structure Hm (R : Nat) (ds : List Dr) : Prop where
  r1 : 1 ≤ R
  r12 : R ≤ 12
  len : ds.length ≤ 20
  d : ∀ d ∈ ds, DOk R d
  c : Cn R ds
theorem Hm.ok {R : Nat} {ds : List Dr} (h : Hm R ds) : Ok R ds := ⟨h.r1, h.r12, h.len, fun d hd => h.d d hd⟩
section
variable {k : Nat}
theorem s_pf_doors {w : W} {n : Nat} (hw : Dw n w) (hn : n ≤ 2 ^ 36) :
    ∃ (R : Nat) (ds : List Dr) (w' : W), callN P (k + 6) "_law_pf_doors" [.tok] w = .ok (.tup [.int R, drs ds]) w' ∧ R ≤ 3 ∧ Hm R ds ∧ Dw (n + 201) w' := by
  obtain ⟨a, w1, ha, e1, d1⟩ := s_pick (k := k + 2) hw (by omega) (xs := [.int 1, .int 2, .int 1, .int 3, .int 2, .int 1]) (by simp) (by simp)
  obtain ⟨R, hR, rfl⟩ : ∃ R : Nat, (1 ≤ R ∧ R ≤ 3) ∧ a = .int R := by
    simp only [List.mem_cons, List.not_mem_nil, or_false] at ha
    rcases ha with h | h | h | h | h | h
    · exact ⟨1, by decide, h⟩
    · exact ⟨2, by decide, h⟩
    · exact ⟨1, by decide, h⟩
    · exact ⟨3, by decide, h⟩
    · exact ⟨2, by decide, h⟩
    · exact ⟨1, by decide, h⟩
  have e1' : callN P (k + 5) "_law_pick" [.tok, .lst [.int 1, .int 2, .int 1, .int 3, .int 2, .int 1]] w = .ok (.int R) w1 := e1
  by_cases h1 : R = 1
  · obtain ⟨ds, w3, e3, b1, b2, b3, b4⟩ := s_doors (k := k) d1 (by omega) (R := R) (more := 3) (by omega) (by omega) (by decide)
    refine ⟨R, ds, w3, ?_, by omega, ⟨by omega, by omega, by omega, b2, b3⟩, b4.mono (by omega)⟩
    have h2 : ((R : Int) == 1) = true := by simp [h1]
    have e3' : callN P (k + 5) "_law_doors" [.tok, .int R, .int 3] w1 = .ok (drs ds) w3 := e3
    rw [call_def (fn := f_law_pf_doors) rfl rfl _ _ _ rfl]
    simp -implicitDefEqProofs only [f_law_pf_doors, start, List.map_cons, List.map_nil, List.length_cons, List.length_nil, exs_cons, exs_nil, ex_asg, ex_ret, ev_call, ev_lst, ev_tup, ev_ite, ev_cmp, cmp_eq, eqO_int, ev_c, evs_cons, evs_nil, ev_v, List.cons_append, List.nil_append, List.replicate, Nat.reduceAdd, Nat.reduceSub, List.set_cons_zero, List.set_cons_succ, look_zero, look_succ, lift_some, Rp.R.bind_ok, e1', h2, Option.map_some, Rp.cond_true, e3', thenS_next, thenS_ret, endD_ret]
  · obtain ⟨ds, w3, e3, b1, b2, b3, b4⟩ := s_doors (k := k) d1 (by omega) (R := R) (more := 2) (by omega) (by omega) (by decide)
    refine ⟨R, ds, w3, ?_, by omega, ⟨by omega, by omega, by omega, b2, b3⟩, b4.mono (by omega)⟩
    have h2 : ((R : Int) == 1) = false := by
      simp
      omega
    have e3' : callN P (k + 5) "_law_doors" [.tok, .int R, .int 2] w1 = .ok (drs ds) w3 := e3
    rw [call_def (fn := f_law_pf_doors) rfl rfl _ _ _ rfl]
    simp -implicitDefEqProofs only [f_law_pf_doors, start, List.map_cons, List.map_nil, List.length_cons, List.length_nil, exs_cons, exs_nil, ex_asg, ex_ret, ev_call, ev_lst, ev_tup, ev_ite, ev_cmp, cmp_eq, eqO_int, ev_c, evs_cons, evs_nil, ev_v, List.cons_append, List.nil_append, List.replicate, Nat.reduceAdd, Nat.reduceSub, List.set_cons_zero, List.set_cons_succ, look_zero, look_succ, lift_some, Rp.R.bind_ok, e1', h2, Option.map_some, Rp.cond_false, e3', thenS_next, thenS_ret, endD_ret]
end
end Lw
end

section
set_option linter.all false
set_option maxRecDepth 100000
namespace Rp
theorem b_addL {xs ys : List D} (h : xs.length + ys.length ≤ 1000) : binD .add (.lst xs) (.lst ys) = some (.lst (xs ++ ys)) := by
  have : xs.length + ys.length ≤ LINE := by unfold LINE; omega
  simp only [binD, this, if_true]
theorem b_addT {xs ys : List D} (h : xs.length + ys.length ≤ 1000) : binD .add (.tup xs) (.tup ys) = some (.tup (xs ++ ys)) := by
  have : xs.length + ys.length ≤ LINE := by unfold LINE; omega
  simp only [binD, this, if_true]
theorem foldl_flat {α β : Type} (g : α → List β) : ∀ (l : List α) (s : List β), l.foldl (fun s i => s ++ g i) s = s ++ l.flatMap g
  | [], s => by simp
  | x :: l, s => by rw [List.foldl_cons, foldl_flat g l]; simp
theorem ix_last {xs : List D} {x : D} : ixD (.tup (xs ++ [x])) (.int (-1)) = some x := by
  have h : ((-1 : Int) + ((xs.length : Int) + 1)).toNat = xs.length := by omega
  have h1 : (1 : Int) ≤ (xs.length : Int) + 1 := by omega
  simp [ixD, atI, ixN, h, h1]
theorem cut_last {α : Type} (xs : List α) (x : α) : cutL (xs ++ [x]) none (some (-1)) = xs := by
  have h : ((-1 : Int) + ((xs.length : Int) + 1)).toNat = xs.length := by omega
  simp [cutL, sIx, h]
theorem cut_tail {α : Type} (x : α) (xs : List α) : cutL (x :: xs) (some 1) none = xs := by
  simp [cutL, sIx]
theorem eqO_pair (a b c d : Int) : D.eqO (.tup [.int a, .int b]) (.tup [.int c, .int d]) = some (a == c && b == d) := by
  simp [D.eqO, D.pl, plAll, D.dep, depAll, D.eqv, eqvAll]
theorem eqO_tup_nil {xs : List D} (h : ∀ d ∈ xs, d.pl = true ∧ d.dep ≤ 50) : D.eqO (.tup xs) (.tup []) = some xs.isEmpty := by
  obtain ⟨h1, h2⟩ := plAll_of h
  have h3 : depAll xs + 1 ≤ 60 := by omega
  cases xs <;> simp_all [D.eqO, D.pl, plAll, D.dep, depAll, D.eqv, eqvAll]
end Rp
namespace Lw
open Rp
theorem st_plain (s : Sp) : (st s).pl = true ∧ (st s).dep ≤ 50 := by simp [st, D.pl, plAll, D.dep, depAll]
def sidesL (m : Nat) : List Sp := (List.range m).flatMap fun i => [⟨i, false⟩, ⟨i, true⟩]
def stepsL (ds : List Dr) (x : Nat) : List Sp := (sidesL ds.length).filter fun s => (gt ds s).n == x
theorem sidesL_len (m : Nat) : (sidesL m).length = 2 * m := by
  simp only [sidesL, List.length_flatMap]
  induction m with
  | zero => rfl
  | succ m ih => rw [List.range_succ]; simp only [List.map_append, List.sum_append, ih]; simp; omega
theorem sidesL_mem {m : Nat} {s : Sp} (h : s ∈ sidesL m) : s.i < m := by
  simp only [sidesL, List.mem_flatMap, List.mem_range] at h
  obtain ⟨i, hi, h⟩ := h
  simp at h
  rcases h with rfl | rfl <;> exact hi
def endW (ds : List Dr) (x : Nat) : List Sp → Nat
  | [] => x
  | s :: p => endW ds (gt ds s).f p
def lastO (l : Option Sp) : List Sp → Option Sp
  | [] => l
  | s :: p => lastO (some s) p
theorem endW_app (ds : List Dr) (s : Sp) : ∀ (p : List Sp) (x : Nat), endW ds x (p ++ [s]) = (gt ds s).f
  | [], x => rfl
  | t :: p, x => endW_app ds s p _
theorem lastO_app (s : Sp) : ∀ (p : List Sp) (l : Option Sp), lastO l (p ++ [s]) = some s
  | [], _ => rfl
  | t :: p, _ => lastO_app s p _
def turned (l : Option Sp) (s : Sp) : Bool := match l with
  | some t => s.i == t.i && s.s == !t.s
  | none => false
/-- a foot's pulls and passes -/
def Ft (ds : List Dr) : Option Sp → Nat → List Int → List Sp → Prop
  | _, _, [], [] => True
  | l, x, v :: vs, s :: p => s.i < ds.length ∧ (gt ds s).n = x ∧ (turned l s = true → 1 ≤ v) ∧ 0 ≤ v ∧ v < (gt ds s).a.natAbs ∧ Ft ds (some s) (gt ds s).f vs p
  | _, _, _, _ => False
theorem Ft.len {ds : List Dr} : ∀ {vs : List Int} {p : List Sp} {l : Option Sp} {x : Nat}, Ft ds l x vs p → vs.length = p.length
  | [], [], _, _, _ => rfl
  | v :: vs, s :: p, _, _, h => by simp [Ft.len h.2.2.2.2.2]
  | [], s :: p, _, _, h => h.elim
  | v :: vs, [], _, _, h => h.elim
theorem Ft.walk {ds : List Dr} : ∀ {vs : List Int} {p : List Sp} {l : Option Sp} {x : Nat}, Ft ds l x vs p → Walk ds x p
  | [], [], _, _, _ => trivial
  | v :: vs, s :: p, _, _, h => ⟨h.1, h.2.1, Ft.walk h.2.2.2.2.2⟩
  | [], s :: p, _, _, h => h.elim
  | v :: vs, [], _, _, h => h.elim
theorem Ft.app {ds : List Dr} {v : Int} {s : Sp} : ∀ {vs : List Int} {p : List Sp} {l : Option Sp} {x : Nat}, Ft ds l x vs p → s.i < ds.length → (gt ds s).n = endW ds x p → (turned (lastO l p) s = true → 1 ≤ v) → 0 ≤ v → v < (gt ds s).a.natAbs → Ft ds l x (vs ++ [v]) (p ++ [s])
  | [], [], _, _, _, h1, h2, h3, h4, h5 => ⟨h1, h2, h3, h4, h5, trivial⟩
  | v :: vs, s :: p, _, _, h, h1, h2, h3, h4, h5 => ⟨h.1, h.2.1, h.2.2.1, h.2.2.2.1, h.2.2.2.2.1, Ft.app h.2.2.2.2.2 h1 h2 h3 h4 h5⟩
  | [], s :: p, _, _, h, _, _, _, _, _ => h.elim
  | v :: vs, [], _, _, h, _, _, _, _, _ => h.elim
theorem Walk.endOn {ds : List Dr} {R : Nat} (o : Ok R ds) : ∀ {p : List Sp} {x : Nat}, Walk ds x p → x < R → endW ds x p < R
  | [], _, _, h => h
  | s :: p, x, h, _ => by
    show endW ds (gt ds s).f p < R
    exact Walk.endOn o h.2.2 (o.gt h.1).2.1
def lsD : Option Sp → D
  | none => .non
  | some s => st s
def by3 (ds : List Dr) (l : Option Sp) (s : Sp) : D := .tup [st s, .int (if turned l s then 1 else 0), .int (gt ds s).a.natAbs]
theorem by3_plain (ds : List Dr) (l : Option Sp) (s : Sp) : (by3 ds l s).pl = true ∧ (by3 ds l s).dep ≤ 50 := by simp [by3, st, D.pl, plAll, D.dep, depAll]
section
variable {k : Nat} {w : W} {ds : List Dr}
theorem s_sides {m : Nat} (hm : m ≤ 400) : callN P (k + 1) "_law_sides" [.int m] w = .ok (.lst ((sidesL m).map st)) w := by
  have e := forL_fold (fun s : List Sp => [some (.int (m : Nat)), some (.lst (s.map st)), none]) (fun i : Nat => .int (i : Int)) (fun s i => s ++ [⟨i, false⟩, ⟨i, true⟩])
    (fun x env w => inB (.n 2) x env fun env => exSs (callN P k) [.asg 1 (.bin .add (.v 1) (.lst [.tup [.v 2, .c (.int 0)], .tup [.v 2, .c (.int 1)]])), .kill [2]] env w) w
    (fun is s => 2 * is.length + s.length ≤ 2 * m) (fun i is s hI => by
      simp only [List.length_cons] at hI
      refine ⟨?_, by simp; omega⟩
      have ap : ∀ a b, binD .add (.lst (s.map st)) (.lst [a, b]) = some (.lst (s.map st ++ [a, b])) := fun a b => b_addL (by simp; omega)
      simp -implicitDefEqProofs [ap, st]) (List.range m) [] (by simp)
  rw [foldl_flat (fun i => [(⟨i, false⟩ : Sp), ⟨i, true⟩])] at e
  have el : exS (callN P k) f_law_sides_l1 [some (.int (m : Nat)), some (.lst []), none] w = .ok (.next [some (.int (m : Nat)), some (.lst ((sidesL m).map st)), none]) w := by
    unfold f_law_sides_l1
    refine ex_for_of (evi_r0 (n := m) (w' := w) (by simp) (by omega)) ?_
    simpa [sidesL] using e
  rw [call_def (fn := f_law_sides) rfl rfl _ _ _ rfl]
  simp -implicitDefEqProofs [f_law_sides, start, el]
theorem s_law_steps {x : Nat} (hd : ds.length ≤ 20) : callN P (k + 2) "_law_steps" [drs ds, .int x] w = .ok (.lst ((stepsL ds x).map st)) w := by
  have h1 := sidesL_len ds.length
  have e1 := mapL_ok (fun x1 w => inB (.t [3, 4]) x1 [some (drs ds), some (.int x), none, none, none, none] fun env => evE (callN P (k + 1)) (.tup [.v 3, .v 4]) env w) st st w (sidesL ds.length) (fun s _ => by
    show inB _ (.tup _) _ _ = _
    rw [inB_t _ _ _ _ rfl]
    simp -implicitDefEqProofs [st])
  have c1 : evE (callN P (k + 1)) f_law_steps_c1 [some (drs ds), some (.int x), none, none, none, none] w = .ok (.lst ((sidesL ds.length).map st)) w := by
    unfold f_law_steps_c1
    refine ev_comp_of (w1 := w) (xs := (sidesL ds.length).map st) ?_ e1 (by simp; omega)
    simp -implicitDefEqProofs [bi_len_drs, s_sides (m := ds.length) (by omega)]
  have e2 := filtL_ok (fun x1 w => inB (.n 5) x1 [some (drs ds), some (.int x), some (.lst ((sidesL ds.length).map st)), none, none, none] fun env => (evE (callN P (k + 1)) (.cmp .eq (.ix (.call "_law_gate" [.v 0, .v 5]) (.c (.int 0))) (.v 1)) env w).bind fun t w => Rp.cond t ((evE (callN P (k + 1)) (.v 5) env w).bind fun y w => .ok (some y) w) (.ok none w)) st st (fun s => (gt ds s).n == x) w (sidesL ds.length) (fun s hs => by
    have hi := sidesL_mem hs
    have hb : (((gt ds s).n : Int) == (x : Int)) = ((gt ds s).n == x) := by
      by_cases h : (gt ds s).n = x
      · simp [h]
      · have : ¬ ((gt ds s).n : Int) = x := by omega
        rw [beq_eq_false_iff_ne.mpr h, beq_eq_false_iff_ne.mpr this]
    simp -implicitDefEqProofs [s_law_gate hi, hb, cond_bl]
    split <;> rfl)
  have c2 : evE (callN P (k + 1)) f_law_steps_c2 [some (drs ds), some (.int x), some (.lst ((sidesL ds.length).map st)), none, none, none] w = .ok (.lst ((stepsL ds x).map st)) w := by
    unfold f_law_steps_c2
    refine ev_compIf_of (w1 := w) (xs := (sidesL ds.length).map st) ?_ e2 ?_
    · simp
    · have := List.length_filter_le (fun s => (gt ds s).n == x) (sidesL ds.length)
      rw [List.length_map]; unfold stepsL; omega
  rw [call_def (fn := f_law_steps) rfl rfl _ _ _ rfl]
  simp -implicitDefEqProofs [f_law_steps, start, c1, c2]
theorem sts_nil_eq (p : List Sp) : D.eqO (sts p) (.tup []) = some p.isEmpty := by
  have := eqO_tup_nil (xs := p.map st) (fun d hd => by
    obtain ⟨s, _, rfl⟩ := List.mem_map.mp hd
    exact st_plain s)
  simpa [sts] using this
theorem ix_sts_last (p : List Sp) (s : Sp) : ixD (sts (p ++ [s])) (.int (-1)) = some (st s) := by
  unfold sts
  rw [List.map_append]
  exact ix_last
theorem s_law_end {x : Nat} {us : List Int} {p : List Sp} (hp : On ds p) : callN P (k + 2) "_law_end" [drs ds, wk x us p] w = .ok (.int (endW ds x p)) w := by
  rw [call_def (fn := f_law_end) rfl rfl _ _ _ rfl]
  rcases List.eq_nil_or_concat p with rfl | ⟨q, s, h⟩
  · simp -implicitDefEqProofs [f_law_end, start, sts_nil_eq, endW]
  · rw [List.concat_eq_append] at h
    subst h
    have hs : s.i < ds.length := hp s (by simp)
    have hE : (q ++ [s]).isEmpty = false := by simp
    simp -implicitDefEqProofs [f_law_end, start, sts_nil_eq, hE, ix_sts_last, s_law_gate hs, endW_app]
theorem s_beyond {x : Nat} (l : Option Sp) (hd : ds.length ≤ 20) : callN P (k + 3) "_law_gr_beyond" [drs ds, .int x, lsD l] w = .ok (.lst ((stepsL ds x).map (by3 ds l))) w := by
  have hlen : (stepsL ds x).length ≤ 40 := by
    have h1 := sidesL_len ds.length
    have := List.length_filter_le (fun s => (gt ds s).n == x) (sidesL ds.length)
    simp [stepsL]; omega
  have e := forL_fold (fun s : List Sp => [some (drs ds), some (.int x), some (lsD l), some (.lst (s.map (by3 ds l))), none, none]) st (fun s i => s ++ [i])
    (fun x1 env w => inB (.n 4) x1 env fun env => exSs (callN P (k + 2)) [.asg 5 (.and (.cmp .isNot (.v 2) (.c .non)) (.cmp .eq (.v 4) (.tup [.ix (.v 2) (.c (.int 0)), .bin .sub (.c (.int 1)) (.ix (.v 2) (.c (.int 1)))]))), .append 3 (.tup [.v 4, .bi .int1 [.v 5], .bi .abs [.ix (.call "_law_gate" [.v 0, .v 4]) (.c (.int 1))]]), .kill [4, 5]] env w) w
    (fun is s => is.length + s.length ≤ 40 ∧ ∀ i ∈ is, i ∈ sidesL ds.length) (fun i is s hI => by
      obtain ⟨i1, i2⟩ := hI
      simp only [List.length_cons] at i1
      refine ⟨?_, by simp; omega, fun j hj => i2 j (List.mem_cons_of_mem _ hj)⟩
      have hi := sidesL_mem (i2 i List.mem_cons_self)
      have ap : ∀ v, appD (.lst (s.map (by3 ds l))) v = some (.lst (s.map (by3 ds l) ++ [v])) := fun v => appD_ok (by simp; omega)
      have ht : evE (callN P (k + 2)) (.and (.cmp .isNot (.v 2) (.c .non)) (.cmp .eq (.v 4) (.tup [.ix (.v 2) (.c (.int 0)), .bin .sub (.c (.int 1)) (.ix (.v 2) (.c (.int 1)))]))) [some (drs ds), some (.int x), some (lsD l), some (.lst (s.map (by3 ds l))), some (st i), none] w = .ok (.bl (turned l i)) w := by
        cases l with
        | none => simp -implicitDefEqProofs [lsD, cmpD, D.isN, turned]
        | some t =>
          have h1 : cmpD .isNot (st t) .non = some true := rfl
          have h2 : D.eqO (st i) (.tup [.int t.i, .int (1 - (if t.s then 1 else 0))]) = some (turned (some t) i) := by
            unfold st
            rw [eqO_pair]
            simp only [turned, Option.some.injEq]
            have hb : ((i.i : Int) == (t.i : Int)) = (i.i == t.i) := by
              by_cases h : i.i = t.i
              · simp [h]
              · have : ¬ (i.i : Int) = t.i := by omega
                rw [beq_eq_false_iff_ne.mpr h, beq_eq_false_iff_ne.mpr this]
            rw [hb]
            cases i.s <;> cases t.s <;> simp
          simp -implicitDefEqProofs [lsD, h1, h2]
      have hi1 : biD .int1 [.bl (turned l i)] = some (.int (if turned l i then 1 else 0)) := rfl
      have := ht
      simp -implicitDefEqProofs only [inB_n, exs_cons, exs_nil, ex_asg, ex_append, ex_kill, kill, List.set_cons_zero, List.set_cons_succ, ht, Rp.R.bind_ok, thenS_next, look_zero, look_succ, lift_some, ev_tup, evs_cons, evs_nil, ev_v, ev_bi, ev_ix, ev_call, ev_c, hi1, s_law_gate hi, dr1, bi_abs_int, ap, List.map_append, List.map_cons, List.map_nil, by3]) (stepsL ds x) [] ⟨by simpa using hlen, fun i hi => (List.mem_filter.mp hi).1⟩
  have ef : (stepsL ds x).foldl (fun s i => s ++ [i]) [] = stepsL ds x := by
    rw [foldl_flat (fun i => [i])]; simp
  rw [ef] at e
  have el : exS (callN P (k + 2)) f_law_gr_beyond_l1 [some (drs ds), some (.int x), some (lsD l), some (.lst []), none, none] w = .ok (.next [some (drs ds), some (.int x), some (lsD l), some (.lst ((stepsL ds x).map (by3 ds l))), none, none]) w := by
    unfold f_law_gr_beyond_l1
    refine ex_for_of (xs := (stepsL ds x).map st) (w1 := w) ?_ e
    simp -implicitDefEqProofs [s_law_steps hd]
  rw [call_def (fn := f_law_gr_beyond) rfl rfl _ _ _ rfl]
  simp -implicitDefEqProofs [f_law_gr_beyond, start, el, isMut]
end
end Lw
end

section
set_option linter.all false
set_option maxRecDepth 100000
namespace Lw
open Rp
theorem Walk.on' {ds : List Dr} {p : List Sp} {x : Nat} (h : Walk ds x p) : On ds p := Walk.on h
section
variable {k : Nat} {ds : List Dr}
def canGo (ds : List Dr) (l : Option Sp) (s : Sp) : Bool := decide ((if turned l s then 1 else 0 : Int) < (gt ds s).a.natAbs)
theorem by3_0 (l : Option Sp) (s : Sp) : ixD (by3 ds l s) (.int 0) = some (st s) := by simp [by3]
theorem by3_1 (l : Option Sp) (s : Sp) : ixD (by3 ds l s) (.int 1) = some (.int (if turned l s then 1 else 0)) := by unfold by3; simp
theorem by3_2 (l : Option Sp) (s : Sp) : ixD (by3 ds l s) (.int 2) = some (.int (gt ds s).a.natAbs) := by unfold by3; simp
theorem tI_app (us : List Int) (v : Int) : tI (us ++ [v]) = .tup (us.map .int ++ [.int v]) := by simp [tI]
theorem sl_tI (us : List Int) (v : Int) : slD (tI (us ++ [v])) none (some (-1)) = some (tI us) := by
  rw [tI_app]
  simp only [slD, cut_last, tI]
theorem l_drawn_turn {w : W} {n R many : Nat} {x : Nat} (o : Ok R ds) (hw : Dw n w) (hn : n ≤ 2 ^ 38) (i : D) (vs : List Int) (p : List Sp) (hF : Ft ds none x vs p) (hl : p.length ≤ 100) :
    ∃ (vs' : List Int) (p' : List Sp) (w' : W), inB (.n 5) i [some .tok, some (drs ds), some (.int x), some (.int many), some (wk x (vs ++ [0]) p), none, none, none, none, none, none, none] (fun env => exSs (callN P (k + 3)) [.asg 6 (.ite (.cmp .ne (.ix (.v 4) (.c (.int 2))) (.tup [])) (.ix (.ix (.v 4) (.c (.int 2))) (.neg (.c (.int 1)))) (.c .non)), .asg 7 f_law_gr_drawn_c1, .ifs (.cmp .ne (.v 7) (.lst [])) [.unpack [8, 9, 10] (.call "_law_pick" [.v 0, .v 7]), .asg 4 (.tup [.v 2, .bin .add (.sl (.ix (.v 4) (.c (.int 1))) none (some (.neg (.c (.int 1))))) (.tup [.bin .add (.v 9) (.call "_law_draw" [.v 0, .bin .sub (.v 10) (.v 9)]), .c (.int 0)]), .bin .add (.ix (.v 4) (.c (.int 2))) (.tup [.v 8])])] [], .kill [8, 9, 10], .kill [5, 6, 7, 8, 9, 10]] env w) =
      .ok (.next [some .tok, some (drs ds), some (.int x), some (.int many), some (wk x (vs' ++ [0]) p'), none, none, none, none, none, none, none]) w' ∧ Ft ds none x vs' p' ∧ p'.length ≤ p.length + 1 ∧ Dw (n + 2) w' := by
  have hW := hF.walk
  have hon := Walk.on hW
  have hlen := hF.len
  have h6 : ∀ w, evE (callN P (k + 3)) (.ite (.cmp .ne (.ix (.v 4) (.c (.int 2))) (.tup [])) (.ix (.ix (.v 4) (.c (.int 2))) (.neg (.c (.int 1)))) (.c .non)) [some .tok, some (drs ds), some (.int x), some (.int many), some (wk x (vs ++ [0]) p), some i, none, none, none, none, none, none] w = .ok (lsD (lastO none p)) w := fun w => by
    rcases List.eq_nil_or_concat p with h | ⟨q, s, h⟩
    · subst h
      simp -implicitDefEqProofs [sts_nil_eq, lastO, lsD]
    · rw [List.concat_eq_append] at h
      subst h
      have hE : (q ++ [s]).isEmpty = false := by simp
      simp -implicitDefEqProofs [sts_nil_eq, hE, ix_sts_last, lastO_app, lsD]
  generalize hL : lastO none p = l at *
  have hcnt : (stepsL ds (endW ds x p)).length ≤ 40 := by
    have h1 := sidesL_len ds.length
    have h2 := o.len
    have := List.length_filter_le (fun s => (gt ds s).n == endW ds x p) (sidesL ds.length)
    unfold stepsL; omega
  have hcnt2 := List.length_filter_le (canGo ds l) (stepsL ds (endW ds x p))
  have h7 : ∀ w, evE (callN P (k + 3)) f_law_gr_drawn_c1 [some .tok, some (drs ds), some (.int x), some (.int many), some (wk x (vs ++ [0]) p), some i, some (lsD l), none, none, none, none, none] w = .ok (.lst (((stepsL ds (endW ds x p)).filter (canGo ds l)).map (by3 ds l))) w := fun w => by
    have e := filtL_ok (fun x1 w => inB (.n 11) x1 [some .tok, some (drs ds), some (.int x), some (.int many), some (wk x (vs ++ [0]) p), some i, some (lsD l), none, none, none, none, none] fun env => (evE (callN P (k + 3)) (.cmp .lt (.ix (.v 11) (.c (.int 1))) (.ix (.v 11) (.c (.int 2)))) env w).bind fun t w => Rp.cond t ((evE (callN P (k + 3)) (.v 11) env w).bind fun y w => .ok (some y) w) (.ok none w)) (by3 ds l) (by3 ds l) (canGo ds l) w (stepsL ds (endW ds x p)) (fun s hs => by
      have hc : (if turned l s then 1 else 0 : Int) < (gt ds s).a.natAbs ↔ canGo ds l s = true := by unfold canGo; simp
      by_cases h : canGo ds l s = true
      · have h2 := hc.mpr h
        simp -implicitDefEqProofs only [inB_n, ev_cmp, ev_ix, ev_v, ev_c, List.set_cons_zero, List.set_cons_succ, look_zero, look_succ, lift_some, Rp.R.bind_ok, by3_1, by3_2, cmp_lt, Option.map_some, h2, decide_true, Rp.cond_true, h, if_true]
      · have h2 : ¬ _ := fun q => h (hc.mp q)
        simp -implicitDefEqProofs only [inB_n, ev_cmp, ev_ix, ev_v, ev_c, List.set_cons_zero, List.set_cons_succ, look_zero, look_succ, lift_some, Rp.R.bind_ok, by3_1, by3_2, cmp_lt, Option.map_some, h2, decide_false, Rp.cond_false, h]
        rfl)
    unfold f_law_gr_drawn_c1
    refine ev_compIf_of (w1 := w) (xs := (stepsL ds (endW ds x p)).map (by3 ds l)) ?_ e (by rw [List.length_map]; omega)
    simp -implicitDefEqProofs [s_law_end hon, s_beyond l o.len]
  have hq := eqO_lst_nil (xs := ((stepsL ds (endW ds x p)).filter (canGo ds l)).map (by3 ds l)) (fun d hd => by
    obtain ⟨s, _, rfl⟩ := List.mem_map.mp hd
    exact by3_plain ds l s)
  by_cases h0 : (stepsL ds (endW ds x p)).filter (canGo ds l) = []
  · refine ⟨vs, p, w, ?_, hF, by omega, hw.mono (by omega)⟩
    rw [h0] at h7 hq
    simp -implicitDefEqProofs only [List.map_nil] at h7 hq
    simp -implicitDefEqProofs only [inB_n, exs_cons, exs_nil, ex_asg, ex_ifs, ex_kill, kill, List.set_cons_zero, List.set_cons_succ, h6, h7, hq, ev_cmp, cmp_ne, ev_v, ev_lst, evs_nil, look_zero, look_succ, lift_some, Rp.R.bind_ok, Option.map_some, List.isEmpty_nil, Bool.not_true, Rp.cond_false, thenS_next]
  · generalize hG : (stepsL ds (endW ds x p)).filter (canGo ds l) = G at *
    have hG0 : 0 < G.length := List.length_pos_iff.mpr h0
    obtain ⟨d, w1, hd, e1, d1⟩ := s_pick (k := k) hw (by omega) (xs := G.map (by3 ds l)) (by rw [List.length_map]; exact hG0) (by rw [List.length_map]; omega)
    obtain ⟨s, hs, rfl⟩ := List.mem_map.mp hd
    have hs2 : s ∈ (stepsL ds (endW ds x p)).filter (canGo ds l) := by rw [hG]; exact hs
    obtain ⟨hs3, hs4⟩ := List.mem_filter.mp hs2
    obtain ⟨hs5, hs6⟩ := List.mem_filter.mp hs3
    have hsi := sidesL_mem hs5
    have hsn : (gt ds s).n = endW ds x p := by simpa using hs6
    have hc : (if turned l s then 1 else 0 : Int) < (gt ds s).a.natAbs := by unfold canGo at hs4; simpa using hs4
    obtain ⟨hb1, hb2, hb3, hb4, hb5, hb6, _⟩ := o.gt hsi
    obtain ⟨m, hm⟩ : ∃ m : Nat, ((gt ds s).a.natAbs : Int) - (if turned l s then 1 else 0) = m := ⟨(((gt ds s).a.natAbs : Int) - (if turned l s then 1 else 0)).toNat, by omega⟩
    have hm0 : 0 < m := by omega
    have hm1 : m ≤ 1000 := by
      have : (0 : Int) ≤ (if turned l s then 1 else 0 : Int) := by split <;> decide
      omega
    obtain ⟨r, w2, hr, e2, d2⟩ := s_draw (k := k + 1) d1 (by omega) hm0 (by omega)
    have hqe : G.map (by3 ds l) ≠ [] := by simp [h0]
    have hq2 : (G.map (by3 ds l)).isEmpty = false := by simp [h0]
    rw [hq2] at hq
    refine ⟨vs ++ [(if turned l s then 1 else 0) + (r : Int)], p ++ [s], w2, ?_, ?_, by simp, d2.mono (by omega)⟩
    · have hu : uItems (by3 ds l s) = some [st s, .int (if turned l s then 1 else 0), .int (gt ds s).a.natAbs] := rfl
      have a1 : ∀ a b, binD .add (tI vs) (.tup [a, b]) = some (.tup (vs.map .int ++ [a, b])) := fun a b => b_addT (by simp; omega)
      have a2 : ∀ a, binD .add (sts p) (.tup [a]) = some (.tup (p.map st ++ [a])) := fun a => b_addT (by simp; omega)
      simp -implicitDefEqProofs only [inB_n, exs_cons, exs_nil, ex_asg, ex_ifs, ex_unpack, ex_kill, kill, List.set_cons_zero, List.set_cons_succ, h6, h7, e1, e2, hq, hu, hm, a1, a2, sl_tI, ev_cmp, cmp_ne, ev_v, ev_lst, ev_tup, ev_call, ev_bin, ev_c, ev_ix, ev_neg, ev_sl2, neg_int, bdI, Option.bind_some, evs_cons, evs_nil, look_zero, look_succ, lift_some, Rp.R.bind_ok, Option.map_some, Bool.not_false, Rp.cond_true, thenS_next, setAll_cons, setAll_nil, List.length_cons, List.length_nil, if_true, b_sub, b_add, wk1, wk2]
      simp -implicitDefEqProofs [wk, tI, sts]
    · refine hF.app hsi (by rw [hsn]) (fun ht => ?_) ?_ ?_
      · rw [hL] at ht; rw [if_pos ht]; omega
      · split <;> omega
      · have : ((if turned l s then 1 else 0 : Int) + r) < (gt ds s).a.natAbs := by omega
        exact this
theorem s_drawn {w : W} {n R many : Nat} {x : Nat} (o : Ok R ds) (hw : Dw n w) (hn : n ≤ 2 ^ 37) (hm : many ≤ 90) :
    ∃ (vs : List Int) (p : List Sp) (w' : W), callN P (k + 4) "_law_gr_drawn" [.tok, drs ds, .int x, .int many] w = .ok (wk x (vs ++ [0]) p) w' ∧ Ft ds none x vs p ∧ p.length ≤ many ∧ Dw (n + 1 + 2 * many) w' := by
  obtain ⟨m, w0, hm0, e0, d0⟩ := s_draw (k := k + 1) hw (by omega) (m := many + 1) (by omega) (by omega)
  push_cast at e0
  have h := forL_inv (fun s : List Int × List Sp => [some .tok, some (drs ds), some (.int x), some (.int many), some (wk x (s.1 ++ [0]) s.2), none, none, none, none, none, none, none]) (fun i : Nat => .int (i : Int))
    (fun x env w => inB (.n 5) x env fun env => exSs (callN P (k + 3)) [.asg 6 (.ite (.cmp .ne (.ix (.v 4) (.c (.int 2))) (.tup [])) (.ix (.ix (.v 4) (.c (.int 2))) (.neg (.c (.int 1)))) (.c .non)), .asg 7 f_law_gr_drawn_c1, .ifs (.cmp .ne (.v 7) (.lst [])) [.unpack [8, 9, 10] (.call "_law_pick" [.v 0, .v 7]), .asg 4 (.tup [.v 2, .bin .add (.sl (.ix (.v 4) (.c (.int 1))) none (some (.neg (.c (.int 1))))) (.tup [.bin .add (.v 9) (.call "_law_draw" [.v 0, .bin .sub (.v 10) (.v 9)]), .c (.int 0)]), .bin .add (.ix (.v 4) (.c (.int 2))) (.tup [.v 8])])] [], .kill [8, 9, 10], .kill [5, 6, 7, 8, 9, 10]] env w)
    (fun is s w => Ft ds none x s.1 s.2 ∧ s.2.length + is.length ≤ m ∧ Dw (n + 1 + 2 * (m - is.length)) w) (fun i is s w hI => by
      obtain ⟨i1, i2, i3⟩ := hI
      simp only [List.length_cons] at i2 i3
      obtain ⟨vs', p', w', e, j1, j2, j3⟩ := l_drawn_turn (k := k) (many := many) o i3 (by omega) (.int (i : Nat)) s.1 s.2 i1 (by omega)
      exact ⟨(vs', p'), w', e, j1, by simp only; omega, j3.mono (by omega)⟩) (List.range m) ([], []) w0 ⟨trivial, by simp, by simpa using d0⟩
  obtain ⟨s, w', e, j1, j2, j3⟩ := h
  refine ⟨s.1, s.2, w', ?_, j1, by omega, j3.mono (by simp only [List.length_nil]; omega)⟩
  have el : exS (callN P (k + 3)) f_law_gr_drawn_l1 [some .tok, some (drs ds), some (.int x), some (.int many), some (wk x [0] []), none, none, none, none, none, none, none] w = .ok (.next [some .tok, some (drs ds), some (.int x), some (.int many), some (wk x (s.1 ++ [0]) s.2), none, none, none, none, none, none, none]) w' := by
    unfold f_law_gr_drawn_l1
    refine ex_for_of (evi_r0 (n := m) (w' := w0) (by simp -implicitDefEqProofs [e0]) (by omega)) ?_
    exact e
  have e5 : D.tup [.int x, .tup [.int 0], .tup []] = wk x [0] [] := rfl
  rw [call_def (fn := f_law_gr_drawn) rfl rfl _ _ _ rfl]
  simp -implicitDefEqProofs [f_law_gr_drawn, start, e5, el, List.replicate]
end
end Lw
end

section
set_option linter.all false
set_option maxRecDepth 100000
namespace Rp
theorem countP_lt {α : Type} {p q : α → Bool} (h : ∀ a, p a = true → q a = true) (x : α) (hq : q x = true) (hp : p x = false) : ∀ l : List α, x ∈ l → l.countP p + 1 ≤ l.countP q
  | [], hx => by cases hx
  | y :: l, hx => by
    have mono : ∀ l : List α, l.countP p ≤ l.countP q := fun l => List.countP_mono_left fun a _ => h a
    rcases List.mem_cons.mp hx with e | e
    · subst e
      rw [List.countP_cons_of_neg (by simp [hp]), List.countP_cons_of_pos hq]
      have := mono l
      omega
    · have ih := countP_lt h x hq hp l e
      by_cases hy : p y = true
      · rw [List.countP_cons_of_pos hy, List.countP_cons_of_pos (h y hy)]
        omega
      · rw [List.countP_cons_of_neg hy]
        by_cases hy2 : q y = true
        · rw [List.countP_cons_of_pos hy2]; omega
        · rw [List.countP_cons_of_neg hy2]; omega
theorem dHas_map {α : Type} (f : α → Nat) (g : α → D) (x : Nat) : ∀ l : List α, dHas (l.map fun a => (.int (f a), g a)) (.int x) = decide (x ∈ l.map f)
  | [] => by simp [dHas]
  | a :: l => by
    have h := dHas_map f g x l
    simp only [List.map_cons, dHas, D.eqv, h, List.mem_cons]
    by_cases e : x = f a
    · subst e; simp
    · have e2 : ¬ ((f a : Int) = (x : Int)) := by omega
      simp [e, e2]
theorem setD_new {α : Type} (f : α → Nat) (g : α → D) (x : Nat) (v : D) (l : List α) (h : x ∉ l.map f) (hl : l.length ≤ 1000) : setD (.dic (l.map fun a => (.int (f a), g a))) (.int x) v = some (.dic ((l.map fun a => (.int (f a), g a)) ++ [(.int x, v)])) := by
  have h1 : dHas (l.map fun a => (.int (f a), g a)) (.int x) = false := by rw [dHas_map]; simpa using h
  have h2 : (l.map fun a => (D.int (f a), g a)).length < LINE := by rw [List.length_map]; unfold LINE; omega
  simp only [setD, D.key, Bool.true_and, decide_eq_true h2, if_true, dPut, h1]
  rfl
theorem eqO_ints_nil (l : List Nat) : D.eqO (.lst (l.map fun i => .int (i : Nat))) (.lst []) = some l.isEmpty := by
  rw [eqO_lst_nil (fun d hd => by
    obtain ⟨i, _, rfl⟩ := List.mem_map.mp hd
    simp [D.pl, D.dep])]
  simp
theorem nat_beq (a b : Nat) : ((a : Int) == (b : Int)) = decide (a = b) := by
  by_cases h : a = b
  · simp [h]
  · have : ¬ (a : Int) = b := by omega
    simp [h, this]
theorem bi_all_true {α : Type} (xs : List α) : biD .all [.lst (xs.map fun _ => .bl true)] = some (.bl true) := by
  have h1 := isBls_map (fun _ : α => true) xs
  have h2 := bls_map (fun _ : α => true) xs
  simp only [biD, h1, h2, if_true]
  simp
theorem popD_first {x : D} {xs : List D} (hl : xs.length ≤ 900) : popD (.lst (x :: xs)) (some (.int 0)) = some (x, .lst xs) := by
  have := popD_at (xs := x :: xs) (i := 0) (by simp) (by simp; omega)
  simpa using this
end Rp
namespace Lw
open Rp
/-! ### going on from known rooms to others -/
def unk (R : Nat) (known : List Nat) : Nat := (List.range R).countP fun r => decide (r ∉ known)
theorem unk_new {R x : Nat} {known : List Nat} (hx : x < R) (h : x ∉ known) : unk R (known ++ [x]) + 1 ≤ unk R known := by
  refine countP_lt (fun a ha => ?_) x (by simpa using h) (by simp) _ (List.mem_range.mpr hx)
  simp only [List.mem_append, List.mem_singleton, decide_eq_true_eq, not_or] at ha ⊢
  exact ha.1
def pr (p : Nat × Nat) : D := .tup [.int p.1, .int p.2]
def goOn (here : Nat) (s : List Nat × List Nat) (q : Nat × Nat) : List Nat × List Nat := if q.1 = here ∧ q.2 ∉ s.1 then (s.1 ++ [q.2], s.2 ++ [q.2]) else s
structure Jn (R : Nat) (as : List (Nat × Nat)) (here : Option Nat) (s : List Nat × List Nat) : Prop where
  z : 0 ∈ s.1
  sub : ∀ r ∈ s.2, r ∈ s.1
  lt : ∀ r ∈ s.1, r < R
  cl : ∀ x ∈ s.1, x ∉ s.2 → some x ≠ here → ∀ q ∈ as, q.1 = x → q.2 ∈ s.1
  n1 : s.1.length + unk R s.1 ≤ R
  n2 : s.2.length + unk R s.1 ≤ R
theorem Jn.go {R : Nat} {as : List (Nat × Nat)} {here : Nat} {s : List Nat × List Nat} (j : Jn R as (some here) s) (q : Nat × Nat) (hq : q.2 < R) :
    Jn R as (some here) (goOn here s q) ∧ (q.1 = here → q.2 ∈ (goOn here s q).1) ∧ (∀ r ∈ s.1, r ∈ (goOn here s q).1) ∧ (goOn here s q).2.length + unk R (goOn here s q).1 ≤ s.2.length + unk R s.1 := by
  unfold goOn
  by_cases h : q.1 = here ∧ q.2 ∉ s.1
  · rw [if_pos h]
    have hu := unk_new hq h.2
    refine ⟨⟨List.mem_append_left _ j.z, ?_, ?_, ?_, ?_, ?_⟩, ?_, ?_, ?_⟩
    · intro r hr
      rcases List.mem_append.mp hr with e | e
      · exact List.mem_append_left _ (j.sub r e)
      · exact List.mem_append_right _ e
    · intro r hr
      rcases List.mem_append.mp hr with e | e
      · exact j.lt r e
      · simp at e; subst e; exact hq
    · intro x hx hx2 hx3 p hp hpx
      have hx4 : x ∉ s.2 := fun e => hx2 (List.mem_append_left _ e)
      rcases List.mem_append.mp hx with e | e
      · exact List.mem_append_left _ (j.cl x e hx4 hx3 p hp hpx)
      · exact absurd (List.mem_append_right _ e) hx2
    · have := j.n1; simp only [List.length_append, List.length_cons, List.length_nil]; omega
    · have := j.n2; simp only [List.length_append, List.length_cons, List.length_nil]; omega
    · intro _; exact List.mem_append_right _ List.mem_cons_self
    · intro r hr; exact List.mem_append_left _ hr
    · simp only [List.length_append, List.length_cons, List.length_nil]; omega
  · rw [if_neg h]
    refine ⟨j, fun e => ?_, fun r hr => hr, Nat.le_refl _⟩
    exact Classical.byContradiction fun h2 => h ⟨e, h2⟩
theorem Jn.all {R : Nat} {as : List (Nat × Nat)} (has : ∀ q ∈ as, q.1 < R ∧ q.2 < R) {s : List Nat × List Nat} (j : Jn R as none s) (he : s.2 = [])
    (hc : ∀ r, 1 ≤ r → r < R → ∃ q ∈ as, q.2 = r ∧ q.1 < r) : ∀ r, r < R → r ∈ s.1 := by
  intro r
  induction r using Nat.strongRecOn with
  | ind r ih =>
    intro hr
    by_cases h0 : r = 0
    · subst h0; exact j.z
    · obtain ⟨q, hq, e1, e2⟩ := hc r (by omega) hr
      have := ih q.1 e2 (by omega)
      rw [← e1]
      exact j.cl q.1 this (by simp [he]) (by simp) q hq rfl
theorem Jn.start {R : Nat} (hR : 1 ≤ R) (as : List (Nat × Nat)) : Jn R as none ([0], [0]) := by
  have h : unk R [0] + 1 ≤ unk R [] := unk_new (x := 0) (known := []) (by omega) (by simp)
  have h2 : unk R [] ≤ R := by
    have := List.countP_le_length (p := fun r => decide (r ∉ ([] : List Nat))) (l := List.range R)
    simpa [unk] using this
  exact ⟨by simp, by simp, by simp; omega, by simp, by simp; omega, by simp; omega⟩
theorem Jn.pop {R : Nat} {as : List (Nat × Nat)} {known line line' : List Nat} {here : Nat} (j : Jn R as none (known, line)) (h1 : ∀ r, r ∈ line ↔ r = here ∨ r ∈ line') (h2 : line.length = line'.length + 1) : here ∈ known ∧ Jn R as (some here) (known, line') := by
  refine ⟨j.sub here ((h1 here).mpr (.inl rfl)), ⟨j.z, fun r hr => j.sub r ((h1 r).mpr (.inr hr)), j.lt, ?_, j.n1, ?_⟩⟩
  · intro x hx hx2 hx3 q hq e
    refine j.cl x hx (fun h => ?_) (by simp) q hq e
    rcases (h1 x).mp h with h | h
    · exact hx3 (by rw [h])
    · exact hx2 h
  · have := j.n2
    simp only at this ⊢
    omega
theorem Jn.done {R : Nat} {as : List (Nat × Nat)} {here : Nat} {s : List Nat × List Nat} (j : Jn R as (some here) s) (h : ∀ q ∈ as, q.1 = here → q.2 ∈ s.1) : Jn R as none s := by
  refine ⟨j.z, j.sub, j.lt, fun x hx hx2 _ q hq e => ?_, j.n1, j.n2⟩
  by_cases hh : x = here
  · exact h q hq (by rw [e, hh])
  · exact j.cl x hx hx2 (by simpa using hh) q hq e
/-- all ways over doors, both ways -/
def arcs (ds : List Dr) : List (Nat × Nat) := ds.flatMap fun d => [(d.n, d.f), (d.f, d.n)]
theorem arcs_lt {R : Nat} {ds : List Dr} (h : Hm R ds) : ∀ q ∈ arcs ds, q.1 < R ∧ q.2 < R := by
  intro q hq
  simp only [arcs, List.mem_flatMap] at hq
  obtain ⟨d, hd, hq⟩ := hq
  obtain ⟨h1, h2, _⟩ := h.d d hd
  simp at hq
  rcases hq with rfl | rfl
  · exact ⟨h1, h2⟩
  · exact ⟨h2, h1⟩
theorem arcs_cn {R : Nat} {ds : List Dr} (h : Hm R ds) : ∀ r, 1 ≤ r → r < R → ∃ q ∈ arcs ds, q.2 = r ∧ q.1 < r := by
  intro r h1 h2
  obtain ⟨d, hd, h⟩ := h.c r h1 h2
  rcases h with ⟨e1, e2⟩ | ⟨e1, e2⟩
  · exact ⟨(d.f, d.n), by simp only [arcs, List.mem_flatMap]; exact ⟨d, hd, by simp⟩, e1, e2⟩
  · exact ⟨(d.n, d.f), by simp only [arcs, List.mem_flatMap]; exact ⟨d, hd, by simp⟩, e1, e2⟩
def kn (known : List Nat) : D := .dic (known.map fun r => (.int (id r : Nat), .bl true))
def lnD (line : List Nat) : D := .lst (line.map fun i => .int (i : Nat))
theorem kn_has (known : List Nat) (x : Nat) : inD (.int x) (kn known) = some (decide (x ∈ known)) := by
  unfold kn
  simp only [inD, D.key, if_true]
  rw [dHas_map id (fun _ => .bl true)]
  simp
theorem kn_set (known : List Nat) (x : Nat) (h : x ∉ known) (hl : known.length ≤ 1000) : setD (kn known) (.int x) (.bl true) = some (kn (known ++ [x])) := by
  unfold kn
  rw [setD_new id (fun _ => .bl true) x _ known (by simpa using h) hl]
  simp
theorem cmp_notIn (a b : D) : cmpD .notIn a b = (inD a b).map (!·) := by cases a <;> cases b <;> rfl
theorem ln_app (line : List Nat) (x : Nat) (hl : line.length ≤ 1000) : appD (lnD line) (.int x) = some (lnD (line ++ [x])) := by
  unfold lnD
  rw [appD_ok (by simpa using hl)]
  simp
section
variable {k : Nat} {w : W} {R : Nat} {ds : List Dr}
theorem l_join1 (C : Cl) (a b : D) (here n f : Nat) (s : List Nat × List Nat) (h1 : s.1.length ≤ 900) (h2 : s.2.length ≤ 900) : exS C f_joined_rooms_l1 [some (drs ds), some (kn s.1), some (lnD s.2), some (.int here), some (.int n), some a, some (.int f), some b, none, none] w =
    .ok (.next [some (drs ds), some (kn (goOn here (goOn here s (n, f)) (f, n)).1), some (lnD (goOn here (goOn here s (n, f)) (f, n)).2), some (.int here), some (.int n), some a, some (.int f), some b, none, none]) w := by
  have e := forL_fold (fun s : List Nat × List Nat => [some (drs ds), some (kn s.1), some (lnD s.2), some (.int here), some (.int n), some a, some (.int f), some b, none, none]) pr (goOn here)
    (fun x env w => inB (.t [8, 9]) x env fun env => exSs C [.ifs (.and (.cmp .eq (.v 8) (.v 3)) (.cmp .notIn (.v 9) (.v 1))) [.setix 1 (.v 9) (.c (.bl true)), .append 2 (.v 9)] [], .kill [8, 9]] env w) w
    (fun is s => s.1.length + is.length ≤ 910 ∧ s.2.length + is.length ≤ 910) (fun q is s hI => by
      obtain ⟨i1, i2⟩ := hI
      simp only [List.length_cons] at i1 i2
      have hlen : (goOn here s q).1.length ≤ s.1.length + 1 ∧ (goOn here s q).2.length ≤ s.2.length + 1 := by
        unfold goOn; split <;> simp
      refine ⟨?_, by omega, by omega⟩
      rw [pr, inB_t _ _ _ _ rfl]
      by_cases c1 : q.1 = here
      · by_cases c2 : q.2 ∈ s.1
        · have hg : goOn here s q = s := by unfold goOn; rw [if_neg (fun h => h.2 c2)]
          rw [hg]
          simp -implicitDefEqProofs [c1, cmp_notIn, kn_has, c2]
        · have hg : goOn here s q = (s.1 ++ [q.2], s.2 ++ [q.2]) := by unfold goOn; rw [if_pos ⟨c1, c2⟩]
          rw [hg]
          simp -implicitDefEqProofs [c1, cmp_notIn, kn_has, c2, kn_set s.1 q.2 c2 (by omega), ln_app s.2 q.2 (by omega)]
      · have hg : goOn here s q = s := by unfold goOn; rw [if_neg (fun h => c1 h.1)]
        rw [hg]
        simp -implicitDefEqProofs [nat_beq, c1]) [(n, f), (f, n)] s ⟨by simp; omega, by simp; omega⟩
  unfold f_joined_rooms_l1
  refine ex_for_of (xs := [(n, f), (f, n)].map pr) (w1 := w) ?_ e
  simp -implicitDefEqProofs [pr]
theorem l_join2 (C : Cl) (hm : Hm R ds) (here : Nat) (s : List Nat × List Nat) (j : Jn R (arcs ds) (some here) s) :
    ∃ s', exS C f_joined_rooms_l2 [some (drs ds), some (kn s.1), some (lnD s.2), some (.int here), none, none, none, none, none, none] w =
      .ok (.next [some (drs ds), some (kn s'.1), some (lnD s'.2), some (.int here), none, none, none, none, none, none]) w ∧ Jn R (arcs ds) none s' ∧ s'.2.length + unk R s'.1 ≤ s.2.length + unk R s.1 := by
  obtain ⟨s', w', e, ⟨i1, i2, i3, _⟩, rfl⟩ := forL_inv (fun s : List Nat × List Nat => [some (drs ds), some (kn s.1), some (lnD s.2), some (.int here), none, none, none, none, none, none]) dr
    (fun x env w => inB (.t [4, 5, 6, 7]) x env fun env => exSs C [.kill [8, 9], f_joined_rooms_l1, .kill [4, 5, 6, 7, 8, 9]] env w)
    (fun is s0 w0 => (Jn R (arcs ds) (some here) s0 ∧ s0.2.length + unk R s0.1 ≤ s.2.length + unk R s.1 ∧ (∀ d ∈ ds, d ∈ is ∨ ((d.n = here → d.f ∈ s0.1) ∧ (d.f = here → d.n ∈ s0.1))) ∧ ∀ d ∈ is, d ∈ ds) ∧ w0 = w)
    (fun d is s0 w0 hI => by
      obtain ⟨⟨i1, i2, i3, i4⟩, rfl⟩ := hI
      obtain ⟨d1, d2, _⟩ := hm.d d (i4 d List.mem_cons_self)
      obtain ⟨a1, a2, a3, a4⟩ := i1.go (d.n, d.f) d2
      obtain ⟨b1, b2, b3, b4⟩ := a1.go (d.f, d.n) d1
      refine ⟨goOn here (goOn here s0 (d.n, d.f)) (d.f, d.n), w0, ?_, ⟨b1, by omega, ?_, fun x hx => i4 x (List.mem_cons_of_mem _ hx)⟩, rfl⟩
      · have h1 := i1.n1
        have h2 := i1.n2
        have hr := hm.r12
        have e := l_join1 (w := w0) (ds := ds) C (.int d.a) (.int d.b) here d.n d.f s0 (by omega) (by omega)
        rw [dr, inB_t _ _ _ _ rfl]
        simp -implicitDefEqProofs [e]
      · intro x hx
        rcases i3 x hx with h | ⟨h, g⟩
        · rcases List.mem_cons.mp h with h | h
          · subst h
            exact .inr ⟨fun q => b3 _ (a2 q), fun q => b2 q⟩
          · exact .inl h
        · exact .inr ⟨fun q => b3 _ (a3 _ (h q)), fun q => b3 _ (a3 _ (g q))⟩) ds s w ⟨⟨j, Nat.le_refl _, fun d hd => .inl hd, fun d hd => hd⟩, rfl⟩
  refine ⟨s', ?_, i1.done ?_, i2⟩
  · unfold f_joined_rooms_l2
    exact ex_for_of (xs := ds.map dr) (w1 := w') (by simp [drs]) e
  · intro q hq hh
    simp only [arcs, List.mem_flatMap] at hq
    obtain ⟨d, hd, hq⟩ := hq
    rcases i3 d hd with h | ⟨h, g⟩
    · cases h
    · simp at hq
      rcases hq with rfl | rfl
      · exact h hh
      · exact g hh
theorem s_joined (hm : Hm R ds) : ∃ known : List Nat, callN P (k + 1) "joined_rooms" [drs ds] w = .ok (kn known) w ∧ ∀ r, r < R → r ∈ known := by
  obtain ⟨s, w', ⟨i1, rfl⟩, hg, e⟩ := while_inv (fun s : List Nat × List Nat => [some (drs ds), some (kn s.1), some (lnD s.2), none, none, none, none, none, none, none]) (fun s => !s.2.isEmpty) (fun s => s.2.length + unk R s.1) (fun s w' => Jn R (arcs ds) none s ∧ w' = w)
    (c := fun env w => evE (callN P k) (.cmp .ne (.v 2) (.lst [])) env w) (b := fun env w => exSs (callN P k) [.popTo 3 2 none, .kill [4, 5, 6, 7, 8, 9], f_joined_rooms_l2, .kill [3, 4, 5, 6, 7, 8, 9]] env w)
    (fun s w' hI => by
      have := eqO_ints_nil s.2
      simp -implicitDefEqProofs [lnD, this])
    (fun s w' hI hg => by
      obtain ⟨i1, rfl⟩ := hI
      obtain ⟨known, line⟩ := s
      rcases List.eq_nil_or_concat line with h | ⟨l, here, h⟩
      · subst h; simp at hg
      · rw [List.concat_eq_append] at h
        subst h
        obtain ⟨p1, p2⟩ := i1.pop (here := here) (line' := l) (fun r => by simp [or_comm]) (by simp)
        obtain ⟨s', e, j, hmu⟩ := l_join2 (w := w') (callN P k) hm here (known, l) p2
        refine ⟨s', w', ?_, ⟨j, rfl⟩, by simp only [List.length_append, List.length_cons, List.length_nil] at hmu ⊢; omega⟩
        have hp : popD (lnD (l ++ [here])) none = some (.int here, lnD l) := by
          unfold lnD
          rw [List.map_append]
          exact popD_none
        simp only at e
        simp -implicitDefEqProofs [hp, e]) ([0], [0]) w ⟨Jn.start hm.r1 (arcs ds), rfl⟩
  have hnil : s.2 = [] := by simpa using hg
  refine ⟨s.1, ?_, i1.all (arcs_lt hm) hnil (arcs_cn hm)⟩
  have el : exS (callN P k) f_joined_rooms_l3 [some (drs ds), some (kn [0]), some (lnD [0]), none, none, none, none, none, none, none] w' = .ok (.next [some (drs ds), some (kn s.1), some (lnD s.2), none, none, none, none, none, none, none]) w' := by
    unfold f_joined_rooms_l3
    rw [ex_while]
    exact e
  have k0 : D.dic [(.int 0, .bl true)] = kn [0] := rfl
  have l0 : D.lst [.int 0] = lnD [0] := rfl
  have hmt : mutsOk [1, 1] [kn [0], lnD [0]] = true := rfl
  rw [call_def (fn := f_joined_rooms) rfl rfl _ _ _ rfl]
  simp -implicitDefEqProofs [f_joined_rooms, start, List.replicate, D.key, k0, l0, hmt, el]
theorem s_is_door {d : Dr} (h : DOk R d) : callN P (k + 3) "is_door" [dr d, .int R] w = .ok (.bl true) w := by
  obtain ⟨h1, h2, h3, h4, h5, h6, h7, h8⟩ := h
  have t1 : isiD (dr d) .tuple = some true := rfl
  have t2 : biD .len [dr d] = some (.int 4) := rfl
  have b1 : ∀ w, callN P (k + 2) "is_below" [.int d.n, .int R] w = .ok (.bl true) w := fun w => s_is_below _ _ (by omega) (by omega)
  have b2 : ∀ w, callN P (k + 2) "is_below" [.int d.f, .int R] w = .ok (.bl true) w := fun w => s_is_below _ _ (by omega) (by omega)
  have c1 : ∀ w, evE (callN P (k + 2)) f_is_door_c1 [some (dr d), some (.int R), some (.int d.n), some (.int d.a), some (.int d.f), some (.int d.b), none] w = .ok (.lst [.bl true, .bl true]) w := fun w => by
    have := mapL_ok (fun x w => inB (.n 6) x [some (dr d), some (.int R), some (.int d.n), some (.int d.a), some (.int d.f), some (.int d.b), none] fun env => evE (callN P (k + 2)) (.and (.call "is_number" [.v 6]) (.and (.cmp .ne (.v 6) (.c (.int 0))) (.chain .le .le (.neg (.c (.int 999))) (.v 6) (.c (.int 999))))) env w) D.int (fun _ => .bl true) w [d.a, d.b] (fun x hx => by
      simp only [List.mem_cons, List.not_mem_nil, or_false] at hx
      have g : x ≠ 0 ∧ -999 ≤ x ∧ x ≤ 999 := by
        rcases hx with rfl | rfl
        · exact ⟨h3, h5, h6⟩
        · exact ⟨h4, h7, h8⟩
      have g0 : (x == 0) = false := by simp [g.1]
      simp -implicitDefEqProofs [s_is_number, g0, g.2.1, g.2.2])
    unfold f_is_door_c1
    refine ev_comp_of (w1 := w) (xs := [d.a, d.b].map D.int) (by simp -implicitDefEqProofs) this (by simp)
  have t3 : biD .all [.lst [.bl true, .bl true]] = some (.bl true) := rfl
  rw [call_def (fn := f_is_door) rfl rfl _ _ _ rfl]
  simp -implicitDefEqProofs [f_is_door, start, List.replicate, t1, t2, t3, b1, b2, c1]
theorem s_are_doors (hm : Hm R ds) : callN P (k + 4) "are_doors" [drs ds, .int R] w = .ok (.bl true) w := by
  have t1 : isiD (drs ds) .tuple = some true := rfl
  have t2 : biD .len [drs ds] = some (.int ds.length) := bi_len_drs
  have hl : ¬ (20 : Int) < ds.length := by have := hm.len; omega
  have c1 : ∀ w, evE (callN P (k + 3)) f_are_doors_c1 [some (drs ds), some (.int R), none] w = .ok (.lst (ds.map fun _ => .bl true)) w := fun w => by
    unfold f_are_doors_c1
    refine ev_comp_of (w1 := w) (xs := ds.map dr) (by simp -implicitDefEqProofs [drs]) ?_ (by have := hm.len; simp; omega)
    refine mapL_ok _ dr (fun _ => .bl true) w ds (fun d hd => ?_)
    simp -implicitDefEqProofs [s_is_door (hm.d d hd)]
  have t3 := bi_all_true ds
  rw [call_def (fn := f_are_doors) rfl rfl _ _ _ rfl]
  simp -implicitDefEqProofs only [f_are_doors, start, List.map_cons, List.map_nil, List.length_cons, List.length_nil, exs_cons, exs_nil, ex_ifs, ex_ret, ev_or, ev_not, ev_isi, ev_cmp, cmp_gt, ev_bi, ev_c, evs_cons, evs_nil, ev_v, List.cons_append, List.nil_append, List.replicate, Nat.reduceAdd, Nat.reduceSub, look_zero, look_succ, lift_some, Rp.R.bind_ok, Option.map_some, Rp.cond_true, Rp.cond_false, thenS_next, thenS_ret, endD_ret, t1, t2, t3, hl, decide_false, c1]
theorem s_House (hm : Hm R ds) : callN P (k + 5) "House" [.int R, drs ds] w = .ok (hs R ds) w := by
  obtain ⟨known, e1, h1⟩ := s_joined (k := k + 3) (w := w) hm
  have el : exS (callN P (k + 4)) f_House_l1 [some (.obj "House" []), some (.int R), some (drs ds), some (kn known), none] w = .ok (.next [some (.obj "House" []), some (.int R), some (drs ds), some (kn known), none]) w := by
    have e := forL_fold (fun _ : Unit => [some (.obj "House" []), some (.int R), some (drs ds), some (kn known), none]) (fun i : Nat => .int (i : Int)) (fun _ _ => ())
      (fun x env w => inB (.n 4) x env fun env => exSs (callN P (k + 4)) [.ifs (.cmp .notIn (.v 4) (.v 3)) [.raise "Apart" [.v 4]] [], .kill [4]] env w) w (fun is _ => ∀ i ∈ is, i < R) (fun i is _ hI => by
        refine ⟨?_, fun j hj => hI j (List.mem_cons_of_mem _ hj)⟩
        have := h1 i (hI i List.mem_cons_self)
        simp -implicitDefEqProofs [cmp_notIn, kn_has, this]) (List.range R) () (fun i hi => List.mem_range.mp hi)
    unfold f_House_l1
    exact ex_for_of (evi_r0 (n := R) (w' := w) (by simp) (by have := hm.r12; omega)) e
  have hr1 := hm.r1
  have hr2 := hm.r12
  have r1 : (1 : Int) ≤ R := by omega
  have r2 : (R : Int) ≤ 12 := by omega
  have hc : callN P (k + 5) "House" [.int R, drs ds] w = endO (exSs (callN P (k + 4)) f_House.body (start f_House [.obj "House" [], .int R, drs ds]) w) := rfl
  rw [hc]
  simp -implicitDefEqProofs [f_House, start, s_is_number, r1, r2, s_are_doors hm, e1, el, setfD, putF, endO, hs]
end
end Lw
end

section
set_option linter.all false
set_option maxRecDepth 100000
namespace Lw
open Rp
/-! ### reading a walk: feet as stacks, their last pass on top, and the pulls behind -/
def tn (s : Sp) : Sp := ⟨s.i, !s.s⟩
theorem tn_tn (s : Sp) : tn (tn s) = s := by simp [tn]
theorem tn_ne (s : Sp) : s ≠ tn s := fun h => by
  have := congrArg Sp.s h
  simp [tn] at this
theorem gt_tn (ds : List Dr) (s : Sp) : gt ds (tn s) = (gt ds s).flip := by
  cases s with | mk i a => cases a <;> rfl
theorem turned_iff (l s : Sp) : turned (some l) s = true ↔ s = tn l := by
  unfold turned tn
  cases l with | mk i a => cases s with | mk j b =>
  simp only [Bool.and_eq_true, beq_iff_eq, Sp.mk.injEq]
abbrev Sk := List (Int × Sp)
def pops (ds : List Dr) (k : Sk) (n : Int) (s : Sp) : Bool := match k with
  | (_, t) :: _ => decide (s = tn t) && decide (n % (gt ds s).a = 0)
  | [] => false
def rd (ds : List Dr) (S : Sk × Int) (s : Sp) : Sk × Int := if pops ds S.1 S.2 s = true then (S.1.tail, (S.1.headD (0, s)).1 + S.2 / (gt ds s).a * (gt ds s).b) else ((S.2 % (gt ds s).a, s) :: S.1, S.2 / (gt ds s).a * (gt ds s).b)
def ru (ds : List Dr) : Sk × Int → List Int → List Sp → Sk × Int
  | S, u :: us, s :: p => ru ds (rd ds (S.1, S.2 + u) s) us p
  | S, u :: _, [] => (S.1, S.2 + u)
  | S, [], _ => S
/-- a stack that is a foot -/
def nx (k : Sk) (v : Int) (s : Sp) : Prop := match k with
  | (_, t) :: _ => s = tn t → v ≠ 0
  | [] => True
def Rd (ds : List Dr) : Sk → Prop
  | [] => True
  | (v, s) :: k => s.i < ds.length ∧ 0 ≤ v ∧ v < (gt ds s).a.natAbs ∧ nx k v s ∧ Rd ds k
theorem mod_small {v b : Int} (h0 : 0 ≤ v) (h1 : v < b.natAbs) : v % b = v := by
  rcases Int.natAbs_eq b with e | e
  · rw [e]; exact Int.emod_eq_of_lt h0 h1
  · rw [e, Int.emod_neg]; exact Int.emod_eq_of_lt h0 h1
theorem div_small {v b : Int} (h0 : 0 ≤ v) (h1 : v < b.natAbs) : v / b = 0 := by
  have h := Int.emod_add_mul_ediv v b
  rw [mod_small h0 h1] at h
  have h2 : b * (v / b) = 0 := by omega
  rcases Int.mul_eq_zero.mp h2 with z | z
  · subst z; simp at h1; omega
  · exact z
theorem mod_add {v b : Int} (q : Int) (h0 : 0 ≤ v) (h1 : v < b.natAbs) : (v + q * b) % b = v := by
  rw [Int.add_mul_emod_self_right]; exact mod_small h0 h1
theorem div_add {v b : Int} (q : Int) (hb : b ≠ 0) (h0 : 0 ≤ v) (h1 : v < b.natAbs) : (v + q * b) / b = q := by
  rw [Int.add_mul_ediv_right _ _ hb, div_small h0 h1, Int.zero_add]
section
variable {ds : List Dr} {R : Nat}
theorem pops_add (o : Ok R ds) (k : Sk) (n t : Int) {s : Sp} (hs : s.i < ds.length) : pops ds k (n + t * (gt ds s).a) s = pops ds k n s := by
  unfold pops
  rw [Int.add_mul_emod_self_right]
theorem rd_add (o : Ok R ds) (k : Sk) (n t : Int) {s : Sp} (hs : s.i < ds.length) : rd ds (k, n + t * (gt ds s).a) s = ((rd ds (k, n) s).1, (rd ds (k, n) s).2 + t * (gt ds s).b) := by
  obtain ⟨_, _, ha, _⟩ := o.gt hs
  unfold rd
  simp only [pops_add o k n t hs]
  rw [Int.add_mul_ediv_right _ _ ha, Int.add_mul_emod_self_right, Int.add_mul]
  split
  · simp only [Int.add_assoc]
  · rfl
theorem rd_ok (o : Ok R ds) {k : Sk} {n : Int} {s : Sp} (hs : s.i < ds.length) (h : Rd ds k) : Rd ds (rd ds (k, n) s).1 := by
  obtain ⟨_, _, ha, _⟩ := o.gt hs
  unfold rd
  by_cases hp : pops ds k n s = true
  · rw [if_pos hp]
    match k, h with
    | [], _ => exact trivial
    | (v, t) :: r, h => exact h.2.2.2.2
  · rw [if_neg hp]
    refine ⟨hs, Int.emod_nonneg _ ha, Int.emod_lt _ ha, ?_, h⟩
    unfold nx
    unfold pops at hp
    match k, hp with
    | [], _ => exact trivial
    | (v, t) :: r, hp =>
      intro e z
      simp only [e, z, decide_true, Bool.and_self, not_true] at hp
      rw [← e] at hp
      exact hp (by simp [z])
theorem rd_back (o : Ok R ds) {k : Sk} (n : Int) {s : Sp} (hs : s.i < ds.length) (h : Rd ds k) : rd ds (rd ds (k, n) s) (tn s) = (k, n) := by
  obtain ⟨_, _, ha, hb, _⟩ := o.gt hs
  have g1 : (gt ds (tn s)).a = (gt ds s).b := by rw [gt_tn]; rfl
  have g2 : (gt ds (tn s)).b = (gt ds s).a := by rw [gt_tn]; rfl
  have hd := Int.emod_add_mul_ediv n (gt ds s).a
  by_cases hp : pops ds k n s = true
  · match k, h, hp with
    | (v, t) :: r, h, hp =>
      have e1 : rd ds ((v, t) :: r, n) s = (r, v + n / (gt ds s).a * (gt ds s).b) := by unfold rd; rw [if_pos hp]; rfl
      unfold pops at hp
      simp only [Bool.and_eq_true, decide_eq_true_eq] at hp
      obtain ⟨q1, q2⟩ := hp
      obtain ⟨k1, k2, k3, k4, k5⟩ := h
      have ht : tn s = t := by rw [q1, tn_tn]
      subst ht
      rw [g1] at k3
      have hnp : ¬ pops ds r (v + n / (gt ds s).a * (gt ds s).b) (tn s) = true := by
        unfold pops
        match r, k4 with
        | [], _ => simp
        | (v', t') :: r', k4 =>
          simp only [Bool.and_eq_true, decide_eq_true_eq, g1, mod_add _ k2 k3]
          rintro ⟨z1, z2⟩
          exact k4 z1 z2
      rw [e1]
      unfold rd
      rw [if_neg hnp]
      simp only [g1, g2, mod_add _ k2 k3, div_add _ hb k2 k3]
      rw [Int.mul_comm, show (gt ds s).a * (n / (gt ds s).a) = n by omega]
  · have e1 : rd ds (k, n) s = ((n % (gt ds s).a, s) :: k, n / (gt ds s).a * (gt ds s).b) := by unfold rd; rw [if_neg hp]
    rw [e1]
    have hp2 : pops ds ((n % (gt ds s).a, s) :: k) (n / (gt ds s).a * (gt ds s).b) (tn s) = true := by
      unfold pops
      simp [g1]
    unfold rd
    rw [if_pos hp2]
    simp only [g1, g2, List.tail_cons, List.headD_cons, Int.mul_ediv_cancel _ hb]
    rw [Int.mul_comm, hd]
theorem ru_add (k : Sk) (n u : Int) : ∀ (us : List Int) (p : List Sp), ru ds (k, n + u) us p = ru ds (k, n) (match us with | [] => [] | v :: vs => (u + v) :: vs) p ∨ us = []
  | [], _ => .inr rfl
  | v :: vs, [] => .inl (by simp only [ru, Int.add_assoc])
  | v :: vs, s :: p => .inl (by simp only [ru, Int.add_assoc])
theorem ru_ok (o : Ok R ds) : ∀ (us : List Int) (p : List Sp) (S : Sk × Int), On ds p → Rd ds S.1 → Rd ds (ru ds S us p).1
  | u :: us, s :: p, S, hp, h => ru_ok o us p _ (fun t ht => hp t (List.mem_cons_of_mem _ ht)) (rd_ok o (hp s List.mem_cons_self) h)
  | u :: us, [], S, _, h => h
  | [], [], S, _, h => h
  | [], _ :: _, S, _, h => h
/-- reading passes alone, each behind its pulls -/
def ro (ds : List Dr) : Sk × Int → List Int → List Sp → Sk × Int
  | S, u :: us, s :: p => ro ds (rd ds (S.1, S.2 + u) s) us p
  | S, _, _ => S
theorem ru_app : ∀ (us : List Int) (p : List Sp) (vs : List Int) (q : List Sp) (S : Sk × Int), us.length = p.length → ru ds S (us ++ vs) (p ++ q) = ru ds (ro ds S us p) vs q
  | [], [], _, _, _, _ => rfl
  | u :: us, s :: p, vs, q, S, h => ru_app us p vs q _ (by simpa using h)
  | [], _ :: _, _, _, _, h => by simp at h
  | _ :: _, [], _, _, _, h => by simp at h
theorem ro_app : ∀ (us : List Int) (p : List Sp) (vs : List Int) (q : List Sp) (S : Sk × Int), us.length = p.length → ro ds S (us ++ vs) (p ++ q) = ro ds (ro ds S us p) vs q
  | [], [], _, _, _, _ => rfl
  | u :: us, s :: p, vs, q, S, h => ro_app us p vs q _ (by simpa using h)
  | [], _ :: _, _, _, _, h => by simp at h
  | _ :: _, [], _, _, _, h => by simp at h
theorem ro_ok (o : Ok R ds) : ∀ (us : List Int) (p : List Sp) (S : Sk × Int), On ds p → Rd ds S.1 → Rd ds (ro ds S us p).1
  | u :: us, s :: p, S, hp, h => ro_ok o us p _ (fun t ht => hp t (List.mem_cons_of_mem _ ht)) (rd_ok o (hp s List.mem_cons_self) h)
  | _ :: _, [], S, _, h => h
  | [], [], S, _, h => h
  | [], _ :: _, S, _, h => h
/-- a carrying over a pass -/
theorem ru_carry (o : Ok R ds) (S : Sk × Int) (u v t : Int) {s : Sp} (hs : s.i < ds.length) (us : List Int) (p : List Sp) :
    ru ds S ((u - (gt ds s).a * t) :: (v + (gt ds s).b * t) :: us) (s :: p) = ru ds S (u :: v :: us) (s :: p) := by
  have h : ru ds (rd ds (S.1, S.2 + (u - (gt ds s).a * t)) s) ((v + (gt ds s).b * t) :: us) p = ru ds (rd ds (S.1, S.2 + u) s) (v :: us) p := by
    have e := rd_add o S.1 (S.2 + u) (-t) hs
    have e2 : S.2 + u + -t * (gt ds s).a = S.2 + (u - (gt ds s).a * t) := by rw [Int.neg_mul, Int.mul_comm]; omega
    rw [e2] at e
    rw [e]
    generalize rd ds (S.1, S.2 + u) s = S1
    have e3 : S1.2 + -t * (gt ds s).b + (v + (gt ds s).b * t) = S1.2 + v := by rw [Int.neg_mul, Int.mul_comm t]; omega
    cases p with
    | nil => simp only [ru, e3]
    | cons s' p => simp only [ru, e3]
  exact h
/-- a pass and its back, nothing between -/
theorem ru_cancel (o : Ok R ds) (S : Sk × Int) (hS : Rd ds S.1) (u v : Int) {s : Sp} (hs : s.i < ds.length) (us : List Int) (p : List Sp) :
    ru ds S (u :: 0 :: v :: us) (s :: tn s :: p) = ru ds S ((u + v) :: us) p := by
  have h : ru ds (rd ds ((rd ds (S.1, S.2 + u) s).1, (rd ds (S.1, S.2 + u) s).2 + 0) (tn s)) (v :: us) p = ru ds S ((u + v) :: us) p := by
    rw [Int.add_zero]
    have e := rd_back o (S.2 + u) hs hS
    rw [show ((rd ds (S.1, S.2 + u) s).1, (rd ds (S.1, S.2 + u) s).2) = rd ds (S.1, S.2 + u) s from rfl, e]
    cases p with
    | nil => simp only [ru, Int.add_assoc]
    | cons s' p => simp only [ru, Int.add_assoc]
  exact h
/-- a foot, and pulls behind it, is read as itself -/
theorem ru_foot (o : Ok R ds) (z : Int) : ∀ (vs : List Int) (p : List Sp) (k : Sk) (x : Nat), Ft ds (k.head?.map (·.2)) x vs p → ru ds (k, 0) (vs ++ [z]) p = ((vs.zip p).reverse ++ k, z)
  | [], [], k, x, _ => by simp [ru]
  | v :: vs, s :: p, k, x, h => by
    obtain ⟨h1, h2, h3, h4, h5, h6⟩ := h
    have e1 : rd ds (k, 0 + v) s = ((v, s) :: k, 0) := by
      have hnp : ¬ pops ds k v s = true := by
        unfold pops
        match k, h3 with
        | [], _ => simp
        | (v', t) :: r, h3 =>
          simp only [Bool.and_eq_true, decide_eq_true_eq, mod_small h4 h5]
          rintro ⟨z1, z2⟩
          have := h3 ((turned_iff _ _).mpr z1)
          omega
      unfold rd
      rw [Int.zero_add, if_neg hnp, mod_small h4 h5, div_small h4 h5, Int.zero_mul]
    have ih := ru_foot o z vs p ((v, s) :: k) (gt ds s).f h6
    simp only [List.cons_append, ru, e1, ih, List.zip_cons_cons, List.reverse_cons, List.append_assoc, List.nil_append]
  | [], s :: p, _, _, h => h.elim
  | v :: vs, [], _, _, h => h.elim
end
end Lw
end

section
set_option linter.all false
set_option maxRecDepth 100000
namespace Lw
open Rp
/-! ### plain arithmetic of carries -/
def car (ds : List Dr) : Int → List Sp → Option Int
  | n, [] => some n
  | n, s :: p => if n.fmod (gt ds s).a.natAbs = 0 then car ds (n.fdiv (gt ds s).a * (gt ds s).b) p else none
def fitR (ds : List Dr) : Int → List Int → List Sp → List Int × Int
  | c, v :: vs, s :: p =>
    let t := tf (gt ds s).a (v + c)
    let r := fitR ds ((gt ds s).b * t) vs p
    ((v + c - (gt ds s).a * t) :: r.1, r.2)
  | c, _, _ => ([], c)
theorem fmod_eq (u : Int) (m : Nat) (h : 0 < m) : u.fmod m = u % m := Int.fmod_eq_emod_of_nonneg _ (by omega)
theorem fdiv_eq (u : Int) (m : Nat) : u.fdiv m = u / m := Int.fdiv_eq_ediv_of_nonneg _ (by omega)
theorem tf_eq (a u : Int) (ha : a ≠ 0) : a * tf a u = (a.natAbs : Int) * (u / a.natAbs) := by
  unfold tf
  rw [fdiv_eq]
  have h1 : u - (u - u / (a.natAbs : Int) * a.natAbs) = u / (a.natAbs : Int) * a.natAbs := by omega
  rw [h1]
  have hd : a ∣ u / (a.natAbs : Int) * a.natAbs := Int.dvd_trans (Int.dvd_natAbs.mpr (Int.dvd_refl a)) (Int.dvd_mul_left _ _)
  rw [Int.mul_fdiv_cancel' hd, Int.mul_comm]
theorem fit_rest (a u : Int) (ha : a ≠ 0) : u - a * tf a u = u % a.natAbs := by
  rw [tf_eq a u ha]
  have := Int.mul_ediv_add_emod u a.natAbs
  omega
theorem fit_exact (a v c : Int) (ha : a ≠ 0) (h0 : 0 ≤ v) (h1 : v < a.natAbs) (hc : c.fmod a.natAbs = 0) : v + c - a * tf a (v + c) = v ∧ tf a (v + c) = c.fdiv a := by
  have hp : 0 < a.natAbs := by omega
  rw [fmod_eq _ _ hp] at hc
  have hd : ((a.natAbs : Nat) : Int) ∣ c := Int.dvd_of_emod_eq_zero hc
  have e1 : (v + c) % (a.natAbs : Int) = v := by
    obtain ⟨m, rfl⟩ := hd
    rw [Int.add_mul_emod_self_left, Int.emod_eq_of_lt h0 h1]
  have e2 := fit_rest a (v + c) ha
  rw [e1] at e2
  refine ⟨e2, ?_⟩
  have e3 : a * tf a (v + c) = c := by omega
  have e4 : a ∣ c := ⟨_, e3.symm⟩
  have e5 := Int.mul_fdiv_cancel' e4
  exact Int.eq_of_mul_eq_mul_left ha (by rw [e3, e5])
theorem fit_not (a v c : Int) (ha : a ≠ 0) (hc : c.fmod a.natAbs ≠ 0) : v + c - a * tf a (v + c) ≠ v := by
  intro h
  have hp : 0 < a.natAbs := by omega
  rw [fmod_eq _ _ hp] at hc
  rw [fit_rest _ _ ha] at h
  apply hc
  have e := Int.mul_ediv_add_emod (v + c) a.natAbs
  rw [h] at e
  have : c = a.natAbs * ((v + c) / a.natAbs) := by omega
  rw [this]
  exact Int.mul_emod_right _ _
theorem fit_car {R : Nat} {ds : List Dr} (o : Ok R ds) : ∀ (vs : List Int) (p : List Sp) (l : Option Sp) (x : Nat) (c : Int), Ft ds l x vs p →
    match car ds c p with
    | some m => fitR ds c vs p = (vs, m)
    | none => (fitR ds c vs p).1 ≠ vs
  | [], [], _, _, c, _ => by simp [car, fitR]
  | v :: vs, s :: p, l, x, c, h => by
    obtain ⟨h1, h2, h3, h4, h5, h6⟩ := h
    obtain ⟨_, _, ha, _⟩ := o.gt h1
    simp only [car, fitR]
    by_cases hc : c.fmod (gt ds s).a.natAbs = 0
    · obtain ⟨e1, e2⟩ := fit_exact (gt ds s).a v c ha h4 h5 hc
      rw [if_pos hc, e1, e2, Int.mul_comm (gt ds s).b]
      have ih := fit_car o vs p (some s) (gt ds s).f (c.fdiv (gt ds s).a * (gt ds s).b) h6
      cases hm : car ds (c.fdiv (gt ds s).a * (gt ds s).b) p with
      | some m => rw [hm] at ih; simp only at ih ⊢; rw [ih]
      | none => rw [hm] at ih; simp only at ih ⊢; simpa using ih
    · rw [if_neg hc]
      simp only
      intro e
      exact fit_not (gt ds s).a v c ha hc (List.cons.inj e).1
  | [], s :: p, _, _, _, h => h.elim
  | v :: vs, [], _, _, _, h => h.elim
def addH (c : Int) : List Int → List Int
  | [] => []
  | v :: vs => (v + c) :: vs
theorem foldl_fit (ds : List Dr) : ∀ (q : List Sp) (vs pre : List Int) (pq : List Sp) (c z : Int) (mv : List D), vs.length = q.length → pre.length = pq.length →
    (((List.range q.length).map fun i => i + pq.length).foldl (fstep ds (pq ++ q)) (pre ++ addH c (vs ++ [z]), mv)).1 = pre ++ (fitR ds c vs q).1 ++ [z + (fitR ds c vs q).2]
  | [], [], pre, pq, c, z, mv, _, hp => by simp [addH, fitR]
  | s :: q, v :: vs, pre, pq, c, z, mv, hv, hp => by
    have hv' : vs.length = q.length := by simpa using hv
    have ih := fun mv => foldl_fit ds q vs (pre ++ [v + c - (gt ds s).a * tf (gt ds s).a (v + c)]) (pq ++ [s]) ((gt ds s).b * tf (gt ds s).a (v + c)) z mv hv' (by simp [hp])
    rw [List.length_cons, List.range_succ_eq_map, List.map_cons, List.foldl_cons, List.map_map]
    have hm : (List.range q.length).map ((fun i => i + pq.length) ∘ Nat.succ) = (List.range q.length).map fun i => i + (pq ++ [s]).length := by
      apply List.map_congr_left
      intro i _
      simp; omega
    rw [hm]
    have hg : (pq ++ s :: q).getD (0 + pq.length) ⟨0, false⟩ = s := by simp [List.getD]
    have hu : (pre ++ addH c (v :: vs ++ [z])).getD (0 + pq.length) 0 = v + c := by
      rw [Nat.zero_add, ← hp]; simp [addH, List.getD]
    have hstep : ∃ mv', fstep ds (pq ++ s :: q) (pre ++ addH c (v :: vs ++ [z]), mv) (0 + pq.length) = ((pre ++ [v + c - (gt ds s).a * tf (gt ds s).a (v + c)]) ++ addH ((gt ds s).b * tf (gt ds s).a (v + c)) (vs ++ [z]), mv') := by
      unfold fstep
      simp only [hg, hu]
      by_cases ht : tf (gt ds s).a (v + c) = 0
      · refine ⟨mv, ?_⟩
        rw [if_pos ht, ht]
        cases vs <;> simp [addH]
      · refine ⟨mv ++ [mvD (0 + pq.length) (tf (gt ds s).a (v + c))], ?_⟩
        rw [if_neg ht]
        congr 1
        simp only [carryL, hu, Nat.zero_add]
        rw [← hp]
        have e1 : pre ++ addH c (v :: vs ++ [z]) = pre ++ (v + c) :: (vs ++ [z]) := rfl
        rw [e1]
        have e2 : (pre ++ (v + c) :: (vs ++ [z])).set pre.length (v + c - (gt ds s).a * tf (gt ds s).a (v + c)) = pre ++ (v + c - (gt ds s).a * tf (gt ds s).a (v + c)) :: (vs ++ [z]) := by
          rw [List.set_append_right _ _ (Nat.le_refl _)]; simp
        have e0 : (pre ++ (v + c) :: (vs ++ [z])).getD pre.length 0 = v + c := by simp [List.getD]
        rw [e0, e2, List.set_append_right _ _ (by omega)]
        have e3 : pre.length + 1 - pre.length = 1 := by omega
        rw [e3]
        have e4 : ∀ y, (pre ++ y :: (vs ++ [z])).getD (pre.length + 1) 0 = (vs ++ [z]).getD 0 0 := fun y => by
          simp only [List.getD]
          rw [List.getElem?_append_right (by omega), e3]
          rfl
        rw [e4]
        cases vs <;> simp [addH, List.getD]
    obtain ⟨mv', hs⟩ := hstep
    rw [hs]
    have hpq : pq ++ s :: q = (pq ++ [s]) ++ q := by simp
    rw [hpq, ih]
    simp [fitR]
  | [], s :: q, _, _, _, _, _, h, _ => by simp at h
  | v :: vs, [], _, _, _, _, _, h, _ => by simp at h
theorem fit_all (ds : List Dr) (vs : List Int) (p : List Sp) (c : Int) (h : vs.length = p.length) : ((List.range p.length).foldl (fstep ds p) (addH c (vs ++ [0]), [])).1 = (fitR ds c vs p).1 ++ [(fitR ds c vs p).2] := by
  have := foldl_fit ds p vs [] [] c 0 [] h rfl
  simpa using this
theorem fitR_len (ds : List Dr) : ∀ (vs : List Int) (p : List Sp) (c : Int), vs.length = p.length → (fitR ds c vs p).1.length = p.length
  | [], [], _, _ => rfl
  | v :: vs, s :: p, c, h => by simp [fitR, fitR_len ds vs p _ (by simpa using h)]
  | [], s :: p, _, h => by simp at h
  | v :: vs, [], _, h => by simp at h
theorem Ft.firm {R : Nat} {ds : List Dr} (o : Ok R ds) : ∀ (vs : List Int) (p : List Sp) (l : Option Sp) (x : Nat), Ft ds l x vs p →
    ∀ i (h : i + 1 < p.length) (h2 : i + 1 < vs.length), tb p i = true → 1 ≤ vs[i + 1] ∧ vs[i + 1] < (gt ds p[i]).b.natAbs
  | v :: v' :: vs, s :: s' :: p, l, x, hF, 0, h, h2, ht => by
    obtain ⟨h1, _, _, _, _, h3⟩ := hF
    obtain ⟨g1, g2, g3, g4, g5, _⟩ := h3
    simp only [tb, List.getElem?_cons_zero, List.getElem?_cons_succ, Bool.and_eq_true, decide_eq_true_eq, beq_iff_eq, Nat.zero_add] at ht
    refine ⟨g3 (by simp [turned, ht.1, ht.2]), ?_⟩
    have e : (gt ds s').a = (gt ds s).b := by
      unfold gt
      rw [ht.1, ht.2]
      cases s.s <;> rfl
    show v' < ((gt ds s).b.natAbs : Int)
    rw [← e]
    exact g5
  | v :: vs, s :: p, l, x, hF, i + 1, h, h2, ht => by
    have := Ft.firm o vs p (some s) (gt ds s).f hF.2.2.2.2.2 i (by simpa using h) (by simpa using h2) (by simpa [tb] using ht)
    simpa using this
  | [], [], _, _, _, 0, h, _, _ => by simp at h
  | [], s :: p, _, _, h, _, _, _, _ => h.elim
  | v :: vs, [], _, _, h, _, _, _, _ => h.elim
  | [v], [s], _, _, _, 0, h, _, _ => by simp at h
  | [v], s :: s' :: p, _, _, h, 0, _, _, _ => h.2.2.2.2.2.elim
  | v :: v' :: vs, [s], _, _, h, 0, _, _, _ => h.2.2.2.2.2.elim
  | [], [], _, _, _, i + 1, h, _, _ => by simp at h
theorem firm_of {R : Nat} {ds : List Dr} (o : Ok R ds) {vs : List Int} {p : List Sp} {x : Nat} (hF : Ft ds none x vs p) (c : Int) : Firm ds p (addH c (vs ++ [0])) := by
  intro i h h2 ht
  have hlen := hF.len
  have hv : i + 1 < vs.length := by omega
  obtain ⟨g1, g2⟩ := Ft.firm o vs p none x hF i h hv ht
  have e : (addH c (vs ++ [0]))[i + 1] = vs[i + 1] := by
    cases vs with
    | nil => simp at hv
    | cons v vs => simp [addH]; rw [List.getElem_append_left (by simpa using hv)]
  rw [e]
  generalize vs[i + 1] = u at *
  have hon := Walk.on hF.walk _ (List.getElem_mem (show i < p.length by omega))
  obtain ⟨_, _, _, hb, _⟩ := o.gt hon
  generalize (gt ds p[i]).b = b at *
  simp only [beq_eq_false_iff_ne, ne_eq]
  intro he
  have hd : b ∣ u := ⟨u.fdiv b, by rw [Int.mul_comm]; omega⟩
  have := Int.le_of_dvd (by omega) (Int.natAbs_dvd.mpr hd)
  omega
end Lw
end

section
set_option linter.all false
set_option maxRecDepth 100000
namespace Lw
open Rp
/-! ### walks without spots, read -/
theorem mod_natAbs (u a : Int) : u % (a.natAbs : Int) = u % a := by
  rcases Int.natAbs_eq a with e | e
  · rw [← e]
  · have : (a.natAbs : Int) = -a := by omega
    rw [this, Int.emod_neg]
theorem tf_div (a u : Int) (ha : a ≠ 0) : tf a u = u / a := by
  have h1 := tf_eq a u ha
  have h2 := Int.mul_ediv_add_emod u (a.natAbs : Int)
  have h3 := Int.mul_ediv_add_emod u a
  rw [mod_natAbs] at h2
  exact Int.eq_of_mul_eq_mul_left ha (by omega)
theorem fit_mod (a u : Int) (ha : a ≠ 0) : u - a * tf a u = u % a := by rw [fit_rest a u ha, mod_natAbs]
def Nsp (ds : List Dr) : Option Sp → List Int → List Sp → Prop
  | _, [], [] => True
  | l, v :: vs, s :: p => s.i < ds.length ∧ (∀ t, l = some t → s = tn t → v % (gt ds s).a ≠ 0) ∧ Nsp ds (some s) vs p
  | _, _, _ => False
section
variable {ds : List Dr} {R : Nat}
theorem ru_firm (o : Ok R ds) (z : Int) : ∀ (vs : List Int) (p : List Sp) (k : Sk) (c : Int), Nsp ds (k.head?.map (·.2)) vs p → (∀ t, k.head?.map (·.2) = some t → ∃ m, c = (gt ds t).b * m) →
    ru ds (k, c) (vs ++ [z]) p = (((fitR ds c vs p).1.zip p).reverse ++ k, z + (fitR ds c vs p).2)
  | [], [], k, c, _, _ => by simp [ru, fitR, Int.add_comm]
  | v :: vs, s :: p, k, c, h, hc => by
    obtain ⟨h1, h2, h3⟩ := h
    obtain ⟨_, _, ha, _⟩ := o.gt h1
    have hnp : ¬ pops ds k (c + v) s = true := by
      unfold pops
      match k, h2, hc with
      | [], _, _ => simp
      | (v', t) :: r, h2, hc =>
        simp only [Bool.and_eq_true, decide_eq_true_eq]
        rintro ⟨z1, z2⟩
        obtain ⟨m, hm⟩ := hc t rfl
        have hb : (gt ds t).b = (gt ds s).a := by rw [z1, gt_tn]; rfl
        rw [hm, hb, Int.add_comm, Int.add_mul_emod_self_left] at z2
        exact h2 t rfl z1 z2
    have e1 : rd ds (k, c + v) s = (((c + v) % (gt ds s).a, s) :: k, (c + v) / (gt ds s).a * (gt ds s).b) := by unfold rd; rw [if_neg hnp]
    have hcv : c + v = v + c := Int.add_comm _ _
    have ih := ru_firm o z vs p (((c + v) % (gt ds s).a, s) :: k) ((c + v) / (gt ds s).a * (gt ds s).b) h3 (fun t ht => by
      simp only [List.head?_cons, Option.map_some, Option.some.injEq] at ht
      subst ht
      exact ⟨_, Int.mul_comm _ _⟩)
    have e2 : ru ds (k, c) (v :: vs ++ [z]) (s :: p) = ru ds (rd ds (k, c + v) s) (vs ++ [z]) p := rfl
    rw [e2, e1]
    have e3 : fitR ds c (v :: vs) (s :: p) = ((c + v) % (gt ds s).a :: (fitR ds ((c + v) / (gt ds s).a * (gt ds s).b) vs p).1, (fitR ds ((c + v) / (gt ds s).a * (gt ds s).b) vs p).2) := by
      simp only [fitR]
      rw [fit_mod _ _ ha, tf_div _ _ ha, hcv, Int.mul_comm]
    rw [e3, ih]
    simp
  | [], s :: p, _, _, h, _ => h.elim
  | v :: vs, [], _, _, h, _ => h.elim
theorem Rd.suf : ∀ (a k : Sk), Rd ds (a ++ k) → Rd ds k
  | [], _, h => h
  | (v, s) :: a, k, h => Rd.suf a k h.2.2.2.2
theorem ft_of (o : Ok R ds) : ∀ (vs : List Int) (p : List Sp) (k : Sk) (x : Nat), vs.length = p.length → Rd ds ((vs.zip p).reverse ++ k) → Walk ds x p → Ft ds (k.head?.map (·.2)) x vs p
  | [], [], _, _, _, _, _ => trivial
  | v :: vs, s :: p, k, x, hl, h, hw => by
    obtain ⟨w1, w2, w3⟩ := hw
    have h' : Rd ds ((vs.zip p).reverse ++ ((v, s) :: k)) := by simpa using h
    have ih := ft_of o vs p ((v, s) :: k) (gt ds s).f (by simpa using hl) h' w3
    obtain ⟨_, k2, k3, k4, _⟩ := Rd.suf _ _ h'
    refine ⟨w1, w2, fun ht => ?_, k2, k3, ih⟩
    match k, k4, ht with
    | [], _, ht => simp [turned] at ht
    | (v', t) :: r, k4, ht =>
      have := k4 ((turned_iff _ _).mp ht)
      omega
  | [], s :: p, _, _, h, _, _ => by simp at h
  | v :: vs, [], _, _, h, _, _ => by simp at h
/-! ### a walk's plain form -/
def nfV (S : Sk × Int) : List Int := S.1.reverse.map (·.1)
def nfP (S : Sk × Int) : List Sp := S.1.reverse.map (·.2)
theorem zip_rev {α β : Type} : ∀ (a : List α) (b : List β), a.length = b.length → ((a.zip b).map (·.1) = a ∧ (a.zip b).map (·.2) = b)
  | [], [], _ => ⟨rfl, rfl⟩
  | x :: a, y :: b, h => by
    obtain ⟨h1, h2⟩ := zip_rev a b (by simpa using h)
    exact ⟨by simp [h1], by simp [h2]⟩
  | [], _ :: _, h => by simp at h
  | _ :: _, [], h => by simp at h
theorem nf_firm (o : Ok R ds) {vs : List Int} {p : List Sp} {x : Nat} (z : Int) (h : Nsp ds none vs p) (hw : Walk ds x p) (hl : vs.length = p.length) :
    nfV (ru ds ([], 0) (vs ++ [z]) p) = (fitR ds 0 vs p).1 ∧ nfP (ru ds ([], 0) (vs ++ [z]) p) = p ∧ (ru ds ([], 0) (vs ++ [z]) p).2 = z + (fitR ds 0 vs p).2 ∧ Ft ds none x (fitR ds 0 vs p).1 p := by
  have e := ru_firm o z vs p [] 0 h (fun t ht => by simp at ht)
  have hfl := fitR_len ds vs p 0 hl
  obtain ⟨z1, z2⟩ := zip_rev (fitR ds 0 vs p).1 p hfl
  have hr := ru_ok o (vs ++ [z]) p ([], 0) (Walk.on hw) trivial
  rw [e] at hr
  refine ⟨?_, ?_, by rw [e], ?_⟩
  · rw [e]; simp [nfV, z1]
  · rw [e]; simp [nfP, z2]
  · exact ft_of o _ p [] x hfl hr hw
end
end Lw
end

section
set_option linter.all false
set_option maxRecDepth 100000
namespace Lw
open Rp
/-! ### shortening -/
def dv (u b : Int) : Bool := u - u.fdiv b * b == 0
theorem dv_iff {u b : Int} (hb : b ≠ 0) : dv u b = true ↔ u % b = 0 := by
  unfold dv
  rw [beq_iff_eq]
  constructor
  · intro h
    have : u = u.fdiv b * b := by omega
    rw [this]; exact Int.mul_emod_left _ _
  · intro h
    obtain ⟨c, rfl⟩ := Int.dvd_of_emod_eq_zero h
    rw [Int.mul_fdiv_cancel_left _ hb, Int.mul_comm]
    omega
theorem dv_eq {u b : Int} (h : dv u b = true) : u.fdiv b * b = u := by
  unfold dv at h
  rw [beq_iff_eq] at h
  omega
def spotsL (ds : List Dr) (us : List Int) (p : List Sp) : List Nat := ((List.range (p.length - 1)).filter (tb p)).filter fun i => dv (us.getD (i + 1) 0) (gt ds (p.getD i ⟨0, false⟩)).b
theorem tb_iff {p : List Sp} {i : Nat} (h : i + 1 < p.length) : tb p i = true ↔ p[i + 1] = tn p[i] := by
  unfold tb tn
  rw [List.getElem?_eq_getElem (show i < p.length by omega), List.getElem?_eq_getElem h]
  generalize p[i + 1] = b
  generalize p[i]'(by omega) = a
  cases a with | mk i s => cases b with | mk j t =>
  simp only [Bool.and_eq_true, decide_eq_true_eq, beq_iff_eq, Sp.mk.injEq]
/-- the place of a spot -/
theorem spot_at {ds : List Dr} {us : List Int} {p : List Sp} {i : Nat} (h : i ∈ spotsL ds us p) (hu : us.length = p.length + 1) :
    ∃ A u v w B pa s pb, us = A ++ u :: v :: w :: B ∧ p = pa ++ s :: tn s :: pb ∧ A.length = i ∧ pa.length = i ∧ dv v (gt ds s).b = true := by
  obtain ⟨h1, h2⟩ := List.mem_filter.mp h
  obtain ⟨h3, h4⟩ := List.mem_filter.mp h1
  have hi : i + 1 < p.length := by have := List.mem_range.mp h3; omega
  have hi0 : i < p.length := by omega
  have ht := (tb_iff hi).mp h4
  have g1 : p.getD i ⟨0, false⟩ = p[i] := by simp [List.getD, hi0]
  have g2 : us.getD (i + 1) 0 = us[i + 1] := by simp [List.getD, show i + 1 < us.length by omega]
  rw [g1, g2] at h2
  refine ⟨us.take i, us[i], us[i + 1], us[i + 2], us.drop (i + 3), p.take i, p[i], p.drop (i + 2), ?_, ?_, by simp; omega, by simp; omega, h2⟩
  · rw [← List.drop_eq_getElem_cons, ← List.drop_eq_getElem_cons, ← List.drop_eq_getElem_cons, List.take_append_drop]
  · rw [← ht, ← List.drop_eq_getElem_cons, ← List.drop_eq_getElem_cons, List.take_append_drop]
theorem Walk.cut {ds : List Dr} {s : Sp} {pb : List Sp} : ∀ {pa : List Sp} {x : Nat}, Walk ds x (pa ++ s :: tn s :: pb) → Walk ds x (pa ++ pb)
  | [], x, h => by
    obtain ⟨h1, h2, h3, h4, h5⟩ := h
    rw [gt_tn] at h5
    have : (gt ds s).flip.f = x := h2
    rw [this] at h5
    exact h5
  | t :: pa, x, h => ⟨h.1, h.2.1, Walk.cut h.2.2⟩
section
variable {k : Nat} {w : W} {R : Nat} {ds : List Dr}
theorem s_spots {x : Nat} {us : List Int} {p : List Sp} (o : Ok R ds) (hon : On ds p) (hu : us.length = p.length + 1) (hL : us.length ≤ 1000) : callN P (k + 3) "spots_of" [hs R ds, wk x us p] w = .ok (.tup ((spotsL ds us p).map fun i => .int (i : Nat))) w := by
  rw [call_def (fn := f_spots_of) rfl rfl _ _ _ rfl]
  have c1 : ∀ w, evE (callN P (k + 2)) f_spots_of_c1 [some (hs R ds), some (wk x us p), none, none] w = .ok (.lst (((List.range (p.length - 1)).filter (tb p)).map fun i => .int (i : Nat))) w := fun w => by
    rw [f_spots_of_c1, ev_compIf]
    have hr : rangeL (.int 0) (.int ((p.length : Int) - 1)) = some ((List.range (p.length - 1)).map fun i => .int (i : Nat)) := by
      by_cases h0 : p.length = 0
      · rw [h0]; rfl
      · have : (p.length : Int) - 1 = ((p.length - 1 : Nat) : Int) := by omega
        rw [this]; exact range_ok (by omega)
    simp only [evi_range, ev_c, ev_bin, ev_bi, evs_cons, evs_nil, ev_ix, ev_v, look_zero, look_succ, lift_some, Rp.R.bind_ok, wk2, len_sts, b_sub, hr]
    rw [filtL_ok _ (fun i : Nat => .int (i : Nat)) (fun i => .int (i : Nat)) (tb p) w (List.range (p.length - 1)) (fun i hi => ?_)]
    · simp only [Rp.R.bind_ok]
      rw [fits_ok]
      have := List.length_filter_le (tb p) (List.range (p.length - 1))
      simp at this ⊢
      omega
    · have hi : i + 1 < p.length := by have := List.mem_range.mp hi; omega
      simp [s_turns_back hi]
      cases tb p i <;> simp
  have c2 : ∀ w, evE (callN P (k + 2)) f_spots_of_c2 [some (hs R ds), some (wk x us p), some (.lst (((List.range (p.length - 1)).filter (tb p)).map fun i => .int (i : Nat))), none] w = .ok (.lst ((spotsL ds us p).map fun i => .int (i : Nat))) w := fun w => by
    rw [f_spots_of_c2, ev_compIf]
    simp only [evi_seq, ev_v, look_zero, look_succ, lift_some, Rp.R.bind_ok, items_lst]
    rw [filtL_ok _ (fun i : Nat => .int (i : Nat)) (fun i => .int (i : Nat)) (fun i => dv (us.getD (i + 1) 0) (gt ds (p.getD i ⟨0, false⟩)).b) w _ (fun i hi => ?_)]
    · simp only [Rp.R.bind_ok]
      have l1 := List.length_filter_le (tb p) (List.range (p.length - 1))
      have l2 := List.length_filter_le (fun i => dv (us.getD (i + 1) 0) (gt ds (p.getD i ⟨0, false⟩)).b) ((List.range (p.length - 1)).filter (tb p))
      rw [List.length_range] at l1
      rw [fits_ok (by rw [List.length_map]; omega)]
      rfl
    · obtain ⟨h1, h2⟩ := List.mem_filter.mp hi
      have hi : i + 1 < p.length := by have := List.mem_range.mp h1; omega
      have hi0 : i < p.length := by omega
      have hiu : i + 1 < us.length := by omega
      have hd := hon _ (List.getElem_mem hi0)
      obtain ⟨_, _, _, hb, _, _, h3, h4⟩ := o.gt hd
      have g1 : p.getD i ⟨0, false⟩ = p[i] := by simp [List.getD, hi0]
      have g2 : us.getD (i + 1) 0 = us[i + 1] := by simp [List.getD, hiu]
      have hg : ∀ w, callN P (k + 2) "gate_of" [hs R ds, st p[i]] w = .ok (dr (gt ds p[i])) w := fun w => s_gate_of hd
      have hmul : ∀ w, callN P (k + 2) "is_multiple" [.int us[i + 1], .int (gt ds p[i]).b] w = .ok (.bl (dv us[i + 1] (gt ds p[i]).b)) w := fun w => s_is_multiple _ _ hb (by omega)
      rw [g1, g2]
      simp -implicitDefEqProofs only [bindP_n, List.set_cons_zero, List.set_cons_succ, ev_call, evs_cons, evs_nil, ev_ix, ev_v, ev_bin, ev_c, look_zero, look_succ, lift_some, Rp.R.bind_ok, wk1, wk2, b_add, ix_tI1 hiu, ix_sts hi0, hg, dr3, hmul]
      cases dv us[i + 1] (gt ds p[i]).b <;> rfl
  simp [f_spots_of, start, c1, c2]
theorem s_to_shorten {x : Nat} {us : List Int} {p : List Sp} {i : Nat} (o : Ok R ds) (hon : On ds p) (h : i < p.length) (hu : i + 1 < us.length) :
    callN P (k + 2) "times_to_shorten" [hs R ds, wk x us p, .int i] w = .ok (.int (0 - us[i + 1].fdiv (gt ds p[i]).b)) w := by
  rw [call_def (fn := f_times_to_shorten) rfl rfl _ _ _ rfl]
  have hd := hon _ (List.getElem_mem h)
  obtain ⟨_, _, _, hb, _, _, h3, h4⟩ := o.gt hd
  have hg : ∀ w, callN P (k + 1) "gate_of" [hs R ds, st p[i]] w = .ok (dr (gt ds p[i])) w := fun w => s_gate_of hd
  have n3 : bits (gt ds p[i]).b ≤ 9000 := bits999 (by omega)
  simp [f_times_to_shorten, start, ix_sts h, ix_tI1 hu, hg, b_fdiv hb n3]
theorem cut_from {α : Type} (xs : List α) (m : Nat) : cutL xs (some (m : Int)) none = xs.drop m := by
  have h : ¬ ((m : Int) < 0) := by omega
  simp only [cutL, sIx, h, if_false, Int.toNat_natCast]
  by_cases c : m ≤ xs.length
  · rw [Nat.min_eq_left c, List.take_of_length_le (by rw [List.length_drop]; omega)]
  · rw [Nat.min_eq_right (by omega), List.drop_eq_nil_of_le (Nat.le_refl _), List.drop_eq_nil_of_le (by omega)]
    simp
theorem cut_to {α : Type} (xs : List α) (m : Nat) : cutL xs none (some (m : Int)) = xs.take m := by
  have h : ¬ ((m : Int) < 0) := by omega
  simp [cutL, sIx, h, List.take_take]
theorem s_cancel {x : Nat} {A B : List Int} {u v y : Int} {pa pb : List Sp} {s t : Sp} {i : Nat} (hA : A.length = i) (hp : pa.length = i) (h1 : A.length + B.length ≤ 900) (h2 : pa.length + pb.length ≤ 900) :
    callN P (k + 1) "cancel" [wk x (A ++ u :: v :: y :: B) (pa ++ s :: t :: pb), .int i] w = .ok (wk x (A ++ (u + y) :: B) (pa ++ pb)) w := by
  subst hA
  have hu : uItems (wk x (A ++ u :: v :: y :: B) (pa ++ s :: t :: pb)) = some [.int x, tI (A ++ u :: v :: y :: B), sts (pa ++ s :: t :: pb)] := rfl
  have i1 : ixD (tI (A ++ u :: v :: y :: B)) (.int (A.length : Nat)) = some (.int u) := by
    unfold tI
    exact atI_nat (by simp)
  have i2 : ixD (tI (A ++ u :: v :: y :: B)) (.int ((A.length : Int) + 2)) = some (.int y) := by
    unfold tI
    exact atI_nat (i := A.length + 2) (by simp)
  have c1 : slD (tI (A ++ u :: v :: y :: B)) none (some (A.length : Int)) = some (tI A) := by
    simp only [slD, tI, cut_to]
    simp
  have c2 : slD (tI (A ++ u :: v :: y :: B)) (some ((A.length : Int) + 3)) none = some (tI B) := by
    have := cut_from ((A ++ u :: v :: y :: B).map D.int) (A.length + 3)
    simp only [slD, tI]
    rw [show ((A.length : Int) + 3) = ((A.length + 3 : Nat) : Int) by omega, this, List.map_append, List.drop_append, List.drop_eq_nil_of_le (by simp)]
    simp
  have c3 : slD (sts (pa ++ s :: t :: pb)) none (some (A.length : Int)) = some (sts pa) := by
    simp only [slD, sts, cut_to, ← hp]
    simp
  have c4 : slD (sts (pa ++ s :: t :: pb)) (some ((A.length : Int) + 2)) none = some (sts pb) := by
    have := cut_from ((pa ++ s :: t :: pb).map st) (A.length + 2)
    simp only [slD, sts]
    rw [show ((A.length : Int) + 2) = ((A.length + 2 : Nat) : Int) by omega, this, ← hp, List.map_append, List.drop_append, List.drop_eq_nil_of_le (by simp)]
    simp
  have a1 : binD .add (tI A) (.tup [.int (u + y)]) = some (tI (A ++ [u + y])) := by
    rw [tI_app]; exact b_addT (by simp; omega)
  have a2 : binD .add (tI (A ++ [u + y])) (tI B) = some (tI (A ++ (u + y) :: B)) := by
    unfold tI
    rw [b_addT (by simp; omega)]
    simp
  have a3 : binD .add (sts pa) (sts pb) = some (sts (pa ++ pb)) := by
    unfold sts
    rw [b_addT (by simp; omega)]
    simp
  rw [call_def (fn := f_cancel) rfl rfl _ _ _ rfl]
  simp -implicitDefEqProofs only [f_cancel, start, List.map_cons, List.map_nil, List.length_cons, List.length_nil, exs_cons, exs_nil, ex_unpack, ex_asg, ex_ret, ev_tup, ev_bin, ev_sl1, ev_sl2, ev_ix, ev_c, bdI, Option.bind_some, evs_cons, evs_nil, ev_v, List.cons_append, List.nil_append, List.replicate, Nat.reduceAdd, Nat.reduceSub, List.set_cons_zero, List.set_cons_succ, look_zero, look_succ, lift_some, Rp.R.bind_ok, if_true, setAll_cons, setAll_nil, thenS_next, thenS_ret, endD_ret, hu, i1, b_add, i2, c1, c2, c3, c4, a1, a2, a3]
  rfl
end
end Lw
end

section
set_option linter.all false
set_option maxRecDepth 100000
namespace Lw
open Rp
theorem carryL_at (g : Dr) (A : List Int) (u v : Int) (B : List Int) (t : Int) : carryL g (A ++ u :: v :: B) A.length t = A ++ (u - g.a * t) :: (v + g.b * t) :: B := by
  unfold carryL
  have e0 : (A ++ u :: v :: B).getD A.length 0 = u := by simp [List.getD]
  have e1 : (A ++ u :: v :: B).set A.length (u - g.a * t) = A ++ (u - g.a * t) :: v :: B := by
    rw [List.set_append_right _ _ (Nat.le_refl _)]; simp
  have e2 : (A ++ (u - g.a * t) :: v :: B).getD (A.length + 1) 0 = v := by
    simp only [List.getD]
    rw [List.getElem?_append_right (by omega)]
    simp
  simp only [e0, e1, e2]
  rw [List.set_append_right _ _ (by omega)]
  simp
structure Sh where
  us : List Int
  p : List Sp
  mv : List D
def shB : List S := [.asg 4 (.ix (.v 3) (.c (.int 0))), .asg 5 (.call "times_to_shorten" [.v 0, .v 1, .v 4]), .ifs (.cmp .ne (.v 5) (.c (.int 0))) [.append 2 (.tup [.tup [.c (.str "carry"), .v 4, .v 5], .tup [.c (.str "carry"), .v 4, .bin .sub (.c (.int 0)) (.v 5)]]), .asg 1 (.call "carry" [.v 0, .v 1, .v 4, .v 5])] [], .append 2 (.tup [.tup [.c (.str "cancel"), .v 4], .tup [.c (.str "put"), .v 4, .ix (.ix (.v 1) (.c (.int 2))) (.v 4), .ix (.ix (.v 1) (.c (.int 1))) (.v 4)]]), .asg 1 (.call "cancel" [.v 1, .v 4]), .asg 3 (.call "spots_of" [.v 0, .v 1]), .kill [4, 5]]
def shE (R : Nat) (ds : List Dr) (x : Nat) (s : Sh) : Env := [some (hs R ds), some (wk x s.us s.p), some (.lst s.mv), some (.tup ((spotsL ds s.us s.p).map fun i => .int (i : Nat))), none, none]
section
variable {k : Nat} {w : W} {R : Nat} {ds : List Dr}
theorem sh_turn {x : Nat} (o : Ok R ds) (s : Sh) (hw : Walk ds x s.p) (hu : s.us.length = s.p.length + 1) (hm : s.mv.length + s.p.length ≤ 600) (hg : (spotsL ds s.us s.p).isEmpty = false) :
    ∃ s' : Sh, exSs (callN P (k + 3)) shB (shE R ds x s) w = .ok (.next (shE R ds x s')) w ∧ Walk ds x s'.p ∧ s'.us.length = s'.p.length + 1 ∧ s'.mv.length + s'.p.length ≤ 600 ∧ s'.p.length + 2 = s.p.length ∧ ru ds ([], 0) s'.us s'.p = ru ds ([], 0) s.us s.p := by
  obtain ⟨us, p, mv⟩ := s
  simp only at hw hu hm hg
  match hsp : spotsL ds us p, hg with
  | i :: rest, _ =>
    obtain ⟨A, u, v, y, B, pa, s, pb, rfl, rfl, hA, hpa, hdv⟩ := spot_at (ds := ds) (us := us) (p := p) (i := i) (by rw [hsp]; exact List.mem_cons_self) hu
    subst hA
    have hon := Walk.on hw
    have hsi : s.i < ds.length := hon s (by simp)
    obtain ⟨_, _, ha, hb, _⟩ := o.gt hsi
    have hcut := Walk.cut hw
    simp only [List.length_append, List.length_cons] at hu hm
    have hvz : v + (gt ds s).b * (0 - v.fdiv (gt ds s).b) = 0 := by
      have := dv_eq hdv
      rw [Int.zero_sub, Int.mul_neg, Int.mul_comm, this]
      omega
    have hip : A.length < (pa ++ s :: tn s :: pb).length := by simp; omega
    have hiu : A.length + 1 < (A ++ u :: v :: y :: B).length := by simp
    have gp : (pa ++ s :: tn s :: pb)[A.length] = s := by
      rw [List.getElem_append_right (by omega)]
      simp [hpa]
    have gv : (A ++ u :: v :: y :: B)[A.length + 1] = v := by
      rw [List.getElem_append_right (by omega)]
      simp
    have e1 : ∀ w, callN P (k + 3) "times_to_shorten" [hs R ds, wk x (A ++ u :: v :: y :: B) (pa ++ s :: tn s :: pb), .int A.length] w = .ok (.int (0 - v.fdiv (gt ds s).b)) w := fun w => by
      have := s_to_shorten (k := k + 1) (w := w) (x := x) o hon hip hiu
      rw [gp, gv] at this
      exact this
    have e2 : ∀ w, callN P (k + 3) "carry" [hs R ds, wk x (A ++ u :: v :: y :: B) (pa ++ s :: tn s :: pb), .int A.length, .int (0 - v.fdiv (gt ds s).b)] w = .ok (wk x (A ++ (u - (gt ds s).a * (0 - v.fdiv (gt ds s).b)) :: 0 :: y :: B) (pa ++ s :: tn s :: pb)) w := fun w => by
      have := s_carry (k := k + 1) (w := w) (x := x) (t := 0 - v.fdiv (gt ds s).b) o hon hip (us := A ++ u :: v :: y :: B) (by simp; omega)
      rw [gp, carryL_at, hvz] at this
      exact this
    have e3 : ∀ u' v' w, callN P (k + 3) "cancel" [wk x (A ++ u' :: v' :: y :: B) (pa ++ s :: tn s :: pb), .int A.length] w = .ok (wk x (A ++ (u' + y) :: B) (pa ++ pb)) w := fun u' v' w => s_cancel rfl hpa (by omega) (by omega)
    have hon2 := Walk.on hcut
    have e4 : ∀ u' w, callN P (k + 3) "spots_of" [hs R ds, wk x (A ++ u' :: B) (pa ++ pb)] w = .ok (.tup ((spotsL ds (A ++ u' :: B) (pa ++ pb)).map fun i => .int (i : Nat))) w := fun u' w => s_spots o hon2 (by simp; omega) (by simp; omega)
    have x1 : ixD (sts (pa ++ s :: tn s :: pb)) (.int A.length) = some (st s) := by rw [ix_sts hip, gp]
    have x2 : ∀ u' v', ixD (tI (A ++ u' :: v' :: y :: B)) (.int A.length) = some (.int u') := fun u' v' => by
      rw [ix_tI (by simp)]
      simp
    have hread : ∀ t, t = u - (gt ds s).a * (0 - v.fdiv (gt ds s).b) + y → ru ds ([], 0) (A ++ t :: B) (pa ++ pb) = ru ds ([], 0) (A ++ u :: v :: y :: B) (pa ++ s :: tn s :: pb) := fun t ht => by
      have hlen : A.length = pa.length := hpa.symm
      have hRd := ro_ok o A pa ([], 0) (fun q hq => hon q (by simp [hq])) trivial
      rw [ru_app A pa (t :: B) pb _ hlen, ru_app A pa (u :: v :: y :: B) (s :: tn s :: pb) _ hlen, ht]
      rw [← ru_carry o _ u v (0 - v.fdiv (gt ds s).b) hsi, hvz, ru_cancel o _ hRd _ _ hsi]
    by_cases ht : 0 - v.fdiv (gt ds s).b = 0
    · have hv0 : v = 0 := by
        have := dv_eq hdv
        have h0 : v.fdiv (gt ds s).b = 0 := by omega
        rw [h0] at this
        omega
      have n1 : ((0 - v.fdiv (gt ds s).b : Int) == 0) = true := by simp [ht]
      have ap : ∀ d, appD (.lst mv) d = some (.lst (mv ++ [d])) := fun d => appD_ok (by omega)
      refine ⟨⟨A ++ (u + y) :: B, pa ++ pb, mv ++ [.tup [.tup [.str "cancel", .int A.length], .tup [.str "put", .int A.length, st s, .int u]]]⟩, ?_, hcut, by simp; omega, by simp; omega, by simp; omega, hread _ (by rw [ht]; omega)⟩
      simp only [shE, hsp]
      simp -implicitDefEqProofs only [shB, List.map_cons, exs_cons, exs_nil, ex_asg, ex_ifs, ex_append, ex_kill, kill, List.set_cons_zero, List.set_cons_succ, ev_ix, ev_c, ev_v, ev_call, ev_cmp, ev_tup, evs_cons, evs_nil, look_zero, look_succ, lift_some, Rp.R.bind_ok, ix0, e1, cmp_ne, eqO_int, n1, Option.map_some, Bool.not_true, Rp.cond_false, thenS_next, wk1, wk2, x1, x2, ap, e3, e4]
    · have n1 : ((0 - v.fdiv (gt ds s).b : Int) == 0) = false := by rw [beq_eq_false_iff_ne]; exact ht
      have ap : ∀ d, appD (.lst mv) d = some (.lst (mv ++ [d])) := fun d => appD_ok (by omega)
      have ap2 : ∀ d e, appD (.lst (mv ++ [d])) e = some (.lst (mv ++ [d] ++ [e])) := fun d e => appD_ok (by simp; omega)
      refine ⟨⟨A ++ (u - (gt ds s).a * (0 - v.fdiv (gt ds s).b) + y) :: B, pa ++ pb, mv ++ [.tup [.tup [.str "carry", .int A.length, .int (0 - v.fdiv (gt ds s).b)], .tup [.str "carry", .int A.length, .int (0 - (0 - v.fdiv (gt ds s).b))]]] ++ [.tup [.tup [.str "cancel", .int A.length], .tup [.str "put", .int A.length, st s, .int (u - (gt ds s).a * (0 - v.fdiv (gt ds s).b))]]]⟩, ?_, hcut, by simp; omega, by simp; omega, by simp; omega, hread _ rfl⟩
      simp only [shE, hsp]
      simp -implicitDefEqProofs only [shB, List.map_cons, exs_cons, exs_nil, ex_asg, ex_ifs, ex_append, ex_kill, kill, List.set_cons_zero, List.set_cons_succ, ev_ix, ev_c, ev_v, ev_call, ev_cmp, ev_tup, ev_bin, b_sub, evs_cons, evs_nil, look_zero, look_succ, lift_some, Rp.R.bind_ok, ix0, e1, cmp_ne, eqO_int, n1, Option.map_some, Bool.not_false, Rp.cond_true, thenS_next, wk1, wk2, x1, x2, ap, ap2, e2, e3, e4]
theorem ints_flat (l : List Nat) : D.eqO (.tup (l.map fun i => .int (i : Nat))) (.tup []) = some l.isEmpty := by
  have := eqO_tup_nil (xs := l.map fun i => .int (i : Nat)) (fun d hd => by
    obtain ⟨i, _, rfl⟩ := List.mem_map.mp hd
    simp [D.pl, D.dep])
  rw [this]
  cases l <;> rfl
theorem l_shorten {x : Nat} (o : Ok R ds) {us : List Int} {p : List Sp} (hw : Walk ds x p) (hu : us.length = p.length + 1) (hp : p.length ≤ 600) :
    ∃ s' : Sh, exS (callN P (k + 3)) f_plain_with_moves_l1 (shE R ds x ⟨us, p, []⟩) w = .ok (.next (shE R ds x s')) w ∧ Walk ds x s'.p ∧ s'.us.length = s'.p.length + 1 ∧ s'.mv.length + s'.p.length ≤ 600 ∧ s'.p.length ≤ p.length ∧ ru ds ([], 0) s'.us s'.p = ru ds ([], 0) us p ∧ spotsL ds s'.us s'.p = [] := by
  obtain ⟨s', w', ⟨rfl, i1, i2, i3, i4, i5⟩, hg, e⟩ := while_inv (shE R ds x) (fun s => !(spotsL ds s.us s.p).isEmpty) (fun s => s.p.length) (fun s w' => w' = w ∧ Walk ds x s.p ∧ s.us.length = s.p.length + 1 ∧ s.mv.length + s.p.length ≤ 600 ∧ s.p.length ≤ p.length ∧ ru ds ([], 0) s.us s.p = ru ds ([], 0) us p)
    (c := fun env w => evE (callN P (k + 3)) (.cmp .ne (.v 3) (.c (.tup []))) env w) (b := fun env w => exSs (callN P (k + 3)) shB env w) (fun s w' _ => by
      simp -implicitDefEqProofs only [shE, ev_cmp, ev_v, ev_c, look_zero, look_succ, lift_some, Rp.R.bind_ok, cmp_ne, ints_flat, Option.map_some]) (fun s w' ⟨q0, q1, q2, q3, q4, q5⟩ hg => by
      subst q0
      obtain ⟨s', r1, r2, r3, r4, r5, r6⟩ := sh_turn (k := k) (w := w') o s q1 q2 q3 (by simpa using hg)
      exact ⟨s', w', r1, ⟨rfl, r2, r3, r4, by omega, by rw [r6, q5]⟩, by omega⟩) ⟨us, p, []⟩ w ⟨rfl, hw, hu, by simpa using hp, Nat.le_refl _, rfl⟩
  refine ⟨s', ?_, i1, i2, i3, i4, i5, by simpa using hg⟩
  rw [f_plain_with_moves_l1, ex_while]
  exact e
end
end Lw
end

section
set_option linter.all false
set_option maxRecDepth 100000
namespace Lw
open Rp
theorem nsp_of {ds : List Dr} {R : Nat} (o : Ok R ds) : ∀ (vs : List Int) (p : List Sp) (l : Option Sp), vs.length = p.length → On ds p →
    (∀ t s v, l = some t → p.head? = some s → vs.head? = some v → s = tn t → v % (gt ds s).a ≠ 0) →
    (∀ i (h : i + 1 < p.length) (h2 : i + 1 < vs.length), p[i + 1] = tn p[i] → vs[i + 1] % (gt ds p[i + 1]).a ≠ 0) → Nsp ds l vs p
  | [], [], _, _, _, _, _ => trivial
  | v :: vs, s :: p, l, hl, hon, h1, h2 => by
    refine ⟨hon s List.mem_cons_self, fun t ht e => h1 t s v ht rfl rfl e, nsp_of o vs p (some s) (by simpa using hl) (fun q hq => hon q (List.mem_cons_of_mem _ hq)) (fun t s' v' ht hs' hv' e => ?_) (fun i h h3 e => ?_)⟩
    · cases ht
      match p, vs, hs', hv' with
      | s'' :: p, v'' :: vs, hs', hv' =>
        cases hs'
        cases hv'
        exact h2 0 (by simp) (by simp) (by simpa using e)
    · exact h2 (i + 1) (by simpa using h) (by simpa using h3) (by simpa using e)
  | [], s :: p, _, h, _, _, _ => by simp at h
  | v :: vs, [], _, h, _, _, _ => by simp at h
theorem nsp_spots {ds : List Dr} {R : Nat} (o : Ok R ds) {vs : List Int} {p : List Sp} {z : Int} (hl : vs.length = p.length) (hon : On ds p) (h : spotsL ds (vs ++ [z]) p = []) : Nsp ds none vs p := by
  refine nsp_of o vs p none hl hon (fun t s v ht => by cases ht) (fun i hi hv e hz => ?_)
  have hi0 : i < p.length := by omega
  obtain ⟨_, _, _, hb, _⟩ := o.gt (hon _ (List.getElem_mem hi0))
  have hm : i ∈ spotsL ds (vs ++ [z]) p := by
    refine List.mem_filter.mpr ⟨List.mem_filter.mpr ⟨List.mem_range.mpr (by omega), (tb_iff hi).mpr e⟩, ?_⟩
    have g1 : p.getD i ⟨0, false⟩ = p[i] := by simp [List.getD, hi0]
    have g2 : (vs ++ [z]).getD (i + 1) 0 = vs[i + 1] := by simp [List.getD, List.getElem?_append_left hv, hv]
    rw [g1, g2]
    refine (dv_iff hb).mpr ?_
    have : (gt ds p[i]).b = (gt ds p[i + 1]).a := by rw [e, gt_tn]; rfl
    rw [this]
    exact hz
  rw [h] at hm
  cases hm
section
variable {k : Nat} {w : W} {R : Nat} {ds : List Dr}
theorem l_fit {x : Nat} {us : List Int} {p : List Sp} (o : Ok R ds) (hon : On ds p) (hu : us.length = p.length + 1) (mv : List D) (hmv : mv.length + p.length ≤ 900) (hL : us.length ≤ 1000) (sp : D) : exS (callN P (k + 3)) f_plain_with_moves_l2 [some (hs R ds), some (wk x us p), some (.lst mv), some sp, none, none] w =
    .ok (.next [some (hs R ds), some (wk x ((List.range p.length).foldl (fstep ds p) (us, mv)).1 p), some (.lst ((List.range p.length).foldl (fstep ds p) (us, mv)).2), some sp, none, none]) w := by
  unfold f_plain_with_moves_l2
  refine ex_for_of (evi_r0 (n := p.length) (w' := w) (by simp) (by omega)) ?_
  refine forL_fold (fun s : List Int × List D => [some (hs R ds), some (wk x s.1 p), some (.lst s.2), some sp, none, none]) (fun i : Nat => .int (i : Nat)) (fstep ds p) _ w
    (fun is s => s.1.length = p.length + 1 ∧ s.2.length + is.length ≤ 900 ∧ ∀ i ∈ is, i < p.length) (fun i is s hI => ?_) (List.range p.length) (us, mv) ⟨hu, by simpa using hmv, fun i hi => List.mem_range.mp hi⟩
  obtain ⟨i1, i2, i3⟩ := hI
  have hi : i < p.length := i3 i List.mem_cons_self
  have hiu : i < s.1.length := by omega
  have g1 : p.getD i ⟨0, false⟩ = p[i] := by simp [List.getD, hi]
  have g2 : s.1.getD i 0 = s.1[i] := by simp [List.getD, hiu]
  have ht : ∀ w, callN P (k + 3) "times_to_fit" [hs R ds, wk x s.1 p, .int i] w = .ok (.int (tf (gt ds p[i]).a s.1[i])) w := fun w => s_times_to_fit (k := k + 1) o hon hi hiu
  have hc : ∀ t w, callN P (k + 3) "carry" [hs R ds, wk x s.1 p, .int i, .int t] w = .ok (wk x (carryL (gt ds p[i]) s.1 i t) p) w := fun t w => s_carry (k := k + 1) o hon hi i1
  simp only [List.length_cons] at i2
  have hz : ∀ v, appD (.lst s.2) v = some (.lst (s.2 ++ [v])) := fun v => appD_ok (by omega)
  unfold fstep
  rw [g1, g2]
  by_cases c : tf (gt ds p[i]).a s.1[i] = 0
  · refine ⟨?_, ?_⟩
    · simp [ht, c]
    · simp only [c, if_true]
      exact ⟨i1, by omega, fun j hj => i3 j (List.mem_cons_of_mem _ hj)⟩
  · refine ⟨?_, ?_⟩
    · have c2 : (tf (gt ds p[i]).a s.1[i] == 0) = false := by simp [c]
      simp [ht, c, c2, hc, hz, mvD]
    · simp only [c, if_false]
      exact ⟨by rw [carryL_len]; exact i1, by simp; omega, fun j hj => i3 j (List.mem_cons_of_mem _ hj)⟩
/-- the plain form of a walk is what is read of it -/
theorem s_plain {x : Nat} {us : List Int} {p : List Sp} (o : Ok R ds) (hw : Walk ds x p) (hu : us.length = p.length + 1) (hp : p.length ≤ 600) :
    callN P (k + 5) "plain_of" [hs R ds, wk x us p] w = .ok (wk x (nfV (ru ds ([], 0) us p) ++ [(ru ds ([], 0) us p).2]) (nfP (ru ds ([], 0) us p))) w ∧ Ft ds none x (nfV (ru ds ([], 0) us p)) (nfP (ru ds ([], 0) us p)) ∧ (nfP (ru ds ([], 0) us p)).length ≤ p.length := by
  obtain ⟨⟨us', p', mv⟩, e1, i1, i2, i3, i4, i5, i6⟩ := l_shorten (k := k) (w := w) o hw hu hp
  simp only at i1 i2 i3 i4 i5 i6
  rcases List.eq_nil_or_concat us' with h | ⟨vs, z, h⟩
  · subst h; simp at i2
  rw [List.concat_eq_append] at h
  subst h
  have hvl : vs.length = p'.length := by simpa using i2
  have hN := nsp_spots o hvl (Walk.on i1) i6
  obtain ⟨n1, n2, n3, n4⟩ := nf_firm o z hN i1 hvl
  rw [i5] at n1 n2 n3
  have hf := foldl_fit ds p' vs [] [] 0 z mv hvl rfl
  have ha0 : addH 0 (vs ++ [z]) = vs ++ [z] := by cases vs <;> simp [addH]
  simp only [List.length_nil, Nat.add_zero, List.map_id', List.nil_append, ha0] at hf
  rw [n1, n2, n3]
  refine ⟨?_, n4, i4⟩
  have e2 := l_fit (k := k) (w := w) (x := x) (us := vs ++ [z]) o (Walk.on i1) i2 mv (by omega) (by omega) (.tup ((spotsL ds (vs ++ [z]) p').map fun i => .int (i : Nat)))
  rw [hf] at e2
  have e0 : ∀ w, callN P (k + 3) "spots_of" [hs R ds, wk x us p] w = .ok (.tup ((spotsL ds us p).map fun i => .int (i : Nat))) w := fun w => s_spots o (Walk.on hw) hu (by omega)
  simp only [shE] at e1
  have e : callN P (k + 4) "plain_with_moves" [hs R ds, wk x us p] w = .ok (.tup [wk x ((fitR ds 0 vs p').1 ++ [z + (fitR ds 0 vs p').2]) p', .lst ((List.range p'.length).foldl (fstep ds p') (vs ++ [z], mv)).2]) w := by
    rw [call_def (fn := f_plain_with_moves) rfl rfl _ _ _ rfl]
    simp -implicitDefEqProofs only [f_plain_with_moves, start, List.map_cons, List.map_nil, List.length_cons, List.length_nil, exs_cons, exs_nil, ex_asgO, ex_asg, ex_ret, ev_call, ev_lst, evs_cons, evs_nil, ev_v, ev_tup, List.cons_append, List.nil_append, List.replicate, Nat.reduceAdd, Nat.reduceSub, List.set_cons_zero, List.set_cons_succ, look_zero, look_succ, lift_some, Rp.R.bind_ok, isMut, if_true, thenS_next, thenS_ret, endD_ret, e0, e1, e2, ex_kill, kill, ex_frz]
  rw [call_def (fn := f_plain_of) rfl rfl _ _ _ rfl]
  simp -implicitDefEqProofs [f_plain_of, start, e]
end
end Lw
end

section
set_option linter.all false
set_option maxRecDepth 100000
namespace Lw
open Rp
/-! ### walks act on what was read -/
section
variable {ds : List Dr} {R : Nat}
/-- what was read, read anew -/
def rw' (ds : List Dr) (S T : Sk × Int) : Sk × Int := ru ds S (nfV T ++ [T.2]) (nfP T)
theorem nf_len (T : Sk × Int) : (nfV T).length = (nfP T).length := by simp [nfV, nfP]
theorem ru_end (S : Sk × Int) : ∀ (us : List Int) (p : List Sp) (z : Int), us.length = p.length → ru ds S (us ++ [z]) p = ((ro ds S us p).1, (ro ds S us p).2 + z)
  | [], [], z, _ => rfl
  | u :: us, s :: p, z, h => ru_end _ us p z (by simpa using h)
  | [], _ :: _, _, h => by simp at h
  | _ :: _, [], _, h => by simp at h
theorem ro_snoc (S : Sk × Int) (us : List Int) (p : List Sp) (v : Int) (s : Sp) (h : us.length = p.length) : ro ds S (us ++ [v]) (p ++ [s]) = rd ds ((ro ds S us p).1, (ro ds S us p).2 + v) s := by
  rw [ro_app us p [v] [s] S h]
  rfl
theorem nf_cons (v : Int) (t : Sp) (r : Sk) (n m : Int) : nfV ((v, t) :: r, n) = nfV (r, m) ++ [v] ∧ nfP ((v, t) :: r, n) = nfP (r, m) ++ [t] := by simp [nfV, nfP]
theorem rw_eq (S T : Sk × Int) : rw' ds S T = ((ro ds S (nfV T) (nfP T)).1, (ro ds S (nfV T) (nfP T)).2 + T.2) := ru_end S _ _ _ (nf_len T)
theorem on_nf {k : Sk} {n : Int} (h : Rd ds k) : On ds (nfP (k, n)) := by
  induction k with
  | nil => intro s hs; simp [nfP] at hs
  | cons q k ih =>
    obtain ⟨v, t⟩ := q
    intro s hs
    rw [(nf_cons v t k n n).2] at hs
    rcases List.mem_append.mp hs with e | e
    · exact ih h.2.2.2.2 s e
    · simp at e; subst e; exact h.1
/-- a pass read behind -/
theorem rw_rd (o : Ok R ds) {S : Sk × Int} (hS : Rd ds S.1) {k : Sk} {n : Int} (hk : Rd ds k) {s : Sp} (hs : s.i < ds.length) : rw' ds S (rd ds (k, n) s) = rd ds (rw' ds S (k, n)) s := by
  obtain ⟨_, _, ha, _⟩ := o.gt hs
  by_cases hp : pops ds k n s = true
  · match k, hk, hp with
    | (v, t) :: r, hk, hp =>
      have e1 : rd ds ((v, t) :: r, n) s = (r, v + n / (gt ds s).a * (gt ds s).b) := by unfold rd; rw [if_pos hp]; rfl
      unfold pops at hp
      simp only [Bool.and_eq_true, decide_eq_true_eq] at hp
      obtain ⟨q1, q2⟩ := hp
      obtain ⟨k1, _, _, _, k5⟩ := hk
      obtain ⟨c1, c2⟩ := nf_cons v t r n (v + n / (gt ds s).a * (gt ds s).b)
      have hU := ro_ok o (nfV (r, v + n / (gt ds s).a * (gt ds s).b)) (nfP (r, v + n / (gt ds s).a * (gt ds s).b)) S (on_nf k5) hS
      rw [e1, rw_eq, rw_eq, c1, c2, ro_snoc _ _ _ _ _ (nf_len _)]
      generalize ro ds S (nfV (r, v + n / (gt ds s).a * (gt ds s).b)) (nfP (r, v + n / (gt ds s).a * (gt ds s).b)) = U at *
      have hn : n = n / (gt ds s).a * (gt ds s).a := by
        have := Int.emod_add_mul_ediv n (gt ds s).a
        rw [q2, Int.mul_comm] at this
        omega
      have hb := rd_back o (U.2 + v) k1 hU
      have hst : s = tn t := q1
      have ea := rd_add o (rd ds (U.1, U.2 + v) t).1 (rd ds (U.1, U.2 + v) t).2 (n / (gt ds s).a) hs
      rw [← hn] at ea
      have hb2 : rd ds ((rd ds (U.1, U.2 + v) t).1, (rd ds (U.1, U.2 + v) t).2) s = (U.1, U.2 + v) := by rw [hst]; exact hb
      rw [hb2] at ea
      rw [ea]
      simp only [Int.add_assoc]
  · have e1 : rd ds (k, n) s = ((n % (gt ds s).a, s) :: k, n / (gt ds s).a * (gt ds s).b) := by unfold rd; rw [if_neg hp]
    obtain ⟨c1, c2⟩ := nf_cons (n % (gt ds s).a) s k (n / (gt ds s).a * (gt ds s).b) n
    rw [e1, rw_eq, rw_eq, c1, c2, ro_snoc _ _ _ _ _ (nf_len _)]
    generalize ro ds S (nfV (k, n)) (nfP (k, n)) = U
    have ea := rd_add o U.1 (U.2 + n % (gt ds s).a) (n / (gt ds s).a) hs
    have hn : U.2 + n % (gt ds s).a + n / (gt ds s).a * (gt ds s).a = U.2 + n := by
      have := Int.emod_add_mul_ediv n (gt ds s).a
      rw [Int.mul_comm] at this
      omega
    rw [hn] at ea
    rw [ea]
theorem rw_pull (S : Sk × Int) (k : Sk) (n u : Int) : rw' ds S (k, n + u) = ((rw' ds S (k, n)).1, (rw' ds S (k, n)).2 + u) := by
  rw [rw_eq, rw_eq]
  have h1 : nfV (k, n + u) = nfV (k, n) := rfl
  have h2 : nfP (k, n + u) = nfP (k, n) := rfl
  rw [h1, h2]
  simp only [Int.add_assoc]
/-- a walk read on top of what was read -/
theorem rw_ru (o : Ok R ds) {S : Sk × Int} (hS : Rd ds S.1) : ∀ (us : List Int) (p : List Sp) (T : Sk × Int), Rd ds T.1 → On ds p → us.length = p.length + 1 → rw' ds S (ru ds T us p) = ru ds (rw' ds S T) us p
  | u :: us, s :: p, T, hT, hp, hl => by
    have hs := hp s List.mem_cons_self
    have h1 : ru ds T (u :: us) (s :: p) = ru ds (rd ds (T.1, T.2 + u) s) us p := rfl
    have h2 : ru ds (rw' ds S T) (u :: us) (s :: p) = ru ds (rd ds ((rw' ds S T).1, (rw' ds S T).2 + u) s) us p := rfl
    rw [h1, h2, rw_ru o hS us p _ (rd_ok o hs hT) (fun t ht => hp t (List.mem_cons_of_mem _ ht)) (by simpa using hl), rw_rd o hS hT hs, rw_pull]
  | [u], [], T, _, _, _ => rw_pull S T.1 T.2 u
  | [], _, _, _, _, h => by simp at h
  | _ :: _ :: _, [], _, _, _, h => by simp at h
/-- a walk and its plain form do the same -/
theorem ru_plain (o : Ok R ds) {S : Sk × Int} (hS : Rd ds S.1) {us : List Int} {p : List Sp} (hp : On ds p) (hl : us.length = p.length + 1) : rw' ds S (ru ds ([], 0) us p) = ru ds S us p := by
  rw [rw_ru o hS us p ([], 0) trivial hp hl]
  have : rw' ds S ([], 0) = S := by
    rw [rw_eq]
    simp [nfV, nfP, ro]
  rw [this]
/-! ### walks joined and backwards -/
theorem ru_join (S : Sk × Int) (us : List Int) (p : List Sp) (z v : Int) (vs : List Int) (q : List Sp) (h : us.length = p.length) : ru ds S (us ++ (z + v) :: vs) (p ++ q) = ru ds (ru ds S (us ++ [z]) p) (v :: vs) q := by
  rw [ru_app us p _ q S h, ru_end S us p z h]
  generalize ro ds S us p = U
  cases q with
  | nil => simp only [ru, Int.add_assoc]
  | cons s q => simp only [ru, Int.add_assoc]
theorem rd_len (k : Sk) (n : Int) (s : Sp) : (rd ds (k, n) s).1.length = k.length + 1 ∨ ((rd ds (k, n) s).1.length + 1 = k.length) := by
  unfold rd
  by_cases hp : pops ds k n s = true
  · rw [if_pos hp]
    match k, hp with
    | (v, t) :: r, _ => exact .inr rfl
    | [], hp => simp [pops] at hp
  · rw [if_neg hp]; exact .inl rfl
theorem ru_len : ∀ (us : List Int) (p : List Sp) (S : Sk × Int), (ru ds S us p).1.length ≤ S.1.length + p.length ∧ ∃ j, (ru ds S us p).1.length + 2 * j = S.1.length + p.length ∨ us.length ≠ p.length + 1
  | u :: us, s :: p, S => by
    have h1 : ru ds S (u :: us) (s :: p) = ru ds (rd ds (S.1, S.2 + u) s) us p := rfl
    rw [h1]
    obtain ⟨a, j, b⟩ := ru_len us p (rd ds (S.1, S.2 + u) s)
    rcases rd_len (ds := ds) S.1 (S.2 + u) s with h | h
    · refine ⟨by simp; omega, j, ?_⟩
      rcases b with b | b
      · exact .inl (by simp; omega)
      · exact .inr (by simp; omega)
    · refine ⟨by simp; omega, j + 1, ?_⟩
      rcases b with b | b
      · exact .inl (by simp; omega)
      · exact .inr (by simp; omega)
  | u :: us, [], S => ⟨by simp [ru], 0, .inl (by simp [ru])⟩
  | [], p, S => ⟨by simp [ru], 0, .inr (by simp)⟩
end
end Lw
end

section
set_option linter.all false
set_option maxRecDepth 100000
namespace Lw
open Rp
def backU (us : List Int) : List Int := us.reverse.map fun u => 0 - u
def backP (p : List Sp) : List Sp := p.reverse.map tn
section
variable {ds : List Dr} {R : Nat}
theorem ru_snoc (w : Int) (s : Sp) : ∀ (us : List Int) (p : List Sp) (T : Sk × Int), us.length = p.length + 1 → ru ds T (us ++ [w]) (p ++ [s]) = ((rd ds (ru ds T us p) s).1, (rd ds (ru ds T us p) s).2 + w)
  | [u], [], T, _ => rfl
  | u :: us, t :: p, T, h => by
    have h1 : ru ds T (u :: us ++ [w]) (t :: p ++ [s]) = ru ds (rd ds (T.1, T.2 + u) t) (us ++ [w]) (p ++ [s]) := rfl
    have h2 : ru ds T (u :: us) (t :: p) = ru ds (rd ds (T.1, T.2 + u) t) us p := rfl
    rw [h1, h2, ru_snoc w s us p _ (by simpa using h)]
  | [], _, _, h => by simp at h
  | _ :: _ :: _, [], _, h => by simp at h
theorem backU_len (us : List Int) : (backU us).length = us.length := by simp [backU]
theorem backP_len (p : List Sp) : (backP p).length = p.length := by simp [backP]
/-- a walk and then backwards -/
theorem ru_back (o : Ok R ds) : ∀ (us : List Int) (p : List Sp) (S : Sk × Int), Rd ds S.1 → On ds p → us.length = p.length + 1 → ru ds (ru ds S us p) (backU us) (backP p) = S
  | [u], [], S, _, _, _ => by
    show (S.1, S.2 + u + (0 - u)) = S
    rw [show S.2 + u + (0 - u) = S.2 by omega]
  | u :: us, s :: p, S, hS, hp, hl => by
    have hs := hp s List.mem_cons_self
    have h1 : ru ds S (u :: us) (s :: p) = ru ds (rd ds (S.1, S.2 + u) s) us p := rfl
    have h2 : backU (u :: us) = backU us ++ [0 - u] := by simp [backU]
    have h3 : backP (s :: p) = backP p ++ [tn s] := by simp [backP]
    have hl' : us.length = p.length + 1 := by simpa using hl
    rw [h1, h2, h3, ru_snoc _ _ _ _ _ (by rw [backU_len, backP_len]; exact hl'), ru_back o us p _ (rd_ok o hs hS) (fun t ht => hp t (List.mem_cons_of_mem _ ht)) hl', rd_back o _ hs hS]
    show (S.1, S.2 + u + (0 - u)) = S
    rw [show S.2 + u + (0 - u) = S.2 by omega]
  | [], _, _, _, _, h => by simp at h
  | _ :: _ :: _, [], _, _, _, h => by simp at h
theorem backU_back (us : List Int) : backU (backU us) = us := by
  unfold backU
  rw [← List.map_reverse, List.reverse_reverse, List.map_map]
  have : ((fun u : Int => 0 - u) ∘ fun u => 0 - u) = id := funext fun u => by simp
  rw [this, List.map_id]
theorem backP_back (p : List Sp) : backP (backP p) = p := by
  unfold backP
  rw [← List.map_reverse, List.reverse_reverse, List.map_map]
  have : (tn ∘ tn) = id := funext fun s => tn_tn s
  rw [this, List.map_id]
theorem backP_on {p : List Sp} (h : On ds p) : On ds (backP p) := fun s hs => by
  unfold backP at hs
  obtain ⟨t, ht, rfl⟩ := List.mem_map.mp hs
  exact h t (List.mem_reverse.mp ht)
theorem ru_back2 (o : Ok R ds) {us : List Int} {p : List Sp} {S : Sk × Int} (hS : Rd ds S.1) (hp : On ds p) (hl : us.length = p.length + 1) : ru ds (ru ds S (backU us) (backP p)) us p = S := by
  have := ru_back o (backU us) (backP p) S hS (backP_on hp) (by rw [backU_len, backP_len]; exact hl)
  rw [backU_back, backP_back] at this
  exact this
/-! ### where walks lead -/
theorem Walk.app : ∀ {p q : List Sp} {x : Nat}, Walk ds x p → Walk ds (endW ds x p) q → Walk ds x (p ++ q)
  | [], _, _, _, h => h
  | s :: p, q, x, h, h2 => ⟨h.1, h.2.1, Walk.app h.2.2 h2⟩
theorem endW_cat : ∀ (p q : List Sp) (x : Nat), endW ds x (p ++ q) = endW ds (endW ds x p) q
  | [], _, _ => rfl
  | s :: p, q, x => endW_cat p q _
theorem Walk.back : ∀ {p : List Sp} {x : Nat}, Walk ds x p → Walk ds (endW ds x p) (backP p) ∧ endW ds (endW ds x p) (backP p) = x
  | [], _, _ => ⟨trivial, rfl⟩
  | s :: p, x, h => by
    obtain ⟨h1, h2, h3⟩ := h
    obtain ⟨i1, i2⟩ := Walk.back h3
    have h4 : backP (s :: p) = backP p ++ [tn s] := by simp [backP]
    have h5 : endW ds x (s :: p) = endW ds (gt ds s).f p := rfl
    have g1 : (gt ds (tn s)).n = (gt ds s).f := by rw [gt_tn]; rfl
    have g2 : (gt ds (tn s)).f = (gt ds s).n := by rw [gt_tn]; rfl
    rw [h4, h5]
    refine ⟨i1.app ?_, ?_⟩
    · rw [i2]
      exact ⟨h1, g1, trivial⟩
    · rw [endW_cat, i2]
      show (gt ds (tn s)).f = x
      rw [g2, h2]
end
section
variable {k : Nat} {w : W} {R : Nat} {ds : List Dr}
theorem s_end_for {x : Nat} {us : List Int} {p : List Sp} (hp : On ds p) : callN P (k + 2) "end_for" [hs R ds, wk x us p] w = .ok (.int (endW ds x p)) w := by
  rw [call_def (fn := f_end_for) rfl rfl _ _ _ rfl]
  rcases List.eq_nil_or_concat p with rfl | ⟨q, s, h⟩
  · simp -implicitDefEqProofs [f_end_for, start, sts_nil_eq, endW]
  · rw [List.concat_eq_append] at h
    subst h
    have hs' : s.i < ds.length := hp s (by simp)
    have hE : (q ++ [s]).isEmpty = false := by simp
    have hg : ∀ w, callN P (k + 1) "gate_of" [hs R ds, st s] w = .ok (dr (gt ds s)) w := fun w => s_gate_of hs'
    have d2 : ixD (dr (gt ds s)) (.int 2) = some (.int (gt ds s).f) := by unfold dr; simp
    simp -implicitDefEqProofs [f_end_for, start, sts_nil_eq, hE, ix_sts_last, hg, d2, endW_app]
theorem sl_from1 (v : Int) (vs : List Int) : slD (tI (v :: vs)) (some 1) none = some (tI vs) := by
  simp only [tI, slD, List.map_cons, cut_tail]
theorem s_join_of {x y : Nat} {us vs : List Int} {z v : Int} {p q : List Sp} (h1 : us.length + vs.length ≤ 900) (h2 : p.length + q.length ≤ 900) : callN P (k + 1) "join_of" [wk x (us ++ [z]) p, wk y (v :: vs) q] w = .ok (wk x (us ++ (z + v) :: vs) (p ++ q)) w := by
  have i1 : ixD (tI (us ++ [z])) (.int (-1)) = some (.int z) := by rw [tI_app]; exact ix_last
  have i2 : ixD (tI (v :: vs)) (.int 0) = some (.int v) := by simp [tI]
  have a1 : binD .add (tI us) (.tup [.int (z + v)]) = some (tI (us ++ [z + v])) := by rw [tI_app]; exact b_addT (by simp; omega)
  have a2 : binD .add (tI (us ++ [z + v])) (tI vs) = some (tI (us ++ (z + v) :: vs)) := by
    unfold tI
    rw [b_addT (by simp; omega)]
    simp
  have a3 : binD .add (sts p) (sts q) = some (sts (p ++ q)) := by
    unfold sts
    rw [b_addT (by simp; omega)]
    simp
  rw [call_def (fn := f_join_of) rfl rfl _ _ _ rfl]
  simp -implicitDefEqProofs only [f_join_of, start, List.map_cons, List.map_nil, List.length_cons, List.length_nil, exs_cons, exs_nil, ex_asg, ex_ret, ev_tup, ev_bin, ev_sl1, ev_sl2, ev_ix, ev_neg, neg_int, ev_c, bdI, Option.bind_some, evs_cons, evs_nil, ev_v, List.cons_append, List.nil_append, List.replicate, Nat.reduceAdd, Nat.reduceSub, List.set_cons_zero, List.set_cons_succ, look_zero, look_succ, lift_some, Rp.R.bind_ok, thenS_next, thenS_ret, endD_ret, wk0, wk1, wk2, i1, i2, b_add, sl_tI, sl_from1, a1, a2, a3]
  rfl
theorem st_tn (s : Sp) : D.tup [.int s.i, .int (1 - (if s.s then 1 else 0))] = st (tn s) := by
  unfold st tn
  cases s.s <;> rfl
theorem s_back_of {x : Nat} {us : List Int} {p : List Sp} (hp : On ds p) (h1 : us.length ≤ 900) (h2 : p.length ≤ 900) : callN P (k + 3) "back_of" [hs R ds, wk x us p] w = .ok (wk (endW ds x p) (backU us) (backP p)) w := by
  have c1 : ∀ w, evE (callN P (k + 2)) f_back_of_c1 [some (hs R ds), some (wk x us p), none, none, none, none, none] w = .ok (.lst ((us.reverse).map fun u => .int (0 - u))) w := fun w => by
    unfold f_back_of_c1
    refine ev_comp_of (w1 := w) (xs := us.reverse.map D.int) ?_ ?_ (by simp; omega)
    · have hu : uItems (tI us) = some (us.map D.int) := rfl
      simp -implicitDefEqProofs only [evi_rev, ev_ix, ev_v, ev_c, look_zero, look_succ, lift_some, Rp.R.bind_ok, wk1, hu, Option.map_some, List.map_reverse]
    · exact mapL_ok _ D.int (fun u => .int (0 - u)) w us.reverse (fun u _ => by simp -implicitDefEqProofs only [inB_n, List.set_cons_zero, List.set_cons_succ, ev_bin, ev_c, ev_v, look_zero, look_succ, lift_some, Rp.R.bind_ok, b_sub])
  have c2 : ∀ a w, evE (callN P (k + 2)) f_back_of_c2 [some (hs R ds), some (wk x us p), some a, none, none, none, none] w = .ok (.lst ((p.reverse).map fun s => st (tn s))) w := fun a w => by
    unfold f_back_of_c2
    refine ev_comp_of (w1 := w) (xs := p.reverse.map st) ?_ ?_ (by simp; omega)
    · have hu : uItems (sts p) = some (p.map st) := rfl
      simp -implicitDefEqProofs only [evi_rev, ev_ix, ev_v, ev_c, look_zero, look_succ, lift_some, Rp.R.bind_ok, wk2, hu, Option.map_some, List.map_reverse]
    · exact mapL_ok _ st (fun s => st (tn s)) w p.reverse (fun s _ => by
        show inB _ (.tup _) _ _ = _
        rw [inB_t _ _ _ _ rfl, ← st_tn]
        simp -implicitDefEqProofs only [setAll_cons, setAll_nil, List.set_cons_zero, List.set_cons_succ, ev_tup, ev_bin, ev_c, ev_v, evs_cons, evs_nil, look_zero, look_succ, lift_some, Rp.R.bind_ok, b_sub])
  have r1 : wk (endW ds x p) (backU us) (backP p) = .tup [.int (endW ds x p), .tup ((us.reverse).map fun u => .int (0 - u)), .tup ((p.reverse).map fun s => st (tn s))] := by
    simp [wk, tI, sts, backU, backP, Function.comp_def]
  rw [call_def (fn := f_back_of) rfl rfl _ _ _ rfl, r1]
  simp -implicitDefEqProofs only [f_back_of, start, List.map_cons, List.map_nil, List.length_cons, List.length_nil, exs_cons, exs_nil, ex_asg, ex_ret, ev_tup, ev_bi, ev_call, evs_cons, evs_nil, ev_v, List.cons_append, List.nil_append, List.replicate, Nat.reduceAdd, Nat.reduceSub, List.set_cons_zero, List.set_cons_succ, look_zero, look_succ, lift_some, Rp.R.bind_ok, thenS_next, thenS_ret, endD_ret, c1, c2, bi_tuple_lst, s_end_for (k := k) hp]
end
end Lw
end

section
set_option linter.all false
set_option maxRecDepth 100000
namespace Lw
open Rp
section
variable {R : Nat} {ds : List Dr}
theorem Ft.at (o : Ok R ds) : ∀ (vs : List Int) (p : List Sp) (l : Option Sp) (x : Nat), Ft ds l x vs p → ∀ i (h : i < p.length) (h2 : i < vs.length), 0 ≤ vs[i] ∧ vs[i] < (gt ds p[i]).a.natAbs
  | v :: vs, s :: p, l, x, hF, 0, _, _ => ⟨hF.2.2.2.1, hF.2.2.2.2.1⟩
  | v :: vs, s :: p, l, x, hF, i + 1, h, h2 => by
    have := Ft.at o vs p (some s) (gt ds s).f hF.2.2.2.2.2 i (by simpa using h) (by simpa using h2)
    simpa using this
  | [], [], _, _, _, _, h, _ => by simp at h
  | [], s :: p, _, _, h, _, _, _ => h.elim
  | v :: vs, [], _, _, h, _, _, _ => h.elim
theorem tf_zero {a u : Int} (h0 : 0 ≤ u) (h1 : u < a.natAbs) : tf a u = 0 := by
  unfold tf
  have h2 : u.fdiv a.natAbs = 0 := by
    rw [Int.fdiv_eq_ediv_of_nonneg _ (by omega)]
    exact Int.ediv_eq_zero_of_lt h0 h1
  rw [h2]
  simp
end
section
variable {k : Nat} {w : W} {R : Nat} {ds : List Dr}
theorem s_is_foot (o : Ok R ds) {x : Nat} {vs : List Int} {p : List Sp} (hx : x < R) (hF : Ft ds none x vs p) (hl : p.length ≤ 900) : callN P (k + 6) "is_foot_of" [hs R ds, wk x (vs ++ [0]) p] w = .ok (.bl true) w := by
  have hlen := hF.len
  have hon := Walk.on hF.walk
  have e1 : ∀ w, callN P (k + 5) "is_walk_of" [hs R ds, wk x (vs ++ [0]) p] w = .ok (.bl true) w := fun w => s_is_walk_of (k := k) hx hF.walk (by simp [hlen]) (le_line (by simp; omega))
  have e2 : ∀ w, callN P (k + 4) "spots_of" [hs R ds, wk x (vs ++ [0]) p] w = .ok (.tup []) w := fun w => s_spots_of (k := k + 1) o hon (by simp [hlen]) (by simp; omega) (by have := firm_of o hF 0; rwa [show addH 0 (vs ++ [0]) = vs ++ [0] by cases vs <;> simp [addH]] at this)
  have c1 : ∀ w, evE (callN P (k + 4)) f_looks_plain_c1 [some (hs R ds), some (wk x (vs ++ [0]) p), none] w = .ok (.lst ((List.range p.length).map fun _ => .bl true)) w := fun w => by
    unfold f_looks_plain_c1
    refine ev_comp_of (evi_r0 (n := p.length) (w' := w) (by simp -implicitDefEqProofs) (by omega)) ?_ (by simp; omega)
    refine mapL_ok _ (fun i : Nat => .int (i : Int)) (fun _ => .bl true) w (List.range p.length) (fun i hi => ?_)
    have hi := List.mem_range.mp hi
    obtain ⟨g1, g2⟩ := Ft.at o vs p none x hF i hi (by omega)
    have ht : ∀ w, callN P (k + 4) "times_to_fit" [hs R ds, wk x (vs ++ [0]) p, .int i] w = .ok (.int 0) w := fun w => by
      have := s_times_to_fit (k := k + 2) (w := w) (x := x) (us := vs ++ [0]) o hon hi (by simp; omega)
      rw [List.getElem_append_left (by omega), tf_zero g1 g2] at this
      exact this
    simp -implicitDefEqProofs [ht]
  have e3 : ∀ w, callN P (k + 5) "looks_plain" [hs R ds, wk x (vs ++ [0]) p] w = .ok (.bl true) w := fun w => by
    have q1 : D.eqO (.tup []) (.tup []) = some true := rfl
    have q2 := bi_all_true (List.range p.length)
    rw [call_def (fn := f_looks_plain) rfl rfl _ _ _ rfl]
    simp -implicitDefEqProofs only [f_looks_plain, start, List.map_cons, List.map_nil, List.length_cons, List.length_nil, exs_cons, exs_nil, ex_ifs, ex_ret, ev_cmp, cmp_ne, ev_call, ev_tup, ev_bi, ev_c, evs_cons, evs_nil, ev_v, List.cons_append, List.nil_append, List.replicate, Nat.reduceAdd, Nat.reduceSub, look_zero, look_succ, lift_some, Rp.R.bind_ok, Option.map_some, Bool.not_true, Rp.cond_false, thenS_next, thenS_ret, endD_ret, e2, q1, c1, q2]
  have i1 : ixD (tI (vs ++ [0])) (.int (-1)) = some (.int 0) := by rw [tI_app]; exact ix_last
  rw [call_def (fn := f_is_foot_of) rfl rfl _ _ _ rfl]
  simp -implicitDefEqProofs [f_is_foot_of, start, e1, e3, i1]
theorem s_need_foot (o : Ok R ds) {x : Nat} {vs : List Int} {p : List Sp} (hx : x < R) (hF : Ft ds none x vs p) (hl : p.length ≤ 900) : callN P (k + 7) "need_foot" [hs R ds, wk x (vs ++ [0]) p] w = .ok .non w := by
  rw [call_def (fn := f_need_foot) rfl rfl _ _ _ rfl]
  simp -implicitDefEqProofs [f_need_foot, start, s_is_foot o hx hF hl]
theorem s_need_two (o : Ok R ds) {x : Nat} {vs us : List Int} {p q : List Sp} (hx : x < R) (hF : Ft ds none x vs p) (hl : p.length ≤ 900) (hG : Ft ds none x us q) (hl2 : q.length ≤ 900) : callN P (k + 8) "need_two_feet" [hs R ds, wk x (vs ++ [0]) p, wk x (us ++ [0]) q] w = .ok .non w := by
  rw [call_def (fn := f_need_two_feet) rfl rfl _ _ _ rfl]
  simp -implicitDefEqProofs [f_need_two_feet, start, s_need_house, s_need_foot (k := k) o hx hF hl, s_need_foot (k := k) o hx hG hl2]

/-! ### walks joined -/
def jn (us vs : List Int) : List Int := us.dropLast ++ (us.getLastD 0 + vs.headD 0) :: vs.tail
theorem jn_eq (us : List Int) (z v : Int) (vs : List Int) : jn (us ++ [z]) (v :: vs) = us ++ (z + v) :: vs := by
  unfold jn
  simp
theorem jn_len {us vs : List Int} (h : us ≠ []) (h2 : vs ≠ []) : (jn us vs).length + 1 = us.length + vs.length := by
  rcases List.eq_nil_or_concat us with e | ⟨us, z, e⟩
  · exact absurd e h
  · rw [List.concat_eq_append] at e
    subst e
    match vs, h2 with
    | v :: vs, _ => rw [jn_eq]; simp; omega
theorem ru_jn {us : List Int} {p : List Sp} {vs : List Int} (q : List Sp) (S : Sk × Int) (h : us.length = p.length + 1) (h2 : vs ≠ []) : ru ds S (jn us vs) (p ++ q) = ru ds (ru ds S us p) vs q := by
  rcases List.eq_nil_or_concat us with e | ⟨us, z, e⟩
  · subst e; simp at h
  · rw [List.concat_eq_append] at e
    subst e
    match vs, h2 with
    | v :: vs, _ => rw [jn_eq, ru_join S us p z v vs q (by simpa using h)]
theorem s_join {x y : Nat} {us vs : List Int} {p q : List Sp} (h : us ≠ []) (h2 : vs ≠ []) (l1 : us.length + vs.length ≤ 900) (l2 : p.length + q.length ≤ 900) : callN P (k + 1) "join_of" [wk x us p, wk y vs q] w = .ok (wk x (jn us vs) (p ++ q)) w := by
  rcases List.eq_nil_or_concat us with e | ⟨us, z, e⟩
  · exact absurd e h
  · rw [List.concat_eq_append] at e
    subst e
    match vs, h2 with
    | v :: vs, _ =>
      rw [jn_eq]
      simp only [List.length_append, List.length_cons, List.length_nil] at l1
      exact s_join_of (by omega) l2
theorem nfP_len (T : Sk × Int) : (nfP T).length = T.1.length := by simp [nfP]
theorem s_foot_of (o : Ok R ds) {x : Nat} (hx : x < R) {us : List Int} {p : List Sp} (hw : Walk ds x p) (hu : us.length = p.length + 1) (hp : p.length ≤ 600) :
    callN P (k + 7) "foot_of" [hs R ds, wk x us p] w = .ok (.tup [wk x (nfV (ru ds ([], 0) us p) ++ [0]) (nfP (ru ds ([], 0) us p)), .int (ru ds ([], 0) us p).2]) w := by
  have hpl := fun w => (s_plain (k := k + 1) (w := w) o hw hu hp).1
  have hle := (s_plain (k := k + 1) (w := w) o hw hu hp).2.2
  have e1 : ∀ w, callN P (k + 6) "need_walk" [hs R ds, wk x us p] w = .ok .non w := fun w => s_need_walk (k := k) hx hw hu (le_line (by omega))
  generalize ru ds ([], 0) us p = T at *
  have hnl := nf_len T
  have u1 : ∀ us p, uItems (wk x us p) = some [.int x, tI us, sts p] := fun us p => rfl
  have a1 : binD .add (tI (nfV T)) (.tup [.int 0]) = some (tI (nfV T ++ [0])) := by
    rw [tI_app]; exact b_addT (by simp; omega)
  have i1 : ixD (tI (nfV T ++ [T.2])) (.int (-1)) = some (.int T.2) := by
    rw [tI_app]; exact ix_last
  rw [call_def (fn := f_foot_of) rfl rfl _ _ _ rfl]
  simp -implicitDefEqProofs only [f_foot_of, start, List.map_cons, List.map_nil, List.length_cons, List.length_nil, exs_cons, exs_nil, ex_ex, ex_unpack, ex_ret, ev_call, ev_tup, ev_bin, ev_sl2, ev_ix, ev_neg, neg_int, ev_c, bdI, Option.bind_some, evs_cons, evs_nil, ev_v, List.cons_append, List.nil_append, List.replicate, Nat.reduceAdd, Nat.reduceSub, List.set_cons_zero, List.set_cons_succ, look_zero, look_succ, lift_some, Rp.R.bind_ok, if_true, thenS_next, thenS_ret, endD_ret, e1, hpl, u1, a1, i1, sl_tI, setAll_cons, setAll_nil, s_need_house]
  rfl
/-- how far feet are from one another -/
def far (ds : List Dr) (vs : List Int) (p : List Sp) (ws : List Int) (q : List Sp) : Nat := (ru ds (ru ds ([], 0) (backU (vs ++ [0])) (backP p)) (ws ++ [0]) q).1.length
theorem s_between (o : Ok R ds) {x : Nat} (hx : x < R) {vs ws : List Int} {p q : List Sp} (hF : Ft ds none x vs p) (hG : Ft ds none x ws q) (hp : p.length ≤ 300) (hq : q.length ≤ 300) :
    callN P (k + 9) "feet_between" [hs R ds, wk x (vs ++ [0]) p, wk x (ws ++ [0]) q] w = .ok (.int (far ds vs p ws q : Nat)) w := by
  have l1 := hF.len
  have l2 := hG.len
  have hW := hF.walk
  obtain ⟨b1, b2⟩ := Walk.back hW
  have hWJ : Walk ds (endW ds x p) (backP p ++ q) := b1.app (by rw [b2]; exact hG.walk)
  have n1 : backU (vs ++ [0]) ≠ [] := fun h => by have := congrArg List.length h; simp [backU] at this
  have n2 : ws ++ [0] ≠ [] := by simp
  have hjl := jn_len n1 n2
  rw [backU_len, List.length_append, List.length_append] at hjl
  simp only [List.length_cons, List.length_nil] at hjl
  have e1 : ∀ w, callN P (k + 8) "need_two_feet" [hs R ds, wk x (vs ++ [0]) p, wk x (ws ++ [0]) q] w = .ok .non w := fun w => s_need_two o hx hF (by omega) hG (by omega)
  have e2 : ∀ w, callN P (k + 8) "back_of" [hs R ds, wk x (vs ++ [0]) p] w = .ok (wk (endW ds x p) (backU (vs ++ [0])) (backP p)) w := fun w => s_back_of (Walk.on hW) (by simp; omega) (by omega)
  have e3 : ∀ w, callN P (k + 8) "join_of" [wk (endW ds x p) (backU (vs ++ [0])) (backP p), wk x (ws ++ [0]) q] w = .ok (wk (endW ds x p) (jn (backU (vs ++ [0])) (ws ++ [0])) (backP p ++ q)) w := fun w => s_join n1 n2 (by rw [backU_len]; simp; omega) (by rw [backP_len]; omega)
  have hjp : (jn (backU (vs ++ [0])) (ws ++ [0])).length = (backP p ++ q).length + 1 := by rw [List.length_append, backP_len]; omega
  have hpl := fun w => (s_plain (k := k + 3) (w := w) o hWJ hjp (by rw [List.length_append, backP_len]; omega)).1
  rw [ru_jn q ([], 0) (by rw [backU_len, backP_len]; simp; omega) n2] at hpl
  have hT : (nfP (ru ds (ru ds ([], 0) (backU (vs ++ [0])) (backP p)) (ws ++ [0]) q)).length = far ds vs p ws q := nfP_len _
  rw [call_def (fn := f_feet_between) rfl rfl _ _ _ rfl]
  simp -implicitDefEqProofs only [f_feet_between, start, List.map_cons, List.map_nil, List.length_cons, List.length_nil, exs_cons, exs_nil, ex_ex, ex_ret, ev_call, ev_bi, ev_ix, ev_c, evs_cons, evs_nil, ev_v, List.cons_append, List.nil_append, List.replicate, Nat.reduceAdd, Nat.reduceSub, List.set_cons_zero, List.set_cons_succ, look_zero, look_succ, lift_some, Rp.R.bind_ok, thenS_next, thenS_ret, endD_ret, e1, e2, e3, hpl, wk2, len_sts, hT]
end
end Lw
end

section
set_option linter.all false
set_option maxRecDepth 100000
namespace Lw
open Rp
/-! ### lengths -/
section
variable {ds : List Dr} {R : Nat}
theorem ru_head (k : Sk) {n m a b : Int} (us : List Int) (p : List Sp) (h : n + a = m + b) : ru ds (k, n) (a :: us) p = ru ds (k, m) (b :: us) p := by
  cases p with
  | nil => simp only [ru, h]
  | cons s p => simp only [ru, h]
def hd (k : Sk) : Option Sp := k.head?.map (·.2)
def Psh (ds : List Dr) (S : Sk × Int) (us : List Int) (q : List Sp) : Prop := (ru ds S us q).1.length = S.1.length + q.length
theorem pops_hd {k k' : Sk} {n n' : Int} {s : Sp} (h : hd k' = hd k) (hn : ∀ t, hd k = some t → ∃ j, n' = n + (gt ds t).b * j) : pops ds k' n' s = pops ds k n s := by
  match k, k', h, hn with
  | [], [], _, _ => rfl
  | [], _ :: _, h, _ => simp [hd] at h
  | _ :: _, [], h, _ => simp [hd] at h
  | (v, t) :: r, (v', t') :: r', h, hn =>
    simp only [hd, List.head?_cons, Option.map_some, Option.some.injEq] at h hn
    subst h
    obtain ⟨j, rfl⟩ := hn _ rfl
    unfold pops
    by_cases e : s = tn t'
    · have : (gt ds t').b = (gt ds s).a := by rw [e, gt_tn]; rfl
      rw [this, Int.add_mul_emod_self_left]
    · simp [e]
theorem rd_push {k : Sk} {n : Int} {s : Sp} (h : pops ds k n s = false) : rd ds (k, n) s = ((n % (gt ds s).a, s) :: k, n / (gt ds s).a * (gt ds s).b) := by
  unfold rd
  rw [if_neg (by simp [h])]
theorem rd_pop_len {k : Sk} {n : Int} {s : Sp} (h : pops ds k n s = true) : (rd ds (k, n) s).1.length + 1 = k.length := by
  unfold rd
  rw [if_pos h]
  match k, h with
  | (v, t) :: r, _ => rfl
  | [], h => simp [pops] at h
theorem psh_push {k : Sk} {n u : Int} {us : List Int} {s : Sp} {q : List Sp} (h : Psh ds (k, n) (u :: us) (s :: q)) : pops ds k (n + u) s = false ∧ Psh ds (rd ds (k, n + u) s) us q := by
  have h1 : ru ds (k, n) (u :: us) (s :: q) = ru ds (rd ds (k, n + u) s) us q := rfl
  unfold Psh at h ⊢
  rw [h1] at h
  obtain ⟨a, _⟩ := ru_len (ds := ds) us q (rd ds (k, n + u) s)
  simp only [List.length_cons] at h
  cases hp : pops ds k (n + u) s with
  | true =>
    have := rd_pop_len hp
    omega
  | false =>
    refine ⟨rfl, ?_⟩
    rw [h, rd_push hp]
    simp; omega
theorem psh_same : ∀ (us : List Int) (q : List Sp) (k k' : Sk) (n n' : Int), hd k' = hd k → (∀ t, hd k = some t → ∃ j, n' = n + (gt ds t).b * j) → Psh ds (k, n) us q → Psh ds (k', n') us q
  | u :: us, s :: q, k, k', n, n', h, hn, hP => by
    obtain ⟨h1, h2⟩ := psh_push hP
    have h3 : pops ds k' (n' + u) s = false := by
      rw [← h1]
      refine pops_hd h fun t ht => ?_
      obtain ⟨j, e⟩ := hn t ht
      exact ⟨j, by omega⟩
    rw [rd_push h1] at h2
    have ih := psh_same us q _ ((((n' + u) % (gt ds s).a, s) :: k')) _ ((n' + u) / (gt ds s).a * (gt ds s).b) (by rfl) (fun t ht => by
      simp only [hd, List.head?_cons, Option.map_some, Option.some.injEq] at ht
      subst ht
      exact ⟨(n' + u) / (gt ds s).a - (n + u) / (gt ds s).a, by rw [Int.mul_comm, Int.mul_comm _ (gt ds s).b, Int.mul_sub]; omega⟩) h2
    unfold Psh at ih ⊢
    have e1 : ru ds (k', n') (u :: us) (s :: q) = ru ds (rd ds (k', n' + u) s) us q := rfl
    rw [e1, rd_push h3, ih]
    simp; omega
  | [], q, k, k', n, n', _, _, hP => by
    unfold Psh at hP ⊢
    simp only [ru] at hP ⊢
    omega
  | u :: us, [], k, k', n, n', _, _, hP => by simp [Psh, ru]
theorem psh_top {S : Sk × Int} {z : Int} {us : List Int} {q : List Sp} {t : Sp} (hl : us.length = q.length + 1) (h : Psh ds S (us ++ [z]) (q ++ [t])) : hd (ru ds S (us ++ [z]) (q ++ [t])).1 = some t ∧ ∃ m, (ru ds S (us ++ [z]) (q ++ [t])).2 = z + (gt ds t).b * m := by
  unfold Psh at h
  rw [ru_snoc z t us q S hl] at h ⊢
  obtain ⟨a, _⟩ := ru_len (ds := ds) us q S
  simp only [List.length_append, List.length_cons, List.length_nil] at h
  have h0 : ru ds S us q = ((ru ds S us q).1, (ru ds S us q).2) := rfl
  rw [h0] at h ⊢
  cases hp : pops ds (ru ds S us q).1 (ru ds S us q).2 t with
  | true =>
    have := rd_pop_len hp
    omega
  | false =>
    rw [rd_push hp]
    exact ⟨rfl, (ru ds S us q).2 / (gt ds t).a, by rw [Int.mul_comm (gt ds t).b]; simp only []; omega⟩
theorem psh_foot (o : Ok R ds) {vs : List Int} {p : List Sp} {x : Nat} (z : Int) (h : Ft ds none x vs p) : Psh ds ([], 0) (vs ++ [z]) p ∧ ru ds ([], 0) (vs ++ [z]) p = ((vs.zip p).reverse, z) := by
  have e := ru_foot o z vs p [] x h
  rw [List.append_nil] at e
  refine ⟨?_, e⟩
  unfold Psh
  rw [e]
  have := h.len
  simp; omega
end
end Lw
end

section
set_option linter.all false
set_option maxRecDepth 100000
namespace Lw
open Rp
section
variable {ds : List Dr} {R : Nat} {x N : Nat} {us : List Int} {p : List Sp}
theorem rw_stack (S T : Sk × Int) : (ru ds S (nfV T ++ [0]) (nfP T)).1 = (rw' ds S T).1 := by
  rw [rw_eq, ru_end S _ _ 0 (nf_len T)]
theorem zip_inj : ∀ {a c : List Int} {b d : List Sp}, a.length = b.length → c.length = d.length → a.zip b = c.zip d → a = c ∧ b = d := fun {a c b d} h1 h2 h => by
  obtain ⟨x1, x2⟩ := zip_rev a b h1
  obtain ⟨y1, y2⟩ := zip_rev c d h2
  exact ⟨by rw [← x1, ← y1, h], by rw [← x2, ← y2, h]⟩
theorem far_zero (o : Ok R ds) {vs ws : List Int} {p q : List Sp} {x : Nat} (hF : Ft ds none x vs p) (hG : Ft ds none x ws q) : far ds vs p ws q = 0 ↔ vs = ws ∧ p = q := by
  have l1 := hF.len
  have l2 := hG.len
  have o1 := Walk.on hF.walk
  have o2 := Walk.on hG.walk
  have hv : (vs ++ [0]).length = p.length + 1 := by simp [l1]
  have hw : (ws ++ [0]).length = q.length + 1 := by simp [l2]
  have n2 : ws ++ [0] ≠ [] := by simp
  have lb : (backU (vs ++ [0])).length = (backP p).length + 1 := by rw [backU_len, backP_len]; exact hv
  have nb : backU (vs ++ [0]) ≠ [] := fun h => by rw [h] at lb; simp at lb
  have hj := jn_len nb n2
  have lJ : (jn (backU (vs ++ [0])) (ws ++ [0])).length = (backP p ++ q).length + 1 := by rw [List.length_append]; omega
  have hon : On ds (backP p ++ q) := fun t ht => (List.mem_append.mp ht).elim (backP_on o1 t) (o2 t)
  have eF := (psh_foot o 0 hF).2
  have eG := (psh_foot o 0 hG).2
  constructor
  · intro h
    unfold far at h
    have h0 : (ru ds (ru ds ([], 0) (backU (vs ++ [0])) (backP p)) (ws ++ [0]) q).1 = [] := List.length_eq_zero_iff.mp h
    have hR : Rd ds (ru ds ([], 0) (vs ++ [0]) p).1 := ru_ok o _ _ _ o1 trivial
    have e := ru_plain o hR hon lJ
    rw [ru_jn q _ lb n2, ru_jn q _ lb n2, ru_back o _ _ (([], 0) : Sk × Int) trivial o1 hv] at e
    have e2 : (rw' ds (ru ds ([], 0) (vs ++ [0]) p) (ru ds (ru ds ([], 0) (backU (vs ++ [0])) (backP p)) (ws ++ [0]) q)).1 = (ru ds ([], 0) (vs ++ [0]) p).1 := by
      rw [rw_eq]
      simp [nfV, nfP, h0, ro]
    rw [e, eF, eG] at e2
    simp only at e2
    have e3 := List.reverse_inj.mp e2
    obtain ⟨z1, z2⟩ := zip_inj l2 l1 e3
    exact ⟨z1.symm, z2.symm⟩
  · rintro ⟨rfl, rfl⟩
    unfold far
    rw [ru_back2 o (S := (([], 0) : Sk × Int)) trivial o1 hv]
    rfl
end
end Lw
end

section
set_option linter.all false
set_option maxRecDepth 100000
namespace Lw
open Rp
section
variable {k : Nat} {w : W} {R : Nat} {ds : List Dr}
theorem s_law_joined {x y : Nat} {us vs : List Int} {p q : List Sp} (h : us ≠ []) (h2 : vs ≠ []) (l1 : us.length + vs.length ≤ 900) (l2 : p.length + q.length ≤ 900) : callN P (k + 1) "_law_joined" [wk x us p, wk y vs q] w = .ok (wk x (jn us vs) (p ++ q)) w := by
  have e : callN P (k + 1) "_law_joined" [wk x us p, wk y vs q] w = callN P (k + 1) "join_of" [wk x us p, wk y vs q] w := by
    rw [call_def (fn := f_law_joined) rfl rfl _ _ _ rfl, call_def (fn := f_join_of) rfl rfl _ _ _ rfl]
    rfl
  rw [e, s_join h h2 l1 l2]
theorem s_law_back {x : Nat} {us : List Int} {p : List Sp} (hp : On ds p) (h1 : us.length ≤ 900) (h2 : p.length ≤ 900) : callN P (k + 3) "_law_back" [drs ds, wk x us p] w = .ok (wk (endW ds x p) (backU us) (backP p)) w := by
  have c1 : ∀ w, evE (callN P (k + 2)) f_law_back_c1 [some (drs ds), some (wk x us p), none, none, none] w = .ok (.lst ((p.reverse).map fun s => st (tn s))) w := fun w => by
    unfold f_law_back_c1
    refine ev_comp_of (w1 := w) (xs := p.reverse.map st) ?_ ?_ (by simp; omega)
    · have hr : rvD (sts p) = some (.tup (p.map st).reverse) := rfl
      simp -implicitDefEqProofs only [evi_seq, ev_rsl, ev_ix, ev_v, ev_c, look_zero, look_succ, lift_some, Rp.R.bind_ok, wk2, hr, items_tup, List.map_reverse]
    · exact mapL_ok _ st (fun s => st (tn s)) w p.reverse (fun s _ => by
        have i0 : ixD (st s) (.int 0) = some (.int s.i) := by simp [st]
        have i1 : ixD (st s) (.int 1) = some (.int (if s.s then 1 else 0)) := by unfold st; simp
        rw [← st_tn]
        simp -implicitDefEqProofs only [inB_n, List.set_cons_zero, List.set_cons_succ, ev_tup, ev_ix, ev_bin, ev_c, ev_v, evs_cons, evs_nil, look_zero, look_succ, lift_some, Rp.R.bind_ok, i0, i1, b_sub])
  have c2 : ∀ a w, evE (callN P (k + 2)) f_law_back_c2 [some (drs ds), some (wk x us p), some a, none, none] w = .ok (.lst ((us.reverse).map fun u => .int (0 - u))) w := fun a w => by
    unfold f_law_back_c2
    refine ev_comp_of (w1 := w) (xs := us.reverse.map D.int) ?_ ?_ (by simp; omega)
    · have hr : rvD (tI us) = some (.tup (us.map D.int).reverse) := rfl
      simp -implicitDefEqProofs only [evi_seq, ev_rsl, ev_ix, ev_v, ev_c, look_zero, look_succ, lift_some, Rp.R.bind_ok, wk1, hr, items_tup, List.map_reverse]
    · exact mapL_ok _ D.int (fun u => .int (0 - u)) w us.reverse (fun u _ => by simp -implicitDefEqProofs only [inB_n, List.set_cons_zero, List.set_cons_succ, ev_bin, ev_c, ev_v, look_zero, look_succ, lift_some, Rp.R.bind_ok, b_sub])
  have r1 : wk (endW ds x p) (backU us) (backP p) = .tup [.int (endW ds x p), .tup ((us.reverse).map fun u => .int (0 - u)), .tup ((p.reverse).map fun s => st (tn s))] := by
    simp [wk, tI, sts, backU, backP, Function.comp_def]
  rw [call_def (fn := f_law_back) rfl rfl _ _ _ rfl, r1]
  simp -implicitDefEqProofs only [f_law_back, start, List.map_cons, List.map_nil, List.length_cons, List.length_nil, exs_cons, exs_nil, ex_asg, ex_ret, ev_tup, ev_bi, ev_call, evs_cons, evs_nil, ev_v, List.cons_append, List.nil_append, List.replicate, Nat.reduceAdd, Nat.reduceSub, List.set_cons_zero, List.set_cons_succ, look_zero, look_succ, lift_some, Rp.R.bind_ok, thenS_next, thenS_ret, endD_ret, c1, c2, bi_tuple_lst, s_law_end (k := k) hp]
end
end Lw
end

section
set_option linter.all false
set_option maxRecDepth 100000
namespace Lw
open Rp
theorem ex_popOff {C : Cl} {env : Env} {w : W} (i : Nat) (k : Option E) : exS C (.popOff i k) env w = (lift (look env i) w).bind fun x w => (optE C k env w).bind fun j w => (lift (popD x j) w).bind fun p w => .ok (.next (env.set i (some p.2))) w := by
  first | (simp only [exS]; done) | (simp only [exS]; rfl)
theorem set_last {xs : List D} {x y : D} : setD (.lst (xs ++ [x])) (.int (-1)) y = some (.lst (xs ++ [y])) := by
  have h1 : ((-1 : Int) + ((xs.length : Int) + 1)).toNat = xs.length := by omega
  have h2 : (1 : Int) ≤ (xs.length : Int) + 1 := by omega
  simp [setD, ixN, h1, h2]
theorem ixl_last {xs : List D} {x : D} : ixD (.lst (xs ++ [x])) (.int (-1)) = some x := by
  have h1 : ((-1 : Int) + ((xs.length : Int) + 1)).toNat = xs.length := by omega
  have h2 : (1 : Int) ≤ (xs.length : Int) + 1 := by omega
  simp [ixD, atI, ixN, h1, h2]
def stepR (ds : List Dr) (T : Sk × Int) (q : Sp × Int) : Sk × Int := ((rd ds T q.1).1, (rd ds T q.1).2 + q.2)
theorem stepR_ru (ds : List Dr) : ∀ (us : List Int) (p : List Sp) (T : Sk × Int), us.length = p.length → (p.zip us).foldl (stepR ds) T = ru ds (T.1, 0) (T.2 :: us) p
  | [], [], T, _ => by simp [ru]
  | u :: us, s :: p, T, h => by
    rw [List.zip_cons_cons, List.foldl_cons, stepR_ru ds us p _ (by simpa using h)]
    have e : ru ds (T.1, 0) (T.2 :: u :: us) (s :: p) = ru ds (rd ds (T.1, 0 + T.2) s) (u :: us) p := rfl
    rw [e, Int.zero_add]
    have e2 : stepR ds T (s, u) = ((rd ds (T.1, T.2) s).1, (rd ds (T.1, T.2) s).2 + u) := rfl
    rw [e2]
    generalize rd ds (T.1, T.2) s = X
    exact ru_head X.1 us p (by simp only []; omega)
  | [], _ :: _, _, h => by simp at h
  | _ :: _, [], _, h => by simp at h
def plB : List S := [.unpack [6, 7, 8, 9] (.call "_law_gate" [.v 0, .v 4]), .asg 10 (.ix (.v 2) (.neg (.c (.int 1)))), .ifs (.and (.cmp .ne (.v 3) (.lst [])) (.and (.cmp .eq (.ix (.v 3) (.neg (.c (.int 1)))) (.tup [.ix (.v 4) (.c (.int 0)), .bin .sub (.c (.int 1)) (.ix (.v 4) (.c (.int 1)))])) (.cmp .eq (.bin .mod (.bi .int1 [.v 10]) (.bi .abs [.v 7])) (.c (.int 0))))) [.popOff 3 none, .popOff 2 none, .setix 2 (.neg (.c (.int 1))) (.bin .add (.bin .add (.ix (.v 2) (.neg (.c (.int 1)))) (.bin .mul (.bin .fdiv (.v 10) (.v 7)) (.v 9))) (.v 5))] [.asg 11 (.bin .mod (.bi .int1 [.v 10]) (.bi .abs [.v 7])), .setix 2 (.neg (.c (.int 1))) (.v 11), .append 3 (.v 4), .append 2 (.bin .add (.bin .mul (.bin .fdiv (.bin .sub (.v 10) (.v 11)) (.v 7)) (.v 9)) (.v 5))], .kill [11], .kill [4, 5, 6, 7, 8, 9, 10, 11]]
def plE (ds : List Dr) (wd : D) (T : Sk × Int) : Env := [some (drs ds), some wd, some (.lst ((nfV T).map D.int ++ [.int T.2])), some (.lst ((nfP T).map st)), none, none, none, none, none, none, none, none]
theorem eqO_st2 (s t : Sp) : D.eqO (st s) (st t) = some (decide (s = t)) := by
  unfold st
  rw [eqO_pair]
  cases s with | mk i a => cases t with | mk j b =>
  have e : ((i : Int) == (j : Int)) = decide (i = j) := by
    by_cases h : i = j
    · simp [h]
    · have : ¬ (i : Int) = j := by omega
      rw [decide_eq_false h, beq_eq_false_iff_ne]; exact this
  simp only [e, Sp.mk.injEq]
  cases a <;> cases b <;> simp
section
variable {k : Nat} {w : W} {R : Nat} {ds : List Dr}
theorem pl_turn (o : Ok R ds) (wd : D) {T : Sk × Int} {s : Sp} {m : Int} (hs' : s.i < ds.length) (hl : T.1.length ≤ 900) : inB (.t [4, 5]) (.tup [st s, .int m]) (plE ds wd T) (fun env => exSs (callN P (k + 1)) plB env w) = .ok (.next (plE ds wd (stepR ds T (s, m)))) w := by
  obtain ⟨kk, n⟩ := T
  obtain ⟨_, _, ha, _, a1, a2, b1, b2⟩ := o.gt hs'
  have hg : ∀ w, callN P (k + 1) "_law_gate" [drs ds, st s] w = .ok (dr (gt ds s)) w := fun w => s_law_gate hs'
  have i0 : ixD (st s) (.int 0) = some (.int s.i) := by simp [st]
  have i1 : ixD (st s) (.int 1) = some (.int (if s.s then 1 else 0)) := by unfold st; simp
  have hab : ((gt ds s).a.natAbs : Int) ≠ 0 := by omega
  have m1 : binD .mod (.int n) (.int (gt ds s).a.natAbs) = some (.int (n % (gt ds s).a)) := by
    rw [b_mod hab, fmod_eq _ _ (by omega), mod_natAbs]
  have hdm := Int.emod_add_mul_ediv n (gt ds s).a
  have f1 : ∀ y, y = (gt ds s).a * (n / (gt ds s).a) → binD .fdiv (.int y) (.int (gt ds s).a) = some (.int (n / (gt ds s).a)) := fun y hy => by
    rw [b_fdiv ha (bits999 (by omega)), hy, Int.mul_fdiv_cancel_left _ ha]
  have mu : binD .mul (.int (n / (gt ds s).a)) (.int (gt ds s).b) = some (.int (n / (gt ds s).a * (gt ds s).b)) := b_mul (mul_r _ (by omega))
  have il : ixD (.lst ((nfV (kk, n)).map D.int ++ [.int n])) (.int (-1)) = some (.int n) := ixl_last
  rw [inB_t _ _ _ _ rfl]
  cases hp : pops ds kk n s with
  | true =>
    match kk, hp, hl, il with
    | (v, t) :: r, hp, hl, il =>
      have hpp := hp
      unfold pops at hpp
      simp only [Bool.and_eq_true, decide_eq_true_eq] at hpp
      obtain ⟨q1, q2⟩ := hpp
      have q3 : decide (t = tn s) = true := decide_eq_true (by rw [q1, tn_tn])
      obtain ⟨c1, c2⟩ := nf_cons v t r n (v + n / (gt ds s).a * (gt ds s).b + m)
      have e1 : stepR ds ((v, t) :: r, n) (s, m) = (r, v + n / (gt ds s).a * (gt ds s).b + m) := by
        unfold stepR rd
        rw [if_pos hp]
        rfl
      have n0 : D.eqO (.lst ((nfP (r, v + n / (gt ds s).a * (gt ds s).b + m) ++ [t]).map st)) (.lst []) = some false := by
        rw [eqO_lst_nil (fun d hd => by
          obtain ⟨q, _, rfl⟩ := List.mem_map.mp hd
          exact st_plain q)]
        simp
      have il2 : ixD (.lst ((nfP (r, v + n / (gt ds s).a * (gt ds s).b + m) ++ [t]).map st)) (.int (-1)) = some (st t) := by rw [List.map_append]; exact ixl_last
      have po : popD (.lst ((nfP (r, v + n / (gt ds s).a * (gt ds s).b + m) ++ [t]).map st)) none = some (st t, .lst ((nfP (r, v + n / (gt ds s).a * (gt ds s).b + m)).map st)) := by rw [List.map_append]; exact popD_none
      have z0 : ((n % (gt ds s).a : Int) == 0) = true := by simp [q2]
      have fn : binD .fdiv (.int n) (.int (gt ds s).a) = some (.int (n / (gt ds s).a)) := f1 n (by omega)
      rw [e1]
      unfold plE
      simp only [c1, c2] at il ⊢
      generalize hV : (nfV (r, v + n / (gt ds s).a * (gt ds s).b + m)).map D.int = V at *
      have po2 : popD (.lst ((nfV (r, v + n / (gt ds s).a * (gt ds s).b + m) ++ [v]).map D.int ++ [.int n])) none = some (.int n, .lst ((nfV (r, v + n / (gt ds s).a * (gt ds s).b + m) ++ [v]).map D.int)) := popD_none
      have il3 : ixD (.lst ((nfV (r, v + n / (gt ds s).a * (gt ds s).b + m) ++ [v]).map D.int)) (.int (-1)) = some (.int v) := by rw [List.map_append]; exact ixl_last
      have se : ∀ y, setD (.lst ((nfV (r, v + n / (gt ds s).a * (gt ds s).b + m) ++ [v]).map D.int)) (.int (-1)) y = some (.lst (V ++ [y])) := fun y => by rw [List.map_append, hV]; exact set_last
      simp -implicitDefEqProofs only [plB, setAll_cons, setAll_nil, exs_cons, exs_nil, ex_unpack, ex_asg, ex_ifs, ex_popOff, ex_setix, ex_kill, kill, List.set_cons_zero, List.set_cons_succ, ev_call, ev_and, ev_cmp, ev_ix, ev_bin, ev_bi, ev_tup, ev_lst, ev_neg, neg_int, ev_c, evs_cons, evs_nil, ev_v, look_zero, look_succ, lift_some, Rp.R.bind_ok, List.length_cons, List.length_nil, if_true, thenS_next, hg, dr_u, il, cmp_ne, n0, Option.map_some, Bool.not_false, Rp.cond_true, cmp_eq, il2, i0, i1, b_sub, st_tn, eqO_st2, q3, bi_int_int, bi_abs_int, m1, eqO_int, z0, optE_none, po, po2, il3, fn, mu, b_add, se]
  | false =>
    have e1 : stepR ds (kk, n) (s, m) = ((n % (gt ds s).a, s) :: kk, n / (gt ds s).a * (gt ds s).b + m) := by
      unfold stepR
      rw [rd_push hp]
    obtain ⟨c1, c2⟩ := nf_cons (n % (gt ds s).a) s kk (n / (gt ds s).a * (gt ds s).b + m) n
    have l1 := nfP_len (kk, n)
    have l2 := nf_len (kk, n)
    simp only at l1 hl
    have l3 : (nfV (kk, n)).length ≤ 900 := by rw [l2, l1]; exact hl
    have ap1 : appD (.lst ((nfP (kk, n)).map st)) (st s) = some (.lst ((nfP (kk, n)).map st ++ [st s])) := appD_ok (by rw [List.length_map, l1]; omega)
    have ap2 : ∀ y, appD (.lst ((nfV (kk, n)).map D.int ++ [.int (n % (gt ds s).a)])) y = some (.lst ((nfV (kk, n)).map D.int ++ [.int (n % (gt ds s).a)] ++ [y])) := fun y => appD_ok (by simp; omega)
    have se : ∀ y, setD (.lst ((nfV (kk, n)).map D.int ++ [.int n])) (.int (-1)) y = some (.lst ((nfV (kk, n)).map D.int ++ [y])) := fun y => set_last
    have fn : binD .fdiv (.int (n - n % (gt ds s).a)) (.int (gt ds s).a) = some (.int (n / (gt ds s).a)) := f1 _ (by omega)
    have ct : evE (callN P (k + 1)) (.and (.cmp .ne (.v 3) (.lst [])) (.and (.cmp .eq (.ix (.v 3) (.neg (.c (.int 1)))) (.tup [.ix (.v 4) (.c (.int 0)), .bin .sub (.c (.int 1)) (.ix (.v 4) (.c (.int 1)))])) (.cmp .eq (.bin .mod (.bi .int1 [.v 10]) (.bi .abs [.v 7])) (.c (.int 0))))) [some (drs ds), some wd, some (.lst ((nfV (kk, n)).map D.int ++ [.int n])), some (.lst ((nfP (kk, n)).map st)), some (st s), some (.int m), some (.int (gt ds s).n), some (.int (gt ds s).a), some (.int (gt ds s).f), some (.int (gt ds s).b), some (.int n), none] w = .ok (.bl false) w := by
      match kk, hp with
      | [], _ =>
        have n0 : D.eqO (.lst ((nfP (([] : Sk), n)).map st)) (.lst []) = some true := rfl
        simp -implicitDefEqProofs only [ev_and, ev_cmp, ev_v, ev_lst, evs_nil, look_zero, look_succ, lift_some, Rp.R.bind_ok, cmp_ne, n0, Option.map_some, Bool.not_true, Rp.cond_false]
      | (v, t) :: r, hp =>
        obtain ⟨d1, d2⟩ := nf_cons v t r n n
        unfold pops at hp
        have n0 : D.eqO (.lst ((nfP (r, n) ++ [t]).map st)) (.lst []) = some false := by
          rw [eqO_lst_nil (fun d hd => by
            obtain ⟨q, _, rfl⟩ := List.mem_map.mp hd
            exact st_plain q)]
          simp
        have il2 : ixD (.lst ((nfP (r, n) ++ [t]).map st)) (.int (-1)) = some (st t) := by rw [List.map_append]; exact ixl_last
        rw [d2]
        by_cases q1 : t = tn s
        · have q0 : s = tn t := by rw [q1, tn_tn]
          have z0 : ((n % (gt ds s).a : Int) == 0) = false := by
            rw [beq_eq_false_iff_ne]
            intro z
            simp [← q0, z] at hp
          simp -implicitDefEqProofs only [ev_and, ev_cmp, ev_ix, ev_bin, ev_bi, ev_tup, ev_neg, neg_int, ev_c, evs_cons, ev_v, ev_lst, evs_nil, look_zero, look_succ, lift_some, Rp.R.bind_ok, cmp_ne, n0, Option.map_some, Bool.not_false, Rp.cond_true, cmp_eq, il2, i0, i1, b_sub, st_tn, eqO_st2, decide_eq_true q1, bi_int_int, bi_abs_int, m1, eqO_int, z0]
        · simp -implicitDefEqProofs only [ev_and, ev_cmp, ev_ix, ev_bin, ev_tup, ev_neg, neg_int, ev_c, evs_cons, ev_v, ev_lst, evs_nil, look_zero, look_succ, lift_some, Rp.R.bind_ok, cmp_ne, n0, Option.map_some, Bool.not_false, Rp.cond_true, Rp.cond_false, cmp_eq, il2, i0, i1, b_sub, st_tn, eqO_st2, decide_eq_false q1]
    rw [e1]
    unfold plE
    simp only [c1, c2, List.map_append, List.map_cons, List.map_nil]
    simp -implicitDefEqProofs only [plB, setAll_cons, setAll_nil, exs_cons, exs_nil, ex_unpack, ex_asg, ex_append, ex_setix, ex_kill, kill, List.set_cons_zero, List.set_cons_succ, ev_call, ev_ix, ev_bin, ev_bi, ev_neg, neg_int, ev_c, evs_cons, evs_nil, ev_v, look_zero, look_succ, lift_some, Rp.R.bind_ok, List.length_cons, List.length_nil, if_true, thenS_next, hg, dr_u, il]
    rw [ex_ifs, ct, Rp.R.bind_ok, Rp.cond_false]
    simp -implicitDefEqProofs only [exs_cons, exs_nil, ex_asg, ex_append, ex_setix, List.set_cons_zero, List.set_cons_succ, ev_bin, ev_bi, ev_neg, neg_int, ev_c, evs_cons, evs_nil, ev_v, look_zero, look_succ, lift_some, Rp.R.bind_ok, thenS_next, bi_int_int, bi_abs_int, m1, se, ap1, b_sub, fn, mu, b_add, ap2]
end
end Lw
end

section
set_option linter.all false
set_option maxRecDepth 100000
namespace Lw
open Rp
theorem zipL_zip : ∀ (p : List Sp) (us : List Int), zipL (p.map st) (us.map D.int) = (p.zip us).map fun q => .tup [st q.1, .int q.2]
  | [], _ => by simp [zipL]
  | _ :: _, [] => by simp [zipL]
  | s :: p, u :: us => by simp only [List.map_cons, zipL, List.zip_cons_cons, zipL_zip p us]
section
variable {k : Nat} {w : W} {R : Nat} {ds : List Dr}
theorem s_law_plain (o : Ok R ds) {x : Nat} {us : List Int} {p : List Sp} (hp : On ds p) (hu : us.length = p.length + 1) (hl : p.length ≤ 600) :
    callN P (k + 2) "_law_plain" [drs ds, wk x us p] w = .ok (wk x (nfV (ru ds ([], 0) us p) ++ [(ru ds ([], 0) us p).2]) (nfP (ru ds ([], 0) us p))) w := by
  match us, hu with
  | u :: us, hu =>
    have hu' : us.length = p.length := by simpa using hu
    have e := forL_fold (plE ds (wk x (u :: us) p)) (fun q : Sp × Int => .tup [st q.1, .int q.2]) (stepR ds)
      (fun y env w => inB (.t [4, 5]) y env fun env => exSs (callN P (k + 1)) plB env w) w (fun is T => T.1.length + is.length ≤ 600 ∧ ∀ q ∈ is, q.1.i < ds.length) (fun q is T hI => by
        obtain ⟨i1, i2⟩ := hI
        obtain ⟨kk, nn⟩ := T
        simp only [List.length_cons] at i1
        have hs' := i2 q List.mem_cons_self
        refine ⟨pl_turn o (wk x (u :: us) p) hs' (show kk.length ≤ 900 by omega), ?_, fun r hr => i2 r (List.mem_cons_of_mem _ hr)⟩
        have := rd_len (ds := ds) kk nn q.1
        show (rd ds (kk, nn) q.1).1.length + is.length ≤ 600
        rcases this with h | h <;> omega) (p.zip us) ([], u) ⟨by simp; omega, fun q hq => hp q.1 (List.of_mem_zip hq).1⟩
    rw [stepR_ru ds us p _ hu'] at e
    simp only at e
    have hz : zipD (sts p) (tI us) = some ((p.zip us).map fun q => .tup [st q.1, .int q.2]) := congrArg some (zipL_zip p us)
    have el : exS (callN P (k + 1)) f_law_plain_l1 (plE ds (wk x (u :: us) p) ([], u)) w = .ok (.next (plE ds (wk x (u :: us) p) (ru ds ([], 0) (u :: us) p))) w := by
      unfold f_law_plain_l1
      refine ex_for_of (xs := (p.zip us).map fun q : Sp × Int => D.tup [st q.1, .int q.2]) (w1 := w) ?_ e
      simp -implicitDefEqProofs only [plE, evi_zip, ev_ix, ev_sl1, ev_v, ev_c, bdI, Option.bind_some, look_zero, look_succ, lift_some, Rp.R.bind_ok, wk1, wk2, sl_from1, hz]
    have e0 : [some (drs ds), some (wk x (u :: us) p), some (.lst [.int u]), some (.lst []), none, none, none, none, none, none, none, none] = plE ds (wk x (u :: us) p) ([], u) := by simp [plE, nfV, nfP]
    rw [← e0] at el
    have i0 : ixD (tI (u :: us)) (.int 0) = some (.int u) := by simp [tI]
    have hmt : mutsOk [1, 1] [.lst [.int u], .lst []] = true := rfl
    have r1 : ∀ T : Sk × Int, D.tup [.int x, .tup ((nfV T).map D.int ++ [.int T.2]), .tup ((nfP T).map st)] = wk x (nfV T ++ [T.2]) (nfP T) := fun T => by simp [wk, tI, sts]
    rw [call_def (fn := f_law_plain) rfl rfl _ _ _ rfl]
    simp -implicitDefEqProofs only [f_law_plain, start, List.map_cons, List.map_nil, List.length_cons, List.length_nil, exs_cons, exs_nil, ex_parO, ex_ret, ex_kill, kill, ev_lst, ev_ix, ev_c, evs_cons, evs_nil, ev_v, List.cons_append, List.nil_append, List.replicate, Nat.reduceAdd, Nat.reduceSub, List.set_cons_zero, List.set_cons_succ, look_zero, look_succ, lift_some, Rp.R.bind_ok, wk1, i0, hmt, and_self, if_true, setAll_cons, setAll_nil, thenS_next, el]
    simp -implicitDefEqProofs only [plE, ev_tup, ev_ix, ev_bi, ev_c, evs_cons, evs_nil, ev_v, look_zero, look_succ, lift_some, Rp.R.bind_ok, wk0, bi_tuple_lst, r1, thenS_ret, endD_ret]
end
end Lw
end

section
set_option linter.all false
set_option maxRecDepth 100000
namespace Lw
open Rp
section
variable {k : Nat} {w : W} {R : Nat} {ds : List Dr}
def bare (p : List Sp) : List Int := List.replicate (p.length + 1) 0
theorem s_law_bare (x : Nat) (p : List Sp) (h : p.length ≤ 900) : callN P (k + 1) "_law_bare" [drs ds, .int x, sts p] w = .ok (wk x (bare p) p) w := by
  rw [call_def (fn := f_law_bare) rfl rfl _ _ _ rfl]
  have b1 : binD .mul (.tup [.int 0]) (.int ((p.length : Int) + 1)) = some (tI (bare p)) := by
    have e1 : ((p.length : Int) + 1).toNat = p.length + 1 := by omega
    have h2 : ([D.int 0] : List D) ≠ [] ∧ ([D.int 0] : List D).length ≤ 1000 ∧ (1 : Int) ≤ (p.length : Int) + 1 ∧ (p.length : Int) + 1 ≤ 1000 := ⟨by simp, by simp, by omega, by omega⟩
    simp only [binD]
    rw [if_pos h2, e1]
    simp only [tI, bare, List.map_replicate]
    congr 2
    have : ∀ n, (List.replicate n [D.int 0]).flatten = List.replicate n (.int 0) := fun n => by
      induction n with
      | zero => rfl
      | succ n ih => rw [List.replicate_succ, List.flatten_cons, ih, List.replicate_succ]; rfl
    exact this _
  have b2 : biD .tuple [sts p] = some (sts p) := rfl
  simp -implicitDefEqProofs [f_law_bare, start, b1, b2]
  rfl

theorem s_pulls {w : W} {n : Nat} (o : Ok R ds) (hw : Dw n w) (hn : n ≤ 2 ^ 39) {s : Sp} (hs' : s.i < ds.length) : ∃ (u : Int) (w' : W), callN P (k + 3) "_law_pulls" [.tok, drs ds, st s] w = .ok (.int u) w' ∧ Dw (n + 2) w' := by
  obtain ⟨a, w1, ha, e1, d1⟩ := s_draw (k := k) hw (by omega) (m := 2) (by decide) (by decide)
  have e1' : callN P (k + 2) "_law_draw" [.tok, .int 2] w = .ok (.int a) w1 := e1
  by_cases h0 : a = 0
  · obtain ⟨b, w2, hb, e2, d2⟩ := s_draw (k := k) d1 (by omega) (m := 7) (by decide) (by decide)
    have e2' : callN P (k + 2) "_law_draw" [.tok, .int 7] w1 = .ok (.int b) w2 := e2
    refine ⟨(b : Int) - 3, w2, ?_, d2⟩
    rw [call_def (fn := f_law_pulls) rfl rfl _ _ _ rfl]
    simp -implicitDefEqProofs [f_law_pulls, start, e1', h0, e2']
  · obtain ⟨b, w2, hb, e2, d2⟩ := s_draw (k := k) d1 (by omega) (m := 5) (by decide) (by decide)
    have e2' : callN P (k + 2) "_law_draw" [.tok, .int 5] w1 = .ok (.int b) w2 := e2
    have hg : ∀ w, callN P (k + 2) "_law_gate" [drs ds, st s] w = .ok (dr (gt ds s)) w := fun w => s_law_gate hs'
    obtain ⟨_, _, _, _, a1, a2, _⟩ := o.gt hs'
    have m1 : binD .mul (.int (gt ds s).a) (.int ((b : Int) - 2)) = some (.int ((gt ds s).a * ((b : Int) - 2))) := b_mul (mul_l _ (by omega))
    have h2 : ((a : Int) == 0) = false := by
      rw [beq_eq_false_iff_ne]
      omega
    refine ⟨(gt ds s).a * ((b : Int) - 2), w2, ?_, d2⟩
    rw [call_def (fn := f_law_pulls) rfl rfl _ _ _ rfl]
    simp -implicitDefEqProofs [f_law_pulls, start, e1', h0, h2, e2', hg, m1]
end
end Lw
end

section
set_option linter.all false
set_option maxRecDepth 100000
namespace Lw
open Rp
def stB : List S := [.asg 8 (.call "_law_steps" [.v 1, .v 4]), .ifs (.cmp .ne (.v 8) (.lst [])) [.asg 9 (.call "_law_pick" [.v 0, .v 8]), .ifs (.and (.cmp .ne (.v 6) (.lst [])) (.cmp .eq (.call "_law_draw" [.v 0, .c (.int 3)]) (.c (.int 0)))) [.asg 9 (.tup [.ix (.ix (.v 6) (.neg (.c (.int 1)))) (.c (.int 0)), .bin .sub (.c (.int 1)) (.ix (.ix (.v 6) (.neg (.c (.int 1)))) (.c (.int 1)))])] [], .append 5 (.call "_law_pulls" [.v 0, .v 1, .v 9]), .append 6 (.v 9), .asg 4 (.ix (.call "_law_gate" [.v 1, .v 9]) (.c (.int 2)))] [], .kill [9], .kill [7, 8, 9]]
def stE (ds : List Dr) (x many : Nat) (s : List Int × List Sp) : Env := [some .tok, some (drs ds), some (.int x), some (.int many), some (.int (endW ds x s.2)), some (.lst (s.1.map D.int)), some (.lst (s.2.map st)), none, none, none]
theorem sts_lst_nil (p : List Sp) : D.eqO (.lst (p.map st)) (.lst []) = some p.isEmpty := by
  rw [eqO_lst_nil (fun d hd => by
    obtain ⟨q, _, rfl⟩ := List.mem_map.mp hd
    exact st_plain q)]
  cases p <;> rfl
section
variable {k : Nat} {R : Nat} {ds : List Dr}
theorem st_turn {w : W} {n x many : Nat} (o : Ok R ds) (hw : Dw n w) (hn : n ≤ 2 ^ 38) (i : D) (s : List Int × List Sp) (hW : Walk ds x s.2) (hl : s.1.length = s.2.length) (hp : s.2.length ≤ 100) :
    ∃ s' w', inB (.n 7) i (stE ds x many s) (fun env => exSs (callN P (k + 3)) stB env w) = .ok (.next (stE ds x many s')) w' ∧ Walk ds x s'.2 ∧ s'.1.length = s'.2.length ∧ s'.2.length ≤ s.2.length + 1 ∧ Dw (n + 4) w' := by
  obtain ⟨vs, p⟩ := s
  simp only at hW hl hp
  have hon := Walk.on hW
  have e1 : ∀ w, callN P (k + 3) "_law_steps" [drs ds, .int (endW ds x p)] w = .ok (.lst ((stepsL ds (endW ds x p)).map st)) w := fun w => s_law_steps o.len
  have hcnt : (stepsL ds (endW ds x p)).length ≤ 40 := by
    have h1 := sidesL_len ds.length
    have h2 := o.len
    have := List.length_filter_le (fun s => (gt ds s).n == endW ds x p) (sidesL ds.length)
    unfold stepsL; omega
  by_cases h0 : stepsL ds (endW ds x p) = []
  · have q := sts_lst_nil (stepsL ds (endW ds x p))
    rw [h0] at q e1
    refine ⟨(vs, p), w, ?_, hW, hl, by simp, hw.mono (by omega)⟩
    rw [inB_n]
    simp only [List.map_nil, List.isEmpty_nil] at q e1
    simp -implicitDefEqProofs only [stE, stB, exs_cons, exs_nil, ex_asg, ex_ifs, ex_kill, kill, List.set_cons_zero, List.set_cons_succ, ev_call, ev_cmp, ev_lst, evs_cons, evs_nil, ev_v, look_zero, look_succ, lift_some, Rp.R.bind_ok, e1, cmp_ne, q, Option.map_some, Bool.not_true, Rp.cond_false, thenS_next]
  · have q := sts_lst_nil (stepsL ds (endW ds x p))
    have q1 : (stepsL ds (endW ds x p)).isEmpty = false := by simp [h0]
    rw [q1] at q
    obtain ⟨d, w1, hd, e2, d1⟩ := s_pick (k := k) hw (by omega) (xs := (stepsL ds (endW ds x p)).map st) (by rw [List.length_map]; exact List.length_pos_iff.mpr h0) (by rw [List.length_map]; omega)
    obtain ⟨s0, hs0, rfl⟩ := List.mem_map.mp hd
    obtain ⟨g1, g2⟩ := List.mem_filter.mp hs0
    have g3 := sidesL_mem g1
    have g4 : (gt ds s0).n = endW ds x p := by simpa using g2
    have hif : ∃ (s1 : Sp) (w2 : W), exS (callN P (k + 3)) (.ifs (.and (.cmp .ne (.v 6) (.lst [])) (.cmp .eq (.call "_law_draw" [.v 0, .c (.int 3)]) (.c (.int 0)))) [.asg 9 (.tup [.ix (.ix (.v 6) (.neg (.c (.int 1)))) (.c (.int 0)), .bin .sub (.c (.int 1)) (.ix (.ix (.v 6) (.neg (.c (.int 1)))) (.c (.int 1)))])] []) [some .tok, some (drs ds), some (.int x), some (.int many), some (.int (endW ds x p)), some (.lst (vs.map D.int)), some (.lst (p.map st)), some i, some (.lst ((stepsL ds (endW ds x p)).map st)), some (st s0)] w1 =
        .ok (.next [some .tok, some (drs ds), some (.int x), some (.int many), some (.int (endW ds x p)), some (.lst (vs.map D.int)), some (.lst (p.map st)), some i, some (.lst ((stepsL ds (endW ds x p)).map st)), some (st s1)]) w2 ∧ s1.i < ds.length ∧ (gt ds s1).n = endW ds x p ∧ Dw (n + 2) w2 := by
      rcases List.eq_nil_or_concat p with hp0 | ⟨q', t, hp0⟩
      · subst hp0
        have z := sts_lst_nil []
        simp only [List.map_nil, List.isEmpty_nil] at z
        refine ⟨s0, w1, ?_, g3, g4, d1.mono (by omega)⟩
        simp -implicitDefEqProofs only [ex_ifs, exs_nil, ev_and, ev_cmp, ev_lst, evs_nil, ev_v, look_zero, look_succ, lift_some, Rp.R.bind_ok, cmp_ne, List.map_nil, z, Option.map_some, Bool.not_true, Rp.cond_false]
      · rw [List.concat_eq_append] at hp0
        subst hp0
        have z := sts_lst_nil (q' ++ [t])
        have z1 : (q' ++ [t]).isEmpty = false := by simp
        rw [z1] at z
        have ht := hon t (by simp)
        obtain ⟨b, w2, hb, e3, d2⟩ := s_draw (k := k + 1) d1 (by omega) (m := 3) (by decide) (by decide)
        have e3' : callN P (k + 3) "_law_draw" [.tok, .int 3] w1 = .ok (.int b) w2 := e3
        have il : ixD (.lst ((q' ++ [t]).map st)) (.int (-1)) = some (st t) := by rw [List.map_append]; exact ixl_last
        have i0 : ixD (st t) (.int 0) = some (.int t.i) := by simp [st]
        have i1 : ixD (st t) (.int 1) = some (.int (if t.s then 1 else 0)) := by unfold st; simp
        by_cases hb0 : b = 0
        · refine ⟨tn t, w2, ?_, ht, by rw [endW_app, gt_tn]; rfl, d2⟩
          have hz : (((b : Nat) : Int) == 0) = true := by simp [hb0]
          simp -implicitDefEqProofs only [ex_ifs, ex_asg, exs_cons, exs_nil, ev_and, ev_cmp, ev_lst, ev_call, ev_c, evs_cons, evs_nil, ev_v, ev_tup, ev_ix, ev_bin, ev_neg, neg_int, look_zero, look_succ, lift_some, Rp.R.bind_ok, cmp_ne, cmp_eq, z, Option.map_some, Bool.not_false, Rp.cond_true, e3', eqO_int, hz, il, i0, i1, b_sub, st_tn, List.set_cons_zero, List.set_cons_succ, thenS_next]
        · refine ⟨s0, w2, ?_, g3, g4, d2⟩
          have hz : (((b : Nat) : Int) == 0) = false := by rw [beq_eq_false_iff_ne]; omega
          simp -implicitDefEqProofs only [ex_ifs, exs_nil, ev_and, ev_cmp, ev_lst, ev_call, ev_c, evs_cons, evs_nil, ev_v, look_zero, look_succ, lift_some, Rp.R.bind_ok, cmp_ne, cmp_eq, z, Option.map_some, Bool.not_false, Rp.cond_true, Rp.cond_false, e3', eqO_int, hz]
    obtain ⟨s1, w2, e4, f1, f2, d2⟩ := hif
    obtain ⟨u, w3, e5, d3⟩ := s_pulls (k := k) o d2 (by omega) f1
    have hg : ∀ w, callN P (k + 3) "_law_gate" [drs ds, st s1] w = .ok (dr (gt ds s1)) w := fun w => s_law_gate f1
    have dd : ixD (dr (gt ds s1)) (.int 2) = some (.int (gt ds s1).f) := by unfold dr; simp
    have ap1 : appD (.lst (vs.map D.int)) (.int u) = some (.lst ((vs ++ [u]).map D.int)) := by rw [appD_ok (by rw [List.length_map]; omega)]; simp
    have ap2 : appD (.lst (p.map st)) (st s1) = some (.lst ((p ++ [s1]).map st)) := by rw [appD_ok (by rw [List.length_map]; omega)]; simp
    refine ⟨(vs ++ [u], p ++ [s1]), w3, ?_, hW.app ⟨f1, f2, trivial⟩, by simp [hl], by simp, d3.mono (by omega)⟩
    rw [inB_n]
    have he : endW ds x (p ++ [s1]) = (gt ds s1).f := endW_app ds s1 p x
    simp only [stE, he]
    simp -implicitDefEqProofs only [stB, exs_cons, exs_nil, ex_asg, ex_kill, kill, List.set_cons_zero, List.set_cons_succ, ev_call, evs_cons, evs_nil, ev_v, look_zero, look_succ, lift_some, Rp.R.bind_ok, e1, thenS_next]
    rw [ex_ifs]
    simp -implicitDefEqProofs only [exs_cons, exs_nil, ex_asg, ex_append, List.set_cons_zero, List.set_cons_succ, ev_call, ev_cmp, ev_lst, ev_ix, ev_c, evs_cons, evs_nil, ev_v, look_zero, look_succ, lift_some, Rp.R.bind_ok, cmp_ne, q, Option.map_some, Bool.not_false, Rp.cond_true, e2, thenS_next, e4, e5, ap1, ap2, hg, dd]
end
end Lw
end

section
set_option linter.all false
set_option maxRecDepth 100000
namespace Lw
open Rp
section
variable {k : Nat} {R : Nat} {ds : List Dr}
theorem s_strolled {w : W} {n x many : Nat} (o : Ok R ds) (hw : Dw n w) (hn : n ≤ 2 ^ 37) (hm : many ≤ 90) :
    ∃ (us : List Int) (p : List Sp) (w' : W), callN P (k + 4) "_law_strolled" [.tok, drs ds, .int x, .int many] w = .ok (wk x us p) w' ∧ Walk ds x p ∧ us.length = p.length + 1 ∧ p.length ≤ many ∧ Dw (n + 2 + 4 * many) w' := by
  obtain ⟨m, w0, hm0, e0, d0⟩ := s_draw (k := k + 1) hw (by omega) (m := many + 1) (by omega) (by omega)
  push_cast at e0
  have h := forL_inv (stE ds x many) (fun i : Nat => .int (i : Int))
    (fun y env w => inB (.n 7) y env fun env => exSs (callN P (k + 3)) stB env w)
    (fun is s w => Walk ds x s.2 ∧ s.1.length = s.2.length ∧ s.2.length + is.length ≤ m ∧ Dw (n + 1 + 4 * (m - is.length)) w) (fun i is s w hI => by
      obtain ⟨i1, i2, i3, i4⟩ := hI
      simp only [List.length_cons] at i3 i4
      obtain ⟨s', w', e, j1, j2, j3, j4⟩ := st_turn (k := k) (many := many) o i4 (by omega) (.int (i : Nat)) s i1 i2 (by omega)
      exact ⟨s', w', e, j1, j2, by omega, j4.mono (by omega)⟩) (List.range m) ([], []) w0 ⟨trivial, rfl, by simp, by simpa using d0⟩
  obtain ⟨⟨vs, p⟩, w1, e, j1, j2, j3, j4⟩ := h
  simp only [List.length_nil] at j1 j2 j3 j4
  obtain ⟨b, w2, hb, e2, d2⟩ := s_draw (k := k + 1) j4 (by omega) (m := 9) (by decide) (by decide)
  have e2' : callN P (k + 3) "_law_draw" [.tok, .int 9] w1 = .ok (.int b) w2 := e2
  refine ⟨vs ++ [(b : Int) - 4], p, w2, ?_, j1, by simp [j2], by omega, d2.mono (by omega)⟩
  have el : exS (callN P (k + 3)) f_law_strolled_l1 (stE ds x many ([], [])) w = .ok (.next (stE ds x many (vs, p))) w1 := by
    unfold f_law_strolled_l1
    refine ex_for_of (evi_r0 (n := m) (w' := w0) (by simp -implicitDefEqProofs [stE, e0]) (by omega)) ?_
    exact e
  have hmt : mutsOk [0, 1, 1] [.int x, .lst [], .lst []] = true := rfl
  have es : stE ds x many ([], []) = [some .tok, some (drs ds), some (.int x), some (.int many), some (.int x), some (.lst []), some (.lst []), none, none, none] := rfl
  rw [es] at el
  have a1 : binD .add (.lst (vs.map D.int)) (.lst [.int ((b : Int) - 4)]) = some (.lst (vs.map D.int ++ [.int ((b : Int) - 4)])) := b_addL (by simp; omega)
  have r1 : D.tup [.int x, .tup (vs.map D.int ++ [.int ((b : Int) - 4)]), .tup (p.map st)] = wk x (vs ++ [(b : Int) - 4]) p := by simp [wk, tI, sts]
  rw [call_def (fn := f_law_strolled) rfl rfl _ _ _ rfl]
  simp -implicitDefEqProofs only [f_law_strolled, start, List.map_cons, List.map_nil, List.length_cons, List.length_nil, exs_cons, exs_nil, ex_parO, ex_ret, ex_kill, kill, ev_lst, evs_cons, evs_nil, ev_v, List.cons_append, List.nil_append, List.replicate, Nat.reduceAdd, Nat.reduceSub, List.set_cons_zero, List.set_cons_succ, look_zero, look_succ, lift_some, Rp.R.bind_ok, hmt, and_self, if_true, setAll_cons, setAll_nil, thenS_next, el]
  simp -implicitDefEqProofs only [stE, ev_tup, ev_bi, ev_bin, ev_lst, ev_call, ev_c, evs_cons, evs_nil, ev_v, look_zero, look_succ, lift_some, Rp.R.bind_ok, e2', b_sub, a1, bi_tuple_lst, r1, thenS_ret, endD_ret]
end
end Lw
end

section
set_option linter.all false
set_option maxRecDepth 100000
namespace Rp
theorem dGet_map {α : Type} (f : α → Nat) (g : α → D) (x : Nat) : ∀ l : List α, x ∈ l.map f → ∃ a ∈ l, f a = x ∧ dGet (l.map fun a => (.int (f a), g a)) (.int x) = some (g a)
  | [], h => by simp at h
  | a :: l, h => by
    simp only [List.map_cons, dGet, D.eqv]
    by_cases e : f a = x
    · exact ⟨a, List.mem_cons_self, e, by simp [e]⟩
    · have e2 : ((f a : Int) == (x : Int)) = false := by rw [beq_eq_false_iff_ne]; omega
      simp only [List.map_cons, List.mem_cons] at h
      obtain ⟨b, h1, h2, h3⟩ := dGet_map f g x l (h.resolve_left fun h => e h.symm)
      refine ⟨b, List.mem_cons_of_mem _ h1, h2, ?_⟩
      rw [← h3]
      exact if_neg (by simpa using e2)
end Rp
namespace Lw
open Rp
/-! ### a shortest way -/
abbrev Wm := List (Nat × List Sp)
def wyD (m : Wm) : D := .dic (m.map fun q => (.int (q.1 : Nat), sts q.2))
def wyQ (m : Wm) : D := .lst (m.map fun q => .int (q.1 : Nat))
def wyE (ds : List Dr) (x g : Nat) (s : Wm × Nat) : Env := [some (drs ds), some (.int x), some (.int g), some (wyD s.1), some (wyQ s.1), some (.int s.2), none, none]
def wyB : List S := [.asg 7 (.ix (.call "_law_gate" [.v 0, .v 6]) (.c (.int 2))), .ifs (.cmp .notIn (.v 7) (.v 3)) [.setix 3 (.v 7) (.bin .add (.ix (.v 3) (.ix (.v 4) (.v 5))) (.tup [.v 6])), .append 4 (.v 7)] [], .kill [6, 7]]
structure Wy (R : Nat) (ds : List Dr) (x : Nat) (m : Wm) : Prop where
  w : ∀ q ∈ m, q.1 < R ∧ Walk ds x q.2 ∧ endW ds x q.2 = q.1 ∧ q.2.length < m.length
  n : m.length + unk R (m.map (·.1)) ≤ R
  z : x ∈ m.map (·.1)
section
variable {k : Nat} {w : W} {R : Nat} {ds : List Dr}
theorem wy_turn {x g : Nat} (o : Ok R ds) {m : Wm} (I : Wy R ds x m) {t : Nat} (ht : t < m.length) {s : Sp} (hs : s ∈ stepsL ds m[t].1) :
    ∃ m', inB (.n 6) (st s) (wyE ds x g (m, t)) (fun env => exSs (callN P (k + 1)) wyB env w) = .ok (.next (wyE ds x g (m', t))) w ∧ Wy R ds x m' ∧ m <+: m' ∧ m'.length + unk R (m'.map (·.1)) ≤ m.length + unk R (m.map (·.1)) ∧ (gt ds s).f ∈ m'.map (·.1) := by
  obtain ⟨g1, g2⟩ := List.mem_filter.mp hs
  have g3 := sidesL_mem g1
  have g4 : (gt ds s).n = m[t].1 := by simpa using g2
  obtain ⟨_, hf, _⟩ := o.gt g3
  have hn := I.n
  have hr := o.r12
  have e1 : ∀ w, callN P (k + 1) "_law_gate" [drs ds, st s] w = .ok (dr (gt ds s)) w := fun w => s_law_gate g3
  have dd : ixD (dr (gt ds s)) (.int 2) = some (.int (gt ds s).f) := by unfold dr; simp
  have hin : cmpD .notIn (.int ((gt ds s).f : Nat)) (wyD m) = some (!decide ((gt ds s).f ∈ m.map (·.1))) := by
    rw [cmp_notIn]
    unfold wyD
    simp only [inD, D.key, if_true]
    rw [dHas_map (fun q : Nat × List Sp => q.1) (fun q => sts q.2)]
    rfl
  by_cases h : (gt ds s).f ∈ m.map (·.1)
  · refine ⟨m, ?_, I, List.prefix_refl _, Nat.le_refl _, h⟩
    rw [decide_eq_true h] at hin
    rw [inB_n]
    simp -implicitDefEqProofs only [wyE, wyB, exs_cons, exs_nil, ex_asg, ex_ifs, ex_kill, kill, List.set_cons_zero, List.set_cons_succ, ev_call, ev_cmp, ev_ix, ev_c, evs_cons, evs_nil, ev_v, look_zero, look_succ, lift_some, Rp.R.bind_ok, e1, dd, hin, Option.map_some, Bool.not_true, Rp.cond_false, thenS_next]
  · obtain ⟨b, hb1, hb2, hb3⟩ := dGet_map (fun q : Nat × List Sp => q.1) (fun q => sts q.2) m[t].1 m (List.mem_map.mpr ⟨m[t], List.getElem_mem ht, rfl⟩)
    obtain ⟨b1, b2, b3, b4⟩ := I.w b hb1
    have hq : ixD (wyQ m) (.int (t : Nat)) = some (.int (m[t].1 : Nat)) := by
      unfold wyQ
      rw [ix_lst (by simpa using ht)]
      simp
    have hd : ixD (wyD m) (.int (m[t].1 : Nat)) = some (sts b.2) := by
      unfold wyD
      simp only [ixD, D.key, if_true]
      exact hb3
    have ha : binD .add (sts b.2) (.tup [st s]) = some (sts (b.2 ++ [s])) := by
      unfold sts
      rw [b_addT (by simp; omega)]
      simp
    have hset : setD (wyD m) (.int ((gt ds s).f : Nat)) (sts (b.2 ++ [s])) = some (wyD (m ++ [((gt ds s).f, b.2 ++ [s])])) := by
      unfold wyD
      rw [setD_new (fun q : Nat × List Sp => q.1) (fun q => sts q.2) (gt ds s).f _ m h (by omega)]
      simp
    have happ : appD (wyQ m) (.int ((gt ds s).f : Nat)) = some (wyQ (m ++ [((gt ds s).f, b.2 ++ [s])])) := by
      unfold wyQ
      rw [appD_ok (by simp; omega)]
      simp
    have hu := unk_new hf h
    refine ⟨m ++ [((gt ds s).f, b.2 ++ [s])], ?_, ⟨fun q hq => ?_, ?_, ?_⟩, List.prefix_append _ _, ?_, by simp⟩
    · rw [decide_eq_false h] at hin
      rw [inB_n]
      simp -implicitDefEqProofs only [wyE, wyB, exs_cons, exs_nil, ex_asg, ex_ifs, ex_kill, ex_setix, ex_append, kill, List.set_cons_zero, List.set_cons_succ, ev_call, ev_cmp, ev_ix, ev_bin, ev_tup, ev_c, evs_cons, evs_nil, ev_v, look_zero, look_succ, lift_some, Rp.R.bind_ok, e1, dd, hin, Option.map_some, Bool.not_false, Rp.cond_true, thenS_next, hq, hd, ha, hset, happ]
    · rcases List.mem_append.mp hq with hq | hq
      · obtain ⟨c1, c2, c3, c4⟩ := I.w q hq
        exact ⟨c1, c2, c3, by simp; omega⟩
      · simp only [List.mem_cons, List.not_mem_nil, or_false] at hq
        subst hq
        refine ⟨hf, b2.app ⟨g3, by rw [b3, hb2]; exact g4, trivial⟩, endW_app _ _ _ _, ?_⟩
        simp only [List.length_append, List.length_cons, List.length_nil]
        omega
    · simp only [List.map_append, List.map_cons, List.map_nil, List.length_append, List.length_cons, List.length_nil]
      omega
    · simp only [List.map_append, List.mem_append]
      exact .inl I.z
    · simp only [List.map_append, List.map_cons, List.map_nil, List.length_append, List.length_cons, List.length_nil]
      omega
theorem wy_all (hm : Hm R ds) {K : List Nat} {x : Nat} (hx : x ∈ K) (hR : ∀ r ∈ K, r < R) (hc : ∀ r ∈ K, ∀ s ∈ stepsL ds r, (gt ds s).f ∈ K) : ∀ r, r < R → r ∈ K := by
  have arc : ∀ d ∈ ds, (d.n ∈ K → d.f ∈ K) ∧ (d.f ∈ K → d.n ∈ K) := fun d hd => by
    obtain ⟨i, hi, rfl⟩ := List.getElem_of_mem hd
    have hg : ∀ b, (⟨i, b⟩ : Sp) ∈ sidesL ds.length := fun b => by
      unfold sidesL
      refine List.mem_flatMap.mpr ⟨i, List.mem_range.mpr hi, ?_⟩
      cases b <;> simp
    have g0 : gt ds ⟨i, false⟩ = ds[i] := by simp [gt, List.getD, hi]
    have g1 : gt ds ⟨i, true⟩ = ds[i].flip := by simp [gt, List.getD, hi]
    refine ⟨fun h => ?_, fun h => ?_⟩
    · have := hc _ h ⟨i, false⟩ (List.mem_filter.mpr ⟨hg _, by rw [g0]; simp⟩)
      rwa [g0] at this
    · have := hc _ h ⟨i, true⟩ (List.mem_filter.mpr ⟨hg _, by rw [g1]; simp [Dr.flip]⟩)
      rwa [g1] at this
  have down : ∀ n r, r ≤ n → r ∈ K → 0 ∈ K := by
    intro n
    induction n with
    | zero => intro r h1 h2; have : r = 0 := by omega
              subst this; exact h2
    | succ n ih =>
      intro r h1 h2
      rcases Nat.eq_zero_or_pos r with h0 | h0
      · subst h0; exact h2
      · obtain ⟨d, hd, h⟩ := hm.c r h0 (hR r h2)
        obtain ⟨a1, a2⟩ := arc d hd
        rcases h with ⟨e1, e2⟩ | ⟨e1, e2⟩
        · exact ih d.f (by omega) (a1 (by rw [e1]; exact h2))
        · exact ih d.n (by omega) (a2 (by rw [e1]; exact h2))
  have z : 0 ∈ K := down x x (Nat.le_refl _) hx
  have up : ∀ n r, r ≤ n → r < R → r ∈ K := by
    intro n
    induction n with
    | zero => intro r h1 h2; have : r = 0 := by omega
              subst this; exact z
    | succ n ih =>
      intro r h1 h2
      rcases Nat.eq_zero_or_pos r with h0 | h0
      · subst h0; exact z
      · obtain ⟨d, hd, h⟩ := hm.c r h0 h2
        obtain ⟨a1, a2⟩ := arc d hd
        rcases h with ⟨e1, e2⟩ | ⟨e1, e2⟩
        · rw [← e1]; exact a2 (ih d.f (by omega) (by omega))
        · rw [← e1]; exact a1 (ih d.n (by omega) (by omega))
  exact fun r h => up r r (Nat.le_refl _) h
theorem s_law_way (hm : Hm R ds) {x g : Nat} (hx : x < R) (hg : g < R) : ∃ p : List Sp, callN P (k + 3) "_law_way" [drs ds, .int x, .int g] w = .ok (sts p) w ∧ Walk ds x p ∧ endW ds x p = g ∧ p.length ≤ 12 := by
  have o := hm.ok
  have hr := hm.r12
  obtain ⟨⟨m, t⟩, w', ⟨⟨I, hcl⟩, rfl⟩, hgo, e⟩ := while_inv (wyE ds x g) (fun s => decide (s.2 < s.1.length)) (fun s => s.1.length + unk R (s.1.map (·.1)) - s.2)
    (fun s w' => (Wy R ds x s.1 ∧ ∀ q ∈ s.1.take s.2, ∀ sp ∈ stepsL ds q.1, (gt ds sp).f ∈ s.1.map (·.1)) ∧ w' = w)
    (c := fun env w => evE (callN P (k + 2)) (.cmp .lt (.v 5) (.bi .len [.v 4])) env w) (b := fun env w => exSs (callN P (k + 2)) [.kill [6, 7], f_law_way_l1, .asg 5 (.bin .add (.v 5) (.c (.int 1))), .kill [6, 7]] env w)
    (fun s w' _ => by
      have hl : biD .len [wyQ s.1] = some (.int (s.1.length : Nat)) := by
        unfold wyQ
        simp [biD]
      have hdec : decide ((s.2 : Int) < (s.1.length : Int)) = decide (s.2 < s.1.length) := by simp
      simp -implicitDefEqProofs only [wyE, ev_cmp, ev_bi, evs_cons, evs_nil, ev_v, look_zero, look_succ, lift_some, Rp.R.bind_ok, hl, cmp_lt, Option.map_some, hdec])
    (fun s w' hI hgo => by
      obtain ⟨⟨I, hcl⟩, rfl⟩ := hI
      obtain ⟨m, t⟩ := s
      have ht : t < m.length := of_decide_eq_true hgo
      simp only at I hcl
      have hq : ixD (wyQ m) (.int (t : Nat)) = some (.int (m[t].1 : Nat)) := by
        unfold wyQ
        rw [ix_lst (by simpa using ht)]
        simp
      have hst : ∀ w, callN P (k + 2) "_law_steps" [drs ds, .int m[t].1] w = .ok (.lst ((stepsL ds m[t].1).map st)) w := fun w => s_law_steps hm.len
      obtain ⟨m', w2, e2, ⟨⟨I2, hp, hu, hd, _⟩, rfl⟩⟩ := forL_inv (fun m' => wyE ds x g (m', t)) st (fun y env w => inB (.n 6) y env fun env => exSs (callN P (k + 2)) wyB env w)
        (fun is m' w2 => (Wy R ds x m' ∧ m <+: m' ∧ m'.length + unk R (m'.map (·.1)) ≤ m.length + unk R (m.map (·.1)) ∧ (∀ sp ∈ stepsL ds m[t].1, sp ∈ is ∨ (gt ds sp).f ∈ m'.map (·.1)) ∧ ∀ sp ∈ is, sp ∈ stepsL ds m[t].1) ∧ w2 = w')
        (fun sp is m' w2 hJ => by
          obtain ⟨⟨J1, J2, J3, J4, J5⟩, rfl⟩ := hJ
          have ht' : t < m'.length := Nat.lt_of_lt_of_le ht J2.length_le
          have hmt : m'[t] = m[t] := (J2.getElem ht).symm
          obtain ⟨m2, f1, f2, f3, f4, f5⟩ := wy_turn (k := k + 1) (w := w2) (g := g) o J1 ht' (s := sp) (by rw [hmt]; exact J5 sp List.mem_cons_self)
          refine ⟨m2, w2, f1, ⟨f2, J2.trans f3, by omega, fun q hq => ?_, fun q hq => J5 q (List.mem_cons_of_mem _ hq)⟩, rfl⟩
          rcases J4 q hq with h | h
          · rcases List.mem_cons.mp h with h | h
            · subst h; exact .inr f5
            · exact .inl h
          · right
            obtain ⟨l, hl⟩ := f3
            rw [← hl, List.map_append]
            exact List.mem_append_left _ h)
        (stepsL ds m[t].1) m w' ⟨⟨I, List.prefix_refl _, Nat.le_refl _, fun sp h => .inl h, fun sp h => h⟩, rfl⟩
      have hlt := hp.length_le
      refine ⟨(m', t + 1), w2, ?_, ⟨⟨I2, fun q hq sp hsp => ?_⟩, rfl⟩, by simp only; omega⟩
      · have el : exS (callN P (k + 2)) f_law_way_l1 (wyE ds x g (m, t)) w2 = .ok (.next (wyE ds x g (m', t))) w2 := by
          unfold f_law_way_l1
          refine ex_for_of (xs := (stepsL ds m[t].1).map st) (w1 := w2) ?_ e2
          simp -implicitDefEqProofs only [wyE, evi_seq, ev_call, ev_ix, evs_cons, evs_nil, ev_v, look_zero, look_succ, lift_some, Rp.R.bind_ok, hq, hst, items_lst]
        simp only [wyE] at el
        simp -implicitDefEqProofs only [wyE, exs_cons, exs_nil, ex_kill, kill, ex_asg, List.set_cons_zero, List.set_cons_succ, el, thenS_next, ev_bin, ev_c, ev_v, look_zero, look_succ, lift_some, Rp.R.bind_ok, b_add]
        rfl
      · obtain ⟨l, hl⟩ := hp
        rw [← hl] at hq hd ⊢
        rw [List.take_append_of_le_length (by omega), List.take_succ_eq_append_getElem ht] at hq
        rcases List.mem_append.mp hq with hq | hq
        · rw [List.map_append]
          exact List.mem_append_left _ (hcl q hq sp hsp)
        · simp only [List.mem_cons, List.not_mem_nil, or_false] at hq
          subst hq
          exact (hd sp hsp).resolve_left (by simp))
    ([(x, [])], 0) w ⟨⟨⟨fun q hq => by
      simp only [List.mem_cons, List.not_mem_nil, or_false] at hq
      subst hq
      exact ⟨hx, trivial, rfl, by simp⟩, by
      have h1 := unk_new (known := []) hx (by simp)
      have h2 : unk R [] ≤ R := by
        have := List.countP_le_length (p := fun r => decide (r ∉ ([] : List Nat))) (l := List.range R)
        simpa [unk] using this
      simp only [List.nil_append] at h1
      simp only [List.map_cons, List.map_nil, List.length_cons, List.length_nil]
      omega, by simp⟩, by simp⟩, rfl⟩
  simp only at I hcl
  have hge : m.length ≤ t := by
    have := of_decide_eq_false hgo
    simp only at this
    omega
  rw [List.take_of_length_le hge] at hcl
  have hall := wy_all hm (K := m.map (·.1)) I.z (fun r hr => by
    obtain ⟨q, hq, rfl⟩ := List.mem_map.mp hr
    exact (I.w q hq).1) (fun r hr sp hsp => by
    obtain ⟨q, hq, rfl⟩ := List.mem_map.mp hr
    exact hcl q hq sp hsp) g hg
  obtain ⟨b, hb1, hb2, hb3⟩ := dGet_map (fun q : Nat × List Sp => q.1) (fun q => sts q.2) g m hall
  obtain ⟨b1, b2, b3, b4⟩ := I.w b hb1
  have hn := I.n
  refine ⟨b.2, ?_, b2, by rw [b3]; exact hb2, by omega⟩
  have el : exS (callN P (k + 2)) f_law_way_l2 (wyE ds x g ([(x, [])], 0)) w' = .ok (.next (wyE ds x g (m, t))) w' := by
    unfold f_law_way_l2
    rw [ex_while]
    exact e
  have hd : ixD (wyD m) (.int g) = some (sts b.2) := by
    unfold wyD
    simp only [ixD, D.key, if_true]
    exact hb3
  have k0 : D.dic [(.int (x : Nat), .tup [])] = wyD [(x, [])] := rfl
  have l0 : D.lst [.int (x : Nat)] = wyQ [(x, [])] := rfl
  have hmt : mutsOk [1, 1, 0] [wyD [(x, [])], wyQ [(x, [])], .int 0] = true := rfl
  have el2 : exS (callN P (k + 2)) f_law_way_l2 [some (drs ds), some (.int x), some (.int g), some (wyD [(x, [])]), some (wyQ [(x, [])]), some (.int 0), none, none] w' = .ok (.next (wyE ds x g (m, t))) w' := el
  rw [call_def (fn := f_law_way) rfl rfl _ _ _ rfl]
  simp -implicitDefEqProofs only [f_law_way, start, List.map_cons, List.map_nil, List.length_cons, List.length_nil, exs_cons, exs_nil, ex_parO, ex_ret, ex_kill, kill, ev_dic, ev_lst, ev_tup, ev_c, evs_cons, evs_nil, ev_v, List.cons_append, List.nil_append, List.replicate, Nat.reduceAdd, Nat.reduceSub, List.set_cons_zero, List.set_cons_succ, look_zero, look_succ, lift_some, Rp.R.bind_ok, D.key, k0, l0, hmt, and_self, if_true, setAll_cons, setAll_nil, thenS_next, el2]
  simp -implicitDefEqProofs only [wyE, ev_ix, ev_v, look_zero, look_succ, lift_some, Rp.R.bind_ok, hd, thenS_ret, endD_ret]
end
end Lw
end

section
set_option linter.all false
set_option maxRecDepth 100000
namespace Lw
open Rp
section
variable {k : Nat} {R : Nat} {ds : List Dr}
theorem s_law_homing {w : W} {n x many : Nat} (hm : Hm R ds) (hw : Dw n w) (hn : n ≤ 2 ^ 36) (hx : x < R) (hmy : many ≤ 40) :
    ∃ (us : List Int) (p : List Sp) (w' : W), callN P (k + 5) "_law_homing" [.tok, drs ds, .int x, .int many] w = .ok (wk x us p) w' ∧ Walk ds x p ∧ endW ds x p = x ∧ us.length = p.length + 1 ∧ p.length ≤ 2 * many + 12 ∧ Dw (n + 400) w' := by
  have o := hm.ok
  obtain ⟨us, p, w1, e1, hW, hu, hp, d1⟩ := s_strolled (k := k) (x := x) o hw (by omega) (many := many) (by omega)
  obtain ⟨a, w2, ha, e2, d2⟩ := s_draw (k := k + 2) d1 (by omega) (m := 2) (by decide) (by decide)
  have e2' : callN P (k + 4) "_law_draw" [.tok, .int 2] w1 = .ok (.int a) w2 := e2
  have hon := Walk.on hW
  obtain ⟨bk1, bk2⟩ := Walk.back hW
  have n1 : us ≠ [] := fun h => by subst h; simp at hu
  by_cases h0 : a = 0
  · subst h0
    have e3 : ∀ w, callN P (k + 4) "_law_back" [drs ds, wk x us p] w = .ok (wk (endW ds x p) (backU us) (backP p)) w := fun w => s_law_back (k := k + 1) hon (by omega) (by omega)
    obtain ⟨vs, w3, e4, hq, d3⟩ := mapL_inv (fun y w => inB (.n 8) y [some .tok, some (drs ds), some (.int x), some (.int many), some (wk x us p), some (wk (endW ds x p) (backU us) (backP p)), none, none, none] fun env => evE (callN P (k + 4)) (.bin .add (.v 8) (.call "_law_pick" [.v 0, .lst [.c (.int 0), .c (.int 0), .c (.int 0), .c (.int 1), .neg (.c (.int 1)), .c (.int 2)]])) env w)
      D.int D.int (fun is w => is.length ≤ us.length ∧ Dw (n + 2 + 4 * many + 1 + (us.length - is.length)) w) (fun _ _ => True) (fun u is w hI => by
        obtain ⟨i1, i2⟩ := hI
        simp only [List.length_cons] at i1 i2
        obtain ⟨d, w', hd, e, dd⟩ := s_pick (k := k + 1) i2 (by omega) (xs := [.int 0, .int 0, .int 0, .int 1, .int (-1), .int 2]) (by simp) (by simp)
        have e' : callN P (k + 4) "_law_pick" [.tok, .lst [.int 0, .int 0, .int 0, .int 1, .int (-1), .int 2]] w = .ok d w' := e
        obtain ⟨v, rfl⟩ : ∃ v : Int, d = .int v := by
          simp only [List.mem_cons, List.not_mem_nil, or_false] at hd
          rcases hd with h | h | h | h | h | h <;> exact ⟨_, h⟩
        refine ⟨u + v, w', ?_, trivial, by omega, dd.mono (by omega)⟩
        simp -implicitDefEqProofs only [inB_n, List.set_cons_zero, List.set_cons_succ, ev_bin, ev_call, ev_lst, ev_c, ev_neg, neg_int, evs_cons, evs_nil, ev_v, look_zero, look_succ, lift_some, Rp.R.bind_ok, e', b_add]) (backU us) w2 ⟨by rw [backU_len]; omega, by rw [backU_len, Nat.sub_self]; exact d2⟩
    obtain ⟨_, d3⟩ := d3
    have hvl := hq.length
    rw [backU_len] at hvl
    have c1 : evE (callN P (k + 4)) f_law_homing_c1 [some .tok, some (drs ds), some (.int x), some (.int many), some (wk x us p), some (wk (endW ds x p) (backU us) (backP p)), none, none, none] w2 = .ok (.lst (vs.map D.int)) w3 := by
      unfold f_law_homing_c1
      refine ev_comp_of (w1 := w2) (xs := (backU us).map D.int) ?_ e4 (by rw [List.length_map]; omega)
      have hi : items (tI (backU us)) = some ((backU us).map D.int) := rfl
      simp -implicitDefEqProofs only [evi_seq, ev_ix, ev_v, ev_c, look_zero, look_succ, lift_some, Rp.R.bind_ok, wk1, hi]
    have n2 : vs ≠ [] := fun h => by subst h; simp at hvl; omega
    have e5 : ∀ w, callN P (k + 4) "_law_joined" [wk x us p, wk (endW ds x p) vs (backP p)] w = .ok (wk x (jn us vs) (p ++ backP p)) w := fun w => s_law_joined n1 n2 (by omega) (by rw [backP_len]; omega)
    have hj := jn_len n1 n2
    refine ⟨jn us vs, p ++ backP p, w3, ?_, hW.app bk1, by rw [endW_cat, bk2], by rw [List.length_append, backP_len]; omega, by rw [List.length_append, backP_len]; omega, d3.mono (by simp only [List.length_nil]; omega)⟩
    have r1 : D.tup [.int (endW ds x p), .tup (vs.map D.int), sts (backP p)] = wk (endW ds x p) vs (backP p) := rfl
    rw [call_def (fn := f_law_homing) rfl rfl _ _ _ rfl]
    simp -implicitDefEqProofs only [f_law_homing, start, List.map_cons, List.map_nil, List.length_cons, List.length_nil, exs_cons, exs_nil, ex_asg, ex_ifs, ex_ret, ev_call, ev_cmp, cmp_eq, ev_c, ev_bi, ev_tup, ev_ix, evs_cons, evs_nil, ev_v, List.cons_append, List.nil_append, List.replicate, Nat.reduceAdd, Nat.reduceSub, List.set_cons_zero, List.set_cons_succ, look_zero, look_succ, lift_some, Rp.R.bind_ok, e1, e2', Int.ofNat_zero, Int.cast_ofNat_Int, eqO_int, BEq.rfl, Option.map_some, Rp.cond_true, e3, c1, bi_tuple_lst, wk0, wk2, r1, e5, thenS_next, thenS_ret, endD_ret]
  · have h2 : ((a : Int) == 0) = false := by
      rw [beq_eq_false_iff_ne]
      omega
    have e3 : ∀ w, callN P (k + 4) "_law_end" [drs ds, wk x us p] w = .ok (.int (endW ds x p)) w := fun w => s_law_end (k := k + 2) hon
    have hen : endW ds x p < R := Walk.endOn o hW hx
    obtain ⟨q, e4, q1, q2, q3⟩ := s_law_way (k := k + 1) (w := w2) hm hen hx
    have e4' : callN P (k + 4) "_law_way" [drs ds, .int (endW ds x p), .int x] w2 = .ok (sts q) w2 := e4
    have e5 : ∀ w, callN P (k + 4) "_law_bare" [drs ds, .int (endW ds x p), sts q] w = .ok (wk (endW ds x p) (bare q) q) w := fun w => s_law_bare _ q (by omega)
    have hbl : (bare q).length = q.length + 1 := by simp [bare]
    have n2 : bare q ≠ [] := fun h => by rw [h] at hbl; simp at hbl
    have e6 : ∀ w, callN P (k + 4) "_law_joined" [wk x us p, wk (endW ds x p) (bare q) q] w = .ok (wk x (jn us (bare q)) (p ++ q)) w := fun w => s_law_joined n1 n2 (by omega) (by omega)
    have hj := jn_len n1 n2
    refine ⟨jn us (bare q), p ++ q, w2, ?_, hW.app q1, by rw [endW_cat, q2], by rw [List.length_append]; omega, by rw [List.length_append]; omega, d2.mono (by omega)⟩
    rw [call_def (fn := f_law_homing) rfl rfl _ _ _ rfl]
    simp -implicitDefEqProofs only [f_law_homing, start, List.map_cons, List.map_nil, List.length_cons, List.length_nil, exs_cons, exs_nil, ex_asg, ex_ifs, ex_ret, ev_call, ev_cmp, cmp_eq, ev_c, evs_cons, evs_nil, ev_v, List.cons_append, List.nil_append, List.replicate, Nat.reduceAdd, Nat.reduceSub, List.set_cons_zero, List.set_cons_succ, look_zero, look_succ, lift_some, Rp.R.bind_ok, e1, e2', eqO_int, h2, Option.map_some, Rp.cond_false, e3, e4', e5, e6, thenS_next, thenS_ret, endD_ret]
end
end Lw
end

section
set_option linter.all false
set_option maxRecDepth 100000
namespace Rp
@[simp] theorem eqO_bl (a b : Bool) : D.eqO (.bl a) (.bl b) = some (a == b) := by cases a <;> cases b <;> rfl
theorem eqvAll_map {α : Type} [DecidableEq α] (f : α → D) (hf : ∀ a b, D.eqv (f a) (f b) = decide (a = b)) : ∀ xs ys : List α, eqvAll (xs.map f) (ys.map f) = decide (xs = ys)
  | [], [] => rfl
  | [], _ :: _ => rfl
  | _ :: _, [] => rfl
  | x :: xs, y :: ys => by
    simp only [List.map_cons, eqvAll, hf, eqvAll_map f hf xs ys, List.cons.injEq, Bool.decide_and]
end Rp
namespace Lw
open Rp
theorem st_eqv (s t : Sp) : D.eqv (st s) (st t) = decide (s = t) := by
  cases s with | mk i a => cases t with | mk j b =>
  unfold st
  simp only [D.eqv, eqvAll, Sp.mk.injEq, Bool.and_true, Bool.decide_and]
  have h1 : ((i : Int) == (j : Int)) = decide (i = j) := nat_beq i j
  rw [h1]
  cases a <;> cases b <;> simp
theorem int_eqv (a b : Int) : D.eqv (.int a) (.int b) = decide (a = b) := by
  simp only [D.eqv]
  by_cases h : a = b <;> simp [h]
theorem ints_plain (us : List Int) : plAll (us.map D.int) = true ∧ depAll (us.map D.int) ≤ 50 := plAll_of (fun d hd => by
  obtain ⟨i, _, rfl⟩ := List.mem_map.mp hd
  simp [D.pl, D.dep])
theorem sts_plain (p : List Sp) : plAll (p.map st) = true ∧ depAll (p.map st) ≤ 50 := plAll_of (fun d hd => by
  obtain ⟨i, _, rfl⟩ := List.mem_map.mp hd
  exact st_plain i)
theorem wk_pl (x : Nat) (us : List Int) (p : List Sp) : (wk x us p).pl = true ∧ (wk x us p).dep ≤ 52 := by
  obtain ⟨a1, a2⟩ := ints_plain us
  obtain ⟨b1, b2⟩ := sts_plain p
  unfold wk tI sts
  simp only [D.pl, plAll, a1, b1, Bool.and_true, D.dep, depAll, true_and]
  omega
theorem wk_eqO2 (x : Nat) (us vs : List Int) (p q : List Sp) : D.eqO (wk x us p) (wk x vs q) = some (decide (us = vs ∧ p = q)) := by
  obtain ⟨a1, a2⟩ := wk_pl x us p
  obtain ⟨b1, b2⟩ := wk_pl x vs q
  have h : D.eqv (wk x us p) (wk x vs q) = decide (us = vs ∧ p = q) := by
    unfold wk tI sts
    simp only [D.eqv, eqvAll, eqvAll_map D.int int_eqv, eqvAll_map st st_eqv, Bool.and_true, beq_self_eq_true, Bool.true_and, Bool.decide_and]
  unfold D.eqO
  rw [h, a1, b1, decide_eq_true (show (wk x us p).dep ≤ 60 by omega), decide_eq_true (show (wk x vs q).dep ≤ 60 by omega)]
  rfl
abbrev Fo := List Int × List Sp
def foD (x : Nat) (q : Fo) : D := wk x (q.1 ++ [0]) q.2
section
variable {k : Nat} {w : W} {R : Nat} {ds : List Dr}
end
end Lw
end

section
set_option linter.all false
set_option maxRecDepth 100000
namespace Lw
open Rp
/-! ### the tree of feet -/
section
variable {ds : List Dr} {R : Nat}
theorem Ft.pre : ∀ {A : List Int} {C : List Sp} {B : List Int} {D : List Sp} {l : Option Sp} {x : Nat}, A.length = C.length → Ft ds l x (A ++ B) (C ++ D) → Ft ds l x A C
  | [], [], _, _, _, _, _, _ => trivial
  | v :: A, s :: C, B, D, l, x, h, hF => ⟨hF.1, hF.2.1, hF.2.2.1, hF.2.2.2.1, hF.2.2.2.2.1, Ft.pre (by simpa using h) hF.2.2.2.2.2⟩
  | [], _ :: _, _, _, _, _, h, _ => by simp at h
  | _ :: _, [], _, _, _, _, h, _ => by simp at h
theorem Ft.weak : ∀ {vs : List Int} {p : List Sp} {l : Option Sp} {x : Nat}, Ft ds l x vs p → Ft ds none x vs p
  | [], [], _, _, _ => trivial
  | v :: vs, s :: p, l, x, h => ⟨h.1, h.2.1, fun z => by simp [turned] at z, h.2.2.2.1, h.2.2.2.2.1, h.2.2.2.2.2⟩
  | [], _ :: _, _, _, h => h.elim
  | _ :: _, [], _, _, h => h.elim
theorem nf_again (o : Ok R ds) {us : List Int} {p : List Sp} (hp : On ds p) (hl : us.length = p.length + 1) : Psh ds ([], 0) (nfV (ru ds ([], 0) us p) ++ [0]) (nfP (ru ds ([], 0) us p)) := by
  unfold Psh
  rw [rw_stack, ru_plain o (S := (([], 0) : Sk × Int)) trivial hp hl, nfP_len]
  simp
/-- pulls ahead of a walk do not change how long its foot is -/
theorem len_pull (o : Ok R ds) (n : Int) {us : List Int} {p : List Sp} (hp : On ds p) (hl : us.length = p.length + 1) : (ru ds ([], n) us p).1.length = (ru ds ([], 0) us p).1.length := by
  have e := ru_plain o (S := ([], n)) trivial hp hl
  have h := psh_same _ _ ([] : Sk) [] 0 n rfl (fun t ht => by simp [hd] at ht) (nf_again o hp hl)
  unfold Psh at h
  rw [rw_stack, e, nfP_len] at h
  simpa using h
/-- backwards a foot is as long -/
theorem back_len (o : Ok R ds) {x : Nat} {vs : List Int} {p : List Sp} (hF : Ft ds none x vs p) : Psh ds ([], 0) (backU (vs ++ [0])) (backP p) := by
  have hl := hF.len
  have hon := Walk.on hF.walk
  have hv : (vs ++ [0]).length = p.length + 1 := by simp [hl]
  have lb : (backU (vs ++ [0])).length = (backP p).length + 1 := by rw [backU_len, backP_len]; exact hv
  have hX := ru_plain o (S := ru ds ([], 0) (backU (nfV (ru ds ([], 0) (backU (vs ++ [0])) (backP p)) ++ [0])) (backP (nfP (ru ds ([], 0) (backU (vs ++ [0])) (backP p)))))
    (ru_ok o _ _ _ (backP_on (on_nf (ru_ok o (backU (vs ++ [0])) (backP p) (([], 0) : Sk × Int) (backP_on hon) trivial) (n := (ru ds ([], 0) (backU (vs ++ [0])) (backP p)).2))) trivial) (backP_on hon) lb
  have hRX := ru_ok o (backU (vs ++ [0])) (backP p) (([], 0) : Sk × Int) (backP_on hon) trivial
  obtain ⟨a1, _⟩ := ru_len (ds := ds) (backU (vs ++ [0])) (backP p) (([], 0) : Sk × Int)
  unfold Psh
  generalize ru ds ([], 0) (backU (vs ++ [0])) (backP p) = X at *
  have hnl : (nfV X ++ [0]).length = (nfP X).length + 1 := by simp [nf_len X]
  have honX : On ds (nfP X) := on_nf (k := X.1) (n := X.2) hRX
  obtain ⟨a2, _⟩ := ru_len (ds := ds) (backU (nfV X ++ [0])) (backP (nfP X)) (([], 0) : Sk × Int)
  have hb := ru_back2 o (S := (([], 0) : Sk × Int)) trivial honX hnl
  have hRY := ru_ok o (backU (nfV X ++ [0])) (backP (nfP X)) (([], 0) : Sk × Int) (backP_on honX) trivial
  generalize ru ds ([], 0) (backU (nfV X ++ [0])) (backP (nfP X)) = Y at *
  have hY : rw' ds Y X = ([], X.2) := by
    rw [rw_eq]
    rw [ru_end Y _ _ 0 (nf_len X)] at hb
    have h1 := congrArg Prod.fst hb
    have h2 := congrArg Prod.snd hb
    simp only at h1 h2
    rw [h1]
    congr 1
    omega
  rw [hY] at hX
  have hF2 := ru_back2 o (S := Y) hRY hon hv
  rw [← hX] at hF2
  have hlen := len_pull o X.2 hon hv
  rw [hF2] at hlen
  obtain ⟨pF, _⟩ := psh_foot o 0 hF
  unfold Psh at pF
  rw [backP_len, nfP_len] at a2
  rw [backP_len] at a1 ⊢
  simp only [List.length_nil, Nat.zero_add] at a1 a2 pF ⊢
  omega
/-- feet led along a walk are as far from one another as before -/
theorem far_led (o : Ok R ds) {us vs ws : List Int} {p q r : List Sp} (hp : On ds p) (hu : us.length = p.length + 1) (hq : On ds q) (hv : vs.length = q.length) (hr : On ds r) (hw : ws.length = r.length) :
    far ds (nfV (ru ds (ru ds ([], 0) us p) (vs ++ [0]) q)) (nfP (ru ds (ru ds ([], 0) us p) (vs ++ [0]) q)) (nfV (ru ds (ru ds ([], 0) us p) (ws ++ [0]) r)) (nfP (ru ds (ru ds ([], 0) us p) (ws ++ [0]) r)) = far ds vs q ws r := by
  have n1 : vs ++ [0] ≠ [] := by simp
  have n2 : ws ++ [0] ≠ [] := by simp
  have nu : us ≠ [] := fun h => by subst h; simp at hu
  have hv' : (vs ++ [0]).length = q.length + 1 := by simp [hv]
  have hw' : (ws ++ [0]).length = r.length + 1 := by simp [hw]
  have j1 := jn_len nu n1
  have j2 := jn_len nu n2
  have l1 : (jn us (vs ++ [0])).length = (p ++ q).length + 1 := by rw [List.length_append]; omega
  have l2 : (jn us (ws ++ [0])).length = (p ++ r).length + 1 := by rw [List.length_append]; omega
  have o1 : On ds (p ++ q) := fun t ht => (List.mem_append.mp ht).elim (hp t) (hq t)
  have o2 : On ds (p ++ r) := fun t ht => (List.mem_append.mp ht).elim (hp t) (hr t)
  have k1 : ∀ S, Rd ds S.1 → rw' ds S (ru ds (ru ds ([], 0) us p) (vs ++ [0]) q) = ru ds (ru ds S us p) (vs ++ [0]) q := fun S hS => by
    rw [← ru_jn q ([], 0) hu n1, ru_plain o hS o1 l1, ru_jn q S hu n1]
  have k2 : ∀ S, Rd ds S.1 → rw' ds S (ru ds (ru ds ([], 0) us p) (ws ++ [0]) r) = ru ds (ru ds S us p) (ws ++ [0]) r := fun S hS => by
    rw [← ru_jn r ([], 0) hu n2, ru_plain o hS o2 l2, ru_jn r S hu n2]
  have hT1 : Rd ds (ru ds (ru ds ([], 0) us p) (vs ++ [0]) q).1 := ru_ok o _ _ _ hq (ru_ok o _ _ _ hp trivial)
  generalize ru ds (ru ds ([], 0) us p) (vs ++ [0]) q = T1 at *
  generalize ru ds (ru ds ([], 0) us p) (ws ++ [0]) r = T2 at *
  have on1 : On ds (nfP T1) := on_nf (k := T1.1) (n := T1.2) hT1
  have hn1 : (nfV T1 ++ [0]).length = (nfP T1).length + 1 := by simp [nf_len T1]
  have hb := ru_back2 o (S := (([], 0) : Sk × Int)) trivial on1 hn1
  have hY := ru_ok o (backU (nfV T1 ++ [0])) (backP (nfP T1)) (([], 0) : Sk × Int) (backP_on on1) trivial
  unfold far
  generalize ru ds ([], 0) (backU (nfV T1 ++ [0])) (backP (nfP T1)) = Y at *
  rw [rw_stack, k2 Y hY]
  have e1 : ru ds (ru ds Y us p) (vs ++ [0]) q = ([], T1.2) := by
    rw [← k1 Y hY, rw_eq]
    rw [ru_end Y _ _ 0 (nf_len T1)] at hb
    have h1 := congrArg Prod.fst hb
    have h2 := congrArg Prod.snd hb
    simp only at h1 h2
    rw [h1]
    congr 1
    omega
  have hYu := ru_ok o us p Y hp hY
  have e2 := ru_back o (vs ++ [0]) q (ru ds Y us p) hYu hq hv'
  rw [e1] at e2
  rw [← e2]
  have lb : (backU (vs ++ [0])).length = (backP q).length + 1 := by rw [backU_len, backP_len]; exact hv'
  have nb : backU (vs ++ [0]) ≠ [] := fun h => by rw [h] at lb; simp at lb
  have jb := jn_len nb n2
  rw [← ru_jn r ([], T1.2) lb n2, ← ru_jn r ([], 0) lb n2]
  refine len_pull o _ (fun t ht => (List.mem_append.mp ht).elim (backP_on hq t) (hr t)) ?_
  rw [List.length_append]; omega
/-! ### what two feet share -/
def lcp {α : Type} [DecidableEq α] : List α → List α → Nat
  | x :: xs, y :: ys => if x = y then lcp xs ys + 1 else 0
  | _, _ => 0
theorem far_lcp (o : Ok R ds) : ∀ (vs : List Int) (p : List Sp) (ws : List Int) (q : List Sp) (l : Option Sp) (x : Nat), Ft ds l x vs p → Ft ds l x ws q → far ds vs p ws q + 2 * lcp (vs.zip p) (ws.zip q) = p.length + q.length
  | [], [], ws, q, l, x, hF, hG => by
    obtain ⟨pG, _⟩ := psh_foot o 0 hG.weak
    unfold Psh at pG
    have : far ds [] [] ws q = (ru ds ([], 0) (ws ++ [0]) q).1.length := rfl
    rw [this, pG]
    simp [lcp]
  | v :: vs, s :: p, [], [], l, x, hF, hG => by
    have pB := back_len o hF.weak
    unfold Psh at pB
    have : far ds (v :: vs) (s :: p) [] [] = (ru ds ([], 0) (backU (v :: vs ++ [0])) (backP (s :: p))).1.length := by
      unfold far
      simp [ru]
    rw [this, pB, backP_len]
    simp [lcp]
  | v :: vs, s :: p, w :: ws, t :: q, l, x, hF, hG => by
    obtain ⟨f1, f2, f3, f4, f5, f6⟩ := id hF
    obtain ⟨g1, g2, g3, g4, g5, g6⟩ := id hG
    have hvl := f6.len
    have hwl := g6.len
    have hon := Walk.on f6.walk
    have b1 : backU (v :: vs ++ [0]) = backU (vs ++ [0]) ++ [0 - v] := by simp [backU]
    have b2 : backP (s :: p) = backP p ++ [tn s] := by simp [backP]
    have lb : (backU (vs ++ [0])).length = (backP p).length + 1 := by rw [backU_len, backP_len]; simp [hvl]
    have hRX := ru_ok o (backU (vs ++ [0])) (backP p) (([], 0) : Sk × Int) (backP_on hon) trivial
    by_cases e : (v, s) = (w, t)
    · have ih := far_lcp o vs p ws q (some s) (gt ds s).f f6 (by
        obtain ⟨rfl, rfl⟩ := Prod.mk.inj e
        exact g6)
      obtain ⟨rfl, rfl⟩ := Prod.mk.inj e
      have : far ds (v :: vs) (s :: p) (v :: ws) (s :: q) = far ds vs p ws q := by
        unfold far
        rw [b1, b2, ru_snoc _ _ _ _ _ lb]
        generalize ru ds ([], 0) (backU (vs ++ [0])) (backP p) = X at *
        have h1 : ru ds ((rd ds X (tn s)).1, (rd ds X (tn s)).2 + (0 - v)) (v :: ws ++ [0]) (s :: q) = ru ds (rd ds ((rd ds X (tn s)).1, (rd ds X (tn s)).2 + (0 - v) + v) s) (ws ++ [0]) q := rfl
        rw [h1, show (rd ds X (tn s)).2 + (0 - v) + v = (rd ds X (tn s)).2 by omega]
        have h2 : ((rd ds X (tn s)).1, (rd ds X (tn s)).2) = rd ds X (tn s) := rfl
        have h3 := rd_back o (k := X.1) X.2 (s := tn s) f1 hRX
        rw [tn_tn] at h3
        rw [h2, show rd ds X (tn s) = rd ds (X.1, X.2) (tn s) from rfl, h3]
      rw [this]
      simp only [List.zip_cons_cons, lcp, if_true, List.length_cons]
      omega
    · have pB := back_len o hF.weak
      have hX : far ds (v :: vs) (s :: p) (w :: ws) (t :: q) = (s :: p).length + (t :: q).length := by
        unfold far
        have pB' : Psh ds ([], 0) (backU (vs ++ [0]) ++ [0 - v]) (backP p ++ [tn s]) := by rw [← b1, ← b2]; exact pB
        obtain ⟨t1, m, t2⟩ := psh_top lb pB'
        rw [← b1, ← b2] at t1 t2
        unfold Psh at pB
        rw [backP_len] at pB
        generalize ru ds ([], 0) (backU (v :: vs ++ [0])) (backP (s :: p)) = X at *
        have hb : (gt ds (tn s)).b = (gt ds s).a := by rw [gt_tn]; rfl
        rw [hb] at t2
        have hnp : pops ds X.1 (X.2 + w) t = false := by
          obtain ⟨kx, nx⟩ := X
          match kx, t1 with
          | (v', t') :: r', t1 =>
            simp only [hd, List.head?_cons, Option.map_some, Option.some.injEq] at t1
            subst t1
            show (decide (t = tn (tn s)) && decide ((nx + w) % (gt ds t).a = 0)) = false
            rw [tn_tn]
            by_cases hts : t = s
            · subst hts
              simp only at t2
              rw [decide_eq_true rfl, Bool.true_and, decide_eq_false_iff_not, t2, show 0 - v + (gt ds t).a * m + w = (w - v) + (gt ds t).a * m by omega, Int.add_mul_emod_self_left]
              intro hz
              refine e (Prod.ext ?_ rfl)
              simp only
              have h1 := Int.emod_emod_of_dvd (w - v) (Int.dvd_refl (gt ds t).a)
              obtain ⟨c, hc⟩ := Int.dvd_of_emod_eq_zero hz
              rcases Int.lt_trichotomy c 0 with c0 | c0 | c0
              · have h2 : ((gt ds t).a * c).natAbs = (gt ds t).a.natAbs * c.natAbs := Int.natAbs_mul _ _
                have h3 : (gt ds t).a.natAbs * 1 ≤ (gt ds t).a.natAbs * c.natAbs := Nat.mul_le_mul_left _ (by omega)
                rw [← hc] at h2
                omega
              · subst c0; omega
              · have h2 : ((gt ds t).a * c).natAbs = (gt ds t).a.natAbs * c.natAbs := Int.natAbs_mul _ _
                have h3 : (gt ds t).a.natAbs * 1 ≤ (gt ds t).a.natAbs * c.natAbs := Nat.mul_le_mul_left _ (by omega)
                rw [← hc] at h2
                omega
            · rw [decide_eq_false hts, Bool.false_and]
        obtain ⟨pG, _⟩ := psh_foot o 0 hG.weak
        obtain ⟨c1, c2⟩ := psh_push pG
        rw [rd_push c1] at c2
        have c3 := psh_same (ws ++ [0]) q _ (((X.2 + w) % (gt ds t).a, t) :: X.1) _ ((X.2 + w) / (gt ds t).a * (gt ds t).b) (by rfl) (fun t0 ht0 => by
          simp only [hd, List.head?_cons, Option.map_some, Option.some.injEq] at ht0
          subst ht0
          exact ⟨(X.2 + w) / (gt ds t).a - (0 + w) / (gt ds t).a, by rw [Int.mul_comm, Int.mul_comm _ (gt ds t).b, Int.mul_sub]; omega⟩) c2
        unfold Psh at c3
        have e2 : ru ds X (w :: ws ++ [0]) (t :: q) = ru ds (rd ds (X.1, X.2 + w) t) (ws ++ [0]) q := rfl
        rw [e2, rd_push hnp, c3]
        simp only [List.length_cons, List.length_nil] at pB ⊢
        omega
      rw [hX]
      simp only [List.zip_cons_cons, lcp, if_neg e, List.length_cons]
      omega
  | [], _ :: _, _, _, _, _, h, _ => h.elim
  | _ :: _, [], _, _, _, _, h, _ => h.elim
  | _, _, [], _ :: _, _, _, _, h => h.elim
  | _, _, _ :: _, [], _, _, _, h => h.elim
end
end Lw
end

section
set_option linter.all false
set_option maxRecDepth 100000
namespace Lw
open Rp
/-! ### medians -/
section
variable {α : Type} [DecidableEq α]
theorem lcp_comm : ∀ a b : List α, lcp a b = lcp b a
  | [], [] => rfl
  | [], _ :: _ => rfl
  | _ :: _, [] => rfl
  | x :: a, y :: b => by
    unfold lcp
    by_cases h : x = y
    · rw [if_pos h, if_pos h.symm, lcp_comm a b]
    · rw [if_neg h, if_neg (fun z => h z.symm)]
theorem lcp_le : ∀ a b : List α, lcp a b ≤ a.length
  | [], [] => Nat.le_refl _
  | [], _ :: _ => Nat.le_refl _
  | _ :: _, [] => Nat.zero_le _
  | x :: a, y :: b => by
    unfold lcp
    have := lcp_le a b
    split <;> simp <;> omega
theorem lcp_le2 (a b : List α) : lcp a b ≤ b.length := by rw [lcp_comm]; exact lcp_le b a
theorem lcp_full : ∀ a b : List α, lcp a b = a.length → lcp a b = b.length → a = b
  | [], [], _, _ => rfl
  | [], _ :: _, _, h => by simp [lcp] at h
  | _ :: _, [], h, _ => by simp [lcp] at h
  | x :: a, y :: b, h1, h2 => by
    unfold lcp at h1 h2
    by_cases h : x = y
    · rw [if_pos h] at h1 h2
      rw [h, lcp_full a b (by simpa using h1) (by simpa using h2)]
    · rw [if_neg h] at h1
      simp at h1
theorem lcp_tri : ∀ a b c : List α, min (lcp a b) (lcp b c) ≤ lcp a c
  | [], b, c => by cases b <;> simp [lcp]
  | x :: a, [], c => by simp [lcp]
  | x :: a, y :: b, [] => by simp [lcp]
  | x :: a, y :: b, z :: c => by
    unfold lcp
    have := lcp_tri a b c
    by_cases h1 : x = y
    · by_cases h2 : y = z
      · rw [if_pos h1, if_pos h2, if_pos (h1.trans h2)]; omega
      · rw [if_pos h1, if_neg h2]; omega
    · rw [if_neg h1]; omega
theorem lcp_take : ∀ (a b : List α) (n : Nat), lcp (a.take n) b = min n (lcp a b)
  | [], b, n => by cases b <;> simp [lcp]
  | x :: a, b, 0 => by cases b <;> simp [lcp]
  | x :: a, [], n + 1 => by simp [lcp]
  | x :: a, y :: b, n + 1 => by
    rw [List.take_succ_cons]
    unfold lcp
    by_cases h : x = y
    · rw [if_pos h, if_pos h, lcp_take a b n]; omega
    · rw [if_neg h, if_neg h]; omega
theorem lcp_self : ∀ a : List α, lcp a a = a.length
  | [] => rfl
  | x :: a => by simp [lcp, lcp_self a]
theorem four (a b c d : List α) : min (lcp a c + lcp b d) (lcp a d + lcp b c) ≤ lcp a b + lcp c d := by
  have h1 := lcp_tri a c b
  have h2 := lcp_tri a d b
  have h3 := lcp_tri c a d
  have h4 := lcp_tri c b d
  rw [lcp_comm c b] at h1 h4
  rw [lcp_comm d b] at h2
  rw [lcp_comm c a] at h3
  omega
/-- d is how far two are -/
def Ds (a b : List α) (d : Nat) : Prop := d + 2 * lcp a b = a.length + b.length
theorem med_one {c c' g0 g1 g2 : List α} {p0 p1 p2 q0 q1 q2 d01 d02 d12 : Nat} (a0 : Ds c g0 p0) (a1 : Ds c g1 p1) (a2 : Ds c g2 p2) (b0 : Ds c' g0 q0) (b1 : Ds c' g1 q1) (b2 : Ds c' g2 q2)
    (e01 : Ds g0 g1 d01) (e02 : Ds g0 g2 d02) (e12 : Ds g1 g2 d12) (h1 : p0 + p1 = d01) (h2 : p0 + p2 = d02) (h3 : p1 + p2 = d12) (k1 : q0 + q1 = d01) (k2 : q0 + q2 = d02) (k3 : q1 + q2 = d12) : c = c' := by
  have f := four c c' g0 g1
  have l1 := lcp_le c c'
  have l2 := lcp_le2 c c'
  unfold Ds at *
  exact lcp_full c c' (by omega) (by omega)
/-- the longest shared one lies on all ways -/
theorem med_is {a b r : List α} {dab dar dbr w0 w1 w2 : Nat} (h1 : lcp a r ≤ lcp a b) (h2 : lcp b r ≤ lcp a b) (e1 : Ds a b dab) (e2 : Ds a r dar) (e3 : Ds b r dbr) (k0 : Ds (a.take (lcp a b)) a w0) (k1 : Ds (a.take (lcp a b)) b w1) (k2 : Ds (a.take (lcp a b)) r w2) :
    w0 + w1 = dab ∧ w0 + w2 = dar ∧ w1 + w2 = dbr := by
  have t1 := lcp_tri a b r
  have t2 := lcp_tri b a r
  have l1 := lcp_le a b
  have l2 := lcp_le2 a b
  rw [lcp_comm b a] at t2
  have s0 := lcp_take a a (lcp a b)
  have s1 := lcp_take a b (lcp a b)
  have s2 := lcp_take a r (lcp a b)
  rw [lcp_self] at s0
  have sl : (a.take (lcp a b)).length = lcp a b := by rw [List.length_take]; omega
  unfold Ds at *
  rw [sl] at k0 k1 k2
  omega
end
section
variable {ds : List Dr} {R : Nat}
abbrev zp (f : Fo) : List (Int × Sp) := f.1.zip f.2
theorem zp_len {f : Fo} (h : f.1.length = f.2.length) : (zp f).length = f.2.length := by simp [zp, h]
theorem far_ds (o : Ok R ds) {x : Nat} {f g : Fo} (hF : Ft ds none x f.1 f.2) (hG : Ft ds none x g.1 g.2) : Ds (zp f) (zp g) (far ds f.1 f.2 g.1 g.2) := by
  unfold Ds
  rw [far_lcp o f.1 f.2 g.1 g.2 none x hF hG, zp_len hF.len, zp_len hG.len]
/-- what two feet share, as a foot -/
def shF (f g : Fo) : Fo := (f.1.take (lcp (zp f) (zp g)), f.2.take (lcp (zp f) (zp g)))
theorem shF_ft {x : Nat} {f g : Fo} (hF : Ft ds none x f.1 f.2) : Ft ds none x (shF f g).1 (shF f g).2 := by
  have hl := hF.len
  refine Ft.pre (B := f.1.drop (lcp (zp f) (zp g))) (D := f.2.drop (lcp (zp f) (zp g))) ?_ ?_
  · simp [shF, hl]
  · show Ft ds none x (f.1.take _ ++ f.1.drop _) (f.2.take _ ++ f.2.drop _)
    rw [List.take_append_drop, List.take_append_drop]; exact hF
theorem shF_zp (f g : Fo) : zp (shF f g) = (zp f).take (lcp (zp f) (zp g)) := by
  unfold shF zp
  simp only
  generalize lcp (f.1.zip f.2) (g.1.zip g.2) = n
  rw [List.zip, List.take_zipWith]
theorem zp_inj {f g : Fo} (hf : f.1.length = f.2.length) (hg : g.1.length = g.2.length) (h : zp f = zp g) : f = g := by
  obtain ⟨a, b⟩ := zip_inj hf hg h
  exact Prod.ext a b
end
end Lw
end

section
set_option linter.all false
set_option maxRecDepth 100000
namespace Lw
open Rp
theorem lcp_cons {α : Type} [DecidableEq α] (x y : α) (a b : List α) : lcp (x :: a) (y :: b) = if x = y then lcp a b + 1 else 0 := rfl
theorem lcp_drop {α : Type} [DecidableEq α] : ∀ (n : Nat) (a b : List α), n ≤ lcp a b → lcp (a.drop n) (b.drop n) + n = lcp a b
  | 0, a, b, _ => by simp
  | n + 1, [], b, h => by cases b <;> simp [lcp] at h
  | n + 1, x :: a, [], h => by simp [lcp] at h
  | n + 1, x :: a, y :: b, h => by
    rw [lcp_cons] at h ⊢
    by_cases e : x = y
    · rw [if_pos e] at h ⊢
      have := lcp_drop n a b (by omega)
      simp only [List.drop_succ_cons]
      omega
    · rw [if_neg e] at h; omega
theorem lcp_next {α : Type} [DecidableEq α] {a b : List α} {n : Nat} (h : n ≤ lcp a b) (ha : n < a.length) (hb : n < b.length) : (a[n] = b[n] → n + 1 ≤ lcp a b) ∧ (a[n] ≠ b[n] → lcp a b = n) := by
  have e := lcp_drop n a b h
  rw [List.drop_eq_getElem_cons ha, List.drop_eq_getElem_cons hb, lcp_cons] at e
  constructor
  · intro q; rw [if_pos q] at e; omega
  · intro q; rw [if_neg q] at e; omega
def sfE (x : Nat) (f g : Fo) (n : Nat) : Env := [some (foD x f), some (foD x g), some (.int (n : Nat))]
theorem fo0 (x : Nat) (f : Fo) : ixD (foD x f) (.int 0) = some (.int x) := by simp [foD, wk]
theorem fo1 (x : Nat) (f : Fo) : ixD (foD x f) (.int 1) = some (tI (f.1 ++ [0])) := wk1 ..
theorem fo2 (x : Nat) (f : Fo) : ixD (foD x f) (.int 2) = some (sts f.2) := wk2 ..
section
variable {k : Nat} {w : W}
theorem st_eqO (s t : Sp) : D.eqO (st s) (st t) = some (decide (s = t)) := by
  obtain ⟨a1, a2⟩ := st_plain s
  obtain ⟨b1, b2⟩ := st_plain t
  unfold D.eqO
  rw [a1, b1, decide_eq_true (show (st s).dep ≤ 60 by omega), decide_eq_true (show (st t).dep ≤ 60 by omega), st_eqv]
  rfl
theorem s_shared_of {x : Nat} {f g : Fo} (hf : f.1.length = f.2.length) (hg : g.1.length = g.2.length) (lf : f.2.length ≤ 900) (lg : g.2.length ≤ 900) : callN P (k + 1) "shared_of" [foD x f, foD x g] w = .ok (foD x (shF f g)) w := by
  have la := zp_len hf
  have lb := zp_len hg
  have ga : ∀ n (h : n < f.2.length), (zp f)[n]'(by omega) = (f.1[n]'(by omega), f.2[n]) := fun n h => by simp [zp]
  have gb : ∀ n (h : n < g.2.length), (zp g)[n]'(by omega) = (g.1[n]'(by omega), g.2[n]) := fun n h => by simp [zp]
  obtain ⟨n, w', ⟨hn, rfl⟩, hgo, e⟩ := while_inv (sfE x f g) (fun n => decide (n < lcp (zp f) (zp g))) (fun n => lcp (zp f) (zp g) - n) (fun n w' => n ≤ lcp (zp f) (zp g) ∧ w' = w)
    (c := fun env w => evE (callN P k) (.and (.cmp .lt (.v 2) (.bi .min2 [.bi .len [.ix (.v 0) (.c (.int 2))], .bi .len [.ix (.v 1) (.c (.int 2))]])) (.and (.cmp .eq (.ix (.ix (.v 0) (.c (.int 2))) (.v 2)) (.ix (.ix (.v 1) (.c (.int 2))) (.v 2))) (.cmp .eq (.ix (.ix (.v 0) (.c (.int 1))) (.v 2)) (.ix (.ix (.v 1) (.c (.int 1))) (.v 2))))) env w)
    (b := fun env w => exSs (callN P k) [.aug 2 .add (.c (.int 1))] env w)
    (fun n w' hI => by
      obtain ⟨hn, rfl⟩ := hI
      have l1 := lcp_le (zp f) (zp g)
      have l2 := lcp_le2 (zp f) (zp g)
      have bm : biD .min2 [.int (f.2.length : Nat), .int (g.2.length : Nat)] = some (.int (min (f.2.length : Int) (g.2.length : Int))) := rfl
      by_cases h : n < f.2.length ∧ n < g.2.length
      · obtain ⟨h1, h2⟩ := h
        have hlt : (n : Int) < min (f.2.length : Int) (g.2.length : Int) := by omega
        have i1 : ixD (tI (f.1 ++ [0])) (.int (n : Nat)) = some (.int (f.1[n]'(by omega))) := by
          rw [ix_tI (by simp; omega), List.getElem_append_left (by omega)]
        have i2 : ixD (tI (g.1 ++ [0])) (.int (n : Nat)) = some (.int (g.1[n]'(by omega))) := by
          rw [ix_tI (by simp; omega), List.getElem_append_left (by omega)]
        obtain ⟨n1, n2⟩ := lcp_next hn (by rw [la]; exact h1) (by rw [lb]; exact h2)
        rw [ga n h1, gb n h2] at n1 n2
        by_cases hs : f.2[n] = g.2[n]
        · by_cases hv : f.1[n]'(by omega) = g.1[n]'(by omega)
          · have : decide (n < lcp (zp f) (zp g)) = true := decide_eq_true (n1 (by rw [hs, hv]))
            rw [this]
            simp -implicitDefEqProofs only [sfE, ev_and, ev_cmp, ev_bi, ev_ix, ev_c, evs_cons, evs_nil, ev_v, look_zero, look_succ, lift_some, Rp.R.bind_ok, fo1, fo2, len_sts, bm, cmp_lt, decide_eq_true hlt, Option.map_some, Rp.cond_true, ix_sts h1, ix_sts h2, cmp_eq, st_eqO, decide_eq_true hs, i1, i2, eqO_int, hv, BEq.rfl]
          · have : decide (n < lcp (zp f) (zp g)) = false := decide_eq_false (by have := n2 (fun z => hv (Prod.mk.inj z).1); omega)
            rw [this]
            have hv2 : (f.1[n]'(by omega) == g.1[n]'(by omega)) = false := by simpa using hv
            simp -implicitDefEqProofs only [sfE, ev_and, ev_cmp, ev_bi, ev_ix, ev_c, evs_cons, evs_nil, ev_v, look_zero, look_succ, lift_some, Rp.R.bind_ok, fo1, fo2, len_sts, bm, cmp_lt, decide_eq_true hlt, Option.map_some, Rp.cond_true, ix_sts h1, ix_sts h2, cmp_eq, st_eqO, decide_eq_true hs, i1, i2, eqO_int, hv2]
        · have : decide (n < lcp (zp f) (zp g)) = false := decide_eq_false (by have := n2 (fun z => hs (Prod.mk.inj z).2); omega)
          rw [this]
          simp -implicitDefEqProofs only [sfE, ev_and, ev_cmp, ev_bi, ev_ix, ev_c, evs_cons, evs_nil, ev_v, look_zero, look_succ, lift_some, Rp.R.bind_ok, fo1, fo2, len_sts, bm, cmp_lt, decide_eq_true hlt, Option.map_some, Rp.cond_true, Rp.cond_false, ix_sts h1, ix_sts h2, cmp_eq, st_eqO, decide_eq_false hs]
      · have hlt : ¬ (n : Int) < min (f.2.length : Int) (g.2.length : Int) := by omega
        have : decide (n < lcp (zp f) (zp g)) = false := decide_eq_false (by omega)
        rw [this]
        simp -implicitDefEqProofs only [sfE, ev_and, ev_cmp, ev_bi, ev_ix, ev_c, evs_cons, evs_nil, ev_v, look_zero, look_succ, lift_some, Rp.R.bind_ok, fo2, len_sts, bm, cmp_lt, decide_eq_false hlt, Option.map_some, Rp.cond_false])
    (fun n w' hI hgo => by
      obtain ⟨hn, rfl⟩ := hI
      have hlt := of_decide_eq_true hgo
      refine ⟨n + 1, w', ?_, ⟨by omega, rfl⟩, by omega⟩
      have au : augD .add (.int (n : Nat)) (.int 1) = some (.int ((n + 1 : Nat) : Int)) := rfl
      simp -implicitDefEqProofs only [sfE, exs_cons, exs_nil, ex_aug, ev_c, List.set_cons_zero, List.set_cons_succ, look_zero, look_succ, lift_some, Rp.R.bind_ok, au, thenS_next]) 0 w ⟨Nat.zero_le _, rfl⟩
  have hne : n = lcp (zp f) (zp g) := by
    have := of_decide_eq_false hgo
    omega
  have l1 := lcp_le (zp f) (zp g)
  have el : exS (callN P k) f_shared_of_l1 (sfE x f g 0) w' = .ok (.next (sfE x f g n)) w' := by
    rw [f_shared_of_l1, ex_while]
    exact e
  have e0 : [some (foD x f), some (foD x g), some (.int 0)] = sfE x f g 0 := rfl
  rw [← e0] at el
  have c1 : slD (tI (f.1 ++ [0])) none (some (n : Int)) = some (tI (f.1.take n)) := by
    simp only [slD, tI, cut_to]
    rw [← List.map_take, List.take_append_of_le_length (by omega)]
  have c2 : slD (sts f.2) none (some (n : Int)) = some (sts (f.2.take n)) := by
    simp only [slD, sts, cut_to]
    rw [← List.map_take]
  have a1 : binD .add (tI (f.1.take n)) (.tup [.int 0]) = some (tI (f.1.take n ++ [0])) := by
    rw [tI_app]; exact b_addT (by simp; omega)
  rw [call_def (fn := f_shared_of) rfl rfl _ _ _ rfl]
  simp -implicitDefEqProofs only [f_shared_of, start, List.map_cons, List.map_nil, List.length_cons, List.length_nil, exs_cons, exs_nil, ex_asg, ex_ret, ev_c, evs_cons, evs_nil, ev_v, List.cons_append, List.nil_append, List.replicate, Nat.reduceAdd, Nat.reduceSub, List.set_cons_zero, List.set_cons_succ, Rp.R.bind_ok, thenS_next, el]
  simp -implicitDefEqProofs only [sfE, ev_tup, ev_bin, ev_sl2, ev_ix, ev_c, bdI, Option.bind_some, evs_cons, evs_nil, ev_v, look_zero, look_succ, lift_some, Rp.R.bind_ok, fo0, fo1, fo2, c1, c2, a1, thenS_ret, endD_ret]
  rw [hne]
  rfl
end
end Lw
end

section
set_option linter.all false
set_option maxRecDepth 100000
namespace Lw
open Rp
def mtF (f g h : Fo) : Fo := if (shF f g).2.length < (shF f h).2.length then (if (shF f h).2.length < (shF g h).2.length then shF g h else shF f h) else if (shF f g).2.length < (shF g h).2.length then shF g h else shF f g
def fr (ds : List Dr) (f g : Fo) : Nat := far ds f.1 f.2 g.1 g.2
/-- m lies on all ways between three feet -/
def Med (ds : List Dr) (m f g h : Fo) : Prop := fr ds m f + fr ds m g = fr ds f g ∧ fr ds m f + fr ds m h = fr ds f h ∧ fr ds m g + fr ds m h = fr ds g h
theorem eqO3 (a b c a' b' c' : Int) : D.eqO (.lst [.int a, .int b, .int c]) (.lst [.int a', .int b', .int c']) = some (decide (a = a' ∧ b = b' ∧ c = c')) := by
  have h : D.eqv (.lst [.int a, .int b, .int c]) (.lst [.int a', .int b', .int c']) = decide (a = a' ∧ b = b' ∧ c = c') := by
    simp only [D.eqv, eqvAll, Bool.and_true, Bool.decide_and]
    have : ∀ x y : Int, (x == y) = decide (x = y) := fun x y => by by_cases h : x = y <;> simp [h]
    simp only [this]
  unfold D.eqO
  rw [h]
  rfl
section
variable {k : Nat} {w : W} {R : Nat} {ds : List Dr}
theorem shF_len (f g : Fo) (hf : f.1.length = f.2.length) : (shF f g).2.length = lcp (zp f) (zp g) ∧ (shF f g).1.length = lcp (zp f) (zp g) := by
  have h1 := lcp_le (zp f) (zp g)
  have h2 := zp_len hf
  unfold shF
  simp only [List.length_take]
  omega
theorem mt_ft {x : Nat} {f g h : Fo} (hF : Ft ds none x f.1 f.2) (hG : Ft ds none x g.1 g.2) : Ft ds none x (mtF f g h).1 (mtF f g h).2 := by
  unfold mtF
  split <;> split <;> first | exact shF_ft hF | exact shF_ft hG
/-- the meeting one lies on all ways -/
theorem mt_med (o : Ok R ds) {x : Nat} {f g h : Fo} (hF : Ft ds none x f.1 f.2) (hG : Ft ds none x g.1 g.2) (hH : Ft ds none x h.1 h.2) : Med ds (mtF f g h) f g h := by
  obtain ⟨a1, _⟩ := shF_len f g hF.len
  obtain ⟨b1, _⟩ := shF_len f h hF.len
  obtain ⟨c1, _⟩ := shF_len g h hG.len
  have d1 := far_ds o hF hG
  have d2 := far_ds o hF hH
  have d3 := far_ds o hG hH
  have d1' := far_ds o hG hF
  have d2' := far_ds o hH hF
  have d3' := far_ds o hH hG
  have sy : ∀ {f g : Fo}, Ft ds none x f.1 f.2 → Ft ds none x g.1 g.2 → fr ds f g = fr ds g f := fun {f g} hf hg => by
    have h1 := far_ds o hf hg
    have h2 := far_ds o hg hf
    unfold Ds at h1 h2
    rw [lcp_comm] at h2
    unfold fr; omega
  unfold mtF
  rw [a1, b1, c1]
  have key : ∀ {f g h : Fo}, Ft ds none x f.1 f.2 → Ft ds none x g.1 g.2 → Ft ds none x h.1 h.2 → lcp (zp f) (zp h) ≤ lcp (zp f) (zp g) → lcp (zp g) (zp h) ≤ lcp (zp f) (zp g) →
      fr ds (shF f g) f + fr ds (shF f g) g = fr ds f g ∧ fr ds (shF f g) f + fr ds (shF f g) h = fr ds f h ∧ fr ds (shF f g) g + fr ds (shF f g) h = fr ds g h := fun {f g h} hf hg hh q1 q2 => by
    have hs := shF_ft (g := g) hf
    have k0 := far_ds o hs hf
    have k1 := far_ds o hs hg
    have k2 := far_ds o hs hh
    rw [shF_zp] at k0 k1 k2
    exact med_is q1 q2 (far_ds o hf hg) (far_ds o hf hh) (far_ds o hg hh) k0 k1 k2
  by_cases q1 : lcp (zp f) (zp g) < lcp (zp f) (zp h)
  · rw [if_pos q1]
    by_cases q2 : lcp (zp f) (zp h) < lcp (zp g) (zp h)
    · rw [if_pos q2]
      obtain ⟨r1, r2, r3⟩ := key hG hH hF (by rw [lcp_comm]; omega) (by rw [lcp_comm (zp h) (zp f)]; omega)
      unfold Med
      rw [sy hF hG, sy hF hH]
      omega
    · rw [if_neg q2]
      obtain ⟨r1, r2, r3⟩ := key hF hH hG (by omega) (by rw [lcp_comm (zp h) (zp g)]; omega)
      unfold Med
      rw [sy hG hH]
      omega
  · rw [if_neg q1]
    by_cases q2 : lcp (zp f) (zp g) < lcp (zp g) (zp h)
    · rw [if_pos q2]
      obtain ⟨r1, r2, r3⟩ := key hG hH hF (by rw [lcp_comm]; omega) (by rw [lcp_comm (zp h) (zp f)]; omega)
      unfold Med
      rw [sy hF hG, sy hF hH]
      omega
    · rw [if_neg q2]
      exact key hF hG hH (by omega) (by omega)
theorem med_uniq (o : Ok R ds) {x : Nat} {m m' f g h : Fo} (hm : Ft ds none x m.1 m.2) (hm' : Ft ds none x m'.1 m'.2) (hF : Ft ds none x f.1 f.2) (hG : Ft ds none x g.1 g.2) (hH : Ft ds none x h.1 h.2) (h1 : Med ds m f g h) (h2 : Med ds m' f g h) : m = m' := by
  obtain ⟨a1, a2, a3⟩ := h1
  obtain ⟨b1, b2, b3⟩ := h2
  exact zp_inj hm.len hm'.len (med_one (far_ds o hm hF) (far_ds o hm hG) (far_ds o hm hH) (far_ds o hm' hF) (far_ds o hm' hG) (far_ds o hm' hH) (far_ds o hF hG) (far_ds o hF hH) (far_ds o hG hH) a1 a2 a3 b1 b2 b3)
/-- one of the three shared ones lies on all ways -/
theorem med_ex (o : Ok R ds) {x : Nat} {f g h : Fo} (hF : Ft ds none x f.1 f.2) (hG : Ft ds none x g.1 g.2) (hH : Ft ds none x h.1 h.2) : Med ds (shF f g) f g h ∨ Med ds (shF f h) f g h ∨ Med ds (shF g h) f g h := by
  have := mt_med o hF hG hH
  unfold mtF at this
  split at this <;> split at this
  · exact .inr (.inr this)
  · exact .inr (.inl this)
  · exact .inr (.inr this)
  · exact .inl this
theorem s_btw (o : Ok R ds) {x : Nat} (hx : x < R) {f g : Fo} (hF : Ft ds none x f.1 f.2) (hG : Ft ds none x g.1 g.2) (lf : f.2.length ≤ 300) (lg : g.2.length ≤ 300) : callN P (k + 9) "feet_between" [hs R ds, foD x f, foD x g] w = .ok (.int (fr ds f g : Nat)) w := s_between o hx hF hG lf lg
theorem s_shared_foot (o : Ok R ds) {x : Nat} (hx : x < R) {f g : Fo} (hF : Ft ds none x f.1 f.2) (hG : Ft ds none x g.1 g.2) (lf : f.2.length ≤ 300) (lg : g.2.length ≤ 300) : callN P (k + 9) "shared_foot" [hs R ds, foD x f, foD x g] w = .ok (foD x (shF f g)) w := by
  have e1 : ∀ w, callN P (k + 8) "need_two_feet" [hs R ds, foD x f, foD x g] w = .ok .non w := fun w => s_need_two (k := k) o hx hF (by omega) hG (by omega)
  have e2 : ∀ w, callN P (k + 8) "shared_of" [foD x f, foD x g] w = .ok (foD x (shF f g)) w := fun w => s_shared_of hF.len hG.len (by omega) (by omega)
  rw [call_def (fn := f_shared_foot) rfl rfl _ _ _ rfl]
  simp -implicitDefEqProofs only [f_shared_foot, start, List.map_cons, List.map_nil, List.length_cons, List.length_nil, exs_cons, exs_nil, ex_ex, ex_ret, ev_call, evs_cons, evs_nil, ev_v, List.cons_append, List.nil_append, List.replicate, Nat.reduceAdd, Nat.reduceSub, look_zero, look_succ, lift_some, Rp.R.bind_ok, e1, e2, thenS_next, thenS_ret, endD_ret]
theorem s_length_of {x : Nat} {f : Fo} : callN P (k + 1) "length_of" [foD x f] w = .ok (.int (f.2.length : Nat)) w := by
  rw [call_def (fn := f_length_of) rfl rfl _ _ _ rfl]
  simp -implicitDefEqProofs only [f_length_of, start, List.map_cons, List.map_nil, List.length_cons, List.length_nil, exs_cons, exs_nil, ex_ret, ev_bi, ev_ix, ev_c, evs_cons, evs_nil, ev_v, List.cons_append, List.nil_append, List.replicate, Nat.reduceAdd, Nat.reduceSub, look_zero, look_succ, lift_some, Rp.R.bind_ok, fo2, len_sts, thenS_ret, endD_ret]
theorem s_meeting (o : Ok R ds) {x : Nat} (hx : x < R) {f g h : Fo} (hF : Ft ds none x f.1 f.2) (hG : Ft ds none x g.1 g.2) (hH : Ft ds none x h.1 h.2) (lf : f.2.length ≤ 300) (lg : g.2.length ≤ 300) (lh : h.2.length ≤ 300) : callN P (k + 9) "meeting_foot" [hs R ds, foD x f, foD x g, foD x h] w = .ok (foD x (mtF f g h)) w := by
  have e1 : ∀ w, callN P (k + 8) "need_two_feet" [hs R ds, foD x f, foD x g] w = .ok .non w := fun w => s_need_two (k := k) o hx hF (by omega) hG (by omega)
  have e2 : ∀ w, callN P (k + 8) "need_two_feet" [hs R ds, foD x f, foD x h] w = .ok .non w := fun w => s_need_two (k := k) o hx hF (by omega) hH (by omega)
  have e3 : ∀ w, callN P (k + 8) "shared_of" [foD x f, foD x g] w = .ok (foD x (shF f g)) w := fun w => s_shared_of hF.len hG.len (by omega) (by omega)
  have e4 : ∀ w, callN P (k + 8) "shared_of" [foD x f, foD x h] w = .ok (foD x (shF f h)) w := fun w => s_shared_of hF.len hH.len (by omega) (by omega)
  have e5 : ∀ w, callN P (k + 8) "shared_of" [foD x g, foD x h] w = .ok (foD x (shF g h)) w := fun w => s_shared_of hG.len hH.len (by omega) (by omega)
  have hl : ∀ (q : Fo) (w : W), callN P (k + 8) "length_of" [foD x q] w = .ok (.int (q.2.length : Nat)) w := fun q w => s_length_of
  have em : maxKD (fun y w => callN P (k + 8) "length_of" [y] w) (.lst [foD x (shF f g), foD x (shF f h), foD x (shF g h)]) w = .ok (foD x (mtF f g h)) w := by
    simp only [maxKD, maxKL, hl, Rp.R.bind_ok, Int.ofNat_lt, mtF]
    split <;> split <;> rfl
  rw [call_def (fn := f_meeting_foot) rfl rfl _ _ _ rfl]
  simp -implicitDefEqProofs only [f_meeting_foot, start, List.map_cons, List.map_nil, List.length_cons, List.length_nil, exs_cons, exs_nil, ex_ex, ex_asg, ex_ret, ev_call, ev_lst, ev_maxK, evs_cons, evs_nil, ev_v, List.cons_append, List.nil_append, List.replicate, Nat.reduceAdd, Nat.reduceSub, List.set_cons_zero, List.set_cons_succ, look_zero, look_succ, lift_some, Rp.R.bind_ok, e1, e2, e3, e4, e5, em, thenS_next, thenS_ret, endD_ret]
end
end Lw
end

section
set_option linter.all false
set_option maxRecDepth 100000
namespace Lw
open Rp
/-- a foot led along a walk -/
def ld (ds : List Dr) (us : List Int) (p : List Sp) (f : Fo) : Fo := (nfV (ru ds (ru ds ([], 0) us p) (f.1 ++ [0]) f.2), nfP (ru ds (ru ds ([], 0) us p) (f.1 ++ [0]) f.2))
def miB : List S := [.asg 6 (.call "shared_foot" [.v 0, .ix (.v 1) (.v 3), .ix (.v 1) (.v 4)]), .asg 7 f_law_k01_middle_c1, .ifs (.cmp .eq (.lst [.bin .add (.ix (.v 7) (.c (.int 0))) (.ix (.v 7) (.c (.int 1))), .bin .add (.ix (.v 7) (.c (.int 0))) (.ix (.v 7) (.c (.int 2))), .bin .add (.ix (.v 7) (.c (.int 1))) (.ix (.v 7) (.c (.int 2)))]) (.v 2)) [.ret (.v 6)] [], .kill [3, 4, 5, 6, 7]]
section
variable {k : Nat} {w : W} {R : Nat} {ds : List Dr}
theorem s_led (o : Ok R ds) {x : Nat} (hx : x < R) {us : List Int} {p : List Sp} (hw : Walk ds x p) (he : endW ds x p = x) (hu : us.length = p.length + 1) (hp : p.length ≤ 100) {f : Fo} (hF : Ft ds none x f.1 f.2) (hl : f.2.length ≤ 100) :
    (∀ w, callN P (k + 9) "_law_joined" [wk x us p, foD x f] w = .ok (wk x (jn us (f.1 ++ [0])) (p ++ f.2)) w) ∧ (∀ w, ∃ z : Int, callN P (k + 9) "foot_of" [hs R ds, wk x (jn us (f.1 ++ [0])) (p ++ f.2)] w = .ok (.tup [foD x (ld ds us p f), .int z]) w) ∧ Ft ds none x (ld ds us p f).1 (ld ds us p f).2 ∧ (ld ds us p f).2.length ≤ 200 := by
  have hql := hF.len
  have n1 : us ≠ [] := fun h => by subst h; simp at hu
  have n2 : f.1 ++ [0] ≠ [] := by simp
  have hj := jn_len n1 n2
  simp only [List.length_append, List.length_cons, List.length_nil] at hj
  have hwj : Walk ds x (p ++ f.2) := hw.app (by rw [he]; exact hF.walk)
  have huj : (jn us (f.1 ++ [0])).length = (p ++ f.2).length + 1 := by rw [List.length_append]; omega
  have hfo := fun w => s_foot_of (k := k + 2) (w := w) o hx hwj huj (by rw [List.length_append]; omega)
  obtain ⟨_, hG, hle⟩ := s_plain (k := k) (w := none) o hwj huj (by rw [List.length_append]; omega)
  rw [ru_jn f.2 ([], 0) hu n2] at hfo hG hle
  rw [List.length_append] at hle
  exact ⟨fun w => s_law_joined n1 n2 (by simp; omega) (by omega), fun w => ⟨_, hfo w⟩, hG, by show (nfP _).length ≤ 200; omega⟩
theorem fr_led (o : Ok R ds) {x : Nat} {us : List Int} {p : List Sp} (hp : On ds p) (hu : us.length = p.length + 1) {f g : Fo} (hF : Ft ds none x f.1 f.2) (hG : Ft ds none x g.1 g.2) : fr ds (ld ds us p f) (ld ds us p g) = fr ds f g :=
  far_led o hp hu (Walk.on hF.walk) hF.len (Walk.on hG.walk) hG.len
theorem med_led (o : Ok R ds) {x : Nat} {us : List Int} {p : List Sp} (hp : On ds p) (hu : us.length = p.length + 1) {m f g h : Fo} (hM : Ft ds none x m.1 m.2) (hF : Ft ds none x f.1 f.2) (hG : Ft ds none x g.1 g.2) (hH : Ft ds none x h.1 h.2) (hmd : Med ds m f g h) :
    Med ds (ld ds us p m) (ld ds us p f) (ld ds us p g) (ld ds us p h) := by
  unfold Med at hmd ⊢
  rw [fr_led o hp hu hM hF, fr_led o hp hu hM hG, fr_led o hp hu hM hH, fr_led o hp hu hF hG, fr_led o hp hu hF hH, fr_led o hp hu hG hH]
  exact hmd
instance (m f g h : Fo) : Decidable (Med ds m f g h) := by unfold Med; infer_instance
theorem mi_turn (o : Ok R ds) {x : Nat} (hx : x < R) {f g h a b : Fo} (hF : Ft ds none x f.1 f.2) (hG : Ft ds none x g.1 g.2) (hH : Ft ds none x h.1 h.2) (hA : Ft ds none x a.1 a.2) (hB : Ft ds none x b.1 b.2) (lf : f.2.length ≤ 300) (lg : g.2.length ≤ 300) (lh : h.2.length ≤ 300) (la : a.2.length ≤ 300) (lb : b.2.length ≤ 300)
    {i j : Nat} {z : D} (hi : ixD (.lst [foD x f, foD x g, foD x h]) (.int (i : Nat)) = some (foD x a)) (hj : ixD (.lst [foD x f, foD x g, foD x h]) (.int (j : Nat)) = some (foD x b)) :
    inB (.t [3, 4, 5]) (.tup [.int (i : Nat), .int (j : Nat), z]) [some (hs R ds), some (.lst [foD x f, foD x g, foD x h]), some (.lst [.int (fr ds f g : Nat), .int (fr ds f h : Nat), .int (fr ds g h : Nat)]), none, none, none, none, none, none] (fun env => exSs (callN P (k + 9)) miB env w) =
      if Med ds (shF a b) f g h then .ok (.ret (foD x (shF a b))) w else .ok (.next [some (hs R ds), some (.lst [foD x f, foD x g, foD x h]), some (.lst [.int (fr ds f g : Nat), .int (fr ds f h : Nat), .int (fr ds g h : Nat)]), none, none, none, none, none, none]) w := by
  have hS := shF_ft (g := b) hA
  have ls : (shF a b).2.length ≤ 300 := by
    have := (shF_len a b hA.len).1
    have h1 := lcp_le (zp a) (zp b)
    have h2 := zp_len hA.len
    omega
  have e1 : ∀ w, callN P (k + 9) "shared_foot" [hs R ds, foD x a, foD x b] w = .ok (foD x (shF a b)) w := fun w => s_shared_foot o hx hA hB la lb
  have e2 : ∀ q : Fo, q ∈ [f, g, h] → ∀ w, callN P (k + 9) "feet_between" [hs R ds, foD x (shF a b), foD x q] w = .ok (.int (fr ds (shF a b) q : Nat)) w := fun q hq w => by
    simp only [List.mem_cons, List.not_mem_nil, or_false] at hq
    rcases hq with rfl | rfl | rfl
    · exact s_btw o hx hS hF ls lf
    · exact s_btw o hx hS hG ls lg
    · exact s_btw o hx hS hH ls lh
  have c1 : ∀ w, evE (callN P (k + 9)) f_law_k01_middle_c1 [some (hs R ds), some (.lst [foD x f, foD x g, foD x h]), some (.lst [.int (fr ds f g : Nat), .int (fr ds f h : Nat), .int (fr ds g h : Nat)]), some (.int (i : Nat)), some (.int (j : Nat)), some z, some (foD x (shF a b)), none, none] w = .ok (.lst ([f, g, h].map fun q => .int (fr ds (shF a b) q : Nat))) w := fun w => by
    unfold f_law_k01_middle_c1
    refine ev_comp_of (w1 := w) (xs := [f, g, h].map (foD x)) ?_ ?_ (by simp)
    · simp -implicitDefEqProofs only [evi_seq, ev_v, look_zero, look_succ, lift_some, Rp.R.bind_ok, items_lst, List.map_cons, List.map_nil]
    · exact mapL_ok _ (foD x) (fun q => .int (fr ds (shF a b) q : Nat)) w [f, g, h] (fun q hq => by
        simp -implicitDefEqProofs only [inB_n, List.set_cons_zero, List.set_cons_succ, ev_call, evs_cons, evs_nil, ev_v, look_zero, look_succ, lift_some, Rp.R.bind_ok, e2 q hq])
  rw [inB_t _ _ _ _ rfl]
  have l0 : ∀ a b c : D, ixD (.lst [a, b, c]) (.int 0) = some a := fun _ _ _ => rfl
  have l1 : ∀ a b c : D, ixD (.lst [a, b, c]) (.int 1) = some b := fun _ _ _ => rfl
  have l2 : ∀ a b c : D, ixD (.lst [a, b, c]) (.int 2) = some c := fun _ _ _ => rfl
  by_cases hm : Med ds (shF a b) f g h
  · rw [if_pos hm]
    have hc : decide ((fr ds (shF a b) f : Int) + (fr ds (shF a b) g : Int) = (fr ds f g : Int) ∧ (fr ds (shF a b) f : Int) + (fr ds (shF a b) h : Int) = (fr ds f h : Int) ∧ (fr ds (shF a b) g : Int) + (fr ds (shF a b) h : Int) = (fr ds g h : Int)) = true := by
      unfold Med at hm
      rw [decide_eq_true_eq]
      omega
    simp -implicitDefEqProofs only [miB, exs_cons, exs_nil, setAll_cons, setAll_nil, ex_asg, ex_ifs, ex_ret, List.set_cons_zero, List.set_cons_succ, ev_call, ev_ix, evs_cons, evs_nil, ev_v, look_zero, look_succ, lift_some, Rp.R.bind_ok, hi, hj, e1, c1, thenS_next, List.map_cons, List.map_nil, ev_cmp, ev_lst, ev_bin, ev_c, l0, l1, l2, b_add, cmp_eq, eqO3, hc, Option.map_some, Rp.cond_true, thenS_ret]
  · rw [if_neg hm]
    have hc : decide ((fr ds (shF a b) f : Int) + (fr ds (shF a b) g : Int) = (fr ds f g : Int) ∧ (fr ds (shF a b) f : Int) + (fr ds (shF a b) h : Int) = (fr ds f h : Int) ∧ (fr ds (shF a b) g : Int) + (fr ds (shF a b) h : Int) = (fr ds g h : Int)) = false := by
      unfold Med at hm
      rw [decide_eq_false_iff_not]
      omega
    simp -implicitDefEqProofs only [miB, exs_cons, exs_nil, setAll_cons, setAll_nil, ex_asg, ex_ifs, ex_ret, ex_kill, kill, List.set_cons_zero, List.set_cons_succ, ev_call, ev_ix, evs_cons, evs_nil, ev_v, look_zero, look_succ, lift_some, Rp.R.bind_ok, hi, hj, e1, c1, thenS_next, List.map_cons, List.map_nil, ev_cmp, ev_lst, ev_bin, ev_c, l0, l1, l2, b_add, cmp_eq, eqO3, hc, Option.map_some, Rp.cond_false]
theorem s_middle (o : Ok R ds) {x : Nat} (hx : x < R) {m f g h : Fo} (hM : Ft ds none x m.1 m.2) (hF : Ft ds none x f.1 f.2) (hG : Ft ds none x g.1 g.2) (hH : Ft ds none x h.1 h.2) (lf : f.2.length ≤ 300) (lg : g.2.length ≤ 300) (lh : h.2.length ≤ 300) (hm : Med ds m f g h) :
    callN P (k + 10) "_law_k01_middle" [hs R ds, .lst [foD x f, foD x g, foD x h]] w = .ok (foD x m) w := by
  have l0 : ∀ a b c : D, ixD (.lst [a, b, c]) (.int 0) = some a := fun _ _ _ => rfl
  have l1 : ∀ a b c : D, ixD (.lst [a, b, c]) (.int 1) = some b := fun _ _ _ => rfl
  have l2 : ∀ a b c : D, ixD (.lst [a, b, c]) (.int 2) = some c := fun _ _ _ => rfl
  have e1 : ∀ w, callN P (k + 9) "feet_between" [hs R ds, foD x f, foD x g] w = .ok (.int (fr ds f g : Nat)) w := fun w => s_btw o hx hF hG lf lg
  have e2 : ∀ w, callN P (k + 9) "feet_between" [hs R ds, foD x f, foD x h] w = .ok (.int (fr ds f h : Nat)) w := fun w => s_btw o hx hF hH lf lh
  have e3 : ∀ w, callN P (k + 9) "feet_between" [hs R ds, foD x g, foD x h] w = .ok (.int (fr ds g h : Nat)) w := fun w => s_btw o hx hG hH lg lh
  have t1 := mi_turn (k := k) (w := w) (z := .int 2) o hx hF hG hH hF hG lf lg lh lf lg (i := 0) (j := 1) rfl rfl
  have t2 := mi_turn (k := k) (w := w) (z := .int 1) o hx hF hG hH hF hH lf lg lh lf lh (i := 0) (j := 2) rfl rfl
  have t3 := mi_turn (k := k) (w := w) (z := .int 0) o hx hF hG hH hG hH lf lg lh lg lh (i := 1) (j := 2) rfl rfl
  have u : ∀ {a b : Fo}, Ft ds none x a.1 a.2 → Med ds (shF a b) f g h → shF a b = m := fun ha q => med_uniq o (shF_ft ha) hM hF hG hH q hm
  have el : exS (callN P (k + 9)) f_law_k01_middle_l1 [some (hs R ds), some (.lst [foD x f, foD x g, foD x h]), some (.lst [.int (fr ds f g : Nat), .int (fr ds f h : Nat), .int (fr ds g h : Nat)]), none, none, none, none, none, none] w = .ok (.ret (foD x m)) w := by
    unfold f_law_k01_middle_l1
    refine ex_for_of (xs := [.tup [.int ((0 : Nat) : Int), .int ((1 : Nat) : Int), .int 2], .tup [.int ((0 : Nat) : Int), .int ((2 : Nat) : Int), .int 1], .tup [.int ((1 : Nat) : Int), .int ((2 : Nat) : Int), .int 0]]) (w1 := w) ?_ ?_
    · simp -implicitDefEqProofs only [evi_seq, ev_lst, ev_tup, ev_c, evs_cons, evs_nil, Rp.R.bind_ok, lift_some, items_lst]
      rfl
    · rw [forL]
      refine (congrArg (fun r => turnS r _) t1).trans ?_
      by_cases q1 : Med ds (shF f g) f g h
      · rw [if_pos q1, turnS_ret, u hF q1]
      · rw [if_neg q1, turnS_next, forL]
        refine (congrArg (fun r => turnS r _) t2).trans ?_
        by_cases q2 : Med ds (shF f h) f g h
        · rw [if_pos q2, turnS_ret, u hF q2]
        · rw [if_neg q2, turnS_next, forL]
          refine (congrArg (fun r => turnS r _) t3).trans ?_
          rcases med_ex o hF hG hH with q | q | q
          · exact absurd q q1
          · exact absurd q q2
          · rw [if_pos q, turnS_ret, u hG q]
  rw [call_def (fn := f_law_k01_middle) rfl rfl _ _ _ rfl]
  simp -implicitDefEqProofs only [f_law_k01_middle, start, List.map_cons, List.map_nil, List.length_cons, List.length_nil, exs_cons, exs_nil, ex_asg, ex_kill, kill, ev_lst, ev_call, ev_ix, ev_c, evs_cons, evs_nil, ev_v, List.cons_append, List.nil_append, List.replicate, Nat.reduceAdd, Nat.reduceSub, List.set_cons_zero, List.set_cons_succ, look_zero, look_succ, lift_some, Rp.R.bind_ok, l0, l1, l2, e1, e2, e3, thenS_next, el, thenS_ret, endD_ret]
end
end Lw
end

section
set_option linter.all false
set_option maxRecDepth 100000
namespace Lw
open Rp
/-! ### moves -/
/-- a move that can be done -/
inductive MvOk (ds : List Dr) (x : Nat) (us : List Int) (p : List Sp) : D → Prop
  | carry (i : Nat) (t : Int) (h : i < p.length) : MvOk ds x us p (.tup [.str "carry", .int i, .int t])
  | cancel (i : Nat) (h : i + 1 < p.length) (ht : p[i + 1] = tn p[i]) (hz : us[i + 1]? = some 0) : MvOk ds x us p (.tup [.str "cancel", .int i])
  | put (i : Nat) (s : Sp) (a : Int) (h : i ≤ p.length) (hs : s.i < ds.length) (hn : (gt ds s).n = endW ds x (p.take i)) : MvOk ds x us p (.tup [.str "put", .int i, st s, .int a])
section
variable {k : Nat} {w : W} {R : Nat} {ds : List Dr}
theorem s_law_whole (i : Int) : callN P (k + 1) "_law_is_whole" [.int i] w = .ok (.bl true) w := by
  rw [call_def (fn := f_law_is_whole) rfl rfl _ _ _ rfl]
  simp [f_law_is_whole, start, isiD]
theorem s_pf_turned (s : Sp) : callN P (k + 1) "_law_pf_turned" [st s] w = .ok (st (tn s)) w := by
  have i0 : ixD (st s) (.int 0) = some (.int s.i) := by simp [st]
  have i1 : ixD (st s) (.int 1) = some (.int (if s.s then 1 else 0)) := by unfold st; simp
  rw [call_def (fn := f_law_pf_turned) rfl rfl _ _ _ rfl]
  simp -implicitDefEqProofs only [f_law_pf_turned, start, List.map_cons, List.map_nil, List.length_cons, List.length_nil, exs_cons, exs_nil, ex_ret, ev_tup, ev_bin, ev_ix, ev_c, evs_cons, evs_nil, ev_v, List.cons_append, List.nil_append, List.replicate, Nat.reduceAdd, Nat.reduceSub, look_zero, look_succ, lift_some, Rp.R.bind_ok, i0, i1, b_sub, st_tn, thenS_ret, endD_ret]
theorem s_pf_turns_no {x : Nat} {us : List Int} {p : List Sp} {i : Nat} (h : ¬ i + 1 < p.length) : callN P (k + 2) "_law_pf_turns" [drs ds, wk x us p, .int i] w = .ok (.bl false) w := by
  rw [call_def (fn := f_law_pf_turns) rfl rfl _ _ _ rfl]
  have h1 : decide ((0 : Int) ≤ (i : Int)) = true := by simp
  have h2 : decide ((i : Int) < (p.length : Int) - 1) = false := by rw [decide_eq_false_iff_not]; omega
  simp -implicitDefEqProofs only [f_law_pf_turns, start, List.map_cons, List.map_nil, List.length_cons, List.length_nil, exs_cons, exs_nil, ex_asg, ex_ifs, ex_ret, ev_not, ev_chain, ev_bi, ev_bin, ev_ix, ev_c, evs_cons, evs_nil, ev_v, List.cons_append, List.nil_append, List.replicate, Nat.reduceAdd, Nat.reduceSub, List.set_cons_zero, List.set_cons_succ, look_zero, look_succ, lift_some, Rp.R.bind_ok, wk2, len_sts, b_sub, cmp_le, cmp_lt, h1, h2, Option.map_some, Rp.cond_true, Rp.cond_false, Bool.not_false, thenS_next, thenS_ret, endD_ret]
theorem s_pf_turns {x : Nat} {us : List Int} {p : List Sp} {i : Nat} (h : i + 1 < p.length) : callN P (k + 2) "_law_pf_turns" [drs ds, wk x us p, .int i] w = .ok (.bl (decide (p[i + 1] = tn p[i]))) w := by
  have h1 : decide ((0 : Int) ≤ (i : Int)) = true := by simp
  have h2 : decide ((i : Int) < (p.length : Int) - 1) = true := by rw [decide_eq_true_eq]; omega
  have e1 : ∀ w, callN P (k + 1) "_law_pf_turned" [st p[i]] w = .ok (st (tn p[i])) w := fun w => s_pf_turned _
  rw [call_def (fn := f_law_pf_turns) rfl rfl _ _ _ rfl]
  simp -implicitDefEqProofs only [f_law_pf_turns, start, List.map_cons, List.map_nil, List.length_cons, List.length_nil, exs_cons, exs_nil, ex_asg, ex_ifs, ex_ret, ev_not, ev_chain, ev_bi, ev_bin, ev_ix, ev_c, ev_cmp, ev_call, evs_cons, evs_nil, ev_v, List.cons_append, List.nil_append, List.replicate, Nat.reduceAdd, Nat.reduceSub, List.set_cons_zero, List.set_cons_succ, look_zero, look_succ, lift_some, Rp.R.bind_ok, wk2, len_sts, b_sub, b_add, cmp_le, cmp_lt, h1, h2, Option.map_some, Rp.cond_true, Rp.cond_false, Bool.not_true, thenS_next, ix_sts1 h, ix_sts (show i < p.length by omega), e1, cmp_eq, st_eqO, thenS_ret, endD_ret]
theorem s_pf_room {x : Nat} {us : List Int} {p : List Sp} {i : Nat} (hon : On ds p) (h : i ≤ p.length) : callN P (k + 2) "_law_pf_room" [drs ds, wk x us p, .int i] w = .ok (.int (endW ds x (p.take i))) w := by
  rw [call_def (fn := f_law_pf_room) rfl rfl _ _ _ rfl]
  rcases Nat.eq_zero_or_pos i with h0 | h0
  · subst h0
    have h1 : decide ((0 : Int) < ((0 : Nat) : Int)) = false := by simp
    simp -implicitDefEqProofs only [f_law_pf_room, start, List.map_cons, List.map_nil, List.length_cons, List.length_nil, exs_cons, exs_nil, ex_ret, ev_ite, ev_cmp, ev_ix, ev_c, evs_cons, evs_nil, ev_v, List.cons_append, List.nil_append, List.replicate, Nat.reduceAdd, Nat.reduceSub, look_zero, look_succ, lift_some, Rp.R.bind_ok, cmp_gt, h1, Option.map_some, Rp.cond_false, wk0, thenS_ret, endD_ret]
    rfl
  · obtain ⟨j, rfl⟩ : ∃ j, i = j + 1 := ⟨i - 1, by omega⟩
    have hj : j < p.length := by omega
    have h1 : decide ((0 : Int) < ((j + 1 : Nat) : Int)) = true := by rw [decide_eq_true_eq]; omega
    have h2 : ((j + 1 : Nat) : Int) - 1 = (j : Int) := by omega
    have hg : ∀ w, callN P (k + 1) "_law_gate" [drs ds, st p[j]] w = .ok (dr (gt ds p[j])) w := fun w => s_law_gate (hon _ (List.getElem_mem hj))
    have d2 : ixD (dr (gt ds p[j])) (.int 2) = some (.int (gt ds p[j]).f) := by unfold dr; simp
    have he : endW ds x (p.take (j + 1)) = (gt ds p[j]).f := by rw [List.take_succ_eq_append_getElem hj, endW_app]
    rw [he]
    simp -implicitDefEqProofs only [f_law_pf_room, start, List.map_cons, List.map_nil, List.length_cons, List.length_nil, exs_cons, exs_nil, ex_ret, ev_ite, ev_cmp, ev_ix, ev_c, ev_call, ev_bin, evs_cons, evs_nil, ev_v, List.cons_append, List.nil_append, List.replicate, Nat.reduceAdd, Nat.reduceSub, look_zero, look_succ, lift_some, Rp.R.bind_ok, cmp_gt, h1, Option.map_some, Rp.cond_true, b_sub, h2, wk2, ix_sts hj, hg, d2, thenS_ret, endD_ret]
theorem s_pf_carried (o : Ok R ds) {x : Nat} {us : List Int} {p : List Sp} (hon : On ds p) (hu : us.length = p.length + 1) {i : Nat} (t : Int) (h : i < p.length) : ∃ us' : List Int, us'.length = us.length ∧ ∀ w, callN P (k + 2) "_law_pf_carried" [drs ds, wk x us p, .int i, .int t] w = .ok (wk x us' p) w := by
  have hs := hon _ (List.getElem_mem h)
  obtain ⟨_, _, _, _, a1, a2, b1, b2⟩ := o.gt hs
  have hg : ∀ w, callN P (k + 1) "_law_gate" [drs ds, st p[i]] w = .ok (dr (gt ds p[i])) w := fun w => s_law_gate hs
  have hu4 : uItems (dr (gt ds p[i])) = some [.int (gt ds p[i]).n, .int (gt ds p[i]).a, .int (gt ds p[i]).f, .int (gt ds p[i]).b] := rfl
  have m1 : binD .mul (.int (gt ds p[i]).a) (.int t) = some (.int ((gt ds p[i]).a * t)) := b_mul (mul_l _ (by omega))
  have m2 : binD .mul (.int (gt ds p[i]).b) (.int t) = some (.int ((gt ds p[i]).b * t)) := b_mul (mul_l _ (by omega))
  have lt1 : ∀ vs : List Int, biD .list [tI vs] = some (.lst (vs.map D.int)) := fun vs => rfl
  have ixl : ∀ (vs : List Int) (j : Nat) (hj : j < vs.length), ixD (.lst (vs.map D.int)) (.int (j : Nat)) = some (.int vs[j]) := fun vs j hj => by
    rw [ix_lst (by simpa using hj)]; simp
  have ixl1 : ∀ (vs : List Int) (j : Nat) (hj : j + 1 < vs.length), ixD (.lst (vs.map D.int)) (.int ((j : Int) + 1)) = some (.int vs[j + 1]) := fun vs j hj => ixl vs (j + 1) hj
  have stl : ∀ (vs : List Int) (j : Nat) (y : Int) (hj : j < vs.length), setD (.lst (vs.map D.int)) (.int (j : Nat)) (.int y) = some (.lst ((vs.set j y).map D.int)) := fun vs j y hj => by
    have : ixN (vs.map D.int).length (j : Nat) = some j := by
      unfold ixN
      rw [if_pos (by omega), if_pos (by rw [List.length_map]; omega)]
      simp
    simp only [setD, this, Option.map_some, List.map_set]
  have stl1 : ∀ (vs : List Int) (j : Nat) (y : Int) (hj : j + 1 < vs.length), setD (.lst (vs.map D.int)) (.int ((j : Int) + 1)) (.int y) = some (.lst ((vs.set (j + 1) y).map D.int)) := fun vs j y hj => stl vs (j + 1) y hj
  have hi : i < us.length := by omega
  refine ⟨(us.set i (us[i] - (gt ds p[i]).a * t)).set (i + 1) ((us.set i (us[i] - (gt ds p[i]).a * t))[i + 1]'(by simp; omega) + (gt ds p[i]).b * t), by simp, fun w => ?_⟩
  have hl1 : i + 1 < (us.set i (us[i] - (gt ds p[i]).a * t)).length := by simp; omega
  have fin : ∀ vs : List Int, D.tup [.int x, .tup (vs.map D.int), sts p] = wk x vs p := fun vs => rfl
  rw [call_def (fn := f_law_pf_carried) rfl rfl _ _ _ rfl]
  simp -implicitDefEqProofs only [f_law_pf_carried, start, List.map_cons, List.map_nil, List.length_cons, List.length_nil, exs_cons, exs_nil, ex_unpack, ex_asgO, ex_setix, ex_ret, isMut, if_true, setAll_cons, setAll_nil, ev_call, ev_bi, ev_bin, ev_ix, ev_tup, ev_c, evs_cons, evs_nil, ev_v, List.cons_append, List.nil_append, List.replicate, Nat.reduceAdd, Nat.reduceSub, List.set_cons_zero, List.set_cons_succ, look_zero, look_succ, lift_some, Rp.R.bind_ok, wk0, wk1, wk2, ix_sts h, hg, hu4, lt1, ixl us i hi, m1, b_sub, stl us i _ hi, b_add, ixl1 _ i hl1, m2, stl1 _ i _ hl1, bi_tuple_lst, fin, thenS_next, thenS_ret, endD_ret]
theorem s_pf_cancelled {x : Nat} {A B : List Int} {u v y : Int} {pa pb : List Sp} {s t : Sp} {i : Nat} (hA : A.length = i) (hp : pa.length = i) (h1 : A.length + B.length ≤ 900) (h2 : pa.length + pb.length ≤ 900) :
    callN P (k + 1) "_law_pf_cancelled" [wk x (A ++ u :: v :: y :: B) (pa ++ s :: t :: pb), .int i] w = .ok (wk x (A ++ (u + y) :: B) (pa ++ pb)) w := by
  subst hA
  have i1 : ixD (tI (A ++ u :: v :: y :: B)) (.int (A.length : Nat)) = some (.int u) := by
    unfold tI
    exact atI_nat (by simp)
  have i2 : ixD (tI (A ++ u :: v :: y :: B)) (.int ((A.length : Int) + 2)) = some (.int y) := by
    unfold tI
    exact atI_nat (i := A.length + 2) (by simp)
  have c1 : slD (tI (A ++ u :: v :: y :: B)) none (some (A.length : Int)) = some (tI A) := by
    simp only [slD, tI, cut_to]
    simp
  have c2 : slD (tI (A ++ u :: v :: y :: B)) (some ((A.length : Int) + 3)) none = some (tI B) := by
    have := cut_from ((A ++ u :: v :: y :: B).map D.int) (A.length + 3)
    simp only [slD, tI]
    rw [show ((A.length : Int) + 3) = ((A.length + 3 : Nat) : Int) by omega, this, List.map_append, List.drop_append, List.drop_eq_nil_of_le (by simp)]
    simp
  have c3 : slD (sts (pa ++ s :: t :: pb)) none (some (A.length : Int)) = some (sts pa) := by
    simp only [slD, sts, cut_to, ← hp]
    simp
  have c4 : slD (sts (pa ++ s :: t :: pb)) (some ((A.length : Int) + 2)) none = some (sts pb) := by
    have := cut_from ((pa ++ s :: t :: pb).map st) (A.length + 2)
    simp only [slD, sts]
    rw [show ((A.length : Int) + 2) = ((A.length + 2 : Nat) : Int) by omega, this, ← hp, List.map_append, List.drop_append, List.drop_eq_nil_of_le (by simp)]
    simp
  have a1 : binD .add (tI A) (.tup [.int (u + y)]) = some (tI (A ++ [u + y])) := by
    rw [tI_app]; exact b_addT (by simp; omega)
  have a2 : binD .add (tI (A ++ [u + y])) (tI B) = some (tI (A ++ (u + y) :: B)) := by
    unfold tI
    rw [b_addT (by simp; omega)]
    simp
  have a3 : binD .add (sts pa) (sts pb) = some (sts (pa ++ pb)) := by
    unfold sts
    rw [b_addT (by simp; omega)]
    simp
  have hmt : mutsOk [0, 0] [tI (A ++ u :: v :: y :: B), sts (pa ++ s :: t :: pb)] = true := rfl
  rw [call_def (fn := f_law_pf_cancelled) rfl rfl _ _ _ rfl]
  simp -implicitDefEqProofs only [f_law_pf_cancelled, start, List.map_cons, List.map_nil, List.length_cons, List.length_nil, exs_cons, exs_nil, ex_parO, ex_asg, ex_ret, ev_tup, ev_bin, ev_sl1, ev_sl2, ev_ix, ev_c, bdI, Option.bind_some, evs_cons, evs_nil, ev_v, List.cons_append, List.nil_append, List.replicate, Nat.reduceAdd, Nat.reduceSub, List.set_cons_zero, List.set_cons_succ, look_zero, look_succ, lift_some, Rp.R.bind_ok, hmt, and_self, if_true, setAll_cons, setAll_nil, thenS_next, thenS_ret, endD_ret, wk0, wk1, wk2, i1, b_add, i2, c1, c2, c3, c4, a1, a2, a3]
  rfl
theorem s_pf_put {x : Nat} {A B : List Int} {u a : Int} {pa pb : List Sp} {s : Sp} {i : Nat} (hA : A.length = i) (hp : pa.length = i) (h1 : A.length + B.length ≤ 900) (h2 : pa.length + pb.length ≤ 900) :
    callN P (k + 2) "_law_pf_put" [wk x (A ++ u :: B) (pa ++ pb), .int i, st s, .int a] w = .ok (wk x (A ++ a :: 0 :: (u - a) :: B) (pa ++ s :: tn s :: pb)) w := by
  subst hA
  have e1 : ∀ w, callN P (k + 1) "_law_pf_turned" [st s] w = .ok (st (tn s)) w := fun w => s_pf_turned _
  have i1 : ixD (tI (A ++ u :: B)) (.int (A.length : Nat)) = some (.int u) := by
    unfold tI
    exact atI_nat (by simp)
  have c1 : slD (tI (A ++ u :: B)) none (some (A.length : Int)) = some (tI A) := by
    simp only [slD, tI, cut_to]
    simp
  have c2 : slD (tI (A ++ u :: B)) (some ((A.length : Int) + 1)) none = some (tI B) := by
    have := cut_from ((A ++ u :: B).map D.int) (A.length + 1)
    simp only [slD, tI]
    rw [show ((A.length : Int) + 1) = ((A.length + 1 : Nat) : Int) by omega, this, List.map_append, List.drop_append, List.drop_eq_nil_of_le (by simp)]
    simp
  have c3 : slD (sts (pa ++ pb)) none (some (A.length : Int)) = some (sts pa) := by
    simp only [slD, sts, cut_to, ← hp]
    simp
  have c4 : slD (sts (pa ++ pb)) (some (A.length : Int)) none = some (sts pb) := by
    have := cut_from ((pa ++ pb).map st) A.length
    simp only [slD, sts]
    rw [this, ← hp, List.map_append, List.drop_append, List.drop_eq_nil_of_le (by simp)]
    simp
  have a1 : binD .add (tI A) (.tup [.int a, .int 0, .int (u - a)]) = some (tI (A ++ [a, 0, u - a])) := by
    unfold tI
    rw [b_addT (by simp; omega)]
    simp
  have a2 : binD .add (tI (A ++ [a, 0, u - a])) (tI B) = some (tI (A ++ a :: 0 :: (u - a) :: B)) := by
    unfold tI
    rw [b_addT (by simp; omega)]
    simp
  have a3 : binD .add (sts pa) (.tup [st s, st (tn s)]) = some (sts (pa ++ [s, tn s])) := by
    unfold sts
    rw [b_addT (by simp; omega)]
    simp
  have a4 : binD .add (sts (pa ++ [s, tn s])) (sts pb) = some (sts (pa ++ s :: tn s :: pb)) := by
    unfold sts
    rw [b_addT (by simp; omega)]
    simp
  have hmt : mutsOk [0, 0] [tI (A ++ u :: B), sts (pa ++ pb)] = true := rfl
  rw [call_def (fn := f_law_pf_put) rfl rfl _ _ _ rfl]
  simp -implicitDefEqProofs only [f_law_pf_put, start, List.map_cons, List.map_nil, List.length_cons, List.length_nil, exs_cons, exs_nil, ex_parO, ex_asg, ex_ret, ev_tup, ev_bin, ev_sl1, ev_sl2, ev_ix, ev_c, ev_call, bdI, Option.bind_some, evs_cons, evs_nil, ev_v, List.cons_append, List.nil_append, List.replicate, Nat.reduceAdd, Nat.reduceSub, List.set_cons_zero, List.set_cons_succ, look_zero, look_succ, lift_some, Rp.R.bind_ok, hmt, and_self, if_true, setAll_cons, setAll_nil, thenS_next, thenS_ret, endD_ret, wk0, wk1, wk2, i1, b_sub, b_add, e1, c1, c2, c3, c4, a1, a2, a3, a4]
  rfl
theorem s_pf_in {i n : Nat} (h : i < n) : callN P (k + 2) "_law_pf_in" [.int i, .int n] w = .ok (.bl true) w := by
  have h1 : decide ((0 : Int) ≤ (i : Int)) = true := by simp
  have h2 : decide ((i : Int) < (n : Int)) = true := by rw [decide_eq_true_eq]; omega
  rw [call_def (fn := f_law_pf_in) rfl rfl _ _ _ rfl]
  simp -implicitDefEqProofs [f_law_pf_in, start, s_law_whole, h1, h2]
  try exact h
theorem s_pf_is_step {s : Sp} (h : s.i < ds.length) : callN P (k + 2) "_law_pf_is_step" [drs ds, st s] w = .ok (.bl true) w := by
  have h1 : decide ((0 : Int) ≤ (s.i : Int)) = true := by simp
  have h2 : decide ((s.i : Int) < (ds.length : Int)) = true := by rw [decide_eq_true_eq]; omega
  have i0 : ixD (st s) (.int 0) = some (.int s.i) := by simp [st]
  have i1 : ixD (st s) (.int 1) = some (.int (if s.s then 1 else 0)) := by unfold st; simp
  have l1 : biD .len [st s] = some (.int 2) := rfl
  have l2 : biD .len [drs ds] = some (.int (ds.length : Nat)) := by simp [drs]
  have t1 : isiD (st s) .tuple = some true := rfl
  have q1 : D.eqO (.int 2) (.int 2) = some true := rfl
  have in1 : inD (.int (if s.s then 1 else 0)) (.tup [.int 0, .int 1]) = some true := by cases s.s <;> rfl
  have e1 : ∀ i w, callN P (k + 1) "_law_is_whole" [.int i] w = .ok (.bl true) w := fun i w => s_law_whole i
  have cin : ∀ a b, cmpD .in_ a b = inD a b := fun a b => by cases a <;> cases b <;> rfl
  rw [call_def (fn := f_law_pf_is_step) rfl rfl _ _ _ rfl]
  simp -implicitDefEqProofs only [f_law_pf_is_step, start, List.map_cons, List.map_nil, List.length_cons, List.length_nil, exs_cons, exs_nil, ex_ifs, ex_ret, ev_or, ev_and, ev_not, ev_isi, ev_cmp, ev_chain, ev_bi, ev_ix, ev_call, ev_tup, ev_c, evs_cons, evs_nil, ev_v, List.cons_append, List.nil_append, List.replicate, Nat.reduceAdd, Nat.reduceSub, look_zero, look_succ, lift_some, Rp.R.bind_ok, t1, Option.map_some, Bool.not_true, Rp.cond_false, Rp.cond_true, l1, cmp_ne, q1, i0, i1, e1, thenS_next, cmp_le, cmp_lt, h1, h2, l2, cin, in1, thenS_ret, endD_ret]
end
end Lw
end

section
set_option linter.all false
set_option maxRecDepth 100000
namespace Lw
open Rp
theorem Walk.putIn {ds : List Dr} {s : Sp} {pb : List Sp} (hs : s.i < ds.length) : ∀ {pa : List Sp} {x : Nat}, Walk ds x (pa ++ pb) → (gt ds s).n = endW ds x pa → Walk ds x (pa ++ s :: tn s :: pb)
  | [], x, h, hn => by
    refine ⟨hs, hn, hs, ?_, ?_⟩
    · rw [gt_tn]; rfl
    · rw [gt_tn]
      have : (gt ds s).flip.f = x := hn
      rw [this]; exact h
  | t :: pa, x, h, hn => ⟨h.1, h.2.1, Walk.putIn hs h.2.2 hn⟩
section
variable {k : Nat} {R : Nat} {ds : List Dr}
theorem s_pf_behind (o : Ok R ds) {x : Nat} {us : List Int} {p : List Sp} {d : D} (hW : Walk ds x p) (hu : us.length = p.length + 1) (hl : p.length ≤ 400) (hm : MvOk ds x us p d) :
    ∃ (us' : List Int) (p' : List Sp), (∀ w, callN P (k + 3) "_law_pf_behind" [drs ds, wk x us p, d] w = .ok (wk x us' p') w) ∧ Walk ds x p' ∧ us'.length = p'.length + 1 ∧ p'.length ≤ p.length + 2 := by
  have hon := Walk.on hW
  have t1 : ∀ xs, isiD (.tup xs) .tuple = some true := fun xs => rfl
  have t2 : ∀ s, isiD (.str s) .str = some true := fun s => rfl
  have s1 : D.eqO (.str "carry") (.str "carry") = some true := by rfl
  have s2 : D.eqO (.str "cancel") (.str "carry") = some false := by rfl
  have s3 : D.eqO (.str "cancel") (.str "cancel") = some true := by rfl
  have s4 : D.eqO (.str "put") (.str "carry") = some false := by rfl
  have s5 : D.eqO (.str "put") (.str "cancel") = some false := by rfl
  have s6 : D.eqO (.str "put") (.str "put") = some true := by rfl
  have l2 : ∀ a b : D, biD .len [.tup [a, b]] = some (.int 2) := fun _ _ => rfl
  have l3 : ∀ a b c : D, biD .len [.tup [a, b, c]] = some (.int 3) := fun _ _ _ => rfl
  have l4 : ∀ a b c e : D, biD .len [.tup [a, b, c, e]] = some (.int 4) := fun _ _ _ _ => rfl
  have q2 : D.eqO (.int 2) (.int 2) = some true := rfl
  have q3 : D.eqO (.int 3) (.int 3) = some true := rfl
  have q4 : D.eqO (.int 4) (.int 4) = some true := rfl
  have q0 : D.eqO (.int 0) (.int 0) = some true := rfl
  have x0 : ∀ (a : D) (r : List D), ixD (.tup (a :: r)) (.int 0) = some a := fun a r => by simp
  have x1 : ∀ (a b : D) (r : List D), ixD (.tup (a :: b :: r)) (.int 1) = some b := fun a b r => by
    exact atI_nat (i := 1) (by simp)
  have x2 : ∀ (a b c : D) (r : List D), ixD (.tup (a :: b :: c :: r)) (.int 2) = some c := fun a b c r => by
    exact atI_nat (i := 2) (by simp)
  have x3 : ∀ (a b c e : D) (r : List D), ixD (.tup (a :: b :: c :: e :: r)) (.int 3) = some e := fun a b c e r => by
    exact atI_nat (i := 3) (by simp)
  have wh : ∀ i w, callN P (k + 2) "_law_is_whole" [.int i] w = .ok (.bl true) w := fun i w => s_law_whole i
  cases hm with
  | carry i t h =>
    obtain ⟨us', h1, e1⟩ := s_pf_carried (k := k) o hon hu t h (x := x)
    have hin : ∀ w, callN P (k + 2) "_law_pf_in" [.int i, .int (p.length : Nat)] w = .ok (.bl true) w := fun w => s_pf_in h
    have ne : D.eqO (.tup [.str "carry", .int i, .int t]) (.tup []) = some false := by
      rw [eqO_tup_nil (fun d hd => by simp at hd; rcases hd with rfl | rfl | rfl <;> simp [D.pl, D.dep])]; rfl
    refine ⟨us', p, fun w => ?_, hW, by omega, by omega⟩
    rw [call_def (fn := f_law_pf_behind) rfl rfl _ _ _ rfl]
    simp -implicitDefEqProofs only [f_law_pf_behind, start, List.map_cons, List.map_nil, List.length_cons, List.length_nil, exs_cons, exs_nil, ex_ifs, ex_asg, ex_ret, ev_or, ev_and, ev_not, ev_isi, ev_cmp, ev_bi, ev_ix, ev_call, ev_tup, ev_c, evs_cons, evs_nil, ev_v, List.cons_append, List.nil_append, List.replicate, Nat.reduceAdd, Nat.reduceSub, List.set_cons_zero, List.set_cons_succ, look_zero, look_succ, lift_some, Rp.R.bind_ok, t1, t2, Option.map_some, Bool.not_true, Rp.cond_false, Rp.cond_true, cmp_eq, ne, x0, x1, x2, wk2, len_sts, s1, l3, q3, hin, wh, e1, thenS_next, thenS_ret, endD_ret]
  | cancel i h ht hz =>
    have hi : i + 2 < us.length := by omega
    have hon := Walk.on hW
    have hz' : us[i + 1]'(by omega) = 0 := by
      rw [List.getElem?_eq_getElem (by omega)] at hz
      simpa using hz
    have eu : us = us.take i ++ us[i]'(by omega) :: us[i + 1]'(by omega) :: us[i + 2] :: us.drop (i + 3) := by
      rw [← List.drop_eq_getElem_cons, ← List.drop_eq_getElem_cons, ← List.drop_eq_getElem_cons, List.take_append_drop]
    have ep : p = p.take i ++ p[i]'(by omega) :: p[i + 1] :: p.drop (i + 2) := by
      rw [← List.drop_eq_getElem_cons, ← List.drop_eq_getElem_cons, List.take_append_drop]
    have hca : ∀ w, callN P (k + 2) "_law_pf_cancelled" [wk x us p, .int i] w = .ok (wk x (us.take i ++ (us[i]'(by omega) + us[i + 2]) :: us.drop (i + 3)) (p.take i ++ p.drop (i + 2))) w := fun w => by
      have := s_pf_cancelled (k := k + 1) (w := w) (x := x) (A := us.take i) (B := us.drop (i + 3)) (u := us[i]'(by omega)) (v := us[i + 1]'(by omega)) (y := us[i + 2]) (pa := p.take i) (pb := p.drop (i + 2)) (s := p[i]'(by omega)) (t := p[i + 1]) (i := i) (by simp; omega) (by simp; omega) (by simp; omega) (by simp; omega)
      rw [← eu, ← ep] at this
      exact this
    have htn : ∀ w, callN P (k + 2) "_law_pf_turns" [drs ds, wk x us p, .int i] w = .ok (.bl true) w := fun w => by
      have := s_pf_turns (k := k) (w := w) (ds := ds) (x := x) (us := us) h
      rw [decide_eq_true ht] at this
      exact this
    have hin : ∀ w, callN P (k + 2) "_law_pf_in" [.int i, .int (p.length : Nat)] w = .ok (.bl true) w := fun w => s_pf_in (by omega)
    have ne : D.eqO (.tup [.str "cancel", .int i]) (.tup []) = some false := by
      rw [eqO_tup_nil (fun d hd => by simp at hd; rcases hd with rfl | rfl <;> simp [D.pl, D.dep])]; rfl
    have hWc : Walk ds x (p.take i ++ p[i]'(by omega) :: tn (p[i]'(by omega)) :: p.drop (i + 2)) := by
      rw [← ht, ← ep]; exact hW
    refine ⟨us.take i ++ (us[i]'(by omega) + us[i + 2]) :: us.drop (i + 3), p.take i ++ p.drop (i + 2), fun w => ?_, Walk.cut hWc, by simp; omega, by simp; omega⟩
    rw [call_def (fn := f_law_pf_behind) rfl rfl _ _ _ rfl]
    simp -implicitDefEqProofs only [f_law_pf_behind, start, List.map_cons, List.map_nil, List.length_cons, List.length_nil, exs_cons, exs_nil, ex_ifs, ex_asg, ex_ret, ev_or, ev_and, ev_not, ev_ite, ev_isi, ev_cmp, ev_bi, ev_bin, ev_ix, ev_call, ev_tup, ev_c, evs_cons, evs_nil, ev_v, List.cons_append, List.nil_append, List.replicate, Nat.reduceAdd, Nat.reduceSub, List.set_cons_zero, List.set_cons_succ, look_zero, look_succ, lift_some, Rp.R.bind_ok, t1, t2, Option.map_some, Bool.not_true, Rp.cond_false, Rp.cond_true, cmp_eq, ne, x0, x1, wk1, wk2, len_sts, s2, s3, l2, q2, hin, htn, b_add, ix_tI1 (show i + 1 < us.length by omega), hz', q0, hca, thenS_next, thenS_ret, endD_ret]
  | put i s a h hs hn =>
    have hi : i < us.length := by omega
    have eu : us = us.take i ++ us[i] :: us.drop (i + 1) := by
      rw [← List.drop_eq_getElem_cons, List.take_append_drop]
    have ep : p = p.take i ++ p.drop i := by rw [List.take_append_drop]
    have hpu : ∀ w, callN P (k + 2) "_law_pf_put" [wk x us p, .int i, st s, .int a] w = .ok (wk x (us.take i ++ a :: 0 :: (us[i] - a) :: us.drop (i + 1)) (p.take i ++ s :: tn s :: p.drop i)) w := fun w => by
      have := s_pf_put (k := k) (w := w) (x := x) (A := us.take i) (B := us.drop (i + 1)) (u := us[i]) (a := a) (pa := p.take i) (pb := p.drop i) (s := s) (i := i) (by simp; omega) (by simp; omega) (by simp; omega) (by simp; omega)
      rw [← eu, ← ep] at this
      exact this
    have hin : ∀ w, callN P (k + 2) "_law_pf_in" [.int i, .int ((p.length : Int) + 1)] w = .ok (.bl true) w := fun w => s_pf_in (n := p.length + 1) (by omega)
    have hst : ∀ w, callN P (k + 2) "_law_pf_is_step" [drs ds, st s] w = .ok (.bl true) w := fun w => s_pf_is_step hs
    have hg : ∀ w, callN P (k + 2) "_law_gate" [drs ds, st s] w = .ok (dr (gt ds s)) w := fun w => s_law_gate hs
    have d0 : ixD (dr (gt ds s)) (.int 0) = some (.int (gt ds s).n) := by unfold dr; simp
    have hr : ∀ w, callN P (k + 2) "_law_pf_room" [drs ds, wk x us p, .int i] w = .ok (.int (endW ds x (p.take i))) w := fun w => s_pf_room hon h
    have ne : D.eqO (.tup [.str "put", .int i, st s, .int a]) (.tup []) = some false := by
      rw [eqO_tup_nil (fun d hd => by
        simp at hd
        rcases hd with rfl | rfl | rfl | rfl
        · simp [D.pl, D.dep]
        · simp [D.pl, D.dep]
        · exact st_plain s
        · simp [D.pl, D.dep])]; rfl
    have hWc : Walk ds x (p.take i ++ s :: tn s :: p.drop i) := Walk.putIn hs (by rw [← ep]; exact hW) hn
    refine ⟨us.take i ++ a :: 0 :: (us[i] - a) :: us.drop (i + 1), _, fun w => ?_, hWc, by simp; omega, by simp; omega⟩
    have qn : D.eqO (.int ((endW ds x (p.take i) : Nat) : Int)) (.int ((endW ds x (p.take i) : Nat) : Int)) = some true := by rw [eqO_int]; simp
    rw [call_def (fn := f_law_pf_behind) rfl rfl _ _ _ rfl]
    simp -implicitDefEqProofs only [f_law_pf_behind, start, List.map_cons, List.map_nil, List.length_cons, List.length_nil, exs_cons, exs_nil, ex_ifs, ex_asg, ex_ret, ev_or, ev_and, ev_not, ev_ite, ev_isi, ev_cmp, ev_bi, ev_bin, ev_ix, ev_call, ev_tup, ev_c, evs_cons, evs_nil, ev_v, List.cons_append, List.nil_append, List.replicate, Nat.reduceAdd, Nat.reduceSub, List.set_cons_zero, List.set_cons_succ, look_zero, look_succ, lift_some, Rp.R.bind_ok, t1, t2, Option.map_some, Bool.not_true, Rp.cond_false, Rp.cond_true, cmp_eq, ne, x0, x1, x2, x3, wk2, len_sts, s4, s5, s6, l4, q4, b_add, hin, hst, wh, hg, d0, hr, hn, qn, hpu, thenS_next, thenS_ret, endD_ret]
theorem s_pf_spots {w : W} (o : Ok R ds) {x : Nat} {us : List Int} {p : List Sp} (hon : On ds p) (hu : us.length = p.length + 1) (hl : p.length ≤ 400) :
    ∃ L : List Nat, callN P (k + 3) "_law_pf_spots" [drs ds, wk x us p] w = .ok (.tup (L.map fun i => .int (i : Nat))) w ∧ L.length ≤ p.length ∧ ∀ i ∈ L, i + 1 < p.length := by
  obtain ⟨L, w', e, ⟨h1, h2⟩, rfl⟩ := forL_inv (fun L : List Nat => [some (drs ds), some (wk x us p), some (.lst (L.map fun i => .int (i : Nat))), none, none]) (fun i : Nat => .int (i : Nat))
    (fun y env w => inB (.n 3) y env fun env => exSs (callN P (k + 2)) [.ifs (.call "_law_pf_turns" [.v 0, .v 1, .v 3]) [.asg 4 (.ix (.call "_law_gate" [.v 0, .ix (.ix (.v 1) (.c (.int 2))) (.v 3)]) (.c (.int 3))), .ifs (.cmp .eq (.bin .mod (.bi .int1 [.ix (.ix (.v 1) (.c (.int 1))) (.bin .add (.v 3) (.c (.int 1)))]) (.bi .abs [.v 4])) (.c (.int 0))) [.append 2 (.v 3)] []] [], .kill [4], .kill [3, 4]] env w)
    (fun is L w' => ((L.length + is.length ≤ p.length ∧ (∀ i ∈ is, i < p.length)) ∧ ∀ i ∈ L, i + 1 < p.length) ∧ w' = w) (fun i is L w' hI => by
      obtain ⟨⟨⟨i1, i2⟩, i3⟩, rfl⟩ := hI
      simp only [List.length_cons] at i1
      have hi := i2 i List.mem_cons_self
      have i2' : ∀ j ∈ is, j < p.length := fun j hj => i2 j (List.mem_cons_of_mem _ hj)
      by_cases h : i + 1 < p.length
      · have ht : ∀ w, callN P (k + 2) "_law_pf_turns" [drs ds, wk x us p, .int i] w = .ok (.bl (decide (p[i + 1] = tn p[i]))) w := fun w => s_pf_turns h
        by_cases hc : p[i + 1] = tn p[i]
        · rw [decide_eq_true hc] at ht
          have hs := hon _ (List.getElem_mem hi)
          obtain ⟨_, _, _, hb, _⟩ := o.gt hs
          have hg : ∀ w, callN P (k + 2) "_law_gate" [drs ds, st p[i]] w = .ok (dr (gt ds p[i])) w := fun w => s_law_gate hs
          have bi1 : ∀ i, biD .int1 [.int i] = some (.int i) := fun i => rfl
          have md : binD .mod (.int (us[i + 1]'(by omega))) (.int ((gt ds p[i]).b.natAbs : Int)) = some (.int ((us[i + 1]'(by omega)).fmod ((gt ds p[i]).b.natAbs : Int))) := b_mod (by omega)
          by_cases hz : (us[i + 1]'(by omega)).fmod ((gt ds p[i]).b.natAbs : Int) = 0
          · have ap : appD (.lst (L.map fun i => .int (i : Nat))) (.int (i : Nat)) = some (.lst ((L ++ [i]).map fun i => .int (i : Nat))) := by rw [appD_ok (by simp; omega)]; simp
            have q0 : D.eqO (.int ((us[i + 1]'(by omega)).fmod ((gt ds p[i]).b.natAbs : Int))) (.int 0) = some true := by rw [hz]; rfl
            refine ⟨L ++ [i], w', ?_, ⟨⟨by simp; omega, i2'⟩, fun j hj => ?_⟩, rfl⟩
            · simp -implicitDefEqProofs only [inB_n, List.set_cons_zero, List.set_cons_succ, exs_cons, exs_nil, ex_ifs, ex_asg, ex_append, ex_kill, kill, ev_call, ev_ix, ev_c, ev_cmp, ev_bin, ev_bi, evs_cons, evs_nil, ev_v, look_zero, look_succ, lift_some, Rp.R.bind_ok, ht, Rp.cond_true, wk1, wk2, ix_sts hi, hg, dr3, ix_tI1 (show i + 1 < us.length by omega), b_add, bi1, bi_abs_int, md, cmp_eq, q0, Option.map_some, ap, thenS_next]
            · rcases List.mem_append.mp hj with hj | hj
              · exact i3 j hj
              · simp at hj; subst hj; exact h
          · have q0 : D.eqO (.int ((us[i + 1]'(by omega)).fmod ((gt ds p[i]).b.natAbs : Int))) (.int 0) = some false := by rw [eqO_int]; simp [hz]
            refine ⟨L, w', ?_, ⟨⟨by omega, i2'⟩, i3⟩, rfl⟩
            simp -implicitDefEqProofs only [inB_n, List.set_cons_zero, List.set_cons_succ, exs_cons, exs_nil, ex_ifs, ex_asg, ex_append, ex_kill, kill, ev_call, ev_ix, ev_c, ev_cmp, ev_bin, ev_bi, evs_cons, evs_nil, ev_v, look_zero, look_succ, lift_some, Rp.R.bind_ok, ht, Rp.cond_true, Rp.cond_false, wk1, wk2, ix_sts hi, hg, dr3, ix_tI1 (show i + 1 < us.length by omega), b_add, bi1, bi_abs_int, md, cmp_eq, q0, Option.map_some, thenS_next]
        · rw [decide_eq_false hc] at ht
          refine ⟨L, w', ?_, ⟨⟨by omega, i2'⟩, i3⟩, rfl⟩
          simp -implicitDefEqProofs only [inB_n, List.set_cons_zero, List.set_cons_succ, exs_cons, exs_nil, ex_ifs, ex_kill, kill, ev_call, evs_cons, evs_nil, ev_v, look_zero, look_succ, lift_some, Rp.R.bind_ok, ht, Rp.cond_false, thenS_next]
      · have ht : ∀ w, callN P (k + 2) "_law_pf_turns" [drs ds, wk x us p, .int i] w = .ok (.bl false) w := fun w => s_pf_turns_no h
        refine ⟨L, w', ?_, ⟨⟨by omega, i2'⟩, i3⟩, rfl⟩
        simp -implicitDefEqProofs only [inB_n, List.set_cons_zero, List.set_cons_succ, exs_cons, exs_nil, ex_ifs, ex_kill, kill, ev_call, evs_cons, evs_nil, ev_v, look_zero, look_succ, lift_some, Rp.R.bind_ok, ht, Rp.cond_false, thenS_next]) (List.range p.length) [] w ⟨⟨⟨by simp, fun i hi => List.mem_range.mp hi⟩, fun i hi => by cases hi⟩, rfl⟩
  refine ⟨L, ?_, by simpa using h1.1, h2⟩
  have el : exS (callN P (k + 2)) f_law_pf_spots_l1 [some (drs ds), some (wk x us p), some (.lst []), none, none] w' = .ok (.next [some (drs ds), some (wk x us p), some (.lst (L.map fun i => .int (i : Nat))), none, none]) w' := by
    unfold f_law_pf_spots_l1
    refine ex_for_of (evi_r0 (n := p.length) (w' := w') (by simp -implicitDefEqProofs) (by omega)) e
  rw [call_def (fn := f_law_pf_spots) rfl rfl _ _ _ rfl]
  simp -implicitDefEqProofs only [f_law_pf_spots, start, List.map_cons, List.map_nil, List.length_cons, List.length_nil, exs_cons, exs_nil, ex_asgO, isMut, if_true, ex_kill, kill, ex_ret, ev_lst, ev_bi, evs_cons, evs_nil, ev_v, List.cons_append, List.nil_append, List.replicate, Nat.reduceAdd, Nat.reduceSub, List.set_cons_zero, List.set_cons_succ, look_zero, look_succ, lift_some, Rp.R.bind_ok, thenS_next, el, bi_tuple_lst, thenS_ret, endD_ret]
end
end Lw
end

section
set_option linter.all false
set_option maxRecDepth 100000
namespace Lw
open Rp
section
variable {k : Nat} {R : Nat} {ds : List Dr}
theorem s_pickT {w : W} {n : Nat} (hw : Dw n w) (hn : n ≤ 2 ^ 40) {xs : List D} (h0 : 0 < xs.length) (h1 : xs.length ≤ 1000) : ∃ (x : D) (w' : W), x ∈ xs ∧ callN P (k + 3) "_law_pick" [.tok, .tup xs] w = .ok x w' ∧ Dw (n + 1) w' := by
  obtain ⟨r, w', hr, e, d⟩ := s_draw (k := k) hw hn (m := xs.length) h0 (by omega)
  refine ⟨xs[r], w', List.getElem_mem hr, ?_, d⟩
  have ix : ixD (.tup xs) (.int (r : Nat)) = some xs[r] := atI_nat (List.getElem?_eq_getElem hr)
  rw [call_def (fn := f_law_pick) rfl rfl _ _ _ rfl]
  simp -implicitDefEqProofs [f_law_pick, start, e, ix]
def mvE (ds : List Dr) (x : Nat) (us : List Int) (p : List Sp) (a : Nat) (d5 d6 d7 : Option D) : Env := [some .tok, some (drs ds), some (wk x us p), some (.int (p.length : Nat)), some (.int (a : Nat)), d5, d6, d7, none]
theorem mv_1 {w : W} {n x a : Nat} {us : List Int} {p : List Sp} (hw : Dw n w) (hn : n ≤ 2 ^ 38) (hl : p.length ≤ 400) :
    exS (callN P (k + 3)) (.ifs (.and (.cmp .eq (.v 4) (.c (.int 0))) (.cmp .gt (.v 3) (.c (.int 0)))) [.ret (.tup [.c (.str "carry"), .call "_law_draw" [.v 0, .v 3], .bin .sub (.call "_law_draw" [.v 0, .c (.int 9)]) (.c (.int 4))])] []) (mvE ds x us p a none none none) w = .ok (.next (mvE ds x us p a none none none)) w ∨
    ∃ d w', exS (callN P (k + 3)) (.ifs (.and (.cmp .eq (.v 4) (.c (.int 0))) (.cmp .gt (.v 3) (.c (.int 0)))) [.ret (.tup [.c (.str "carry"), .call "_law_draw" [.v 0, .v 3], .bin .sub (.call "_law_draw" [.v 0, .c (.int 9)]) (.c (.int 4))])] []) (mvE ds x us p a none none none) w = .ok (.ret d) w' ∧ MvOk ds x us p d ∧ Dw (n + 3) w' := by
  by_cases h0 : a = 0
  · have q0 : D.eqO (.int (a : Nat)) (.int 0) = some true := by rw [h0]; rfl
    by_cases hp : 0 < p.length
    · have hg : decide ((0 : Int) < (p.length : Int)) = true := by rw [decide_eq_true_eq]; omega
      obtain ⟨i, w1, hi, e1, d1⟩ := s_draw (k := k + 1) hw (by omega) (m := p.length) hp (by omega)
      obtain ⟨t, w2, ht, e2, d2⟩ := s_draw (k := k + 1) d1 (by omega) (m := 9) (by decide) (by decide)
      have e1' : callN P (k + 3) "_law_draw" [.tok, .int (p.length : Nat)] w = .ok (.int i) w1 := e1
      have e2' : callN P (k + 3) "_law_draw" [.tok, .int 9] w1 = .ok (.int t) w2 := e2
      refine .inr ⟨_, w2, ?_, .carry i ((t : Int) - 4) hi, d2.mono (by omega)⟩
      simp -implicitDefEqProofs only [mvE, ex_ifs, exs_cons, exs_nil, ex_ret, ev_and, ev_cmp, ev_tup, ev_call, ev_bin, ev_c, evs_cons, evs_nil, ev_v, look_zero, look_succ, lift_some, Rp.R.bind_ok, cmp_eq, q0, Option.map_some, Rp.cond_true, cmp_gt, hg, e1', e2', b_sub, thenS_ret]
    · have hg : decide ((0 : Int) < (p.length : Int)) = false := by rw [decide_eq_false_iff_not]; omega
      refine .inl ?_
      simp -implicitDefEqProofs only [mvE, ex_ifs, exs_cons, exs_nil, ev_and, ev_cmp, ev_c, ev_v, look_zero, look_succ, lift_some, Rp.R.bind_ok, cmp_eq, q0, Option.map_some, Rp.cond_true, Rp.cond_false, cmp_gt, hg]
  · have q0 : D.eqO (.int (a : Nat)) (.int 0) = some false := by rw [eqO_int]; simp [h0]
    refine .inl ?_
    simp -implicitDefEqProofs only [mvE, ex_ifs, exs_cons, exs_nil, ev_and, ev_cmp, ev_c, ev_v, look_zero, look_succ, lift_some, Rp.R.bind_ok, cmp_eq, q0, Option.map_some, Rp.cond_true, Rp.cond_false]
theorem mv_2 {w : W} {n x a : Nat} {us : List Int} {p : List Sp} (hw : Dw n w) (hn : n ≤ 2 ^ 38) (hu : us.length = p.length + 1) (hl : p.length ≤ 400) :
    (∃ d5, exS (callN P (k + 3)) (.ifs (.cmp .eq (.v 4) (.c (.int 1))) [.asg 5 f_law_pf_move_c1, .ifs (.cmp .ne (.v 5) (.lst [])) [.ret (.tup [.c (.str "cancel"), .call "_law_pick" [.v 0, .v 5]])] []] []) (mvE ds x us p a none none none) w = .ok (.next (mvE ds x us p a d5 none none)) w) ∨
    ∃ d w', exS (callN P (k + 3)) (.ifs (.cmp .eq (.v 4) (.c (.int 1))) [.asg 5 f_law_pf_move_c1, .ifs (.cmp .ne (.v 5) (.lst [])) [.ret (.tup [.c (.str "cancel"), .call "_law_pick" [.v 0, .v 5]])] []] []) (mvE ds x us p a none none none) w = .ok (.ret d) w' ∧ MvOk ds x us p d ∧ Dw (n + 3) w' := by
  by_cases h0 : a = 1
  · have q0 : D.eqO (.int (a : Nat)) (.int 1) = some true := by rw [h0]; rfl
    have hpr : ∃ pr : Nat → Bool, (∀ i, pr i = true → ∃ h : i + 1 < p.length, p[i + 1] = tn p[i] ∧ us[i + 1]? = some 0) ∧ ∀ i, i < p.length → ∀ w, evE (callN P (k + 3)) (.and (.call "_law_pf_turns" [.v 1, .v 2, .v 8]) (.cmp .eq (.ix (.ix (.v 2) (.c (.int 1))) (.bin .add (.v 8) (.c (.int 1)))) (.c (.int 0)))) [some .tok, some (drs ds), some (wk x us p), some (.int (p.length : Nat)), some (.int (a : Nat)), none, none, none, some (.int (i : Nat))] w = .ok (.bl (pr i)) w := by
      refine ⟨fun i => if h : i + 1 < p.length then decide (p[i + 1] = tn p[i]) && decide (us[i + 1]? = some 0) else false, fun i hi => ?_, fun i hi w => ?_⟩
      · by_cases h : i + 1 < p.length
        · simp only [dif_pos h, Bool.and_eq_true, decide_eq_true_eq] at hi
          exact ⟨h, hi.1, hi.2⟩
        · simp only [dif_neg h] at hi; cases hi
      · by_cases h : i + 1 < p.length
        · have ht : ∀ w, callN P (k + 3) "_law_pf_turns" [drs ds, wk x us p, .int i] w = .ok (.bl (decide (p[i + 1] = tn p[i]))) w := fun w => s_pf_turns h
          simp only [dif_pos h]
          by_cases hc : p[i + 1] = tn p[i]
          · rw [decide_eq_true hc] at ht ⊢
            have qz : D.eqO (.int (us[i + 1]'(by omega))) (.int 0) = some (decide (us[i + 1]? = some 0)) := by
              rw [eqO_int, List.getElem?_eq_getElem (by omega)]
              by_cases z : us[i + 1]'(by omega) = 0 <;> simp [z]
            simp -implicitDefEqProofs only [ev_and, ev_cmp, ev_call, ev_ix, ev_bin, ev_c, evs_cons, evs_nil, ev_v, look_zero, look_succ, lift_some, Rp.R.bind_ok, ht, Rp.cond_true, wk1, b_add, ix_tI1 (show i + 1 < us.length by omega), cmp_eq, qz, Option.map_some, Bool.true_and]
          · rw [decide_eq_false hc] at ht ⊢
            simp -implicitDefEqProofs only [ev_and, ev_call, evs_cons, evs_nil, ev_v, look_zero, look_succ, lift_some, Rp.R.bind_ok, ht, Rp.cond_false, Bool.false_and]
        · have ht : ∀ w, callN P (k + 3) "_law_pf_turns" [drs ds, wk x us p, .int i] w = .ok (.bl false) w := fun w => s_pf_turns_no h
          simp only [dif_neg h]
          simp -implicitDefEqProofs only [ev_and, ev_call, evs_cons, evs_nil, ev_v, look_zero, look_succ, lift_some, Rp.R.bind_ok, ht, Rp.cond_false]
    obtain ⟨pr, hp1, hp2⟩ := hpr
    have c1 : evE (callN P (k + 3)) f_law_pf_move_c1 (mvE ds x us p a none none none) w = .ok (.lst (((List.range p.length).filter pr).map fun i => .int (i : Nat))) w := by
      unfold f_law_pf_move_c1
      refine ev_compIf_of (evi_r0 (n := p.length) (w' := w) (by simp -implicitDefEqProofs [mvE]) (by omega)) (filtL_ok _ (fun i : Nat => .int (i : Nat)) (fun i : Nat => .int (i : Nat)) pr w (List.range p.length) (fun i hi => ?_)) (by
        have := List.length_filter_le pr (List.range p.length)
        rw [List.length_range] at this
        rw [List.length_map]; omega)
      have := hp2 i (List.mem_range.mp hi) w
      rw [inB_n]
      simp -implicitDefEqProofs only [mvE, List.set_cons_zero, List.set_cons_succ, this, Rp.R.bind_ok]
      cases pr i <;> simp -implicitDefEqProofs
    have hne : D.eqO (.lst (((List.range p.length).filter pr).map fun i => .int (i : Nat))) (.lst []) = some ((List.range p.length).filter pr).isEmpty := eqO_ints_nil _
    by_cases hE : (List.range p.length).filter pr = []
    · rw [hE] at hne c1
      refine .inl ⟨some (.lst []), ?_⟩
      simp only [List.isEmpty_nil, List.map_nil] at hne
      simp only [mvE, List.map_nil] at c1
      simp -implicitDefEqProofs only [mvE, ex_ifs, exs_cons, exs_nil, ex_asg, List.set_cons_zero, List.set_cons_succ, ev_cmp, ev_lst, ev_c, evs_nil, ev_v, look_zero, look_succ, lift_some, Rp.R.bind_ok, cmp_eq, cmp_ne, q0, Option.map_some, Rp.cond_true, Rp.cond_false, c1, hne, Bool.not_true, thenS_next]
    · have hlen := List.length_filter_le pr (List.range p.length)
      rw [List.length_range] at hlen
      have hE2 : ((List.range p.length).filter pr).isEmpty = false := by simpa using hE
      rw [hE2] at hne
      obtain ⟨d, w1, hd, e1, d1⟩ := s_pick (k := k) hw (by omega) (xs := ((List.range p.length).filter pr).map fun i => .int (i : Nat)) (by rw [List.length_map]; exact List.length_pos_iff.mpr hE) (by rw [List.length_map]; omega)
      obtain ⟨i, hi, rfl⟩ := List.mem_map.mp hd
      obtain ⟨h1, h2, h3⟩ := hp1 i (List.mem_filter.mp hi).2
      refine .inr ⟨_, w1, ?_, .cancel i h1 h2 h3, d1.mono (by omega)⟩
      simp only [mvE] at c1
      simp -implicitDefEqProofs only [mvE, ex_ifs, exs_cons, exs_nil, ex_asg, ex_ret, List.set_cons_zero, List.set_cons_succ, ev_cmp, ev_lst, ev_tup, ev_call, ev_c, evs_cons, evs_nil, ev_v, look_zero, look_succ, lift_some, Rp.R.bind_ok, cmp_eq, cmp_ne, q0, Option.map_some, Rp.cond_true, Rp.cond_false, c1, hne, Bool.not_false, e1, thenS_next, thenS_ret]
  · have q0 : D.eqO (.int (a : Nat)) (.int 1) = some false := by rw [eqO_int]; simp; omega
    refine .inl ⟨none, ?_⟩
    simp -implicitDefEqProofs only [mvE, ex_ifs, exs_cons, exs_nil, ev_cmp, ev_c, ev_v, look_zero, look_succ, lift_some, Rp.R.bind_ok, cmp_eq, q0, Option.map_some, Rp.cond_false]
theorem mv_3 {w : W} {n x a : Nat} {us : List Int} {p : List Sp} (o : Ok R ds) (hon : On ds p) (hw : Dw n w) (hn : n ≤ 2 ^ 38) (hu : us.length = p.length + 1) (hl : p.length ≤ 400) :
    (∃ d5 d6 d7, exS (callN P (k + 3)) (.ifs (.cmp .eq (.v 4) (.c (.int 2))) [.asg 5 (.call "_law_pf_spots" [.v 1, .v 2]), .ifs (.cmp .ne (.v 5) (.tup [])) [.asg 6 (.call "_law_pick" [.v 0, .v 5]), .asg 7 (.ix (.call "_law_gate" [.v 1, .ix (.ix (.v 2) (.c (.int 2))) (.v 6)]) (.c (.int 3))), .ret (.tup [.c (.str "carry"), .v 6, .bin .sub (.c (.int 0)) (.bin .fdiv (.ix (.ix (.v 2) (.c (.int 1))) (.bin .add (.v 6) (.c (.int 1)))) (.v 7))])] []] []) (mvE ds x us p a none none none) w = .ok (.next (mvE ds x us p a d5 d6 d7)) w) ∨
    ∃ d w', exS (callN P (k + 3)) (.ifs (.cmp .eq (.v 4) (.c (.int 2))) [.asg 5 (.call "_law_pf_spots" [.v 1, .v 2]), .ifs (.cmp .ne (.v 5) (.tup [])) [.asg 6 (.call "_law_pick" [.v 0, .v 5]), .asg 7 (.ix (.call "_law_gate" [.v 1, .ix (.ix (.v 2) (.c (.int 2))) (.v 6)]) (.c (.int 3))), .ret (.tup [.c (.str "carry"), .v 6, .bin .sub (.c (.int 0)) (.bin .fdiv (.ix (.ix (.v 2) (.c (.int 1))) (.bin .add (.v 6) (.c (.int 1)))) (.v 7))])] []] []) (mvE ds x us p a none none none) w = .ok (.ret d) w' ∧ MvOk ds x us p d ∧ Dw (n + 3) w' := by
  by_cases h0 : a = 2
  · have q0 : D.eqO (.int (a : Nat)) (.int 2) = some true := by rw [h0]; rfl
    obtain ⟨L, e0, l1, l2⟩ := s_pf_spots (k := k) (w := w) o hon hu hl (x := x)
    have hne : D.eqO (.tup (L.map fun i => .int (i : Nat))) (.tup []) = some L.isEmpty := by
      rw [eqO_tup_nil (fun d hd => by
        obtain ⟨i, _, rfl⟩ := List.mem_map.mp hd
        simp [D.pl, D.dep])]
      cases L <;> rfl
    by_cases hE : L = []
    · rw [hE] at hne e0
      simp only [List.isEmpty_nil, List.map_nil] at hne e0
      refine .inl ⟨some (.tup []), none, none, ?_⟩
      simp -implicitDefEqProofs only [mvE, ex_ifs, exs_cons, exs_nil, ex_asg, List.set_cons_zero, List.set_cons_succ, ev_cmp, ev_tup, ev_call, ev_c, evs_cons, evs_nil, ev_v, look_zero, look_succ, lift_some, Rp.R.bind_ok, cmp_eq, cmp_ne, q0, Option.map_some, Rp.cond_true, Rp.cond_false, e0, hne, Bool.not_true, thenS_next]
    · have hE2 : L.isEmpty = false := by simpa using hE
      rw [hE2] at hne
      obtain ⟨d, w1, hd, e1, d1⟩ := s_pickT (k := k) hw (by omega) (xs := L.map fun i => .int (i : Nat)) (by rw [List.length_map]; exact List.length_pos_iff.mpr hE) (by rw [List.length_map]; omega)
      obtain ⟨i, hi, rfl⟩ := List.mem_map.mp hd
      have hi1 := l2 i hi
      have hs := hon _ (List.getElem_mem (show i < p.length by omega))
      obtain ⟨_, _, _, hb, _, _, b1, b2⟩ := o.gt hs
      have hg : ∀ w, callN P (k + 3) "_law_gate" [drs ds, st (p[i]'(by omega))] w = .ok (dr (gt ds (p[i]'(by omega)))) w := fun w => s_law_gate hs
      have fd : binD .fdiv (.int (us[i + 1]'(by omega))) (.int (gt ds (p[i]'(by omega))).b) = some (.int ((us[i + 1]'(by omega)).fdiv (gt ds (p[i]'(by omega))).b)) := b_fdiv hb (bits999 (by omega))
      refine .inr ⟨_, w1, ?_, .carry i (0 - (us[i + 1]'(by omega)).fdiv (gt ds (p[i]'(by omega))).b) (by omega), d1.mono (by omega)⟩
      simp -implicitDefEqProofs only [mvE, ex_ifs, exs_cons, exs_nil, ex_asg, ex_ret, List.set_cons_zero, List.set_cons_succ, ev_cmp, ev_tup, ev_call, ev_ix, ev_bin, ev_c, evs_cons, evs_nil, ev_v, look_zero, look_succ, lift_some, Rp.R.bind_ok, cmp_eq, cmp_ne, q0, Option.map_some, Rp.cond_true, Rp.cond_false, e0, hne, Bool.not_false, e1, thenS_next, wk1, wk2, ix_sts (show i < p.length by omega), hg, dr3, b_add, ix_tI1 (show i + 1 < us.length by omega), fd, b_sub, thenS_ret]
  · have q0 : D.eqO (.int (a : Nat)) (.int 2) = some false := by rw [eqO_int]; simp; omega
    refine .inl ⟨none, none, none, ?_⟩
    simp -implicitDefEqProofs only [mvE, ex_ifs, exs_cons, exs_nil, ev_cmp, ev_c, ev_v, look_zero, look_succ, lift_some, Rp.R.bind_ok, cmp_eq, q0, Option.map_some, Rp.cond_false]
theorem mv_4 {w : W} {n x a : Nat} {us : List Int} {p : List Sp} (o : Ok R ds) (hW : Walk ds x p) (hw : Dw n w) (hn : n ≤ 2 ^ 38) (hl : p.length ≤ 400) :
    ∃ d w', exSs (callN P (k + 3)) [.asg 6 (.call "_law_draw" [.v 0, .bin .add (.v 3) (.c (.int 1))]), .asg 5 (.call "_law_steps" [.v 1, .call "_law_pf_room" [.v 1, .v 2, .v 6]]), .ifs (.or (.cmp .eq (.v 5) (.lst [])) (.cmp .gt (.v 3) (.c (.int 14)))) [.ret (.c .non)] [], .ret (.tup [.c (.str "put"), .v 6, .call "_law_pick" [.v 0, .v 5], .bin .sub (.call "_law_draw" [.v 0, .c (.int 11)]) (.c (.int 5))])] (mvE ds x us p a none none none) w = .ok (.ret d) w' ∧ (d = .non ∨ MvOk ds x us p d) ∧ Dw (n + 3) w' := by
  have hon := Walk.on hW
  obtain ⟨i, w1, hi, e1, d1⟩ := s_draw (k := k + 1) hw (by omega) (m := p.length + 1) (by omega) (by omega)
  have e1' : callN P (k + 3) "_law_draw" [.tok, .int ((p.length : Int) + 1)] w = .ok (.int i) w1 := by
    have : ((p.length + 1 : Nat) : Int) = (p.length : Int) + 1 := by omega
    rw [this] at e1; exact e1
  have hr : ∀ w, callN P (k + 3) "_law_pf_room" [drs ds, wk x us p, .int i] w = .ok (.int (endW ds x (p.take i))) w := fun w => s_pf_room hon (by omega)
  have hst : ∀ w, callN P (k + 3) "_law_steps" [drs ds, .int (endW ds x (p.take i))] w = .ok (.lst ((stepsL ds (endW ds x (p.take i))).map st)) w := fun w => s_law_steps o.len
  have hne : D.eqO (.lst ((stepsL ds (endW ds x (p.take i))).map st)) (.lst []) = some (stepsL ds (endW ds x (p.take i))).isEmpty := sts_lst_nil _
  have hcnt : (stepsL ds (endW ds x (p.take i))).length ≤ 40 := by
    have h1 := sidesL_len ds.length
    have h2 := o.len
    have := List.length_filter_le (fun s => (gt ds s).n == endW ds x (p.take i)) (sidesL ds.length)
    unfold stepsL; omega
  by_cases hE : stepsL ds (endW ds x (p.take i)) = []
  · rw [hE] at hne hst
    simp only [List.isEmpty_nil] at hne
    refine ⟨.non, w1, ?_, .inl rfl, d1.mono (by omega)⟩
    simp -implicitDefEqProofs only [mvE, exs_cons, exs_nil, ex_asg, ex_ifs, ex_ret, List.set_cons_zero, List.set_cons_succ, ev_call, ev_bin, ev_or, ev_cmp, ev_lst, ev_c, evs_cons, evs_nil, ev_v, look_zero, look_succ, lift_some, Rp.R.bind_ok, b_add, e1', hr, hst, thenS_next, cmp_eq, hne, Option.map_some, Rp.cond_true, thenS_ret]
  · have hE2 : (stepsL ds (endW ds x (p.take i))).isEmpty = false := by simpa using hE
    rw [hE2] at hne
    by_cases h14 : (14 : Int) < (p.length : Int)
    · refine ⟨.non, w1, ?_, .inl rfl, d1.mono (by omega)⟩
      simp -implicitDefEqProofs only [mvE, exs_cons, exs_nil, ex_asg, ex_ifs, ex_ret, List.set_cons_zero, List.set_cons_succ, ev_call, ev_bin, ev_or, ev_cmp, ev_lst, ev_c, evs_cons, evs_nil, ev_v, look_zero, look_succ, lift_some, Rp.R.bind_ok, b_add, e1', hr, hst, thenS_next, cmp_eq, hne, Option.map_some, Rp.cond_false, cmp_gt, decide_eq_true h14, Rp.cond_true, thenS_ret]
    · obtain ⟨d, w2, hd, e2, d2⟩ := s_pick (k := k) d1 (by omega) (xs := (stepsL ds (endW ds x (p.take i))).map st) (by rw [List.length_map]; exact List.length_pos_iff.mpr hE) (by rw [List.length_map]; omega)
      obtain ⟨s, hs, rfl⟩ := List.mem_map.mp hd
      obtain ⟨g1, g2⟩ := List.mem_filter.mp hs
      obtain ⟨t, w3, ht, e3, d3⟩ := s_draw (k := k + 1) d2 (by omega) (m := 11) (by decide) (by decide)
      have e3' : callN P (k + 3) "_law_draw" [.tok, .int 11] w2 = .ok (.int t) w3 := e3
      refine ⟨_, w3, ?_, .inr (.put i s ((t : Int) - 5) (by omega) (sidesL_mem g1) (by simpa using g2)), d3.mono (by omega)⟩
      simp -implicitDefEqProofs only [mvE, exs_cons, exs_nil, ex_asg, ex_ifs, ex_ret, List.set_cons_zero, List.set_cons_succ, ev_call, ev_bin, ev_or, ev_cmp, ev_lst, ev_tup, ev_c, evs_cons, evs_nil, ev_v, look_zero, look_succ, lift_some, Rp.R.bind_ok, b_add, e1', hr, hst, thenS_next, cmp_eq, hne, Option.map_some, Rp.cond_false, cmp_gt, decide_eq_false h14, e2, e3', b_sub, thenS_ret]
theorem s_pf_move {w : W} {n x : Nat} {us : List Int} {p : List Sp} (o : Ok R ds) (hW : Walk ds x p) (hw : Dw n w) (hn : n ≤ 2 ^ 37) (hu : us.length = p.length + 1) (hl : p.length ≤ 400) :
    ∃ d w', callN P (k + 4) "_law_pf_move" [.tok, drs ds, wk x us p] w = .ok d w' ∧ (d = .non ∨ MvOk ds x us p d) ∧ Dw (n + 4) w' := by
  have hon := Walk.on hW
  obtain ⟨a, w1, ha, e1, d1⟩ := s_draw (k := k + 1) hw (by omega) (m := 4) (by decide) (by decide)
  have e1' : callN P (k + 3) "_law_draw" [.tok, .int 4] w = .ok (.int a) w1 := e1
  have hhead : ∀ (T : List S), exSs (callN P (k + 3)) (.asg 3 (.bi .len [.ix (.v 2) (.c (.int 2))]) :: .asg 4 (.call "_law_draw" [.v 0, .c (.int 4)]) :: T) [some .tok, some (drs ds), some (wk x us p), none, none, none, none, none, none] w = exSs (callN P (k + 3)) T (mvE ds x us p a none none none) w1 := fun T => by
    rw [exs_cons]
    simp -implicitDefEqProofs only [ex_asg, List.set_cons_zero, List.set_cons_succ, ev_bi, ev_ix, ev_c, evs_cons, evs_nil, ev_v, look_zero, look_succ, lift_some, Rp.R.bind_ok, wk2, len_sts, thenS_next]
    rw [exs_cons]
    simp -implicitDefEqProofs only [ex_asg, List.set_cons_zero, List.set_cons_succ, ev_call, ev_c, evs_cons, evs_nil, ev_v, look_zero, look_succ, lift_some, Rp.R.bind_ok, e1', thenS_next]
    rfl
  have hst : start f_law_pf_move [.tok, drs ds, wk x us p] = [some .tok, some (drs ds), some (wk x us p), none, none, none, none, none, none] := rfl
  rw [call_def (fn := f_law_pf_move) rfl rfl _ _ _ rfl, hst]
  unfold f_law_pf_move
  simp only
  rw [hhead]
  rcases mv_1 (k := k) (ds := ds) (x := x) (a := a) (us := us) (p := p) d1 (by omega) hl with h1 | ⟨d, w2, h1, hm, d2⟩
  · rw [exs_cons, h1, thenS_next]
    rcases mv_2 (k := k) (ds := ds) (x := x) (a := a) (us := us) (p := p) d1 (by omega) hu hl with ⟨q5, h2⟩ | ⟨d, w2, h2, hm, d2⟩
    · have k5 : kill (mvE ds x us p a q5 none none) [5] = mvE ds x us p a none none none := rfl
      rw [exs_cons, h2, thenS_next, exs_cons, ex_kill, k5, thenS_next]
      rcases mv_3 (k := k) (a := a) o hon d1 (by omega) hu hl (x := x) with ⟨q5, q6, q7, h3⟩ | ⟨d, w2, h3, hm, d2⟩
      · have k6 : kill (mvE ds x us p a q5 q6 q7) [5, 6, 7] = mvE ds x us p a none none none := rfl
        rw [exs_cons, h3, thenS_next, exs_cons, ex_kill, k6, thenS_next]
        obtain ⟨d, w2, h4, hm, d2⟩ := mv_4 (k := k) (a := a) (us := us) o hW d1 (by omega) hl
        exact ⟨d, w2, by rw [h4, endD_ret], hm, d2.mono (by omega)⟩
      · exact ⟨d, w2, by rw [exs_cons, h3, thenS_ret, endD_ret], .inr hm, d2.mono (by omega)⟩
    · exact ⟨d, w2, by rw [exs_cons, h2, thenS_ret, endD_ret], .inr hm, d2.mono (by omega)⟩
  · exact ⟨d, w2, by rw [exs_cons, h1, thenS_ret, endD_ret], .inr hm, d2.mono (by omega)⟩
theorem s_pf_moves {w : W} {n x : Nat} {us : List Int} {p : List Sp} (o : Ok R ds) (hW : Walk ds x p) (hw : Dw n w) (hn : n ≤ 2 ^ 36) (hu : us.length = p.length + 1) (hl : p.length ≤ 100) :
    ∃ (l : D) (us' : List Int) (p' : List Sp) (w' : W), callN P (k + 5) "_law_pf_moves" [.tok, drs ds, wk x us p, .int 4] w = .ok (.tup [l, wk x us' p']) w' ∧ Walk ds x p' ∧ us'.length = p'.length + 1 ∧ p'.length ≤ p.length + 8 ∧ Dw (n + 16) w' := by
  obtain ⟨⟨L, us', p'⟩, w', e, ⟨i1, i2, i3, i4, i5⟩⟩ := forL_inv (fun s : List D × List Int × List Sp => [some .tok, some (drs ds), some (wk x s.2.1 s.2.2), some (.int 4), some (.lst s.1), none, none]) (fun i : Nat => .int (i : Nat))
    (fun y env w => inB (.n 5) y env fun env => exSs (callN P (k + 4)) [.asg 6 (.call "_law_pf_move" [.v 0, .v 1, .v 2]), .ifs (.cmp .isNot (.v 6) (.c .non)) [.append 4 (.v 6), .asg 2 (.call "_law_pf_behind" [.v 1, .v 2, .v 6])] [], .kill [5, 6]] env w)
    (fun is s w => is.length ≤ 4 ∧ Walk ds x s.2.2 ∧ s.2.1.length = s.2.2.length + 1 ∧ (s.2.2.length ≤ p.length + 2 * (4 - is.length) ∧ s.1.length ≤ 4 - is.length) ∧ Dw (n + 4 * (4 - is.length)) w) (fun i is s w hI => by
      obtain ⟨L, us, q⟩ := s
      obtain ⟨i0, i1, i2, ⟨i3, i4⟩, i5⟩ := hI
      simp only [List.length_cons] at i0 i1 i2 i3 i4 i5
      obtain ⟨d, w1, e1, hm, d1⟩ := s_pf_move (k := k) o i1 i5 (by omega) i2 (by omega)
      rcases hm with rfl | hm
      · have c0 : cmpD .isNot .non .non = some false := rfl
        refine ⟨(L, us, q), w1, ?_, by omega, i1, i2, ⟨by simp only; omega, by simp only; omega⟩, d1.mono (by omega)⟩
        simp -implicitDefEqProofs only [inB_n, List.set_cons_zero, List.set_cons_succ, exs_cons, exs_nil, ex_asg, ex_ifs, ex_kill, kill, ev_call, ev_cmp, ev_c, evs_cons, evs_nil, ev_v, look_zero, look_succ, lift_some, Rp.R.bind_ok, e1, c0, Option.map_some, Rp.cond_false, thenS_next]
      · obtain ⟨us2, q2, e2, j1, j2, j3⟩ := s_pf_behind (k := k + 1) o i1 i2 (by omega) hm
        have c0 : cmpD .isNot d .non = some true := by cases hm <;> rfl
        have ap : appD (.lst L) d = some (.lst (L ++ [d])) := appD_ok (by omega)
        refine ⟨(L ++ [d], us2, q2), w1, ?_, by omega, j1, j2, ⟨by simp only; omega, by simp; omega⟩, d1.mono (by omega)⟩
        simp -implicitDefEqProofs only [inB_n, List.set_cons_zero, List.set_cons_succ, exs_cons, exs_nil, ex_asg, ex_append, ex_ifs, ex_kill, kill, ev_call, ev_cmp, ev_c, evs_cons, evs_nil, ev_v, look_zero, look_succ, lift_some, Rp.R.bind_ok, e1, c0, Option.map_some, Rp.cond_true, ap, e2, thenS_next]) (List.range 4) ([], us, p) w ⟨by simp, hW, hu, ⟨by simp, by simp⟩, by simpa using hw⟩
  simp only [List.length_nil] at i1 i2 i3 i4 i5
  refine ⟨.lst L, us', p', w', ?_, i2, i3, by omega, i5.mono (by omega)⟩
  have el : exS (callN P (k + 4)) f_law_pf_moves_l1 [some .tok, some (drs ds), some (wk x us p), some (.int 4), some (.lst []), none, none] w = .ok (.next [some .tok, some (drs ds), some (wk x us' p'), some (.int 4), some (.lst L), none, none]) w' := by
    unfold f_law_pf_moves_l1
    refine ex_for_of (evi_r0 (n := 4) (w' := w) (by simp -implicitDefEqProofs) (by omega)) e
  rw [call_def (fn := f_law_pf_moves) rfl rfl _ _ _ rfl]
  simp -implicitDefEqProofs only [f_law_pf_moves, start, List.map_cons, List.map_nil, List.length_cons, List.length_nil, exs_cons, exs_nil, ex_asgO, isMut, if_true, ex_kill, kill, ex_frz, ex_ret, ev_lst, ev_tup, evs_cons, evs_nil, ev_v, List.cons_append, List.nil_append, List.replicate, Nat.reduceAdd, Nat.reduceSub, List.set_cons_zero, List.set_cons_succ, look_zero, look_succ, lift_some, Rp.R.bind_ok, thenS_next, el, thenS_ret, endD_ret]
end
end Lw
end

section
set_option linter.all false
set_option maxRecDepth 100000
namespace Lw
open Rp
theorem snoc_inj {α : Type} {a b : List α} {x y : α} : a ++ [x] = b ++ [y] ↔ a = b ∧ x = y := by
  constructor
  · intro h
    have h1 := congrArg List.dropLast h
    have h2 := congrArg List.getLast? h
    simp at h1 h2
    exact ⟨h1, h2⟩
  · rintro ⟨rfl, rfl⟩; rfl
theorem fo_eqO (x : Nat) (f g : Fo) : D.eqO (foD x f) (foD x g) = some (decide (f = g)) := by
  unfold foD
  rw [wk_eqO2]
  congr 1
  rw [decide_eq_decide]
  constructor
  · rintro ⟨h, h'⟩
    exact Prod.ext (List.append_cancel_right h) h'
  · rintro rfl; exact ⟨rfl, rfl⟩
theorem fop_eqO (x : Nat) (f g : Fo) (a b : Int) : D.eqO (.tup [foD x f, .int a]) (.tup [foD x g, .int b]) = some (decide (f = g ∧ a = b)) := by
  obtain ⟨a1, a2⟩ := wk_pl x (f.1 ++ [0]) f.2
  obtain ⟨b1, b2⟩ := wk_pl x (g.1 ++ [0]) g.2
  have h0 := fo_eqO x f g
  unfold D.eqO at h0 ⊢
  have hf : (foD x f).pl = true := a1
  have hg : (foD x g).pl = true := b1
  have hf2 : (foD x f).dep ≤ 52 := a2
  have hg2 : (foD x g).dep ≤ 52 := b2
  rw [hf, hg, decide_eq_true (show (foD x f).dep ≤ 60 by omega), decide_eq_true (show (foD x g).dep ≤ 60 by omega)] at h0
  simp only [Bool.and_self, if_true, Option.some.injEq] at h0
  have p1 : (D.tup [foD x f, .int a]).pl = true := by simp [D.pl, plAll, hf]
  have p2 : (D.tup [foD x g, .int b]).pl = true := by simp [D.pl, plAll, hg]
  have d1 : (D.tup [foD x f, .int a]).dep ≤ 60 := by simp only [D.dep, depAll]; omega
  have d2 : (D.tup [foD x g, .int b]).dep ≤ 60 := by simp only [D.dep, depAll]; omega
  rw [p1, p2, decide_eq_true d1, decide_eq_true d2]
  simp only [Bool.and_self, if_true, D.eqv, eqvAll, h0, Bool.and_true, Option.some.injEq, Bool.decide_and]
  have : (a == b) = decide (a = b) := by by_cases h : a = b <;> simp [h]
  rw [this]
def ft1 (T : Sk × Int) : Fo := (nfV T, nfP T)
section
variable {k : Nat} {w : W} {R : Nat} {ds : List Dr}
theorem s_begun (ns : List Int) (hn : ns.length ≤ 63) : ∃ w', callN P (k + 1) "_law_begun" [.scr ns] none = .ok .tok w' ∧ Dw 0 w' := by
  have hp : binD .pow (.int 10) (.int 18) = some (.int 1000000000000000000) := rfl
  have hit : ∀ env, look env 0 = some (.scr ns) → evI (callN P k) (.seq (.v 0)) env none = .ok (ns.map .int) none := fun env h => by
    rw [evi_seq, ev_v, h]; rfl
  have e1 := filtL_ok (fun x w => inB (.n 2) x [some (.scr ns), none, none] fun env => (evE (callN P k) (.cmp .ge (.bi .abs [.v 2]) (.bin .pow (.c (.int 10)) (.c (.int 18)))) env w).bind fun t w => Rp.cond t ((evE (callN P k) (.bin .sub (.bi .abs [.v 2]) (.bin .pow (.c (.int 10)) (.c (.int 18)))) env w).bind fun y w => .ok (some y) w) (.ok none w)) D.int (fun c => .int ((c.natAbs : Int) - 1000000000000000000)) (fun c => decide ((1000000000000000000 : Int) ≤ (c.natAbs : Int))) none ns (fun c _ => by
    by_cases h : (1000000000000000000 : Int) ≤ (c.natAbs : Int)
    · simp -implicitDefEqProofs only [inB_n, List.set_cons_zero, List.set_cons_succ, ev_cmp, ev_bi, ev_bin, evs_cons, evs_nil, ev_v, ev_c, look_zero, look_succ, lift_some, Rp.R.bind_ok, bi_abs_int, hp, cmp_ge, h, decide_true, Option.map_some, Rp.cond_true, b_sub, if_true]
    · simp -implicitDefEqProofs only [inB_n, List.set_cons_zero, List.set_cons_succ, ev_cmp, ev_bi, ev_bin, evs_cons, evs_nil, ev_v, ev_c, look_zero, look_succ, lift_some, Rp.R.bind_ok, bi_abs_int, hp, cmp_ge, h, decide_false, Option.map_some, Rp.cond_false]
      rfl)
  have c1 : evE (callN P k) f_law_begun_c1 [some (.scr ns), none, none] none = .ok (.lst ((ns.filter fun c => decide ((1000000000000000000 : Int) ≤ (c.natAbs : Int))).map fun c => .int ((c.natAbs : Int) - 1000000000000000000))) none := by
    unfold f_law_begun_c1
    refine ev_compIf_of (hit _ (by simp)) e1 ?_
    have := List.length_filter_le (fun c : Int => decide ((1000000000000000000 : Int) ≤ (c.natAbs : Int))) ns
    rw [List.length_map]; omega
  generalize (ns.filter fun c => decide ((1000000000000000000 : Int) ≤ (c.natAbs : Int))) = gs at *
  have c2 : ∀ d, evE (callN P k) f_law_begun_c2 [some (.scr ns), d, none] none = .ok (.lst (ns.map fun c => .int (c.natAbs : Int))) none := fun d => by
    unfold f_law_begun_c2
    refine ev_comp_of (hit _ (by simp)) ?_ (by rw [List.length_map]; omega)
    exact mapL_ok _ D.int (fun c => .int (c.natAbs : Int)) none ns (fun c _ => by simp -implicitDefEqProofs)
  have i1 := isInts_map (fun c : Int => (c.natAbs : Int) - 1000000000000000000) gs
  have i2 := isInts_map (fun c : Int => (c.natAbs : Int)) ns
  refine ⟨some { great := intL (gs.map fun c => .int ((c.natAbs : Int) - 1000000000000000000)), cells := intL (ns.map fun c => .int (c.natAbs : Int)), left := 0, turn := 0 }, ?_, ⟨_, rfl, by simp, by simp⟩⟩
  have er : exS (callN P k) (.retSt 1 f_law_begun_c2) [some (.scr ns), some (.lst (gs.map fun c => .int ((c.natAbs : Int) - 1000000000000000000))), none] none = .ok (.ret .tok) (some { great := intL (gs.map fun c => .int ((c.natAbs : Int) - 1000000000000000000)), cells := intL (ns.map fun c => .int (c.natAbs : Int)), left := 0, turn := 0 }) := by
    simp only [exS, look_zero, look_succ, lift_some, Rp.R.bind_ok, c2, i1, i2, and_self, if_true]
  rw [call_def (fn := f_law_begun) rfl rfl _ _ _ rfl]
  simp -implicitDefEqProofs only [f_law_begun, start, List.map_cons, List.map_nil, List.length_cons, List.length_nil, exs_cons, exs_nil, ex_asgO, List.cons_append, List.nil_append, List.replicate, Nat.reduceAdd, Nat.reduceSub, List.set_cons_zero, List.set_cons_succ, Rp.R.bind_ok, c1, isMut, if_true, thenS_next, er, thenS_ret, endD_ret]
def l1B : List S := [.ifs (.cmp .ne (.call "feet_between" [.v 5, .ix (.v 13) (.v 14), .ix (.v 13) (.v 15)]) (.call "feet_between" [.v 5, .ix (.v 12) (.v 14), .ix (.v 12) (.v 15)])) [.ret (.c (.bl false))] [], .ifs (.or (.cmp .ne (.ix (.call "shared_foot" [.v 5, .ix (.v 13) (.v 14), .ix (.v 13) (.v 15)]) (.c (.int 0))) (.v 6)) (.cmp .ne (.ix (.call "meeting_foot" [.v 5, .ix (.v 12) (.c (.int 0)), .ix (.v 12) (.c (.int 1)), .ix (.v 12) (.c (.int 2))]) (.c (.int 0))) (.v 6))) [.ret (.c (.bl false))] [], .kill [15]]
def l2B : List S := [.ifs (.or (.cmp .ne (.call "foot_of" [.v 5, .ix (.v 12) (.v 14)]) (.tup [.ix (.v 12) (.v 14), .c (.int 0)])) (.cmp .isNot (.call "is_foot" [.v 5, .ix (.v 13) (.v 14)]) (.c (.bl true)))) [.ret (.c (.bl false))] [], .kill [15], f_law_l1, .kill [14, 15]]
def turnB : List S := [.unpack [3, 4] (.call "_law_pf_doors" [.v 1]), .parO [5, 6] [0, 0] [.call "House" [.v 3, .v 4], .call "_law_draw" [.v 1, .v 3]], .asg 7 (.call "_law_strolled" [.v 1, .v 4, .v 6, .c (.int 7)]), .asg 8 (.call "_law_pick" [.v 1, .lst [.ix (.call "_law_pf_moves" [.v 1, .v 4, .v 7, .c (.int 4)]) (.c (.int 1)), .call "_law_strolled" [.v 1, .v 4, .v 6, .c (.int 5)]]]), .ifs (.not (.call "_law_is_truth" [.call "are_one" [.v 5, .v 7, .v 8], .cmp .eq (.call "foot_of" [.v 5, .v 7]) (.call "foot_of" [.v 5, .v 8])])) [.ret (.c (.bl false))] [], .ifs (.cmp .ne (.cmp .eq (.call "foot_of" [.v 5, .v 7]) (.call "foot_of" [.v 5, .v 8])) (.cmp .eq (.call "_law_plain" [.v 4, .v 7]) (.call "_law_plain" [.v 4, .v 8]))) [.ret (.c (.bl false))] [], .asg 9 (.bin .sub (.call "_law_draw" [.v 1, .c (.int 40)]) (.c (.int 20))), .asg 10 (.tup [.ix (.v 7) (.c (.int 0)), .bin .add (.sl (.ix (.v 7) (.c (.int 1))) none (some (.neg (.c (.int 1))))) (.tup [.bin .add (.ix (.ix (.v 7) (.c (.int 1))) (.neg (.c (.int 1)))) (.v 9)]), .ix (.v 7) (.c (.int 2))]), .ifs (.cmp .ne (.call "foot_of" [.v 5, .v 10]) (.tup [.ix (.call "foot_of" [.v 5, .v 7]) (.c (.int 0)), .bin .add (.ix (.call "foot_of" [.v 5, .v 7]) (.c (.int 1))) (.v 9)])) [.ret (.c (.bl false))] [], .asg 11 (.call "_law_homing" [.v 1, .v 4, .v 6, .c (.int 5)]), .asg 12 f_law_c1, .asg 13 f_law_c2, .kill [14, 15], f_law_l2, .asg 16 (.call "meeting_foot" [.v 5, .ix (.v 12) (.c (.int 0)), .ix (.v 12) (.c (.int 1)), .ix (.v 12) (.c (.int 2))]), .ifs (.cmp .ne (.ix (.call "foot_of" [.v 5, .call "_law_joined" [.v 11, .v 16]]) (.c (.int 0))) (.call "_law_k01_middle" [.v 5, .v 13])) [.ret (.c (.bl false))] [], .kill [2, 3, 4, 5, 6, 7, 8, 9, 10, 11, 12, 13, 14, 15, 16]]
def E0 (scr : D) : Env := [some scr, some .tok, none, none, none, none, none, none, none, none, none, none, none, none, none, none, none, none, none]
def kE (scr tn : D) (R : Nat) (ds : List Dr) (x : Nat) (one oth more lng home som led : D) (a14 a15 : Option D) : Env := [some scr, some .tok, some tn, some (.int R), some (drs ds), some (hs R ds), some (.int x), some one, some oth, some more, some lng, some home, some som, some led, a14, a15, none, none, none]
theorem l_to (o : Ok R ds) {x : Nat} (hx : x < R) {us : List Int} {p : List Sp} (hp : On ds p) (hu : us.length = p.length + 1) {scr tn one oth more lng home : D} {fs : List Fo} (h3 : fs.length = 3) (hF : ∀ f ∈ fs, Ft ds none x f.1 f.2 ∧ f.2.length ≤ 100 ∧ Ft ds none x (ld ds us p f).1 (ld ds us p f).2 ∧ (ld ds us p f).2.length ≤ 200) {a b : Nat} (ha : a < 3) (hb : b < a) :
    inB (.n 15) (.int (b : Nat)) (kE scr tn R ds x one oth more lng home (.lst (fs.map (foD x))) (.lst (fs.map fun f => foD x (ld ds us p f))) (some (.int (a : Nat))) none) (fun env => exSs (callN P (k + 10)) l1B env w) =
      .ok (.next (kE scr tn R ds x one oth more lng home (.lst (fs.map (foD x))) (.lst (fs.map fun f => foD x (ld ds us p f))) (some (.int (a : Nat))) none)) w := by
  have s1 : ∀ (i : Nat) (h : i < 3), ixD (.lst (fs.map (foD x))) (.int (i : Nat)) = some (foD x (fs[i]'(by omega))) := fun i h => by
    rw [ix_lst (by simp; omega)]; simp
  have s2 : ∀ (i : Nat) (h : i < 3), ixD (.lst (fs.map fun f => foD x (ld ds us p f))) (.int (i : Nat)) = some (foD x (ld ds us p (fs[i]'(by omega)))) := fun i h => by
    rw [ix_lst (by simp; omega)]; simp
  have m : ∀ (i : Nat) (h : i < 3), fs[i]'(by omega) ∈ fs := fun i h => List.getElem_mem _
  obtain ⟨a1, a2, a3, a4⟩ := hF _ (m a ha)
  obtain ⟨b1, b2, b3, b4⟩ := hF _ (m b (by omega))
  obtain ⟨c1, c2, _⟩ := hF _ (m 0 (by omega))
  obtain ⟨d1, d2, _⟩ := hF _ (m 1 (by omega))
  obtain ⟨e1, e2, _⟩ := hF _ (m 2 (by omega))
  have x0 : ixD (.lst (fs.map (foD x))) (.int 0) = some (foD x (fs[0]'(by omega))) := s1 0 (by omega)
  have x1 : ixD (.lst (fs.map (foD x))) (.int 1) = some (foD x (fs[1]'(by omega))) := s1 1 (by omega)
  have x2 : ixD (.lst (fs.map (foD x))) (.int 2) = some (foD x (fs[2]'(by omega))) := s1 2 (by omega)
  have f1 : ∀ w, callN P (k + 10) "feet_between" [hs R ds, foD x (ld ds us p (fs[a]'(by omega))), foD x (ld ds us p (fs[b]'(by omega)))] w = .ok (.int (fr ds (fs[a]'(by omega)) (fs[b]'(by omega)) : Nat)) w := fun w => by
    rw [← fr_led o hp hu a1 b1]
    exact s_btw (k := k + 1) o hx a3 b3 (by omega) (by omega)
  have f2 : ∀ w, callN P (k + 10) "feet_between" [hs R ds, foD x (fs[a]'(by omega)), foD x (fs[b]'(by omega))] w = .ok (.int (fr ds (fs[a]'(by omega)) (fs[b]'(by omega)) : Nat)) w := fun w => s_btw (k := k + 1) o hx a1 b1 (by omega) (by omega)
  have f3 : ∀ w, callN P (k + 10) "shared_foot" [hs R ds, foD x (ld ds us p (fs[a]'(by omega))), foD x (ld ds us p (fs[b]'(by omega)))] w = .ok (foD x (shF (ld ds us p (fs[a]'(by omega))) (ld ds us p (fs[b]'(by omega))))) w := fun w => s_shared_foot (k := k + 1) o hx a3 b3 (by omega) (by omega)
  have f4 : ∀ w, callN P (k + 10) "meeting_foot" [hs R ds, foD x (fs[0]'(by omega)), foD x (fs[1]'(by omega)), foD x (fs[2]'(by omega))] w = .ok (foD x (mtF (fs[0]'(by omega)) (fs[1]'(by omega)) (fs[2]'(by omega)))) w := fun w => s_meeting (k := k + 1) o hx c1 d1 e1 (by omega) (by omega) (by omega)
  have qq : ∀ n : Nat, D.eqO (.int (n : Nat)) (.int (n : Nat)) = some true := fun n => by rw [eqO_int]; simp
  rw [inB_n]
  simp only [kE]
  simp -implicitDefEqProofs only [l1B, exs_cons, exs_nil, ex_ifs, ex_kill, kill, List.set_cons_zero, List.set_cons_succ, ev_or, ev_cmp, ev_call, ev_ix, ev_c, evs_cons, evs_nil, ev_v, look_zero, look_succ, lift_some, Rp.R.bind_ok, s1 a ha, s1 b (by omega), s2 a ha, s2 b (by omega), f1, f2, cmp_ne, qq, Option.map_some, Bool.not_true, Rp.cond_false, thenS_next, f3, fo0, x0, x1, x2, f4]
theorem l_at (o : Ok R ds) {x : Nat} (hx : x < R) {us : List Int} {p : List Sp} (hp : On ds p) (hu : us.length = p.length + 1) {scr tn one oth more lng home : D} {fs : List Fo} (h3 : fs.length = 3) (hF : ∀ f ∈ fs, Ft ds none x f.1 f.2 ∧ f.2.length ≤ 100 ∧ Ft ds none x (ld ds us p f).1 (ld ds us p f).2 ∧ (ld ds us p f).2.length ≤ 200) {a : Nat} (ha : a < 3) :
    inB (.n 14) (.int (a : Nat)) (kE scr tn R ds x one oth more lng home (.lst (fs.map (foD x))) (.lst (fs.map fun f => foD x (ld ds us p f))) none none) (fun env => exSs (callN P (k + 10)) l2B env w) =
      .ok (.next (kE scr tn R ds x one oth more lng home (.lst (fs.map (foD x))) (.lst (fs.map fun f => foD x (ld ds us p f))) none none)) w := by
  have s1 : ixD (.lst (fs.map (foD x))) (.int (a : Nat)) = some (foD x (fs[a]'(by omega))) := by
    rw [ix_lst (by simp; omega)]; simp
  have s2 : ixD (.lst (fs.map fun f => foD x (ld ds us p f))) (.int (a : Nat)) = some (foD x (ld ds us p (fs[a]'(by omega)))) := by
    rw [ix_lst (by simp; omega)]; simp
  obtain ⟨a1, a2, a3, a4⟩ := hF _ (List.getElem_mem (show a < fs.length by omega))
  have f1 : ∀ w, callN P (k + 10) "foot_of" [hs R ds, foD x (fs[a]'(by omega))] w = .ok (.tup [foD x (fs[a]'(by omega)), .int 0]) w := fun w => by
    have hl := a1.len
    have := s_foot_of (k := k + 3) (w := w) o hx a1.walk (us := (fs[a]'(by omega)).1 ++ [0]) (by simp [hl]) (by omega)
    rw [(psh_foot o 0 a1).2] at this
    obtain ⟨z1, z2⟩ := zip_rev (fs[a]'(by omega)).1 (fs[a]'(by omega)).2 hl
    have n1 : nfV (((fs[a]'(by omega)).1.zip (fs[a]'(by omega)).2).reverse, 0) = (fs[a]'(by omega)).1 := by simp [nfV, z1]
    have n2 : nfP (((fs[a]'(by omega)).1.zip (fs[a]'(by omega)).2).reverse, 0) = (fs[a]'(by omega)).2 := by simp [nfP, z2]
    rw [n1, n2] at this
    exact this
  have f2 : ∀ w, callN P (k + 10) "is_foot" [hs R ds, foD x (ld ds us p (fs[a]'(by omega)))] w = .ok (.bl true) w := fun w => by
    have e1 : ∀ w, callN P (k + 9) "is_foot_of" [hs R ds, foD x (ld ds us p (fs[a]'(by omega)))] w = .ok (.bl true) w := fun w => s_is_foot (k := k + 3) o hx a3 (by omega)
    rw [call_def (fn := f_is_foot) rfl rfl _ _ _ rfl]
    simp -implicitDefEqProofs [f_is_foot, start, s_need_house, e1]
  have qq : D.eqO (.tup [foD x (fs[a]'(by omega)), .int 0]) (.tup [foD x (fs[a]'(by omega)), .int 0]) = some true := by rw [fop_eqO]; simp
  have hn : cmpD .isNot (.bl true) (.bl true) = some false := rfl
  obtain ⟨_, w2, e, _, rfl⟩ := forL_inv (fun _ : Unit => kE scr tn R ds x one oth more lng home (.lst (fs.map (foD x))) (.lst (fs.map fun f => foD x (ld ds us p f))) (some (.int (a : Nat))) none) (fun i : Nat => .int (i : Nat)) (fun y env w => inB (.n 15) y env fun env => exSs (callN P (k + 10)) l1B env w)
    (fun is _ w' => (∀ b ∈ is, b < a) ∧ w' = w) (fun b is _ w' hI => by
      obtain ⟨i1, rfl⟩ := hI
      exact ⟨(), w', l_to o hx hp hu h3 hF ha (i1 b List.mem_cons_self), fun r hr => i1 r (List.mem_cons_of_mem _ hr), rfl⟩) (List.range a) () w ⟨fun b hb => List.mem_range.mp hb, rfl⟩
  have el : exS (callN P (k + 10)) f_law_l1 (kE scr tn R ds x one oth more lng home (.lst (fs.map (foD x))) (.lst (fs.map fun f => foD x (ld ds us p f))) (some (.int (a : Nat))) none) w2 = .ok (.next (kE scr tn R ds x one oth more lng home (.lst (fs.map (foD x))) (.lst (fs.map fun f => foD x (ld ds us p f))) (some (.int (a : Nat))) none)) w2 := by
    unfold f_law_l1
    refine ex_for_of (evi_r0 (n := a) (w' := w2) (by simp -implicitDefEqProofs [kE]) (by omega)) e
  simp only [kE] at el
  rw [inB_n]
  simp only [kE]
  simp -implicitDefEqProofs only [l2B, exs_cons, exs_nil, ex_ifs, ex_kill, kill, List.set_cons_zero, List.set_cons_succ, ev_or, ev_cmp, ev_call, ev_ix, ev_tup, ev_c, evs_cons, evs_nil, ev_v, look_zero, look_succ, lift_some, Rp.R.bind_ok, s1, s2, f1, f2, cmp_ne, qq, hn, Option.map_some, Bool.not_true, Rp.cond_false, thenS_next, el]
end
end Lw
end

section
set_option linter.all false
set_option maxRecDepth 100000
namespace Lw
open Rp
section
variable {k : Nat} {w : W} {R : Nat} {ds : List Dr}
theorem s_footD (o : Ok R ds) {x : Nat} (hx : x < R) {us : List Int} {p : List Sp} (hw : Walk ds x p) (hu : us.length = p.length + 1) (hp : p.length ≤ 600) :
    callN P (k + 10) "foot_of" [hs R ds, wk x us p] w = .ok (.tup [foD x (ft1 (ru ds ([], 0) us p)), .int (ru ds ([], 0) us p).2]) w := s_foot_of (k := k + 3) o hx hw hu hp
theorem s_are_one (o : Ok R ds) {x : Nat} (hx : x < R) {us vs : List Int} {p q : List Sp} (hw : Walk ds x p) (hu : us.length = p.length + 1) (hp : p.length ≤ 300) (hw2 : Walk ds x q) (hv : vs.length = q.length + 1) (hq : q.length ≤ 300) :
    callN P (k + 10) "are_one" [hs R ds, wk x us p, wk x vs q] w = .ok (.bl (decide (ft1 (ru ds ([], 0) us p) = ft1 (ru ds ([], 0) vs q) ∧ (ru ds ([], 0) us p).2 = (ru ds ([], 0) vs q).2))) w := by
  have e1 : ∀ w, callN P (k + 9) "need_walk" [hs R ds, wk x us p] w = .ok .non w := fun w => s_need_walk (k := k + 3) hx hw hu (le_line (by omega))
  have e2 : ∀ w, callN P (k + 9) "need_walk" [hs R ds, wk x vs q] w = .ok .non w := fun w => s_need_walk (k := k + 3) hx hw2 hv (le_line (by omega))
  have e3 := fun w => (s_plain (k := k + 4) (w := w) o hw hu (by omega)).1
  have e4 := fun w => (s_plain (k := k + 4) (w := w) o hw2 hv (by omega)).1
  have qq : D.eqO (wk x (nfV (ru ds ([], 0) us p) ++ [(ru ds ([], 0) us p).2]) (nfP (ru ds ([], 0) us p))) (wk x (nfV (ru ds ([], 0) vs q) ++ [(ru ds ([], 0) vs q).2]) (nfP (ru ds ([], 0) vs q))) = some (decide (ft1 (ru ds ([], 0) us p) = ft1 (ru ds ([], 0) vs q) ∧ (ru ds ([], 0) us p).2 = (ru ds ([], 0) vs q).2)) := by
    rw [wk_eqO2]
    congr 1
    rw [decide_eq_decide, snoc_inj]
    unfold ft1
    rw [Prod.mk.injEq]
    constructor
    · rintro ⟨⟨a, b⟩, c⟩; exact ⟨⟨a, c⟩, b⟩
    · rintro ⟨⟨a, c⟩, b⟩; exact ⟨⟨a, b⟩, c⟩
  rw [call_def (fn := f_are_one) rfl rfl _ _ _ rfl]
  simp -implicitDefEqProofs only [f_are_one, start, List.map_cons, List.map_nil, List.length_cons, List.length_nil, exs_cons, exs_nil, ex_ex, ex_ret, ev_cmp, ev_call, evs_cons, evs_nil, ev_v, List.cons_append, List.nil_append, List.replicate, Nat.reduceAdd, Nat.reduceSub, look_zero, look_succ, lift_some, Rp.R.bind_ok, s_need_house, e1, e2, e3, e4, cmp_eq, qq, Option.map_some, thenS_next, thenS_ret, endD_ret]
theorem pl_eqO (x : Nat) (T U : Sk × Int) : D.eqO (wk x (nfV T ++ [T.2]) (nfP T)) (wk x (nfV U ++ [U.2]) (nfP U)) = some (decide (ft1 T = ft1 U ∧ T.2 = U.2)) := by
  rw [wk_eqO2]
  congr 1
  rw [decide_eq_decide, snoc_inj]
  unfold ft1
  rw [Prod.mk.injEq]
  constructor
  · rintro ⟨⟨a, b⟩, c⟩; exact ⟨⟨a, c⟩, b⟩
  · rintro ⟨⟨a, c⟩, b⟩; exact ⟨⟨a, b⟩, c⟩
theorem s_is_truth (b : Bool) : callN P (k + 1) "_law_is_truth" [.bl b, .bl b] w = .ok (.bl true) w := by
  have c1 : cmpD .is (.bl true) (.bl true) = some true := rfl
  have c2 : cmpD .is (.bl false) (.bl false) = some true := rfl
  rw [call_def (fn := f_law_is_truth) rfl rfl _ _ _ rfl]
  cases b <;> simp -implicitDefEqProofs [f_law_is_truth, start, c1, c2]
theorem l_turn {n0 : Nat} (hw : Dw n0 w) (hn0 : n0 ≤ 2 ^ 28) (scr i : D) :
    ∃ w', inB (.n 2) i (E0 scr) (fun env => exSs (callN P (k + 10)) turnB env w) = .ok (.next (E0 scr)) w' ∧ Dw (n0 + 1200) w' := by
  obtain ⟨R, ds, w1, e1, hR3, hm, d1⟩ := s_pf_doors (k := k + 4) hw (by omega)
  have e1' : callN P (k + 10) "_law_pf_doors" [.tok] w = .ok (.tup [.int R, drs ds]) w1 := e1
  have o := hm.ok
  have eH : callN P (k + 10) "House" [.int R, drs ds] w1 = .ok (hs R ds) w1 := s_House (k := k + 5) hm
  obtain ⟨x, w2, hx, e2, d2⟩ := s_draw (k := k + 8) d1 (by omega) (m := R) (by have := hm.r1; omega) (by omega)
  have e2' : callN P (k + 10) "_law_draw" [.tok, .int R] w1 = .ok (.int x) w2 := e2
  obtain ⟨us, p, w3, e3, hW, hu, hp, d3⟩ := s_strolled (k := k + 6) (x := x) (many := 7) o d2 (by omega) (by decide)
  have e3' : callN P (k + 10) "_law_strolled" [.tok, drs ds, .int x, .int 7] w2 = .ok (wk x us p) w3 := e3
  obtain ⟨lmv, us2, p2, w4, e4, hW2, hu2, hp2, d4⟩ := s_pf_moves (k := k + 5) o hW d3 (by omega) hu (by omega)
  have e4' : callN P (k + 10) "_law_pf_moves" [.tok, drs ds, wk x us p, .int 4] w3 = .ok (.tup [lmv, wk x us2 p2]) w4 := e4
  obtain ⟨us3, p3, w5, e5, hW3, hu3, hp3, d5⟩ := s_strolled (k := k + 6) (x := x) (many := 5) o d4 (by omega) (by decide)
  have e5' : callN P (k + 10) "_law_strolled" [.tok, drs ds, .int x, .int 5] w4 = .ok (wk x us3 p3) w5 := e5
  obtain ⟨ot, w6, ho, e6, d6⟩ := s_pick (k := k + 7) d5 (by omega) (xs := [wk x us2 p2, wk x us3 p3]) (by simp) (by simp)
  have e6' : callN P (k + 10) "_law_pick" [.tok, .lst [wk x us2 p2, wk x us3 p3]] w5 = .ok ot w6 := e6
  obtain ⟨vs, q, rfl, hWq, hvq, hq⟩ : ∃ (vs : List Int) (q : List Sp), ot = wk x vs q ∧ Walk ds x q ∧ vs.length = q.length + 1 ∧ q.length ≤ 30 := by
    simp only [List.mem_cons, List.not_mem_nil, or_false] at ho
    rcases ho with h | h
    · exact ⟨us2, p2, h, hW2, hu2, by omega⟩
    · exact ⟨us3, p3, h, hW3, hu3, by omega⟩
  have hon := Walk.on hW
  have a1 : ∀ w, callN P (k + 10) "are_one" [hs R ds, wk x us p, wk x vs q] w = .ok (.bl (decide (ft1 (ru ds ([], 0) us p) = ft1 (ru ds ([], 0) vs q) ∧ (ru ds ([], 0) us p).2 = (ru ds ([], 0) vs q).2))) w := fun w => s_are_one o hx hW hu (by omega) hWq hvq (by omega)
  have f1 : ∀ w, callN P (k + 10) "foot_of" [hs R ds, wk x us p] w = .ok (.tup [foD x (ft1 (ru ds ([], 0) us p)), .int (ru ds ([], 0) us p).2]) w := fun w => s_footD o hx hW hu (by omega)
  have f2 : ∀ w, callN P (k + 10) "foot_of" [hs R ds, wk x vs q] w = .ok (.tup [foD x (ft1 (ru ds ([], 0) vs q)), .int (ru ds ([], 0) vs q).2]) w := fun w => s_footD o hx hWq hvq (by omega)
  have p1 : ∀ w, callN P (k + 10) "_law_plain" [drs ds, wk x us p] w = .ok (wk x (nfV (ru ds ([], 0) us p) ++ [(ru ds ([], 0) us p).2]) (nfP (ru ds ([], 0) us p))) w := fun w => s_law_plain (k := k + 8) o hon hu (by omega)
  have p2' : ∀ w, callN P (k + 10) "_law_plain" [drs ds, wk x vs q] w = .ok (wk x (nfV (ru ds ([], 0) vs q) ++ [(ru ds ([], 0) vs q).2]) (nfP (ru ds ([], 0) vs q))) w := fun w => s_law_plain (k := k + 8) o (Walk.on hWq) hvq (by omega)
  obtain ⟨mo, w7, hmo, e7, d7⟩ := s_draw (k := k + 8) d6 (by omega) (m := 40) (by decide) (by decide)
  have e7' : callN P (k + 10) "_law_draw" [.tok, .int 40] w6 = .ok (.int mo) w7 := e7
  -- longer
  obtain ⟨A, z, rfl⟩ : ∃ A z, us = A ++ [z] := by
    rcases List.eq_nil_or_concat us with h | ⟨A, z, h⟩
    · subst h; simp at hu
    · exact ⟨A, z, by rw [h, List.concat_eq_append]⟩
  have hAl : A.length = p.length := by simpa using hu
  have f3 : ∀ w, callN P (k + 10) "foot_of" [hs R ds, wk x (A ++ [z + ((mo : Int) - 20)]) p] w = .ok (.tup [foD x (ft1 (ru ds ([], 0) (A ++ [z]) p)), .int ((ru ds ([], 0) (A ++ [z]) p).2 + ((mo : Int) - 20))]) w := fun w => by
    have := s_footD (k := k) (w := w) o hx hW (us := A ++ [z + ((mo : Int) - 20)]) (by simp [hAl]) (by omega)
    rw [ru_end _ _ _ _ hAl] at this
    rw [ru_end _ _ _ _ hAl]
    have h1 : ∀ (T : Sk) (m : Int), ft1 (T, m) = ft1 (T, 0) := fun T m => rfl
    rw [h1 _ (_ + z), ← h1 _ ((ro ds ([], 0) A p).2 + (z + ((mo : Int) - 20)))]
    rw [show (ro ds ([], 0) A p).2 + z + ((mo : Int) - 20) = (ro ds ([], 0) A p).2 + (z + ((mo : Int) - 20)) by omega]
    exact this
  -- home, feet
  obtain ⟨hus, hp', w8, e8, hWh, heh, huh, hph, d8⟩ := s_law_homing (k := k + 5) hm d7 (by omega) hx (many := 5) (by decide)
  have e8' : callN P (k + 10) "_law_homing" [.tok, drs ds, .int x, .int 5] w7 = .ok (wk x hus hp') w8 := e8
  have honh := Walk.on hWh
  obtain ⟨fs, w9, e9, hQ, ⟨_, d9⟩⟩ := mapL_inv (fun y w => inB (.n 17) y [some scr, some .tok, some i, some (.int R), some (drs ds), some (hs R ds), some (.int x), some (wk x (A ++ [z]) p), some (wk x vs q), some (.int ((mo : Int) - 20)), some (wk x (A ++ [z + ((mo : Int) - 20)]) p), some (wk x hus hp'), none, none, none, none, none, none, none] fun env => evE (callN P (k + 10)) (.call "_law_gr_drawn" [.v 1, .v 4, .v 6, .c (.int 5)]) env w)
    (fun i : Nat => .int (i : Int)) (foD x) (fun is w => is.length ≤ 3 ∧ Dw (n0 + 800 + 11 * (3 - is.length)) w) (fun _ q => Ft ds none x q.1 q.2 ∧ q.2.length ≤ 5) (fun i is w hI => by
      obtain ⟨i1, i2⟩ := hI
      simp only [List.length_cons] at i1 i2
      obtain ⟨vs, q, w', e, f1, f2, f3⟩ := s_drawn (k := k + 6) (x := x) (many := 5) o i2 (by omega) (by decide)
      have e' : callN P (k + 10) "_law_gr_drawn" [.tok, drs ds, .int x, .int 5] w = .ok (wk x (vs ++ [0]) q) w' := e
      refine ⟨(vs, q), w', ?_, ⟨f1, f2⟩, by omega, f3.mono (by omega)⟩
      simp -implicitDefEqProofs only [inB_n, List.set_cons_zero, List.set_cons_succ, ev_call, ev_c, evs_cons, evs_nil, ev_v, look_zero, look_succ, lift_some, Rp.R.bind_ok, e', foD]) (List.range 3) w8 ⟨by simp, d8.mono (by simp only [List.length_range]; omega)⟩
  have h3 : fs.length = 3 := by rw [hQ.length]; simp
  have hok : ∀ f ∈ fs, Ft ds none x f.1 f.2 ∧ f.2.length ≤ 5 := fun f hf => by
    obtain ⟨_, _, h⟩ := hQ.right f hf
    exact h
  have hld := fun f hf => s_led (k := k + 1) o hx hWh heh huh (by omega) (hok f hf).1 (by have := (hok f hf).2; omega)
  have hF : ∀ f ∈ fs, Ft ds none x f.1 f.2 ∧ f.2.length ≤ 100 ∧ Ft ds none x (ld ds hus hp' f).1 (ld ds hus hp' f).2 ∧ (ld ds hus hp' f).2.length ≤ 200 := fun f hf => ⟨(hok f hf).1, by have := (hok f hf).2; omega, (hld f hf).2.2.1, (hld f hf).2.2.2⟩
  have c1 : evE (callN P (k + 10)) f_law_c1 [some scr, some .tok, some i, some (.int R), some (drs ds), some (hs R ds), some (.int x), some (wk x (A ++ [z]) p), some (wk x vs q), some (.int ((mo : Int) - 20)), some (wk x (A ++ [z + ((mo : Int) - 20)]) p), some (wk x hus hp'), none, none, none, none, none, none, none] w8 = .ok (.lst (fs.map (foD x))) w9 := by
    unfold f_law_c1
    refine ev_comp_of (evi_r0 (n := 3) (w' := w8) (by simp -implicitDefEqProofs) (by omega)) e9 ?_
    rw [List.length_map, h3]; omega
  have c2 : evE (callN P (k + 10)) f_law_c2 [some scr, some .tok, some i, some (.int R), some (drs ds), some (hs R ds), some (.int x), some (wk x (A ++ [z]) p), some (wk x vs q), some (.int ((mo : Int) - 20)), some (wk x (A ++ [z + ((mo : Int) - 20)]) p), some (wk x hus hp'), some (.lst (fs.map (foD x))), none, none, none, none, none, none] w9 = .ok (.lst (fs.map fun f => foD x (ld ds hus hp' f))) w9 := by
    unfold f_law_c2
    refine ev_comp_of (w1 := w9) (xs := fs.map (foD x)) (by simp -implicitDefEqProofs only [evi_seq, ev_v, look_zero, look_succ, lift_some, Rp.R.bind_ok, items_lst]) (mapL_ok _ (foD x) (fun f => foD x (ld ds hus hp' f)) w9 fs (fun f hf => ?_)) (by rw [List.length_map, h3]; omega)
    obtain ⟨g1, g2, _⟩ := hld f hf
    obtain ⟨zz, g2⟩ := g2 w9
    simp -implicitDefEqProofs only [inB_n, List.set_cons_zero, List.set_cons_succ, ev_ix, ev_call, ev_c, evs_cons, evs_nil, ev_v, look_zero, look_succ, lift_some, Rp.R.bind_ok, g1, g2, ix0]
  obtain ⟨_, w10, e10, _, rfl⟩ := forL_inv (fun _ : Unit => kE scr i R ds x (wk x (A ++ [z]) p) (wk x vs q) (.int ((mo : Int) - 20)) (wk x (A ++ [z + ((mo : Int) - 20)]) p) (wk x hus hp') (.lst (fs.map (foD x))) (.lst (fs.map fun f => foD x (ld ds hus hp' f))) none none) (fun i : Nat => .int (i : Nat)) (fun y env w => inB (.n 14) y env fun env => exSs (callN P (k + 10)) l2B env w)
    (fun is _ w' => (∀ b ∈ is, b < 3) ∧ w' = w9) (fun b is _ w' hI => by
      obtain ⟨i1, rfl⟩ := hI
      exact ⟨(), w', l_at o hx honh huh h3 hF (i1 b List.mem_cons_self), fun r hr => i1 r (List.mem_cons_of_mem _ hr), rfl⟩) (List.range 3) () w9 ⟨fun b hb => List.mem_range.mp hb, rfl⟩
  have el : exS (callN P (k + 10)) f_law_l2 (kE scr i R ds x (wk x (A ++ [z]) p) (wk x vs q) (.int ((mo : Int) - 20)) (wk x (A ++ [z + ((mo : Int) - 20)]) p) (wk x hus hp') (.lst (fs.map (foD x))) (.lst (fs.map fun f => foD x (ld ds hus hp' f))) none none) w10 = .ok (.next (kE scr i R ds x (wk x (A ++ [z]) p) (wk x vs q) (.int ((mo : Int) - 20)) (wk x (A ++ [z + ((mo : Int) - 20)]) p) (wk x hus hp') (.lst (fs.map (foD x))) (.lst (fs.map fun f => foD x (ld ds hus hp' f))) none none)) w10 := by
    unfold f_law_l2
    refine ex_for_of (evi_r0 (n := 3) (w' := w10) (by simp -implicitDefEqProofs [kE]) (by omega)) e10
  simp only [kE] at el
  match fs, h3, hok, hld, hF, c1, c2, el with
  | [g0, g1, g2], h3, hok, hld, hF, c1, c2, el =>
    obtain ⟨b0, b0l⟩ := hok g0 (by simp)
    obtain ⟨b1, b1l⟩ := hok g1 (by simp)
    obtain ⟨b2, b2l⟩ := hok g2 (by simp)
    obtain ⟨_, _, k0, k0l⟩ := hF g0 (by simp)
    obtain ⟨_, _, k1, k1l⟩ := hF g1 (by simp)
    obtain ⟨_, _, k2, k2l⟩ := hF g2 (by simp)
    have hMt := mt_ft (h := g2) b0 b1
    have hMl : (mtF g0 g1 g2).2.length ≤ 100 := by
      have q1 := (shF_len g0 g1 b0.len).1
      have q2 := (shF_len g0 g2 b0.len).1
      have q3 := (shF_len g1 g2 b1.len).1
      have r1 := lcp_le (zp g0) (zp g1)
      have r2 := lcp_le (zp g0) (zp g2)
      have r3 := lcp_le (zp g1) (zp g2)
      have r4 := zp_len b0.len
      have r5 := zp_len b1.len
      unfold mtF
      split <;> split <;> omega
    have em : ∀ w, callN P (k + 10) "meeting_foot" [hs R ds, foD x g0, foD x g1, foD x g2] w = .ok (foD x (mtF g0 g1 g2)) w := fun w => s_meeting (k := k + 1) o hx b0 b1 b2 (by omega) (by omega) (by omega)
    obtain ⟨m1, m2, m3, m4⟩ := s_led (k := k + 1) o hx hWh heh huh (by omega) hMt hMl
    obtain ⟨zz, m2⟩ := m2 w10
    have hmed := med_led o honh huh hMt b0 b1 b2 (mt_med o b0 b1 b2)
    have emi : ∀ w, callN P (k + 10) "_law_k01_middle" [hs R ds, .lst [foD x (ld ds hus hp' g0), foD x (ld ds hus hp' g1), foD x (ld ds hus hp' g2)]] w = .ok (foD x (ld ds hus hp' (mtF g0 g1 g2))) w := fun w => s_middle o hx m3 k0 k1 k2 (by omega) (by omega) (by omega) hmed
    have qm : D.eqO (foD x (ld ds hus hp' (mtF g0 g1 g2))) (foD x (ld ds hus hp' (mtF g0 g1 g2))) = some true := by rw [fo_eqO]; simp
    have qf := fop_eqO x (ft1 (ru ds ([], 0) (A ++ [z]) p)) (ft1 (ru ds ([], 0) vs q)) (ru ds ([], 0) (A ++ [z]) p).2 (ru ds ([], 0) vs q).2
    have qp := pl_eqO x (ru ds ([], 0) (A ++ [z]) p) (ru ds ([], 0) vs q)
    have qt := fun b w => s_is_truth (k := k + 9) (w := w) b
    have qb : ∀ b : Bool, D.eqO (.bl b) (.bl b) = some true := fun b => by rw [eqO_bl]; simp
    have ql : D.eqO (.tup [foD x (ft1 (ru ds ([], 0) (A ++ [z]) p)), .int ((ru ds ([], 0) (A ++ [z]) p).2 + ((mo : Int) - 20))]) (.tup [foD x (ft1 (ru ds ([], 0) (A ++ [z]) p)), .int ((ru ds ([], 0) (A ++ [z]) p).2 + ((mo : Int) - 20))]) = some true := by rw [fop_eqO]; simp
    generalize ru ds ([], 0) (A ++ [z]) p = T1 at *
    generalize ru ds ([], 0) vs q = T2 at *
    have y0 : ∀ a b c : D, ixD (.lst [a, b, c]) (.int 0) = some a := fun _ _ _ => rfl
    have y1 : ∀ a b c : D, ixD (.lst [a, b, c]) (.int 1) = some b := fun _ _ _ => rfl
    have y2 : ∀ a b c : D, ixD (.lst [a, b, c]) (.int 2) = some c := fun _ _ _ => rfl
    have ix1' : ∀ a b : D, ixD (.tup [a, b]) (.int 1) = some b := fun a b => rfl
    have sl1 : slD (tI (A ++ [z])) none (some (-1)) = some (tI A) := sl_tI A z
    have ilast : ixD (tI (A ++ [z])) (.int (-1)) = some (.int z) := by rw [tI_app]; exact ix_last
    have ad1 : binD .add (tI A) (.tup [.int (z + ((mo : Int) - 20))]) = some (tI (A ++ [z + ((mo : Int) - 20)])) := by
      rw [tI_app]; exact b_addT (by simp; omega)
    have wkf : ∀ us p, D.tup [.int x, tI us, sts p] = wk x us p := fun us p => rfl
    have hm1 : mutsOk [0, 0] [hs R ds, .int x] = true := rfl
    have hu3' : uItems (.tup [.int R, drs ds]) = some [.int R, drs ds] := rfl
    simp only [List.map_cons, List.map_nil] at c1 c2 el
    refine ⟨w10, ?_, d9.mono (by simp only [List.length_nil]; omega)⟩
    rw [inB_n]
    simp -implicitDefEqProofs only [turnB, E0, exs_cons, exs_nil, ex_unpack, ex_parO, ex_ifs, ex_asg, ex_kill, kill, ev_call, ev_cmp, ev_not, ev_ix, ev_lst, ev_tup, ev_bin, ev_sl2, bdI, Option.bind_some, ev_neg, neg_int, ev_c, evs_cons, evs_nil, ev_v, List.set_cons_zero, List.set_cons_succ, look_zero, look_succ, lift_some, Rp.R.bind_ok, e1', hu3', List.length_cons, List.length_nil, and_self, if_true, setAll_cons, setAll_nil, thenS_next, eH, e2', hm1, e3', e4', e5', e6', ix1', a1, f1, f2, cmp_eq, cmp_ne, qf, Option.map_some, qt, Bool.not_true, Rp.cond_false, Rp.cond_true, p1, p2', qp, qb, e7', b_sub, wk0, wk1, wk2, sl1, ilast, b_add, ad1, wkf, f3, ix0, ql, e8', c1, c2, el, y0, y1, y2, em, m1, m2, emi, qm]
theorem plain (ns : List Int) (hn : ns.length ≤ 63) : ∃ w', callN P (k + 11) "law" [.scr ns] none = .ok (.bl true) w' := by
  obtain ⟨w1, e1, d1⟩ := s_begun (k := k + 9) ns hn
  have hlen : (3 : Int) + min (ns.length : Int) 4 = ((3 + min ns.length 4 : Nat) : Int) := by omega
  obtain ⟨s, w', e, i⟩ := forL_inv (fun _ : Unit => E0 (.scr ns)) (fun i : Nat => .int (i : Int)) (fun x env w => inB (.n 2) x env fun env => exSs (callN P (k + 10)) turnB env w) (fun is _ w => is.length ≤ 8 ∧ Dw (1200 * (8 - is.length)) w)
    (fun i is _ w hI => by
      obtain ⟨i1, i2⟩ := hI
      simp only [List.length_cons] at i1 i2
      obtain ⟨w', e, d⟩ := l_turn (k := k) i2 (by omega) (.scr ns) (.int (i : Nat))
      exact ⟨(), w', e, by omega, d.mono (by omega)⟩) (List.range (3 + min ns.length 4)) () w1 ⟨by simp; omega, d1.mono (by omega)⟩
  refine ⟨w', ?_⟩
  have el : exS (callN P (k + 10)) f_law_l3 [some (.scr ns), some .tok, none, none, none, none, none, none, none, none, none, none, none, none, none, none, none, none, none] w1 = .ok (.next (E0 (.scr ns))) w' := by
    unfold f_law_l3
    refine ex_for_of (evi_r0 (n := 3 + min ns.length 4) (w' := w1) ?_ (by omega)) e
    have b1 : biD .len [.scr ns] = some (.int ns.length) := rfl
    have b2 : biD .min2 [.int ns.length, .int 4] = some (.int (min (ns.length : Int) 4)) := rfl
    simp -implicitDefEqProofs only [ev_bin, ev_bi, ev_c, evs_cons, evs_nil, ev_v, look_zero, look_succ, lift_some, Rp.R.bind_ok, b1, b2, b_add, hlen]
  have e1' : callN P (k + 10) "_law_begun" [.scr ns] none = .ok .tok w1 := e1
  rw [call_def (fn := f_law) rfl rfl _ _ _ rfl]
  simp -implicitDefEqProofs only [f_law, start, List.map_cons, List.map_nil, List.length_cons, List.length_nil, exs_cons, exs_nil, ex_asg, ex_ret, ex_kill, kill, ev_call, ev_c, evs_cons, evs_nil, ev_v, List.cons_append, List.nil_append, List.replicate, Nat.reduceAdd, Nat.reduceSub, List.set_cons_zero, List.set_cons_succ, look_zero, look_succ, lift_some, Rp.R.bind_ok, thenS_next, thenS_ret, endD_ret, e1', el]
end
end Lw
end

theorem PySem.Challenge.cw_ropescounted_k01_whole_feet_and_walks_th_holds : PySem.Challenge.rw_ropescounted_k01_whole_feet_and_walks_th.Holds := by
  exact holds_of 10 (by decide) (fun ns hn => Lw.plain (k := 0) ns hn)
