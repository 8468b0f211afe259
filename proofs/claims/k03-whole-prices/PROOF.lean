import PyProof.Rows.All
import Wide.All
import OpenK.AllK
import Wide.FinOn
import HandS.ForMost
import HandS.TupAny
import HandS.TupMul
import HandS.Dict
import KE.KDictPairs
import KE.KTupSum
import HandS.IsInst
import HandS.Deep
import HandS.Flow
import HandS.SortInts
import HandS.Wide
import HandS.Gcd
import HandS.Zip
import HandS.Conv
import HandS.SetFor
import HandS.TupSets
import HandS.NamedTupSort
import HandS.Strs
import KE.GoesMore
import KE.GoesEnum
import PyProof.Draws
import HandS.Iter
import KE.GoesZip
import HandS.Star
import HandS.NoneIn
import HandS.Comp
import HandS.Style
import HandS.Defaults
import HandS.Ends
import HandS.HeadEnd
import HandS.EndBits
import HandS.HeadHook1
import HandS.HeadHook2
import HandS.HeadHook4
import KE.KStateDown
import HandS.Head0
import HandS.Head1
import HandS.Head2
import PySem.Challenge.RW_fromanytoany_k03_whole_prices
section
set_option Elab.async false
set_option linter.all false
set_option maxRecDepth 100000
namespace Ev
open PySem

/-- values as trees; ref: an object of the store -/
inductive U where
  | non | bl (b : Bool) | int (i : Int) | str (x : Str)
  | tup (xs : List U) | lst (xs : List U) | dct (kvs : List (Int × U)) | ref (k : Nat)
instance : Inhabited U := ⟨.non⟩

inductive Op2 where
  | add | sub | mul | fdiv | mod | pow | shl | shr | band | bxor
inductive Cmp where
  | eq | ne | lt | le | gt | ge | isin | notin | is_ | isnot
inductive Ty where
  | int | bool | tuple | list | str
inductive Bi where
  | len | abs | int1 | min2 | max2 | minS | maxS | sum | all | any | list | tuple | sorted | sortedSet | lenSet | listRange
  | isinst (ts : List Ty) | str1 | gcd | lcm
/-- targets of loops and of unpacking -/
inductive Tg where
  | nm (i : Nat) | t2 (a b : Tg) | t3 (a b c : Tg) | t4 (a b c d : Tg)
mutual
inductive C where
  | con (u : U) | var (i : Nat) | peek (i : Nat)
  | tup (as : A) | lst (as : A) | slst (as : A)
  | op (o : Op2) (a b : C) | neg (a : C)
  | cmp (o : Cmp) (a b : C) | chain (o p : Cmp) (a b c : C)
  | not (a : C) | and (a b : C) | or (a b : C) | ife (t a b : C)
  | ix (a b : C) | sl (a lo hi : C) | slL (a lo : C) | slH (a hi : C) | rev (a : C)
  | call (f : Nat) (as : A) | callK (f : Nat) (kw : Nat) (as bs : A)
  | bi (b : Bi) (as : A)
  | comp (w : List Nat) (tg : Tg) (it : It) (t e : C)
  | comp2 (w : List Nat) (tg : Tg) (it : It) (t : C) (tg2 : Tg) (it2 : It) (t2 e : C)
  | refNe (a : C) | sortedR (a : C)
  | dict1 (a : C) | dGet (a b : C) | dIn (neg : Bool) (a b : C)
  | callD (f : Nat) (as : A) (ds : List U)
inductive A where
  | nil | cons (e : C) (r : A)
inductive It where
  | seq (e : C) | enum (e : C) | zip2 (a b : C) | zips (e : C) | rng1 (a : C) | rng2 (a b : C) | rng3 (a b c : C)
end
mutual
inductive S where
  | asg (fz : List Nat) (i : Nat) (o : Bool) (e : C)
  | asgT (fz : List Nat) (tg : Tg) (e : C)
  | par2 (fz : List Nat) (i : Nat) (oi : Bool) (a : C) (j : Nat) (oj : Bool) (b : C)
  | par3 (fz : List Nat) (i j l : Nat) (as : A)
  | asgIx (fz : List Nat) (x : Nat) (k e : C)
  | aug (fz : List Nat) (i : Nat) (o : Op2) (e : C)
  | app (fz : List Nat) (x : Nat) (e : C)
  | appPop (fz : List Nat) (x y : Nat) (k : C)
  | ret (fz : List Nat) (e : C) | retV (i : Nat) | retN
  | ife (fz : List Nat) (t : C) (a b : B)
  | for_ (fz : List Nat) (tg : Tg) (it : It) (b : B)
  | while_ (fz : List Nat) (t : C) (b : B)
  | ex (fz : List Nat) (e : C)
  | popS (fz : List Nat) (y : Nat) (k : C)
  | appR (fz : List Nat) (a e : C)
  | pass | cont | brk | never
inductive B where
  | nil | cons (s : S) (b : B)
end

/-- a slot of a frame: nothing, a shared value, an owned list -/
inductive Slot where
  | un | sh (u : U) | own (u : U)
abbrev Env := List Slot
inductive Ob where
  | lst (xs : List Int)
abbrev Sto := List Ob
structure Xc where
  cls : Nat
  arg : Option U
/-- a result, its freshness -/
structure Rv where
  u : U
  f : Bool
inductive RE (α : Type) where
  | ok (a : α) (s : Sto) | exc (x : Xc) (s : Sto) | bad
inductive Fl where
  | nx | ret (r : Rv) | cont | brk
inductive RS where
  | ok (f : Fl) (r : Env) (s : Sto) | exc (x : Xc) (r : Env) (s : Sto) | bad
abbrev CallF := Nat → List U → Sto → RE Rv

def look : Nat → Env → Slot
  | _, [] => .un
  | 0, s :: _ => s
  | n + 1, _ :: r => look n r
def put : Nat → Slot → Env → Env
  | _, _, [] => []
  | 0, s, _ :: r => s :: r
  | n + 1, s, t :: r => t :: put n s r
def Slot.fz : Slot → Slot
  | .own u => .sh u
  | s => s
def freeze : List Nat → Env → Env
  | [], r => r
  | i :: is, r => freeze is (put i (look i r).fz r)
def wipeE : List Nat → Env → Env
  | [], r => r
  | i :: is, r => put i .un (wipeE is r)
def nth {α : Type} : Nat → List α → Option α
  | _, [] => none
  | 0, x :: _ => some x
  | n + 1, _ :: r => nth n r

/-! ### values -/
mutual
def eqU : U → U → Bool
  | .non, b => (match b with | .non => true | _ => false)
  | .bl a, b => (match b with | .bl c => a == c | .int j => (if a then 1 else 0) == j | _ => false)
  | .int i, b => (match b with | .bl c => i == (if c then 1 else 0) | .int j => i == j | _ => false)
  | .str x, b => (match b with | .str y => x == y | _ => false)
  | .tup xs, b => (match b with | .tup ys => eqUs xs ys | _ => false)
  | .lst xs, b => (match b with | .lst ys => eqUs xs ys | _ => false)
  | .dct _, _ => false
  | .ref _, _ => false
def eqUs : List U → List U → Bool
  | [], b => (match b with | [] => true | _ => false)
  | x :: xs, b => (match b with | y :: ys => eqU x y && eqUs xs ys | [] => false)
end
/-- no deeper than n, plain data -/
def shp : Nat → U → Bool
  | 0, u => (match u with | .tup _ => false | .lst _ => false | .dct _ => false | .ref _ => false | .str x => PyData.strOk x | _ => true)
  | n + 1, u => (match u with | .tup xs => xs.all (shp n) | .lst xs => xs.all (shp n) | .dct _ => false | .ref _ => false | .str x => PyData.strOk x | _ => true)
def lim : Nat := 1000000
def isNon : U → Bool
  | .non => true
  | _ => false
def truth : U → Option Bool
  | .non => some false
  | .bl b => some b
  | .int i => some (i != 0)
  | .str x => if x.length ≤ lim then some ((x.length : Int) != 0) else none
  | .tup xs => some (!xs.isEmpty)
  | .lst xs => some (!xs.isEmpty)
  | _ => none
def small (i : Int) : Bool := decide (i.natAbs < 2 ^ 64)
def mulOk (i j : Int) : Bool := decide (i.natAbs.log2 + j.natAbs.log2 < 100000000)
def divOk (j : Int) : Bool := j != 0 && decide (j.natAbs.log2 < 9000)
def rep {α : Type} (xs : List α) : Nat → List α
  | 0 => []
  | n + 1 => xs ++ rep xs n
def cutL {α : Type} (xs : List α) (lo hi : Option Int) : List α :=
  (xs.drop (HT.sIx xs.length 0 lo)).take (HT.sIx xs.length xs.length hi - HT.sIx xs.length 0 lo)
def op2 : Op2 → U → U → Option Rv
  | .add, .int i, .int j => some ⟨.int (i + j), false⟩
  | .add, .lst xs, .lst ys => if xs.length + ys.length ≤ lim then some ⟨.lst (xs ++ ys), true⟩ else none
  | .add, .tup xs, .tup ys => if xs.length + ys.length ≤ lim then some ⟨.tup (xs ++ ys), false⟩ else none
  | .add, .str x, .str y => if x.length + y.length ≤ lim then some ⟨.str (x ++ y), false⟩ else none
  | .sub, .int i, .int j => some ⟨.int (i - j), false⟩
  | .mul, .int i, .int j => if mulOk i j then some ⟨.int (i * j), false⟩ else none
  | .mul, .lst xs, .int k => if xs.length * k.toNat ≤ lim && decide (k < 1000000) && decide (-1000000 < k) then some ⟨.lst (rep xs k.toNat), true⟩ else none
  | .mul, .tup xs, .int k => if !xs.isEmpty && decide (xs.length ≤ 1000) && decide (2 ≤ k) && decide (k ≤ 1000) then some ⟨.tup (rep xs k.toNat), false⟩ else none
  | .fdiv, .int i, .int j => if !divOk j then none else some ⟨.int (i.fdiv j), false⟩
  | .mod, .int i, .int j => if j == 0 then none else some ⟨.int (i.fmod j), false⟩
  | .pow, .int i, .int j => if decide (0 ≤ j) && decide (j ≤ 1000000) && small i then some ⟨.int (i ^ j.toNat), false⟩ else none
  | .shl, .int i, .int j => if decide (0 ≤ j) && decide (j ≤ 1000000) && small i then some ⟨.int (i * 2 ^ j.toNat), false⟩ else none
  | .shr, .int i, .int j => if decide (0 ≤ j) then some ⟨.int (i / 2 ^ j.toNat), false⟩ else none
  | .band, .int i, .int j => some ⟨.int (Builtin.bitAnd i j), false⟩
  | .bxor, .int i, .int j => some ⟨.int (Builtin.bitXor i j), false⟩
  | _, _, _ => none
def intsU : List U → Option (List Int)
  | [] => some []
  | .int i :: r => (match intsU r with | some is => some (i :: is) | none => none)
  | _ :: _ => none
def boolsU : List U → Option (List Bool)
  | [] => some []
  | .bl b :: r => (match boolsU r with | some bs => some (b :: bs) | none => none)
  | _ :: _ => none
def cmp2 : Cmp → U → U → Option Bool
  | .eq, u, v => if shp 60 u && shp 60 v then some (eqU u v) else none
  | .ne, u, v => if shp 60 u && shp 60 v then some (!eqU u v) else none
  | .lt, .int i, .int j => some (decide (i < j))
  | .le, .int i, .int j => some (decide (i ≤ j))
  | .gt, .int i, .int j => some (decide (j < i))
  | .ge, .int i, .int j => some (decide (j ≤ i))
  | .lt, .tup xs, .tup ys => (match intsU xs, intsU ys with | some a, some b => some (HT.lexLt a b) | _, _ => none)
  | .isin, u, .lst ys => if shp 60 u && ys.all (shp 60) then some (ys.any fun y => eqU y u) else none
  | .isin, u, .tup ys => if shp 60 u && ys.all (shp 60) then some (ys.any fun y => eqU y u) else none
  | .notin, u, .lst ys => if shp 60 u && ys.all (shp 60) then some (!ys.any fun y => eqU y u) else none
  | .notin, u, .tup ys => if shp 60 u && ys.all (shp 60) then some (!ys.any fun y => eqU y u) else none
  | .is_, u, .non => some (isNon u)
  | .isnot, u, .non => some (!isNon u)
  | _, _, _ => none
def insI (x : Int) : List Int → List Int
  | [] => [x]
  | y :: r => if x ≤ y then x :: y :: r else y :: insI x r
def sortI : List Int → List Int
  | [] => []
  | x :: r => insI x (sortI r)
def insS (x : Int) : List Int → List Int
  | [] => [x]
  | y :: r => if x < y then x :: y :: r else if x == y then y :: r else y :: insS x r
def sortS : List Int → List Int
  | [] => []
  | x :: r => insS x (sortS r)
/-- tuples of ints, none empty -/
def tupsU : List U → Option (List (List Int))
  | [] => some []
  | .tup xs :: r => (match intsU xs, tupsU r with | some (i :: is), some rs => some ((i :: is) :: rs) | _, _ => none)
  | _ :: _ => none
def insT (x : List Int) : List (List Int) → List (List Int)
  | [] => [x]
  | y :: r => if HT.lexLt y x then y :: insT x r else x :: y :: r
def sortT : List (List Int) → List (List Int)
  | [] => []
  | x :: r => insT x (sortT r)
def insTS (x : List Int) : List (List Int) → List (List Int)
  | [] => [x]
  | y :: r => if HT.lexLt y x then y :: insTS x r else if x == y then y :: r else x :: y :: r
def sortTS : List (List Int) → List (List Int)
  | [] => []
  | x :: r => insTS x (sortTS r)
def tupI (t : List Int) : U := .tup (t.map .int)
/-- what a set of tuples may hold -/
def okT (ts : List (List Int)) : Bool := decide (ts.length < 64) && ts.all fun t => t.length == (ts.headD []).length && t.all fun x => decide (0 ≤ x) && decide (x < 18446744073709551616)
def isTy : Ty → U → Bool
  | .int, .int _ => true
  | .int, .bl _ => true
  | .bool, .bl _ => true
  | .tuple, .tup _ => true
  | .list, .lst _ => true
  | .str, .str _ => true
  | _, _ => false
def isPlain : U → Bool
  | .ref _ => false
  | .dct _ => false
  | _ => true
def maxI : Int → List Int → Int
  | m, [] => m
  | m, x :: r => maxI (if x > m then x else m) r
def minI : Int → List Int → Int
  | m, [] => m
  | m, x :: r => minI (if x < m then x else m) r
def items : U → Option (List U)
  | .lst xs => some xs
  | .tup xs => some xs
  | _ => none
def biV : Bi → List U → Option Rv
  | .len, [u] => (match u with | .lst xs => some ⟨.int xs.length, false⟩ | .tup xs => some ⟨.int xs.length, false⟩ | .str x => if x.length ≤ lim then some ⟨.int x.length, false⟩ else none | _ => none)
  | .abs, [.int i] => some ⟨.int (if i < 0 then -i else i), false⟩
  | .int1, [u] => (match u with | .int i => some ⟨.int i, false⟩ | .bl b => some ⟨.int (if b then 1 else 0), false⟩ | _ => none)
  | .min2, [.int i, .int j] => some ⟨.int (if j < i then j else i), false⟩
  | .max2, [.int i, .int j] => some ⟨.int (if j > i then j else i), false⟩
  | .minS, [.lst xs] => (match intsU xs with | some (i :: r) => some ⟨.int (minI i r), false⟩ | _ => none)
  | .maxS, [.lst xs] => (match intsU xs with | some (i :: r) => some ⟨.int (maxI i r), false⟩ | _ => none)
  | .sum, [.lst xs] => (match intsU xs with | some is => some ⟨.int is.sum, false⟩ | none => none)
  | .sum, [.tup xs] => (match intsU xs with | some is => some ⟨.int is.sum, false⟩ | none => none)
  | .all, [.lst xs] => (match boolsU xs with | some bs => some ⟨.bl (bs.all id), false⟩ | none => none)
  | .any, [.lst xs] => (match boolsU xs with | some bs => some ⟨.bl (bs.any id), false⟩ | none => none)
  | .list, [u] => (match items u with | some xs => some ⟨.lst xs, true⟩ | none => none)
  | .tuple, [u] => (match items u with | some xs => some ⟨.tup xs, false⟩ | none => none)
  | .sorted, [u] => (match items u with | some xs => (match intsU xs with | some is => some ⟨.lst ((sortI is).map .int), true⟩ | none => (match tupsU xs with | some ts => some ⟨.lst ((sortT ts).map tupI), true⟩ | none => none)) | none => none)
  | .sortedSet, [u] => (match items u with | some xs => (match intsU xs with | some is => if is.length < 64 then some ⟨.lst ((sortS is).map .int), true⟩ else none | none => (match u with | .lst _ => (match tupsU xs with | some ts => if okT ts then some ⟨.lst ((sortTS ts).map tupI), true⟩ else none | none => none) | _ => none)) | none => none)
  | .listRange, [.int n] => if n ≤ 1000000 && decide (-1000000 ≤ n) then some ⟨.lst ((List.range n.toNat).map fun k : Nat => .int k), true⟩ else none
  | .isinst ts, [u] => if isPlain u then some ⟨.bl (ts.any fun t => isTy t u), false⟩ else none
  | _, _ => none
/-- pairs (int, value), no int twice -/
def dctU : List U → Option (List (Int × U))
  | [] => some []
  | .tup [.int k, v] :: r => (match dctU r with | some d => if d.any (fun p => p.1 == k) then none else some ((k, v) :: d) | none => none)
  | _ :: _ => none
def dgetU : U → U → Option U
  | .dct d, .int k => (d.find? fun p => p.1 == k).map (·.2)
  | _, _ => none
def dinU : U → U → Option Bool
  | .int k, .dct d => some (d.any fun p => p.1 == k)
  | _, _ => none
def getIx : U → U → Sto → Option U
  | .lst xs, .int i, _ => (match L2.ixN xs.length i with | some k => nth k xs | none => none)
  | .tup xs, .int i, _ => (match L2.ixN xs.length i with | some k => nth k xs | none => none)
  | .str x, .int i, _ => if x.length ≤ lim then (match L2.ixN x.length i with | some k => (match nth k x.cps.toList with | some c => some (.str ⟨#[c]⟩) | none => none) | none => none) else none
  | .ref k, .int i, s => (match nth k s with | some (.lst xs) => (match L2.ixN xs.length i with | some k => (match nth k xs with | some v => some (.int v) | none => none) | none => none) | _ => none)
  | _, _, _ => none
def bnd : U → Option Int
  | .int i => some i
  | _ => none
def getSl (u : U) (lo hi : Option Int) : Option Rv := match u with
  | .lst xs => some ⟨.lst (cutL xs lo hi), true⟩
  | .tup xs => some ⟨.tup (cutL xs lo hi), false⟩
  | _ => none
def ofO {α : Type} (s : Sto) : Option α → RE α
  | some a => .ok a s
  | none => .bad
def zipU : List U → List U → List U
  | x :: xs, y :: ys => .tup [x, y] :: zipU xs ys
  | _, _ => []
def enumU : Nat → List U → List U
  | _, [] => []
  | n, x :: xs => .tup [.int n, x] :: enumU (n + 1) xs
def rows : List U → Option (List (List U))
  | [] => some []
  | x :: r => (match items x, rows r with | some xs, some rs => some (xs :: rs) | _, _ => none)
def heads : List (List U) → Option (List U × List (List U))
  | [] => some ([], [])
  | [] :: _ => none
  | (x :: xs) :: r => (match heads r with | some (hs, ts) => some (x :: hs, xs :: ts) | none => none)
def zipsU : Nat → List (List U) → List U
  | 0, _ => []
  | n + 1, rs => (match heads rs with | some (hs, ts) => .tup hs :: zipsU n ts | none => [])
def bindTg : Tg → U → Env → Option Env
  | .nm i, u, r => some (put i (.sh u) r)
  | .t2 a b, u, r => (match items u with
    | some [x, y] => (match bindTg a x r with | some r1 => bindTg b y r1 | none => none)
    | _ => none)
  | .t3 a b c, u, r => (match items u with
    | some [x, y, z] => (match bindTg a x r with | some r1 => (match bindTg b y r1 with | some r2 => bindTg c z r2 | none => none) | none => none)
    | _ => none)
  | .t4 a b c d, u, r => (match items u with
    | some [x, y, z, w] => (match bindTg a x r with | some r1 => (match bindTg b y r1 with | some r2 => (match bindTg c z r2 with | some r3 => bindTg d w r3 | none => none) | none => none) | none => none)
    | _ => none)
/-- a comprehension's turns -/
def compL (f : U → Sto → RE (Option U)) : List U → Sto → RE (List U)
  | [], s => .ok [] s
  | x :: xs, s => (match f x s with
    | .ok none s1 => compL f xs s1
    | .ok (some y) s1 => (match compL f xs s1 with
      | .ok ys s2 => .ok (y :: ys) s2
      | .exc x s => .exc x s
      | .bad => .bad)
    | .exc x s => .exc x s
    | .bad => .bad)
def compL2 (f : U → Sto → RE (List U)) : List U → Sto → RE (List U)
  | [], s => .ok [] s
  | x :: xs, s => (match f x s with
    | .ok zs s1 => (match compL2 f xs s1 with
      | .ok ys s2 => .ok (zs ++ ys) s2
      | .exc x s => .exc x s
      | .bad => .bad)
    | .exc x s => .exc x s
    | .bad => .bad)
def inLim (us : List U) : Bool := decide (us.length ≤ lim)
def RE.bind {α β : Type} (r : RE α) (f : α → Sto → RE β) : RE β := match r with
  | .ok a s => f a s
  | .exc x s => .exc x s
  | .bad => .bad
/-- keyword calls: the permutation -/
def permU (p : List Nat) (us : List U) : Option (List U) := match p with
  | [] => some []
  | i :: r => (match nth i us, permU r us with | some u, some rs => some (u :: rs) | _, _ => none)
def rngU (lo : Int) (n : Nat) (c : Int) : List U := (List.range n).map fun k : Nat => .int (lo + k * c)
section
variable (F : CallF) (KW : List (List Nat))
mutual
def evE : C → Env → Sto → RE Rv
  | .con u, _, s => .ok ⟨u, false⟩ s
  | .var i, r, s => (match look i r with | .sh u => .ok ⟨u, false⟩ s | _ => .bad)
  | .peek i, r, s => (match look i r with | .sh u => .ok ⟨u, false⟩ s | .own u => .ok ⟨u, false⟩ s | .un => .bad)
  | .tup as, r, s => (evA as r s).bind fun us s => .ok ⟨.tup us, false⟩ s
  | .lst as, r, s => (evA as r s).bind fun us s => .ok ⟨.lst us, true⟩ s
  | .slst as, r, s => (evA as r s).bind fun us s => (ofO s (intsU us)).bind fun is s => .ok ⟨.ref s.length, false⟩ (s ++ [.lst is])
  | .op o a b, r, s => (evE a r s).bind fun x s => (evE b r s).bind fun y s => ofO s (op2 o x.u y.u)
  | .neg a, r, s => (evE a r s).bind fun x s => (match x.u with | .int i => .ok ⟨.int (-i), false⟩ s | _ => .bad)
  | .cmp o a b, r, s => (evE a r s).bind fun x s => (evE b r s).bind fun y s => (ofO s (cmp2 o x.u y.u)).bind fun k s => .ok ⟨.bl k, false⟩ s
  | .chain o p a b c, r, s => (evE a r s).bind fun x s => (evE b r s).bind fun y s => (ofO s (cmp2 o x.u y.u)).bind fun k s =>
      match k with
      | true => (evE c r s).bind fun z s => (ofO s (cmp2 p y.u z.u)).bind fun k s => .ok ⟨.bl k, false⟩ s
      | false => .ok ⟨.bl false, false⟩ s
  | .not a, r, s => (evE a r s).bind fun x s => (ofO s (truth x.u)).bind fun k s => .ok ⟨.bl (!k), false⟩ s
  | .and a b, r, s => (evE a r s).bind fun x s => (ofO s (truth x.u)).bind fun k s => match k with | true => evE b r s | false => .ok x s
  | .or a b, r, s => (evE a r s).bind fun x s => (ofO s (truth x.u)).bind fun k s => match k with | true => .ok x s | false => evE b r s
  | .ife t a b, r, s => (evE t r s).bind fun x s => (ofO s (truth x.u)).bind fun k s => match k with | true => evE a r s | false => evE b r s
  | .ix a b, r, s => (evE a r s).bind fun x s => (evE b r s).bind fun y s => (ofO s (getIx x.u y.u s)).bind fun u s => .ok ⟨u, false⟩ s
  | .sl a lo hi, r, s => (evE a r s).bind fun x s => (evE lo r s).bind fun y s => (evE hi r s).bind fun z s => (ofO s (bnd y.u)).bind fun i s => (ofO s (bnd z.u)).bind fun j s => ofO s (getSl x.u (some i) (some j))
  | .slL a lo, r, s => (evE a r s).bind fun x s => (evE lo r s).bind fun y s => (ofO s (bnd y.u)).bind fun i s => ofO s (getSl x.u (some i) none)
  | .slH a hi, r, s => (evE a r s).bind fun x s => (evE hi r s).bind fun z s => (ofO s (bnd z.u)).bind fun j s => ofO s (getSl x.u none (some j))
  | .rev a, r, s => (evE a r s).bind fun x s => (match x.u with | .lst xs => .ok ⟨.lst xs.reverse, true⟩ s | .tup xs => .ok ⟨.tup xs.reverse, false⟩ s | _ => .bad)
  | .call f as, r, s => (evA as r s).bind fun us s => F f us s
  | .callK f kw as bs, r, s => (evA as r s).bind fun us s => (evA bs r s).bind fun ws s => (ofO s (match nth kw KW with | some p => permU p (us ++ ws) | none => none)).bind fun us s => F f us s
  | .bi b as, r, s => (evA as r s).bind fun us s => ofO s (biV b us)
  | .comp w tg it t e, r, s => (evI it r s).bind fun us s =>
      match inLim us with
      | true => (compL (fun u s => match bindTg tg u (wipeE w r) with
        | some r1 => (evE t r1 s).bind fun x s => (ofO s (truth x.u)).bind fun k s => (match k with
          | true => (evE e r1 s).bind fun y s => .ok (some y.u) s
          | false => .ok none s)
        | none => .bad) us s).bind fun ys s => .ok ⟨.lst ys, true⟩ s
      | false => .bad
  | .comp2 w tg it t tg2 it2 t2 e, r, s => (evI it r s).bind fun us s =>
      match inLim us with
      | true => (compL2 (fun u s => match bindTg tg u (wipeE w r) with
        | some r1 => (evE t r1 s).bind fun x s => (ofO s (truth x.u)).bind fun k s => (match k with
          | true => (evI it2 r1 s).bind fun vs s => (match inLim vs with
            | true => compL (fun v s => match bindTg tg2 v r1 with
              | some r2 => (evE t2 r2 s).bind fun x s => (ofO s (truth x.u)).bind fun k s => (match k with
                | true => (evE e r2 s).bind fun y s => .ok (some y.u) s
                | false => .ok none s)
              | none => .bad) vs s
            | false => .bad)
          | false => .ok [] s)
        | none => .bad) us s).bind fun ys s => (match inLim ys with | true => .ok ⟨.lst ys, true⟩ s | false => .bad)
      | false => .bad
  | .refNe a, r, s => (evE a r s).bind fun x s => (match x.u with
      | .ref k => (match nth k s with
        | some (.lst xs) => (ofO s (cmp2 .ne (.lst (xs.map .int)) (.lst []))).bind fun b s => .ok ⟨.bl b, false⟩ s
        | none => .bad)
      | _ => .bad)
  | .sortedR a, r, s => (evE a r s).bind fun x s => (match x.u with
      | .ref k => (match nth k s with
        | some (.lst xs) => .ok ⟨.lst ((sortI xs).map .int), true⟩ s
        | none => .bad)
      | _ => .bad)
  | .dict1 a, r, s => (evE a r s).bind fun x s => (ofO s (items x.u)).bind fun us s => (ofO s (dctU us)).bind fun d s => .ok ⟨.dct d, false⟩ s
  | .dGet a b, r, s => (evE a r s).bind fun x s => (evE b r s).bind fun y s => (ofO s (dgetU x.u y.u)).bind fun u s => .ok ⟨u, false⟩ s
  | .dIn neg a b, r, s => (evE a r s).bind fun x s => (evE b r s).bind fun y s => (ofO s (dinU x.u y.u)).bind fun k s => .ok ⟨.bl (if neg then !k else k), false⟩ s
  | .callD f as ds, r, s => (evA as r s).bind fun us s => F f (us ++ ds) s
def evA : A → Env → Sto → RE (List U)
  | .nil, _, s => .ok [] s
  | .cons e a, r, s => (evE e r s).bind fun x s => (evA a r s).bind fun xs s => .ok (x.u :: xs) s
def evI : It → Env → Sto → RE (List U)
  | .seq e, r, s => (evE e r s).bind fun x s => ofO s (items x.u)
  | .enum e, r, s => (evE e r s).bind fun x s => (ofO s (items x.u)).bind fun us s => .ok (enumU 0 us) s
  | .zip2 a b, r, s => (evE a r s).bind fun x s => (evE b r s).bind fun y s => (ofO s (items x.u)).bind fun us s => (ofO s (items y.u)).bind fun vs s => .ok (zipU us vs) s
  | .zips e, r, s => (evE e r s).bind fun x s => (ofO s (items x.u)).bind fun us s => (ofO s (rows us)).bind fun rs s =>
      (match rs with | [] => .bad | q :: _ => (match rs.all (fun t => t.length == q.length) with | true => .ok (zipsU q.length rs) s | false => .bad))
  | .rng1 a, r, s => (evE a r s).bind fun x s => (match x.u with
      | .int n => if decide (n ≤ 1000000) && decide (-1000000 ≤ n) then .ok (rngU 0 n.toNat 1) s else .bad
      | _ => .bad)
  | .rng2 a b, r, s => (evE a r s).bind fun x s => (evE b r s).bind fun y s => (match x.u, y.u with
      | .int m, .int n => if decide (n ≤ 1000000) && decide (-1000000 ≤ n) && decide (m ≤ 1000000) && decide (-1000000 ≤ m) then .ok (rngU m (n - m).toNat 1) s else .bad
      | _, _ => .bad)
  | .rng3 _ _ _, _, _ => .bad
end
/-- a for's turns -/
def forL (f : U → Env → Sto → RS) : List U → Env → Sto → RS
  | [], r, s => .ok .nx r s
  | x :: xs, r, s => (match f x r s with
    | .ok .nx r s => forL f xs r s
    | .ok .cont r s => forL f xs r s
    | .ok .brk r s => .ok .nx r s
    | .ok (.ret v) r s => .ok (.ret v) r s
    | .exc x r s => .exc x r s
    | .bad => .bad)
def whileL (t : Env → Sto → RE (Bool × Env)) (f : Env → Sto → RS) : Nat → Env → Sto → RS
  | 0, _, _ => .bad
  | n + 1, r, s => (match t r s with
    | .ok (true, r) s => (match f r s with
      | .ok .nx r s => whileL t f n r s
      | .ok .cont r s => whileL t f n r s
      | .ok .brk r s => .ok .nx r s
      | .ok (.ret v) r s => .ok (.ret v) r s
      | .exc x r s => .exc x r s
      | .bad => .bad)
    | .ok (false, r) s => .ok .nx r s
    | .exc x s => .exc x r s
    | .bad => .bad)
def Rv.slot (v : Rv) (o : Bool) : Slot := match o, v.f, v.u with
  | true, true, .lst xs => .own (.lst xs)
  | _, _, u => .sh u
def RE.st {α : Type} (r : Env) (x : RE α) (f : α → Sto → RS) : RS := match x with
  | .ok a s => f a s
  | .exc x s => .exc x r s
  | .bad => .bad
/-- a store to x[k] -/
def setIx (x : Nat) (k v : U) (r : Env) (s : Sto) : RS := match look x r, k, v with
  | .own (.lst xs), .int i, v => (match L2.ixN xs.length i with | some j => .ok .nx (put x (.own (.lst (xs.set j v))) r) s | none => .bad)
  | .sh (.ref p), .int i, .int w => (match nth p s with
    | some (.lst xs) => (match L2.ixN xs.length i with | some j => .ok .nx r (s.set p (.lst (xs.set j w))) | none => .bad)
    | _ => .bad)
  | _, _, _ => .bad
mutual
def evS : S → Env → Sto → RS
  | .asg fz i o e, r, s => let r := freeze fz r; (evE F KW e r s).st r fun v s => .ok .nx (put i (v.slot o) r) s
  | .asgT fz tg e, r, s => let r := freeze fz r; (evE F KW e r s).st r fun v s => (match bindTg tg v.u r with | some r => .ok .nx r s | none => .bad)
  | .par2 fz i oi a j oj b, r, s => let r := freeze fz r; (evE F KW a r s).st r fun v s => (evE F KW b r s).st r fun w s => .ok .nx (put j (w.slot oj) (put i (v.slot oi) r)) s
  | .par3 fz i j l as, r, s => let r := freeze fz r; (evA F KW as r s).st r fun us s => (match us with | [u, v, w] => .ok .nx (put l (.sh w) (put j (.sh v) (put i (.sh u) r))) s | _ => .bad)
  | .asgIx fz x k e, r, s => let r := freeze fz r; (evE F KW e r s).st r fun v s => (evE F KW k r s).st r fun i s => setIx x i.u v.u r s
  | .aug fz i o e, r, s => let r := freeze fz r; (evE F KW e r s).st r fun v s => (match look i r with
      | .sh (.int a) => (match op2 o (.int a) v.u with | some w => .ok .nx (put i (.sh w.u) r) s | none => .bad)
      | _ => .bad)
  | .app fz x e, r, s => let r := freeze fz r; (evE F KW e r s).st r fun v s => (match look x r with
      | .own (.lst xs) => if xs.length < lim then .ok .nx (put x (.own (.lst (xs ++ [v.u]))) r) s else .bad
      | _ => .bad)
  | .appPop fz x y k, r, s => let r := freeze fz r; (evE F KW k r s).st r fun v s => (match look x r, look y r, v.u with
      | .own (.lst xs), .own (.lst ys), .int i => if x != y && decide (xs.length < lim) && decide (ys.length ≤ lim) then (match L2.ixN ys.length i with
        | some j => (match nth j ys with | some u => .ok .nx (put x (.own (.lst (xs ++ [u]))) (put y (.own (.lst (ys.eraseIdx j))) r)) s | none => .bad)
        | none => .bad) else .bad
      | _, _, _ => .bad)
  | .ret fz e, r, s => let r := freeze fz r; (evE F KW e r s).st r fun v s => .ok (.ret v) r s
  | .retV i, r, s => (match look i r with | .sh u => .ok (.ret ⟨u, false⟩) r s | .own u => .ok (.ret ⟨u, true⟩) r s | .un => .bad)
  | .retN, r, s => .ok (.ret ⟨.non, false⟩) r s
  | .ife fz t a b, r, s => let r := freeze fz r; (evE F KW t r s).st r fun v s => (match truth v.u with | some true => evB a r s | some false => evB b r s | none => .bad)
  | .for_ fz tg it b, r, s => let r := freeze fz r; (evI F KW it r s).st r fun us s => (match inLim us with
      | true => forL (fun u r s => match bindTg tg u r with | some r => evB b r s | none => .bad) us r s
      | false => .bad)
  | .while_ fz t b, r, s => whileL (fun r s => let r := freeze fz r; (evE F KW t r s).bind fun v s => (ofO s (truth v.u)).bind fun k s => .ok (k, r) s) (fun r s => evB b r s) 1000000 r s
  | .ex fz e, r, s => let r := freeze fz r; (evE F KW e r s).st r fun _ s => .ok .nx r s
  | .popS fz y k, r, s => let r := freeze fz r; (evE F KW k r s).st r fun v s => (match look y r, v.u with
      | .own (.lst ys), .int i => if ys.length ≤ lim then (match L2.ixN ys.length i with
        | some j => .ok .nx (put y (.own (.lst (ys.eraseIdx j))) r) s
        | none => .bad) else .bad
      | _, _ => .bad)
  | .appR fz a e, r, s => let r := freeze fz r; (evE F KW a r s).st r fun x s => (evE F KW e r s).st r fun v s => (match x.u, v.u with
      | .ref p, .int w => (match nth p s with
        | some (.lst xs) => if xs.length < lim then .ok .nx r (s.set p (.lst (xs ++ [w]))) else .bad
        | none => .bad)
      | _, _ => .bad)
  | .pass, r, s => .ok .nx r s
  | .cont, r, s => .ok .cont r s
  | .brk, r, s => .ok .brk r s
  | .never, _, _ => .bad
def evB : B → Env → Sto → RS
  | .nil, r, s => .ok .nx r s
  | .cons a b, r, s => (match evS a r s with
    | .ok .nx r s => evB b r s
    | x => x)
end
end
/-- a def: how many parameters, how many further slots, its body -/
structure Fd where
  np : Nat
  nl : Nat
  body : B
def finish : RS → RE Rv
  | .ok (.ret v) _ s => .ok v s
  | .ok .nx _ s => .ok ⟨.non, false⟩ s
  | .exc x _ s => .exc x s
  | _ => .bad
/-- the program's def f on values, at most so many calls deep -/
def run (P : List Fd) (KW : List (List Nat)) : Nat → CallF
  | 0, _, _, _ => .bad
  | d + 1, f, us, s => (match nth f P with
    | some fd => if us.length == fd.np then finish (evB (run P KW d) KW fd.body (us.map .sh ++ rep [.un] fd.nl) s) else .bad
    | none => .bad)
end Ev

end
section
set_option Elab.async false
set_option linter.all false
set_option maxRecDepth 100000
set_option maxHeartbeats 2000000
namespace Ev
open PySem L2
open PySem.Spec PyProof.Rows
/-- a tuple whose object is known whole -/
def tupO (its : List Value) (vs : List V) : HO := .frz { cls := .type "tuple", data := .seq its.toArray } (.tup vs)
theorem sqt_of {K : PySem.W.Frag} {H : Hp} {a : Addr} {its : List Value} {vs : List V} (h : H a = some (tupO its vs)) : SqT K H a vs := .inl (.inr ⟨_, h⟩)
theorem sqt_k {K : PySem.W.Frag} {H : Hp} {a : Addr} {its : List Value} {vs : List V} {n : Nat} (h : K.lookup a = some { cls := .type "tuple", data := .seq its.toArray n }) (z : vs.length ≤ sizeLine) (r : Vals vs its) : SqT K H a vs :=
  .inr ⟨_, its.toArray, n, h, rfl, rfl, by rw [List.size_toArray, ← r.length]; exact z, by simpa using r⟩
section
variable {X : Cx} {pins : List (Addr × Obj)} {σ : L2.St} {H : Hp} {s : Shared}
theorem exOk {P : Program} {w : World} {H : Hp} {h : Heap} {its : List Value} {vs : List V} (r : Vals vs its) (hz : vs.length ≤ sizeLine) : ObjOk P w H (h.push { cls := .type "tuple", data := .seq its.toArray }) h.objs.size (tupO its vs) :=
  ⟨Heap.get?_push_size _ rfl, hz, its, r, IsTup.new _ _⟩
theorem exLaid {its : List Value} {vs : List V} (I : Inv X pins σ H s) (r : Vals vs its) (hz : vs.length ≤ sizeLine) : Inv X pins σ (upd H s.heap.objs.size (tupO its vs)) { s with heap := s.heap.push { cls := .type "tuple", data := .seq its.toArray } } :=
  I.laid (t' := s.toks) (fun b o e => Heap.get?_push_of_some _ e) (Nat.le_refl _) (exOk r hz)
/-- a display -/
def tTupX (t : TA) : TE := fun σ H Q => t σ H fun xs H1 => xs.length ≤ sizeLine ∧ ∀ p its, H1 p = none → Q (.ref p) (upd H1 p (tupO its xs))
theorem pe_tupX {x1 : Nat} {es : List Expr} {t : TA} {pos : Pos} (h : PA X es t) : PE X (.Tuple es x1 pos) (tTupX t) := by
  refine ⟨fun pins s σ H Q I hq => ?_⟩
  refine wpAny_Tuple_spliced (thn (h.run pos pins s σ H _ I hq) fun us s1 ⟨xs, H1, I1, r, z, q⟩ => ⟨by rw [← r.length]; exact z, ?_⟩)
  exact ⟨.ref s1.heap.objs.size, upd H1 s1.heap.objs.size (tupO us xs), exLaid I1 r z, rfl, q _ us (I1.hok.fresh (Nat.le_refl _))⟩
/-- tuple(x) -/
def rTupX (K : PySem.W.Frag) : List V → Hp → VK → Prop := fun xs H Q => ∃ p ys, xs = [.ref p] ∧ ((SqL K H p ys ∧ ∀ l its, H l = none → Q (.ref l) (upd H l (tupO its ys))) ∨ (SqT K H p ys ∧ Q (.ref p) H))
theorem cr_tupX : CallR X (.type "tuple") (rTupX X.K) := by
  intro pins s σ H xs us Q I r h
  obtain ⟨p, ys, rfl, h⟩ := h
  rw [Vals.ref1 r]
  rcases h with ⟨hq, q⟩ | ⟨hq, q⟩
  · obtain ⟨its, rv, pl, hz⟩ := I.list hq
    refine call_tuple_list pl.isList (fun h' kp => ?_) (by rw [List.size_toArray, ← rv.length]; exact hz)
    have I1 : Inv X pins σ H { s with heap := h' } := I.kept (t' := s.toks) kp
    exact ⟨.ref h'.objs.size, upd H h'.objs.size (tupO its ys), exLaid I1 rv hz, rfl, q _ its (I1.hok.fresh (Nat.le_refl _))⟩
  · obtain ⟨its, rv, pl, hz⟩ := I.tuple hq
    exact call_tuple_same pl ⟨.ref p, H, I, rfl, q⟩
/-- t + u -/
def rCatX (K : PySem.W.Frag) : R2 := fun x y H Q => ∃ a b xs ys, x = .ref a ∧ y = .ref b ∧ SqT K H a xs ∧ SqT K H b ys ∧ xs.length + ys.length ≤ sizeLine ∧
  (xs = [] → Q (.ref b) H) ∧ (xs ≠ [] → ys = [] → Q (.ref a) H) ∧ (xs ≠ [] → ys ≠ [] → ∀ p its, H p = none → Q (.ref p) (upd H p (tupO its (xs ++ ys))))
theorem op_catX : OpR X (binaryOp .Add) (rCatX X.K) := by
  intro pins s σ H x y v u Q I rx ry h
  obtain ⟨a, b, xs, ys, rfl, rfl, ha, hb, hz, q0, q1, q2⟩ := h
  cases rx
  cases ry
  obtain ⟨its, r1, p1, _⟩ := I.tuple ha
  obtain ⟨its2, r2, p2, _⟩ := I.tuple hb
  by_cases hx : xs = []
  · subst hx
    cases r1
    exact cat_tup0 p1 p2 ⟨.ref b, H, I, rfl, q0 rfl⟩
  · refine HT.cat_tup p1 p2 (fun z => hx (r1.nil_iff.mp z)) (fun z => ⟨.ref a, H, I, rfl, q1 hx (r2.nil_iff.mp z)⟩) (fun z => ?_) (by rw [← r1.length, ← r2.length]; exact hz)
    have hz' : (xs ++ ys).length ≤ sizeLine := by rw [List.length_append]; exact hz
    exact ⟨.ref s.heap.objs.size, _, exLaid I (r1.append r2) hz', rfl, q2 hx (fun w => z (r2.nil_iff.mpr w)) _ _ (I.hok.fresh (Nat.le_refl _))⟩
/-- t[lo:hi] -/
def rSlX (K : PySem.W.Frag) : V → Option Int → Option Int → Hp → VK → Prop := fun x lo hi H Q => ∃ a xs, x = .ref a ∧ SqT K H a xs ∧
  (HT.sIx xs.length 0 lo = 0 ∧ HT.sIx xs.length xs.length hi = xs.length → Q (.ref a) H) ∧ (¬ (HT.sIx xs.length 0 lo = 0 ∧ HT.sIx xs.length xs.length hi = xs.length) → ∀ p its, H p = none → Q (.ref p) (upd H p (tupO its (cutV xs lo hi))))
theorem sl_tupX : SlR X (rSlX X.K) := by
  intro pins s σ H x v vl vu lo hi sl Q I rx hs pl pu h
  obtain ⟨a, xs, rfl, hx, q1, q2⟩ := h
  cases rx
  obtain ⟨its, r, ht, hz⟩ := I.tuple hx
  have hlen : its.toArray.size = xs.length := by rw [List.size_toArray]; exact r.length.symm
  refine ⟨"tuple", _, PyProof.Rows.slot_tuple_getitem.lookup, ht.typeIs, ?_⟩
  by_cases hw : HT.sIx xs.length 0 lo = 0 ∧ HT.sIx xs.length xs.length hi = xs.length
  · exact getItem_tuple_whole ht hs pl pu (by rw [hlen]; exact hw) ⟨.ref a, H, I, rfl, q1 hw⟩
  · refine HT.getItem_tuple_cut ht hs pl pu (by rw [hlen]; exact hw) ?_ (by rw [hlen]; exact hz)
    rw [hlen]
    exact ⟨.ref s.heap.objs.size, _, exLaid I ((r.drop (HT.sIx xs.length 0 lo)).take (HT.sIx xs.length xs.length hi - HT.sIx xs.length 0 lo)) (Nat.le_trans (cutV_length xs lo hi) hz), rfl, q2 hw _ _ (I.hok.fresh (Nat.le_refl _))⟩
/-- t * k -/
def rRepX (K : PySem.W.Frag) : R2 := fun x y H Q => ∃ l k xs, x = .ref l ∧ y = .int k ∧ SqT K H l xs ∧ xs ≠ [] ∧ 2 ≤ k ∧ k ≤ 1000 ∧ xs.length ≤ 1000 ∧ ∀ p its, H p = none → Q (.ref p) (upd H p (tupO its (List.replicate k.toNat xs).flatten))
theorem op_repX : OpR X (binaryOp .Mult) (rRepX X.K) := by
  intro pins s σ H x y v u Q I rx ry h
  obtain ⟨l, k, xs, rfl, rfl, hT, hne, k2, k3, hn, q⟩ := h
  cases rx
  obtain ⟨t, rfl⟩ := ry
  obtain ⟨its, r, ⟨⟨cls, dd, data, sl⟩, ho, hc, n, hd⟩, hs⟩ := I.tuple hT
  simp only at hc hd
  subst hc hd
  have ln : its.toArray.size = xs.length := by rw [List.size_toArray]; exact r.length.symm
  have ln' : its.length = xs.length := r.length.symm
  have ps : 0 < xs.length := List.length_pos_iff.mpr hne
  have em : its.toArray.isEmpty = false := by
    rw [Array.isEmpty_eq_false_iff]
    intro z
    have := congrArg Array.size z
    rw [ln] at this
    simp at this
    exact hne this
  have pr : ((its.toArray.size : Nat) : Int) * k ≤ 1000000 := by
    rw [ln]
    have : ((xs.length : Nat) : Int) * k ≤ 1000 * 1000 := Int.mul_le_mul (by omega) (by omega) (by omega) (by omega)
    omega
  have fl : (List.replicate k.toNat its).flatten.length ≤ sizeLine := by
    rw [PyProof.Rows.lm_len_rep_flat, ln', sizeLine_eq]
    have : k.toNat * xs.length ≤ 1000 * 1000 := Nat.mul_le_mul (by omega) hn
    omega
  have t0 : (decide (k < -(2 ^ 63)) || decide (k ≥ 2 ^ 63)) = false := by simp; omega
  have t1 : (its.toArray.isEmpty || k == 1) = false := by rw [em]; simp; omega
  have t2 : (decide (k ≤ 0) || its.toArray.isEmpty) = false := by rw [em]; simp; omega
  have t4 : Builtin.Tuple.tupleTooMany (((its.toArray.size : Nat) : Int) * k) = false := by
    unfold Builtin.Tuple.tupleTooMany
    rw [sizeLine_eq]
    simp only [decide_eq_false_iff_not]
    omega
  refine wpAny_binaryOp_repeat_ref (T := "tuple") (U := "int") (by decide) ⟨_, ho, rfl⟩ (fun s' => typeIs_int s' k t) noFill_tuple_mul F.fills_int_mul F.slot_int_rmul repeat_tuple F.slot_int_index.lookup
    (call_meets F.slot_int_rmul (typeIs_int s k t) F.entry_int_rmul (F.args_int_rmul_2 _ _) (int_rmul_tuple k t l its.toArray n dd sl)
      ⟨ho, rfl, ⟨_, ho, rfl⟩, call_meets F.slot_tuple_mul ⟨_, ho, rfl⟩ F.entry_tuple_mul (F.args_tuple_mul_2 _ _) (tuple_mulW l its.toArray n dd sl k t t0 t1 t2 (by omega) t4 (by rw [size_rep, List.size_toArray]; exact fl)) ⟨ho, ?_⟩⟩)
  rw [size_rep]
  have hz : (List.replicate k.toNat xs).flatten.length ≤ sizeLine := by
    rw [PyProof.Rows.lm_len_rep_flat]
    rw [PyProof.Rows.lm_len_rep_flat, ln'] at fl
    exact fl
  exact ⟨.ref s.heap.objs.size, _, exLaid I (r.rep k.toNat) hz, rfl, q _ _ (I.hok.fresh (Nat.le_refl _))⟩
end
end Ev

end
section
set_option Elab.async false
set_option linter.all false
set_option maxRecDepth 100000
set_option maxHeartbeats 2000000
namespace Ev
open PySem L2
open PySem.Spec PyProof.Rows
/-- sum(t), ints -/
def rSumT (K : PySem.W.Frag) : List V → Hp → VK → Prop := fun vs H Q => ∃ (a : Addr) (ns : List Int), vs = [V.ref a] ∧ SqT K H a (ns.map V.int) ∧ Q (.int ns.sum) H
theorem cr_sumT {X : Cx} (hc : X.calm = true) : CallR X (.builtin "sum") (rSumT X.K) := by
  intro pins s σ H vs us Q I r h
  obtain ⟨a, ns, rfl, hs, q⟩ := h
  obtain ⟨its, rv, ht, _⟩ := I.tuple hs
  rw [Vals.ref1 r]
  have hi : IntsAre its ns := rv.ints
  obtain ⟨xs, e⟩ := hi.allInts.items
  have hn : numsOf (intItems xs).toList = ns := by rw [← e]; exact hi.numsOf
  rw [nums_intItems] at hn
  rw [e] at ht
  refine PySem.W.ktm_sumG (I.ok.hd hc) ht fun h' tk t' hk => ?_
  rw [preSum_eq, List.take_of_length_le (by simp), hn]
  exact ⟨.int _, H, I.kept hk, ⟨_, rfl⟩, q⟩
/-- what dict() may be given: a list of pairs; a tuple of pairs whose object is known -/
def PrAt (K : PySem.W.Frag) (H : Hp) (a : Addr) (xs : List V) : Prop :=
  SqL K H a xs ∨ (∃ its, H a = some (tupO its xs)) ∨ ∃ (its : List Value) (n : Nat), K.lookup a = some { cls := .type "tuple", data := .seq its.toArray n } ∧ xs.length ≤ sizeLine ∧ Vals xs its
def rDictX (K : PySem.W.Frag) : List V → Hp → VK → Prop := fun xs H Q => ∃ (a : Addr) (ps : List Addr) (kvs : List (Key × V)), xs = [.ref a] ∧ PrAt K H a (ps.map V.ref) ∧ Paired (fun p kv => SqT K H p [kV kv.1, kv.2]) ps kvs ∧
    ∀ p, H p = none → Q (.ref p) (upd H p (.dK (mergeK [] kvs)))
theorem cr_dictX {X : Cx} (hcalm : X.calm = true) : CallR X (.type "dict") (rDictX X.K) := by
  intro pins s σ H xs us Q I r q
  obtain ⟨a, ps, kvs, rfl, hq, hp, q⟩ := q
  rcases hq with hq | hq
  · exact call_dictP hcalm pins s σ H _ us Q I r ⟨a, ps, kvs, rfl, hq, hp, q⟩
  rw [Vals.ref1 r]
  obtain ⟨its, n, ho, rv, hz⟩ : ∃ (its : List Value) (n : Nat), s.heap.get? a = some { cls := .type "tuple", data := .seq its.toArray n } ∧ Vals (ps.map V.ref) its ∧ (ps.map V.ref).length ≤ sizeLine := by
    rcases hq with ⟨its, h⟩ | ⟨its, n, h1, h2, h3⟩
    · obtain ⟨e, z, its', rv, ⟨o, ho, hc, n, hd⟩⟩ := I.hok a _ h
      rw [e] at ho
      cases ho
      have hd : Data.seq its.toArray 0 = Data.seq its'.toArray n := hd
      injection hd with d1 d2
      have : its = its' := by simpa using congrArg Array.toList d1
      subst this
      exact ⟨its, 0, e, rv, z⟩
    · exact ⟨its, n, I.kIn a _ h1, h3, h2⟩
  have ei := refs_at rv
  subst ei
  rw [List.length_map] at hz
  obtain ⟨prs, rel, hl, hpr⟩ := pairs_of I hp
  have h1 : ∀ (j : Nat) (q : Key × Value), prs[j]? = some q → ∃ (b : Addr) (u : Value), ps[j]? = some b ∧ IsTup s.heap b #[u, q.2] ∧ keyIs q.1 u = true := hpr
  -- the keys' values
  let kv : Nat → Value := fun j => match ps[j]?, prs[j]? with
    | some b, some q => (match s.heap.get? b with | some o => (match o.data with | .seq ys _ => ys.getD 0 .none | _ => .none) | none => .none)
    | _, _ => .none
  let pv : List (Value × Value) := (List.range prs.length).map fun j => (kv j, ((prs[j]?).map (·.2)).getD .none)
  have hpv : pv.length = prs.length := by simp [pv]
  have hget : ∀ (j : Nat) (q : Key × Value), prs[j]? = some q → pv[j]? = some (kv j, q.2) := fun j q e => by
    have hj := (List.getElem?_eq_some_iff.mp e).1
    show ((List.range prs.length).map fun j => (kv j, ((prs[j]?).map (·.2)).getD .none))[j]? = _
    rw [List.getElem?_map, List.getElem?_range hj]
    simp only [Option.map_some, e, Option.getD_some]
  have hkv : ∀ (j : Nat) (q : Key × Value), prs[j]? = some q → ∃ b, ps[j]? = some b ∧ IsTup s.heap b #[kv j, q.2] ∧ keyIs q.1 (kv j) = true := fun j q e => by
    obtain ⟨b, u, e1, e2, e3⟩ := h1 j q e
    have ek : kv j = u := by
      obtain ⟨o, ho, hc, n, hd⟩ := e2
      show (match ps[j]?, prs[j]? with
        | some b, some q => (match s.heap.get? b with | some o => (match o.data with | .seq ys _ => ys.getD 0 .none | _ => .none) | none => .none)
        | _, _ => .none) = u
      rw [e1, e]
      simp only [ho, hd]
      rfl
    rw [ek]
    exact ⟨b, e1, e2, e3⟩
  have back : ∀ (j : Nat) k v, pv[j]? = some (k, v) → ∃ q, prs[j]? = some q ∧ k = kv j ∧ v = q.2 := fun j k v e => by
    have hj := (List.getElem?_eq_some_iff.mp e).1
    rw [hpv] at hj
    have e2 := List.getElem?_eq_getElem hj
    rw [hget j _ e2] at e
    cases e
    exact ⟨_, e2, rfl, rfl⟩
  refine PySem.call_dict_pairs (knd := mixKind X.prog X.w) (kvs := prs) (PairArg.tuple a (ps.map Value.ref).toArray (fun j => (ps[j]?).getD 0) pv) (I.ok.hd hcalm) ⟨⟨_, n, ho, rfl, rfl, rfl⟩, by simp [hpv, hl], fun j k v e => ?_⟩ ⟨by rw [hpv], fun j k v e => ?_⟩ (by rw [hpv, hl]; exact hz) fun h' tk hd' k => ?_
  · obtain ⟨q, e1, rfl, rfl⟩ := back j k v e
    obtain ⟨b, e2, e3, _⟩ := hkv j q e1
    refine ⟨by simp [e2], .inl ?_⟩
    show s.heap.IsTuple ((ps[j]?).getD 0) _
    rw [e2]
    exact e3
  · obtain ⟨q, e1, rfl, rfl⟩ := back j k v e
    obtain ⟨b, e2, e3, e4⟩ := hkv j q e1
    exact ⟨q.1, e1, e4⟩
  · have hm : (s.heap.objs.size == sysModules) = false := beq_eq_false_iff_ne.mpr (Nat.ne_of_gt I.big)
    have hlen : (mergeK [] kvs).length ≤ sizeLine := by
      refine Nat.le_trans (length_mergeK kvs []) ?_
      rw [List.length_nil, Nat.zero_add, rel.length, hl]
      exact hz
    exact ⟨.ref s.heap.objs.size, upd H s.heap.objs.size (.dK (mergeK [] kvs)), I.laid (t' := tk) (fun b o e => k b o (by simp) e) (Nat.le_refl _) (show ObjOk X.prog X.w _ _ _ (.dK (mergeK [] kvs)) from ⟨hlen, hm, merged [] prs, KV.merge rel .nil, hd'⟩), rfl, q _ (I.hok.fresh (Nat.le_refl _))⟩
/-- no key twice: merged as they stand -/
theorem mergeK_new : ∀ (kvs acc : List (Key × V)), ((acc ++ kvs).map (·.1)).Nodup → mergeK acc kvs = acc ++ kvs
  | [], acc, _ => by simp [mergeK]
  | (k, v) :: r, acc, h => by
    have hn : valV acc k = none := by
      cases q : valV acc k with
      | none => rfl
      | some x =>
        have hs : (acc.any fun kv => decide (kv.1 = k)) = true := by rw [valV_any, q]; rfl
        obtain ⟨p, hp, e⟩ := List.any_eq_true.mp hs
        have e : p.1 = k := by simpa using e
        rw [List.map_append, List.nodup_append] at h
        exact absurd e (h.2.2 p.1 (List.mem_map_of_mem hp) k (by simp))
    show mergeK (putK acc k v) r = _
    rw [putK_new v hn, mergeK_new r (acc ++ [(k, v)]) (by simpa using h)]
    simp
end Ev

end
section
set_option Elab.async false
set_option linter.all false
set_option maxRecDepth 100000
set_option maxHeartbeats 1000000
namespace Ev
open PySem L2

/-! ### values of the evaluator and values of the heap -/
def zipK (ks : List Int) (vs : List V) : List (Key × V) := (ks.zip vs).map fun p => (.inl p.1, p.2)
section
variable (K : PySem.W.Frag) (H : Hp) (m : Addr → Prop) (al : List Addr)
mutual
/-- v stands for u, nothing of it at an address of m (but by ref) -/
inductive Sh : U → V → Prop
  | non : Sh .non .non
  | bl (b : Bool) : Sh (.bl b) (.bl b)
  | int (i : Int) : Sh (.int i) (.int i)
  | str (x : Str) : Sh (.str x) (.str x)
  | tup {us : List U} {a : Addr} {vs : List V} {its : List Value} : H a = some (tupO its vs) → ¬ m a → Shs us vs → Sh (.tup us) (.ref a)
  | tupK {us : List U} {a : Addr} {vs : List V} {its : List Value} {n : Nat} : K.lookup a = some { cls := .type "tuple", data := .seq its.toArray n } → vs.length ≤ sizeLine → Vals vs its → Shs us vs → Sh (.tup us) (.ref a)
  | lst {us : List U} {a : Addr} {vs : List V} : H a = some (.lst vs) → ¬ m a → Shs us vs → Sh (.lst us) (.ref a)
  | lstF {us : List U} {a : Addr} {vs : List V} {its : List Value} : H a = some (.frz { cls := .type "list", data := .seq its.toArray } (.lst vs)) → ¬ m a → Shs us vs → Sh (.lst us) (.ref a)
  | lstK {us : List U} {a : Addr} {vs : List V} {its : List Value} {n : Nat} : K.lookup a = some { cls := .type "list", data := .seq its.toArray n } → vs.length ≤ sizeLine → Vals vs its → Shs us vs → Sh (.lst us) (.ref a)
  | ref {k : Nat} {a : Addr} : nth k al = some a → Sh (.ref k) (.ref a)
  | dct {kvs : List (Int × U)} {us : List U} {a : Addr} {vs : List V} : us = kvs.map Prod.snd → H a = some (.dK (zipK (kvs.map Prod.fst) vs)) → ¬ m a → Shs us vs → Sh (.dct kvs) (.ref a)
inductive Shs : List U → List V → Prop
  | nil : Shs [] []
  | cons {u : U} {v : V} {us : List U} {vs : List V} : Sh u v → Shs us vs → Shs (u :: us) (v :: vs)
end
end

section
variable {K : PySem.W.Frag} {H H' : Hp} {m m' : Addr → Prop} {al al' : List Addr}
theorem Sh.mono {u : U} {v : V} (h : Sh K H m al u v) (e : ∀ b o, H b = some o → ¬ m b → H' b = some o) (f : ∀ b o, H b = some o → ¬ m b → ¬ m' b) (g : ∀ k a, nth k al = some a → nth k al' = some a) : Sh K H' m' al' u v :=
  Sh.rec (K := K) (H := H) (m := m) (al := al) (motive_1 := fun u v _ => Sh K H' m' al' u v) (motive_2 := fun us vs _ => Shs K H' m' al' us vs)
    .non .bl .int .str
    (fun h1 h2 _ ih => .tup (e _ _ h1 h2) (f _ _ h1 h2) ih)
    (fun h1 h2 h4 _ ih => .tupK h1 h2 h4 ih)
    (fun h1 h2 _ ih => .lst (e _ _ h1 h2) (f _ _ h1 h2) ih)
    (fun h1 h2 _ ih => .lstF (e _ _ h1 h2) (f _ _ h1 h2) ih)
    (fun h1 h2 h4 _ ih => .lstK h1 h2 h4 ih)
    (fun h1 => .ref (g _ _ h1))
    (fun h0 h1 h2 _ ih => .dct h0 (e _ _ h1 h2) (f _ _ h1 h2) ih)
    .nil (fun _ _ ih1 ih2 => .cons ih1 ih2) h
theorem Shs.mono {us : List U} {vs : List V} (h : Shs K H m al us vs) (e : ∀ b o, H b = some o → ¬ m b → H' b = some o) (f : ∀ b o, H b = some o → ¬ m b → ¬ m' b) (g : ∀ k a, nth k al = some a → nth k al' = some a) : Shs K H' m' al' us vs :=
  Shs.rec (K := K) (H := H) (m := m) (al := al) (motive_1 := fun u v _ => Sh K H' m' al' u v) (motive_2 := fun us vs _ => Shs K H' m' al' us vs)
    .non .bl .int .str
    (fun h1 h2 _ ih => .tup (e _ _ h1 h2) (f _ _ h1 h2) ih)
    (fun h1 h2 h4 _ ih => .tupK h1 h2 h4 ih)
    (fun h1 h2 _ ih => .lst (e _ _ h1 h2) (f _ _ h1 h2) ih)
    (fun h1 h2 _ ih => .lstF (e _ _ h1 h2) (f _ _ h1 h2) ih)
    (fun h1 h2 h4 _ ih => .lstK h1 h2 h4 ih)
    (fun h1 => .ref (g _ _ h1))
    (fun h0 h1 h2 _ ih => .dct h0 (e _ _ h1 h2) (f _ _ h1 h2) ih)
    .nil (fun _ _ ih1 ih2 => .cons ih1 ih2) h
theorem Shs.length {us : List U} {vs : List V} (h : Shs K H m al us vs) : us.length = vs.length := by
  induction us generalizing vs with
  | nil => cases h; rfl
  | cons u us ih => cases h with | cons h1 h2 => simp [ih h2]
theorem nth_get {α : Type} : ∀ (n : Nat) (l : List α), nth n l = l[n]?
  | n, [] => by cases n <;> rfl
  | 0, x :: l => rfl
  | n + 1, x :: l => by show nth n l = _; rw [nth_get n l]; simp
theorem Shs.nth {us : List U} {vs : List V} (h : Shs K H m al us vs) {i : Nat} {u : U} (e : us[i]? = some u) : ∃ v, vs[i]? = some v ∧ Sh K H m al u v := by
  induction us generalizing vs i with
  | nil => simp at e
  | cons w us ih =>
    cases h with
    | cons h1 h2 =>
      cases i with
      | zero => simp at e; subst e; exact ⟨_, rfl, h1⟩
      | succ i =>
        obtain ⟨v, e1, r⟩ := ih h2 (i := i) (by simpa using e)
        exact ⟨v, by simpa using e1, r⟩
theorem Shs.append {us ws : List U} {vs zs : List V} (h : Shs K H m al us vs) (h' : Shs K H m al ws zs) : Shs K H m al (us ++ ws) (vs ++ zs) := by
  induction us generalizing vs with
  | nil => cases h; exact h'
  | cons u us ih => cases h with | cons h1 h2 => exact .cons h1 (ih h2)
theorem Shs.set {us : List U} {vs : List V} (h : Shs K H m al us vs) {i : Nat} {u : U} {v : V} (r : Sh K H m al u v) : Shs K H m al (us.set i u) (vs.set i v) := by
  induction us generalizing vs i with
  | nil => cases h; exact .nil
  | cons w us ih =>
    cases h with
    | cons h1 h2 =>
      cases i with
      | zero => exact .cons r h2
      | succ i => exact .cons h1 (ih h2)
theorem Shs.drop {us : List U} {vs : List V} (h : Shs K H m al us vs) (n : Nat) : Shs K H m al (us.drop n) (vs.drop n) := by
  induction us generalizing vs n with
  | nil => cases h; simp; exact .nil
  | cons w us ih =>
    cases h with
    | cons h1 h2 =>
      cases n with
      | zero => exact .cons h1 h2
      | succ n => simpa using ih h2 n
theorem Shs.take {us : List U} {vs : List V} (h : Shs K H m al us vs) (n : Nat) : Shs K H m al (us.take n) (vs.take n) := by
  induction us generalizing vs n with
  | nil => cases h; simp; exact .nil
  | cons w us ih =>
    cases h with
    | cons h1 h2 =>
      cases n with
      | zero => simp; exact .nil
      | succ n => exact .cons h1 (ih h2 n)
theorem Shs.eraseIdx {us : List U} {vs : List V} (h : Shs K H m al us vs) (n : Nat) : Shs K H m al (us.eraseIdx n) (vs.eraseIdx n) := by
  induction us generalizing vs n with
  | nil => cases h; simp; exact .nil
  | cons w us ih =>
    cases h with
    | cons h1 h2 =>
      cases n with
      | zero => simpa using h2
      | succ n => exact .cons h1 (ih h2 n)
theorem Shs.reverse {us : List U} {vs : List V} (h : Shs K H m al us vs) : Shs K H m al us.reverse vs.reverse := by
  induction us generalizing vs with
  | nil => cases h; exact .nil
  | cons w us ih => cases h with | cons h1 h2 => simpa using (ih h2).append (.cons h1 .nil)
theorem Shs.ints {is : List Int} : Shs K H m al (is.map .int) (is.map .int) := by
  induction is with
  | nil => exact .nil
  | cons i is ih => exact .cons (.int i) ih
theorem Shs.intsU {us : List U} {vs : List V} (h : Shs K H m al us vs) {is : List Int} (e : Ev.intsU us = some is) : vs = is.map V.int := by
  induction us generalizing vs is with
  | nil => cases h; simp [Ev.intsU] at e; subst e; rfl
  | cons w us ih =>
    cases h with
    | cons h1 h2 =>
      cases w with
      | int i =>
        cases h1
        simp only [Ev.intsU] at e
        cases q : Ev.intsU us with
        | none => rw [q] at e; cases e
        | some js => rw [q] at e; cases e; simp [ih h2 q]
      | _ => simp [Ev.intsU] at e
theorem Shs.boolsU {us : List U} {vs : List V} (h : Shs K H m al us vs) {bs : List Bool} (e : Ev.boolsU us = some bs) : vs = bs.map V.bl := by
  induction us generalizing vs bs with
  | nil => cases h; simp [Ev.boolsU] at e; subst e; rfl
  | cons w us ih =>
    cases h with
    | cons h1 h2 =>
      cases w with
      | bl i =>
        cases h1
        simp only [Ev.boolsU] at e
        cases q : Ev.boolsU us with
        | none => rw [q] at e; cases e
        | some js => rw [q] at e; cases e; simp [ih h2 q]
      | _ => simp [Ev.boolsU] at e
end

/-! ### the store, the slots -/
/-- from one heap to a later one: the store may be changed, and grows -/
structure Step (H H' : Hp) (al al' : List Addr) : Prop where
  pre : ∃ g, al' = al ++ g ∧ ∀ a ∈ g, H a = none
  ext : ∀ b o, H b = some o → b ∉ al → H' b = some o
  dom : ∀ b o, H b = some o → ∃ o', H' b = some o'
/-- nothing but new objects -/
def Grow (H H' : Hp) : Prop := ∀ b o, H b = some o → H' b = some o
/-- m with the store's addresses -/
def mU (m : Addr → Prop) (al : List Addr) : Addr → Prop := fun a => m a ∨ a ∈ al
/-- the store stands at al -/
structure ST (K : PySem.W.Frag) (m : Addr → Prop) (al : List Addr) (s : Sto) (H : Hp) : Prop where
  len : al.length = s.length
  nd : al.Nodup
  sub : ∀ a ∈ al, m a
  at_ : ∀ (k : Nat) us, s[k]? = some (Ob.lst us) → ∃ a, al[k]? = some a ∧ H a = some (.lst (us.map V.int))
/-- the slots -/
structure SR (K : PySem.W.Frag) (m : Addr → Prop) (al : List Addr) (ρ : Env) (σ : St) (H : Hp) : Prop where
  len : ρ.length = σ.length
  md : ∀ a, m a → ∃ o, H a = some o
  sh : ∀ i u, look i ρ = .sh u → ∃ v, σ[i]? = some (some v) ∧ Sh K H m al u v
  own : ∀ i u, look i ρ = .own u → ∃ us a vs, u = .lst us ∧ σ[i]? = some (some (.ref a)) ∧ H a = some (.lst vs) ∧ Shs K H m al us vs ∧ m a ∧ a ∉ al
  inj : ∀ i j u w a, look i ρ = .own u → look j ρ = .own w → σ[i]? = some (some (.ref a)) → σ[j]? = some (some (.ref a)) → i = j
/-- a result's value -/
structure VR (K : PySem.W.Frag) (H H' : Hp) (m : Addr → Prop) (al : List Addr) (r : Rv) (v : V) : Prop where
  sh : Sh K H' m al r.u v
  fr : r.f = true → ∀ us, r.u = .lst us → ∃ a vs, v = .ref a ∧ H' a = some (.lst vs) ∧ Shs K H' (fun b => m b ∨ b = a) al us vs ∧ H a = none ∧ ¬ m a
/-- a value that is looked at only: it may be an owned list -/
inductive BR (K : PySem.W.Frag) (H : Hp) (m : Addr → Prop) (al : List Addr) : U → V → Prop
  | sh {u : U} {v : V} : Sh K H m al u v → BR K H m al u v
  | own {us : List U} {a : Addr} {vs : List V} : H a = some (.lst vs) → a ∉ al → Shs K H m al us vs → BR K H m al (.lst us) (.ref a)

section
variable {K : PySem.W.Frag} {H H1 H2 H' : Hp} {m m' : Addr → Prop} {al al1 al2 al' : List Addr} {ρ : Env} {σ : St} {s s' : Sto}
theorem Step.refl : Step H H al al := ⟨⟨[], by simp, fun _ z => nomatch z⟩, fun _ _ e _ => e, fun _ o e => ⟨o, e⟩⟩
theorem Grow.step (g : Grow H H') : Step H H' al al := ⟨⟨[], by simp, fun _ z => nomatch z⟩, fun b o e _ => g b o e, fun b o e => ⟨o, g b o e⟩⟩
theorem Grow.refl : Grow H H := fun _ _ e => e
theorem Grow.trans (g : Grow H H1) (g' : Grow H1 H2) : Grow H H2 := fun b o e => g' b o (g b o e)
theorem Grow.new {p : Addr} {o : HO} (h : H p = none) : Grow H (upd H p o) := fun b u e => by rw [upd_ne (ne_of_none e h)]; exact e
theorem Step.trans (a : Step H H1 al al1) (b : Step H1 H2 al1 al2) : Step H H2 al al2 := by
  obtain ⟨g, e, n⟩ := a.pre
  obtain ⟨g', e', n'⟩ := b.pre
  have nd : ∀ c, H1 c = none → H c = none := fun c z => by
    cases q : H c with
    | none => rfl
    | some o => obtain ⟨o', q'⟩ := a.dom c o q; rw [z] at q'; cases q'
  refine ⟨⟨g ++ g', by rw [e', e, List.append_assoc], fun c hc => ?_⟩, fun c o h hn => ?_, fun c o h => ?_⟩
  · rcases List.mem_append.mp hc with hc | hc
    · exact n c hc
    · exact nd c (n' c hc)
  · refine b.ext c o (a.ext c o h hn) fun z => ?_
    rw [e] at z
    rcases List.mem_append.mp z with z | z
    · exact hn z
    · rw [n c z] at h; cases h
  · obtain ⟨o', q⟩ := a.dom c o h
    exact b.dom c o' q
theorem Step.sub (a : Step H H1 al al1) : ∀ c ∈ al, c ∈ al1 := fun c hc => by
  obtain ⟨g, e, _⟩ := a.pre
  rw [e]; exact List.mem_append_left _ hc
theorem Step.nth (a : Step H H1 al al1) : ∀ k c, Ev.nth k al = some c → Ev.nth k al1 = some c := fun k c h => by
  obtain ⟨g, e, _⟩ := a.pre
  rw [nth_get] at h ⊢
  rw [e, List.getElem?_append_left (List.getElem?_eq_some_iff.mp h).1]
  exact h
theorem Step.notm (a : Step H H1 al al1) (sb : ∀ c ∈ al, m c) {c : Addr} {o : HO} (h : H c = some o) (hm : ¬ m c) : ¬ mU m al1 c := by
  rintro (z | z)
  · exact hm z
  · obtain ⟨g, e, n⟩ := a.pre
    rw [e] at z
    rcases List.mem_append.mp z with z | z
    · exact hm (sb c z)
    · rw [n c z] at h; cases h
end
end Ev

end
section
set_option Elab.async false
set_option linter.all false
set_option maxRecDepth 100000
set_option maxHeartbeats 2000000
namespace Ev
open PySem L2

/-- a list as it stands: tracked, the script, of the written part -/
def LstAt (K : PySem.W.Frag) (H : Hp) (a : Addr) (vs : List V) : Prop :=
  H a = some (.lst vs) ∨ (∃ its : List Value, H a = some (.frz { cls := .type "list", data := .seq its.toArray } (.lst vs))) ∨
  ∃ (its : List Value) (n : Nat), K.lookup a = some { cls := .type "list", data := .seq its.toArray n } ∧ vs.length ≤ sizeLine ∧ Vals vs its
section
variable {K : PySem.W.Frag} {H H' : Hp} {m : Addr → Prop} {al : List Addr}
theorem LstAt.sq {a : Addr} {vs : List V} (h : LstAt K H a vs) : SqL K H a vs := by
  rcases h with h | ⟨its, h⟩ | ⟨its, n, h, z, r⟩
  · exact .inl (.inl h)
  · exact .inl (.inr ⟨_, h⟩)
  · exact .inr ⟨_, its.toArray, n, h, rfl, rfl, rfl, by rw [List.size_toArray, ← r.length]; exact z, by simpa using r⟩
theorem BR.int {i : Int} {x : V} (h : BR K H m al (.int i) x) : x = .int i := by cases h with | sh h => cases h; rfl
theorem BR.bl {i : Bool} {x : V} (h : BR K H m al (.bl i) x) : x = .bl i := by cases h with | sh h => cases h; rfl
theorem BR.str {i : Str} {x : V} (h : BR K H m al (.str i) x) : x = .str i := by cases h with | sh h => cases h; rfl
theorem BR.non {x : V} (h : BR K H m al .non x) : x = .non := by cases h with | sh h => cases h; rfl
theorem BR.tup {us : List U} {x : V} (h : BR K H m al (.tup us) x) : ∃ a vs, x = .ref a ∧ SqT K H a vs ∧ Shs K H m al us vs ∧ Sh K H m al (.tup us) x := by
  cases h with
  | sh h =>
    cases h with
    | tup h1 h2 h3 => exact ⟨_, _, rfl, sqt_of h1, h3, .tup h1 h2 h3⟩
    | tupK h1 h2 h4 h3 => exact ⟨_, _, rfl, sqt_k h1 h2 h4, h3, .tupK h1 h2 h4 h3⟩
theorem BR.lst {us : List U} {x : V} (h : BR K H m al (.lst us) x) : ∃ a vs, x = .ref a ∧ LstAt K H a vs ∧ Shs K H m al us vs := by
  cases h with
  | sh h =>
    cases h with
    | lst h1 h2 h3 => exact ⟨_, _, rfl, .inl h1, h3⟩
    | lstF h1 h2 h3 => exact ⟨_, _, rfl, .inr (.inl ⟨_, h1⟩), h3⟩
    | lstK h1 h2 h4 h3 => exact ⟨_, _, rfl, .inr (.inr ⟨_, _, h1, h2, h4⟩), h3⟩
  | own h1 h2 h3 => exact ⟨_, _, rfl, .inl h1, h3⟩
/-- every address of m is tracked -/
def Md (m : Addr → Prop) (H : Hp) : Prop := ∀ a, m a → ∃ o, H a = some o
theorem Md.not (md : Md m H) {p : Addr} (h : H p = none) : ¬ m p := fun z => by obtain ⟨o, e⟩ := md p z; rw [h] at e; cases e
/-- what is wanted of a result that makes at most new objects -/
def tV (K : PySem.W.Frag) (m : Addr → Prop) (al : List Addr) (r : Rv) (H : Hp) (Q : VK) : Prop := ∀ v H', Grow H H' → VR K H H' m al r v → Q v H'
theorem Sh.grow {u : U} {v : V} (h : Sh K H m al u v) (g : Grow H H') : Sh K H' m al u v := h.mono (fun b o e _ => g b o e) (fun _ _ _ z => z) fun _ _ z => z
theorem Shs.grow {u : List U} {v : List V} (h : Shs K H m al u v) (g : Grow H H') : Shs K H' m al u v := h.mono (fun b o e _ => g b o e) (fun _ _ _ z => z) fun _ _ z => z
theorem Shs.newE {us : List U} {vs : List V} {p : Addr} {o : HO} (r : Shs K H m al us vs) (hp : H p = none) : Shs K (upd H p o) (fun b => m b ∨ b = p) al us vs :=
  r.mono (fun b q e _ => Grow.new hp b q e) (fun b q e n z => z.elim n fun z => by rw [z, hp] at e; cases e) fun _ _ z => z
theorem tV.at {Q : VK} {u : U} {v : V} (h : tV K m al ⟨u, false⟩ H Q) (r : Sh K H m al u v) : Q v H := h v H Grow.refl ⟨r, fun z => nomatch z⟩
theorem tV.newL {Q : VK} {us : List U} {vs : List V} {p : Addr} {f : Bool} (h : tV K m al ⟨.lst us, f⟩ H Q) (md : Md m H) (r : Shs K H m al us vs) (hp : H p = none) : Q (.ref p) (upd H p (.lst vs)) :=
  h _ _ (Grow.new hp) ⟨.lst upd_same (md.not hp) (r.grow (Grow.new hp)), fun _ us' e => by cases e; exact ⟨p, vs, rfl, upd_same, r.newE hp, hp, md.not hp⟩⟩
theorem tV.newT {Q : VK} {us : List U} {vs : List V} {p : Addr} {its : List Value} (h : tV K m al ⟨.tup us, false⟩ H Q) (md : Md m H) (r : Shs K H m al us vs) (hp : H p = none) : Q (.ref p) (upd H p (tupO its vs)) :=
  h _ _ (Grow.new hp) ⟨.tup upd_same (md.not hp) (r.grow (Grow.new hp)), fun z => nomatch z⟩
end

section
variable {X : Cx} {pins : List (Addr × Obj)} {σ : St} {H : Hp} {s : Shared}
theorem lstA (I : Inv X pins σ H s) {l : Addr} {xs : List V} (h : LstAt X.K H l xs) : xs.length ≤ sizeLine ∧ ∃ (its : List Value) (n : Nat), Vals xs its ∧ xs.length = its.length ∧ s.heap.get? l = some { cls := .type "list", data := .seq its.toArray n } := by
  rcases h with h | ⟨its, h⟩ | ⟨its, n, h, z, r⟩
  · exact I.lstM h
  · obtain ⟨e, q⟩ := I.hok l _ h
    obtain ⟨z, its', n', r, e'⟩ := q
    exact ⟨z, its', n', r, r.length, e'⟩
  · exact ⟨z, its, n, r, r.length, I.kIn _ _ h⟩
def rCatL (K : PySem.W.Frag) : R2 := fun x y H Q => ∃ l b xs zs, x = .ref l ∧ y = .ref b ∧ LstAt K H l xs ∧ LstAt K H b zs ∧ xs.length + zs.length ≤ sizeLine ∧ ∀ p, H p = none → Q (.ref p) (upd H p (.lst (xs ++ zs)))
theorem op_catL : OpR X (binaryOp .Add) (rCatL X.K) := by
  intro pins s σ H x y v u Q I rx ry h
  obtain ⟨l, b, xs, zs, rfl, rfl, hH, hB, hz, q⟩ := h
  cases rx
  cases ry
  obtain ⟨z, its, n, r, hl, e⟩ := lstA I hH
  obtain ⟨z2, its2, n2, r2, hl2, e2⟩ := lstA I hB
  refine PySem.P.add_list e e2 ?_ (by rw [List.size_toArray, List.size_toArray]; omega)
  have ea : its.toArray ++ its2.toArray = (its ++ its2).toArray := by simp
  rw [ea]
  exact ⟨.ref _, _, I.lnew (t' := s.toks) (r.append r2) (by rw [List.length_append]; omega), rfl, q _ I.fresh⟩
end
section
open PySem.Spec PyProof.Rows
def rRepA (K : PySem.W.Frag) : R2 := fun x y H Q => ∃ l k xs, x = .ref l ∧ y = .int k ∧ LstAt K H l xs ∧ -(2 ^ 63) ≤ k ∧ k < 2 ^ 63 ∧ xs.length * k.toNat ≤ sizeLine ∧
  ∀ p, H p = none → Q (.ref p) (upd H p (.lst (List.replicate k.toNat xs).flatten))
theorem op_repA {X : Cx} : OpR X (binaryOp .Mult) (rRepA X.K) := by
  intro pins s σ H x y v u Q I rx ry h
  obtain ⟨l, k, xs, rfl, rfl, hH, h1, h2, hz, q⟩ := h
  cases rx
  obtain ⟨t, rfl⟩ := ry
  obtain ⟨z, its, n, r, hl, e⟩ := lstA I hH
  have hlen : its.toArray.size * k.toNat ≤ sizeLine := by rw [List.size_toArray, ← hl]; exact hz
  have hcap : ¬ its.toArray.size * k.toNat > (2 ^ 63 - 1) / 8 := by
    have : (sizeLine : Nat) ≤ (2 ^ 63 - 1) / 8 := by decide
    omega
  have hfit : ¬ (!Builtin.List.listFitsIndex k) = true := by
    rw [fitsIndex_both h1 h2]
    exact Bool.false_ne_true
  have hlong : ¬ Builtin.List.listTooLong (its.toArray.size * k.toNat) = true := by
    rw [notLongL hlen]
    exact Bool.false_ne_true
  have hnew : List.foldl (fun x1 x2 => x1 ++ x2) #[] (List.replicate (if its.toArray.isEmpty = true then 0 else k.toNat) its.toArray) = (List.replicate k.toNat its).flatten.toArray := by
    have f0 : ∀ m : Nat, List.foldl (fun x1 x2 => x1 ++ x2) #[] (List.replicate m its.toArray) = (List.replicate m its).flatten.toArray := fun m => by
      have := foldl_rep its m []
      rw [List.nil_append] at this
      exact this
    rw [f0]
    cases its with
    | nil => simp
    | cons a r' => rw [if_neg (by simp)]
  refine wpAny_binaryOp_repeat_ref (T := "list") (U := "int") (by decide) ⟨_, e, rfl⟩ (fun s' => typeIs_int s' k t) noFill_list_mul F.fills_int_mul F.slot_int_rmul repeat_list F.slot_int_index.lookup
    (call_meets F.slot_int_rmul (typeIs_int s k t) F.entry_int_rmul (F.args_int_rmul_2 _ _) (int___rmul___int_list k t l its.toArray n)
      ⟨e, rfl, ⟨_, e, rfl⟩, call_meets F.slot_list_mul ⟨_, e, rfl⟩ F.entry_list_mul (F.args_list_mul_2 _ _) (AutoListH.list___mul___list_int_3 l its.toArray n k t hfit hcap hlong) ⟨e, ?_⟩⟩)
  rw [hnew]
  exact ⟨.ref _, _, I.lnew (t' := s.toks) (r.rep k.toNat) (by rw [PyProof.Rows.lm_len_rep_flat, Nat.mul_comm]; exact hz), rfl, q _ I.fresh⟩
end

theorem rep_eq {α : Type} (xs : List α) : ∀ n, rep xs n = (List.replicate n xs).flatten
  | 0 => rfl
  | n + 1 => by rw [List.replicate_succ, List.flatten_cons, ← rep_eq xs n]; rfl
theorem Shs.repl {K : PySem.W.Frag} {H : Hp} {m : Addr → Prop} {al : List Addr} {us : List U} {vs : List V} (h : Shs K H m al us vs) : ∀ n, Shs K H m al (rep us n) (rep vs n)
  | 0 => .nil
  | n + 1 => h.append (h.repl n)
theorem lim_le {n : Nat} (h : n ≤ lim) : n ≤ sizeLine := by
  have : (sizeLine : Nat) = 16777216 := sizeLine_eq
  unfold lim at h
  omega
def opSyn : Op2 → Operator
  | .add => .Add | .sub => .Sub | .mul => .Mult | .fdiv => .FloorDiv | .mod => .Mod | .pow => .Pow | .shl => .LShift | .shr => .RShift | .band => .BitAnd | .bxor => .BitXor
/-- the reading of an operator on operands that stand for values -/
def rOp (K : PySem.W.Frag) (o : Op2) : R2 := fun x y H Q => ∃ m al u w r, Md m H ∧ BR K H m al u x ∧ BR K H m al w y ∧ op2 o u w = some r ∧ tV K m al r H Q
section
variable {X : Cx}
theorem OpR.imp {f : Value → Value → Sem Value} {r r' : R2} (h : OpR X f r) (i : ∀ x y H Q, r' x y H Q → r x y H Q) : OpR X f r' := fun pins s σ H x y v u Q I rx ry q => h pins s σ H x y v u Q I rx ry (i _ _ _ _ q)
theorem natAbs_lt64 {i : Int} (h : small i = true) : i.natAbs < 2 ^ 64 := of_decide_eq_true h
theorem mulOk_ok {i j : Int} (h : mulOk i j = true) : IntMulOk i j := by
  have b : ∀ x : Int, Builtin.Int.intBits x ≤ x.natAbs.log2 + 1 := fun x => by
    unfold Builtin.Int.intBits
    split <;> omega
  have h1 := b i
  have h2 := b j
  have h3 : i.natAbs.log2 + j.natAbs.log2 < 100000000 := of_decide_eq_true h
  have e : bitsLine = 134217728 := by decide
  unfold IntMulOk
  intro z
  rw [Bool.and_eq_true] at z
  have z2 := z.2
  unfold Builtin.Int.intTooBig at z2
  have z3 := of_decide_eq_true z2
  rw [e] at z3
  omega
theorem op_mulA : OpR X (binaryOp .Mult) (rI (fun i j => mulOk i j = true) fun i j => .int (i * j)) := opI fun _ _ _ _ _ _ _ hc q => PyProof.Rows.mul_int q (mulOk_ok hc)
theorem op_fdivA : OpR X (binaryOp .FloorDiv) (rI (fun _ j => divOk j = true) fun i j => .int (i.fdiv j)) := opI fun i j _ _ _ _ _ hc q => by
  have h := Bool.and_eq_true_iff.mp hc
  exact PyProof.Rows.floordiv_int (by simpa using h.1) q (.inl (PyProof.noPylong_of_log2 (of_decide_eq_true h.2)))
theorem opR_add : OpR X (binaryOp .Add) (rOp X.K .add) := by
  refine OpR.imp (.or op_add (.or op_catL (.or op_catX op_add_str))) ?_
  rintro x y H Q ⟨m, al, u, w, r, md, bx, by_, e, t⟩
  cases u <;> cases w <;> simp only [op2] at e <;> try cases e
  · cases bx.int; cases by_.int
    exact .inl ⟨_, _, rfl, rfl, t.at (.int _)⟩
  · cases bx.str; cases by_.str
    rename_i a b
    by_cases c : a.length + b.length ≤ lim
    · rw [if_pos c] at e; cases e
      exact .inr (.inr (.inr ⟨_, _, rfl, rfl, lim_le c, t.at (.str _)⟩))
    · rw [if_neg c] at e; cases e
  · rename_i us ws
    by_cases c : us.length + ws.length ≤ lim
    · rw [if_pos c] at e; cases e
      obtain ⟨a, vs, rfl, h1, h2, h3⟩ := bx.tup
      obtain ⟨b, zs, rfl, k1, k2, k3⟩ := by_.tup
      refine .inr (.inr (.inl ⟨a, b, vs, zs, rfl, rfl, h1, k1, by rw [← h2.length, ← k2.length]; exact lim_le c, fun z => ?_, fun _ z2 => ?_, fun _ _ p its hp => ?_⟩))
      · subst z
        cases us with
        | nil => exact t.at k3
        | cons _ _ => cases h2
      · subst z2
        cases ws with
        | nil => rw [List.append_nil] at t; exact t.at h3
        | cons _ _ => cases k2
      · exact t.newT md (h2.append k2) hp
    · rw [if_neg c] at e; cases e
  · rename_i us ws
    by_cases c : us.length + ws.length ≤ lim
    · rw [if_pos c] at e; cases e
      obtain ⟨a, vs, rfl, h1, h2⟩ := bx.lst
      obtain ⟨b, zs, rfl, k1, k2⟩ := by_.lst
      exact .inr (.inl ⟨a, b, vs, zs, rfl, rfl, h1, k1, by rw [← h2.length, ← k2.length]; exact lim_le c, fun p hp => t.newL md (h2.append k2) hp⟩)
    · rw [if_neg c] at e; cases e
end
end Ev

end
section
set_option Elab.async false
set_option linter.all false
set_option maxRecDepth 100000
set_option maxHeartbeats 2000000
namespace Ev
open PySem L2
section
variable {X : Cx}
/-- an operator on ints alone -/
theorem opR_int {o : Op2} {f : Value → Value → Sem Value} {Cn : Int → Int → Prop} {g : Int → Int → Int} (h : OpR X f (rI Cn fun i j => .int (g i j)))
    (e : ∀ u w r, op2 o u w = some r → ∃ i j, u = .int i ∧ w = .int j ∧ Cn i j ∧ r = ⟨.int (g i j), false⟩) : OpR X f (rOp X.K o) := by
  refine OpR.imp h ?_
  rintro x y H Q ⟨m, al, u, w, r, md, bx, by_, e', t⟩
  obtain ⟨i, j, rfl, rfl, c, rfl⟩ := e _ _ _ e'
  cases bx.int; cases by_.int
  exact ⟨_, _, rfl, rfl, c, t.at (.int _)⟩
theorem opI0' {f : Value → Value → Sem Value} {g : Int → Int → V} (h : OpR X f (rI0 g)) : OpR X f (rI (fun _ _ => True) g) := OpR.imp h fun x y H Q ⟨i, j, a, b, _, q⟩ => ⟨i, j, a, b, q⟩
theorem opR_sub : OpR X (binaryOp .Sub) (rOp X.K .sub) := opR_int (g := fun i j => i - j) (opI0' op_sub) fun u w r e => by
  cases u <;> cases w <;> simp only [op2] at e <;> try cases e
  exact ⟨_, _, rfl, rfl, trivial, rfl⟩
theorem opR_fdiv : OpR X (binaryOp .FloorDiv) (rOp X.K .fdiv) := opR_int (g := fun i j => i.fdiv j) op_fdivA fun u w r e => by
  cases u <;> cases w <;> simp only [op2] at e <;> try cases e
  rename_i i j
  cases c : divOk j with
  | false => rw [c] at e; cases e
  | true => rw [c] at e; cases e; exact ⟨_, _, rfl, rfl, c, rfl⟩
theorem opR_mod : OpR X (binaryOp .Mod) (rOp X.K .mod) := opR_int (g := fun i j => i.fmod j) op_modN fun u w r e => by
  cases u <;> cases w <;> simp only [op2] at e <;> try cases e
  rename_i i j
  cases c : (j == 0) with
  | true => rw [c] at e; cases e
  | false => rw [c] at e; cases e; exact ⟨_, _, rfl, rfl, by simpa using c, rfl⟩
theorem opR_pow : OpR X (binaryOp .Pow) (rOp X.K .pow) := opR_int (g := fun i j => i ^ j.toNat) op_pow fun u w r e => by
  cases u <;> cases w <;> simp only [op2] at e <;> try cases e
  rename_i i j
  cases c : (decide (0 ≤ j) && decide (j ≤ 1000000) && small i) with
  | false => rw [c] at e; cases e
  | true =>
    rw [c] at e; cases e
    simp only [Bool.and_eq_true, decide_eq_true_eq] at c
    exact ⟨_, _, rfl, rfl, ⟨c.1.1, c.1.2, natAbs_lt64 c.2⟩, rfl⟩
theorem opR_shl : OpR X (binaryOp .LShift) (rOp X.K .shl) := opR_int (g := fun i j => i * 2 ^ j.toNat) op_shl fun u w r e => by
  cases u <;> cases w <;> simp only [op2] at e <;> try cases e
  rename_i i j
  cases c : (decide (0 ≤ j) && decide (j ≤ 1000000) && small i) with
  | false => rw [c] at e; cases e
  | true =>
    rw [c] at e; cases e
    simp only [Bool.and_eq_true, decide_eq_true_eq] at c
    exact ⟨_, _, rfl, rfl, ⟨c.1.1, c.1.2, natAbs_lt64 c.2⟩, rfl⟩
theorem opR_shr : OpR X (binaryOp .RShift) (rOp X.K .shr) := opR_int (g := fun i j => i / 2 ^ j.toNat) op_shr fun u w r e => by
  cases u <;> cases w <;> simp only [op2] at e <;> try cases e
  rename_i i j
  cases c : (decide (0 ≤ j)) with
  | false => rw [c] at e; cases e
  | true => rw [c] at e; cases e; exact ⟨_, _, rfl, rfl, of_decide_eq_true c, rfl⟩
theorem opR_band : OpR X (binaryOp .BitAnd) (rOp X.K .band) := opR_int (g := fun i j => Builtin.bitAnd i j) (opI0' op_and) fun u w r e => by
  cases u <;> cases w <;> simp only [op2] at e <;> try cases e
  exact ⟨_, _, rfl, rfl, trivial, rfl⟩
theorem opR_bxor : OpR X (binaryOp .BitXor) (rOp X.K .bxor) := opR_int (g := fun i j => Builtin.bitXor i j) (opI0' op_xor) fun u w r e => by
  cases u <;> cases w <;> simp only [op2] at e <;> try cases e
  exact ⟨_, _, rfl, rfl, trivial, rfl⟩
theorem opR_mul : OpR X (binaryOp .Mult) (rOp X.K .mul) := by
  refine OpR.imp (.or op_mulA (.or op_repA op_repX)) ?_
  rintro x y H Q ⟨m, al, u, w, r, md, bx, by_, e, t⟩
  cases u <;> cases w <;> simp only [op2] at e <;> try cases e
  · rename_i i j
    cases bx.int; cases by_.int
    cases c : mulOk i j with
    | false => rw [c] at e; cases e
    | true => rw [c] at e; cases e; exact .inl ⟨_, _, rfl, rfl, c, t.at (.int _)⟩
  · rename_i us k
    cases by_.int
    cases c : (!us.isEmpty && decide (us.length ≤ 1000) && decide (2 ≤ k) && decide (k ≤ 1000)) with
    | false => rw [c] at e; cases e
    | true =>
      rw [c] at e; cases e
      simp only [Bool.and_eq_true, decide_eq_true_eq] at c
      obtain ⟨a, vs, rfl, h1, h2, h3⟩ := bx.tup
      refine .inr (.inr ⟨a, k, vs, rfl, rfl, h1, fun z => ?_, c.1.2, c.2, by rw [← h2.length]; exact c.1.1.2, fun p its hp => ?_⟩)
      · subst z
        cases us with
        | nil => simp at c
        | cons _ _ => cases h2
      · rw [← rep_eq]
        exact t.newT md (h2.repl _) hp
  · rename_i us k
    cases by_.int
    cases c : (decide (us.length * k.toNat ≤ lim) && decide (k < 1000000) && decide (-1000000 < k)) with
    | false => rw [c] at e; cases e
    | true =>
      rw [c] at e; cases e
      simp only [Bool.and_eq_true, decide_eq_true_eq] at c
      obtain ⟨a, vs, rfl, h1, h2⟩ := bx.lst
      refine .inr (.inl ⟨a, k, vs, rfl, rfl, h1, by omega, by omega, by rw [← h2.length]; exact lim_le c.1.1, fun p hp => ?_⟩)
      rw [← rep_eq]
      exact t.newL md (h2.repl _) hp
/-- by the operator's name -/
theorem opR (o : Op2) : OpR X (binaryOp (opSyn o)) (rOp X.K o) := by
  cases o
  · exact opR_add
  · exact opR_sub
  · exact opR_mul
  · exact opR_fdiv
  · exact opR_mod
  · exact opR_pow
  · exact opR_shl
  · exact opR_shr
  · exact opR_band
  · exact opR_bxor
end

/-! ### comparisons -/
mutual
def toD : U → PyData
  | .non => .none
  | .bl b => .bool b
  | .int i => .int i
  | .str x => .str x
  | .tup xs => .tuple (toDs xs)
  | .lst xs => .list (toDs xs)
  | .dct _ => .none
  | .ref _ => .none
def toDs : List U → List PyData
  | [] => []
  | x :: xs => toD x :: toDs xs
end
mutual
theorem shp_lay : ∀ (u : U) (n : Nat), shp n u = true → (toD u).canLay0 = true ∧ (toD u).depth ≤ n
  | .non, n, _ => by simp [toD, PyData.canLay0, PyData.depth]
  | .bl _, n, _ => by simp [toD, PyData.canLay0, PyData.depth]
  | .int _, n, _ => by simp [toD, PyData.canLay0, PyData.depth]
  | .str x, n, h => by cases n <;> simp [shp] at h <;> simp [toD, PyData.canLay0, PyData.depth, h]
  | .tup xs, 0, h => by simp [shp] at h
  | .tup xs, n + 1, h => by
    have q := shps_lay xs n (by simpa [shp] using h)
    simp only [toD, PyData.canLay0, PyData.depth]
    exact ⟨q.1, by omega⟩
  | .lst xs, 0, h => by simp [shp] at h
  | .lst xs, n + 1, h => by
    have q := shps_lay xs n (by simpa [shp] using h)
    simp only [toD, PyData.canLay0, PyData.depth]
    exact ⟨q.1, by omega⟩
  | .dct _, n, h => by cases n <;> simp [shp] at h
  | .ref _, n, h => by cases n <;> simp [shp] at h
theorem shps_lay : ∀ (us : List U) (n : Nat), (∀ x ∈ us, shp n x = true) → PyData.canLayAll0 (toDs us) = true ∧ PyData.depthAll (toDs us) ≤ n
  | [], n, _ => by simp [toDs, PyData.canLayAll0, PyData.depthAll]
  | x :: xs, n, h => by
    have q := shp_lay x n (h x List.mem_cons_self)
    have q2 := shps_lay xs n fun y hy => h y (List.mem_cons_of_mem _ hy)
    simp only [toDs, PyData.canLayAll0, PyData.depthAll, Bool.and_eq_true]
    exact ⟨⟨q.1, q2.1⟩, by omega⟩
end
theorem shp_shaped {u : U} (h : shp 60 u = true) : SeqAt.shaped (toD u) = true := by
  have q := shp_lay u 60 h
  unfold SeqAt.shaped
  rw [Bool.and_eq_true]
  exact ⟨q.1, decide_eq_true (by omega)⟩
theorem shps_shaped {us : List U} (h : us.all (shp 60) = true) : SeqAt.shaped (.list (toDs us)) = true ∧ SeqAt.shaped (.tuple (toDs us)) = true := by
  have q := shps_lay us 60 fun x hx => List.all_eq_true.mp h x hx
  unfold SeqAt.shaped
  constructor
  · rw [Bool.and_eq_true]
    exact ⟨by simpa [PyData.canLay0] using q.1, decide_eq_true (by simp only [PyData.depth]; omega)⟩
  · rw [Bool.and_eq_true]
    exact ⟨by simpa [PyData.canLay0] using q.1, decide_eq_true (by simp only [PyData.depth]; omega)⟩
mutual
theorem eqU_eqv : ∀ (u w : U) (n k : Nat), shp n u = true → shp k w = true → eqU u w = PyData.eqv (toD u) (toD w)
  | u, w, n, k, h1, h2 => by
    cases u with
    | non => cases w <;> simp [eqU, toD, PyData.eqv] <;> (cases k <;> simp [shp] at h2)
    | bl a => cases w <;> simp [eqU, toD, PyData.eqv] <;> (cases k <;> simp [shp] at h2)
    | int a => cases w <;> simp [eqU, toD, PyData.eqv] <;> (cases k <;> simp [shp] at h2)
    | str a => cases w <;> simp [eqU, toD, PyData.eqv] <;> (cases k <;> simp [shp] at h2)
    | tup xs =>
      cases n with
      | zero => simp [shp] at h1
      | succ n =>
        cases w with
        | tup ys =>
          cases k with
          | zero => simp [shp] at h2
          | succ k => 
            simp only [eqU, toD, PyData.eqv]
            exact eqUs_eqv xs ys n k (by simpa [shp] using h1) (by simpa [shp] using h2)
        | dct _ => cases k <;> simp [shp] at h2
        | ref _ => cases k <;> simp [shp] at h2
        | _ => simp [eqU, toD, PyData.eqv]
    | lst xs =>
      cases n with
      | zero => simp [shp] at h1
      | succ n =>
        cases w with
        | lst ys =>
          cases k with
          | zero => simp [shp] at h2
          | succ k => 
            simp only [eqU, toD, PyData.eqv]
            exact eqUs_eqv xs ys n k (by simpa [shp] using h1) (by simpa [shp] using h2)
        | dct _ => cases k <;> simp [shp] at h2
        | ref _ => cases k <;> simp [shp] at h2
        | _ => simp [eqU, toD, PyData.eqv]
    | dct _ => cases n <;> simp [shp] at h1
    | ref _ => cases n <;> simp [shp] at h1
theorem eqUs_eqv : ∀ (us ws : List U) (n k : Nat), (∀ x ∈ us, shp n x = true) → (∀ x ∈ ws, shp k x = true) → eqUs us ws = PyData.eqvAll (toDs us) (toDs ws)
  | [], [], _, _, _, _ => by simp [eqUs, toDs, PyData.eqvAll]
  | [], _ :: _, _, _, _, _ => by simp [eqUs, toDs, PyData.eqvAll]
  | _ :: _, [], _, _, _, _ => by simp [eqUs, toDs, PyData.eqvAll]
  | x :: xs, y :: ys, n, k, h1, h2 => by
    simp only [eqUs, toDs, PyData.eqvAll]
    rw [eqU_eqv x y n k (h1 x List.mem_cons_self) (h2 y List.mem_cons_self), eqUs_eqv xs ys n k (fun z hz => h1 z (List.mem_cons_of_mem _ hz)) fun z hz => h2 z (List.mem_cons_of_mem _ hz)]
end
end Ev

end
section
set_option Elab.async false
set_option linter.all false
set_option maxRecDepth 100000
set_option maxHeartbeats 2000000
namespace Ev
open PySem L2
section
variable {K : PySem.W.Frag} {H : Hp} {m : Addr → Prop} {al : List Addr}
mutual
theorem Sh.dp {u : U} {v : V} {n : Nat} (h : Sh K H m al u v) (e : shp n u = true) : Dp K H v (toD u) := by
  cases h with
  | non => simp only [toD]; exact .non
  | bl b => simp only [toD]; exact .bl b
  | int i => simp only [toD]; exact .int i
  | str x => simp only [toD]; exact .str x
  | tup h1 h2 h3 =>
    cases n with
    | zero => simp [shp] at e
    | succ n => simp only [toD]; exact .tup (sqt_of h1) (h3.dp (n := n) (by simpa [shp] using e))
  | tupK h1 h2 h4 h3 =>
    cases n with
    | zero => simp [shp] at e
    | succ n => simp only [toD]; exact .tup (sqt_k h1 h2 h4) (h3.dp (n := n) (by simpa [shp] using e))
  | lst h1 h2 h3 =>
    cases n with
    | zero => simp [shp] at e
    | succ n => simp only [toD]; exact .lst (SqL.of h1) (h3.dp (n := n) (by simpa [shp] using e))
  | lstF h1 h2 h3 =>
    cases n with
    | zero => simp [shp] at e
    | succ n => simp only [toD]; exact .lst (.inl (.inr ⟨_, h1⟩)) (h3.dp (n := n) (by simpa [shp] using e))
  | lstK h1 h2 h4 h3 =>
    cases n with
    | zero => simp [shp] at e
    | succ n => simp only [toD]; exact .lst (LstAt.sq (.inr (.inr ⟨_, _, h1, h2, h4⟩))) (h3.dp (n := n) (by simpa [shp] using e))
  | ref h1 => cases n <;> simp [shp] at e
  | dct h0 h1 h2 h3 => cases n <;> simp [shp] at e
theorem Shs.dp {us : List U} {vs : List V} {n : Nat} (h : Shs K H m al us vs) (e : ∀ x ∈ us, shp n x = true) : DpAll K H vs (toDs us) := by
  cases h with
  | nil => simp only [toDs]; exact .nil
  | cons h1 h2 => simp only [toDs]; exact .cons (h1.dp (e _ List.mem_cons_self)) (h2.dp fun x hx => e x (List.mem_cons_of_mem _ hx))
end
theorem BR.dp {u : U} {v : V} {n : Nat} (h : BR K H m al u v) (e : shp n u = true) : Dp K H v (toD u) := by
  cases h with
  | sh h => exact h.dp e
  | own h1 h2 h3 =>
    cases n with
    | zero => simp [shp] at e
    | succ n => simp only [toD]; exact .lst (SqL.of h1) (h3.dp (n := n) (by simpa [shp] using e))
theorem anyD (u : U) (n : Nat) (hu : shp n u = true) : ∀ (us : List U) (k : Nat), (∀ x ∈ us, shp k x = true) → (us.any fun y => eqU y u) = ((toDs us).any fun z => PyData.eqv z (toD u))
  | [], _, _ => rfl
  | x :: xs, k, h => by
    simp only [toDs, List.any_cons]
    rw [eqU_eqv x u k n (h x List.mem_cons_self) hu, anyD u n hu xs k fun y hy => h y (List.mem_cons_of_mem _ hy)]
end
section
variable {X : Cx}
open PySem.Spec PyProof.Rows
def rInT (K : PySem.W.Frag) : R2 := fun x y H Q => ∃ d ds, Dp K H x d ∧ Dp K H y (.tuple ds) ∧ SeqAt.shaped d = true ∧ SeqAt.shaped (.tuple ds) = true ∧ Q (.bl (ds.any fun z => PyData.eqv z d)) H
def rNotInT (K : PySem.W.Frag) : R2 := fun x y H Q => ∃ d ds, Dp K H x d ∧ Dp K H y (.tuple ds) ∧ SeqAt.shaped d = true ∧ SeqAt.shaped (.tuple ds) = true ∧ Q (.bl (!ds.any fun z => PyData.eqv z d)) H
theorem op_inT (hu : X.A.units + 65 < cLine) : OpR X (compareOp .In) (rInT X.K) := by
  intro pins s σ H x y v u Q I rx ry h
  obtain ⟨d, ds, hd, he, sd, se, q⟩ := h
  obtain ⟨as, r1⟩ := Dp.reads I d x v hd rx
  obtain ⟨bs, r2⟩ := Dp.reads I (.tuple ds) y u he ry
  exact SeqAt.in_tuple_reads r2 r1 (SeqAt.canLay_of_shaped se) (SeqAt.canLay_of_shaped sd) (room_in_shaped sd hu) ⟨.bl _, H, I, rfl, q⟩
theorem op_notInT (hu : X.A.units + 65 < cLine) : OpR X (compareOp .NotIn) (rNotInT X.K) := by
  intro pins s σ H x y v u Q I rx ry h
  obtain ⟨d, ds, hd, he, sd, se, q⟩ := h
  obtain ⟨as, r1⟩ := Dp.reads I d x v hd rx
  obtain ⟨bs, r2⟩ := Dp.reads I (.tuple ds) y u he ry
  exact SeqAt.notIn_tuple_reads r2 r1 (SeqAt.canLay_of_shaped se) (SeqAt.canLay_of_shaped sd) (room_in_shaped sd hu) ⟨.bl _, H, I, rfl, q⟩
end
def cmpSyn : Cmp → CmpOp
  | .eq => .Eq | .ne => .NotEq | .lt => .Lt | .le => .LtE | .gt => .Gt | .ge => .GtE | .isin => .In | .notin => .NotIn | .is_ => .Is | .isnot => .IsNot
/-- the reading of a comparison -/
def rCmp (K : PySem.W.Frag) (o : Cmp) : R2 := fun x y H Q => ∃ m al u w k, BR K H m al u x ∧ BR K H m al w y ∧ cmp2 o u w = some k ∧ Q (.bl k) H
section
variable {X : Cx}
theorem cmpR_eq (hu : X.A.units + 64 < cLine) : OpR X (compareOp .Eq) (rCmp X.K .eq) := by
  refine OpR.imp (op_eqD hu) ?_
  rintro x y H Q ⟨m, al, u, w, k, bx, by_, e, q⟩
  simp only [cmp2] at e
  cases c : (shp 60 u && shp 60 w) with
  | false => rw [c] at e; cases e
  | true =>
    rw [c] at e; cases e
    simp only [Bool.and_eq_true] at c
    exact ⟨_, _, bx.dp c.1, by_.dp c.2, shp_shaped c.1, shp_shaped c.2, by rw [← eqU_eqv u w 60 60 c.1 c.2]; exact q⟩
theorem cmpR_ne (hu : X.A.units + 64 < cLine) : OpR X (compareOp .NotEq) (rCmp X.K .ne) := by
  refine OpR.imp (op_neD hu) ?_
  rintro x y H Q ⟨m, al, u, w, k, bx, by_, e, q⟩
  simp only [cmp2] at e
  cases c : (shp 60 u && shp 60 w) with
  | false => rw [c] at e; cases e
  | true =>
    rw [c] at e; cases e
    simp only [Bool.and_eq_true] at c
    exact ⟨_, _, bx.dp c.1, by_.dp c.2, shp_shaped c.1, shp_shaped c.2, by rw [← eqU_eqv u w 60 60 c.1 c.2]; exact q⟩
theorem cmpR_isin (hu : X.A.units + 65 < cLine) : OpR X (compareOp .In) (rCmp X.K .isin) := by
  refine OpR.imp (.or (op_inD hu) (op_inT hu)) ?_
  rintro x y H Q ⟨m, al, u, w, k, bx, by_, e, q⟩
  cases w <;> simp only [cmp2] at e <;> try cases e
  · rename_i ys
    cases c : (shp 60 u && ys.all (shp 60)) with
    | false => rw [c] at e; cases e
    | true =>
      rw [c] at e; cases e
      simp only [Bool.and_eq_true] at c
      have l : ∀ x ∈ ys, shp 60 x = true := fun x hx => List.all_eq_true.mp c.2 x hx
      refine .inr ⟨_, toDs ys, bx.dp c.1, ?_, shp_shaped c.1, (shps_shaped c.2).2, by rw [← anyD u 60 c.1 ys 60 l]; exact q⟩
      have := by_.dp (n := 61) (by simpa [shp] using l)
      simpa only [toD] using this
  · rename_i ys
    cases c : (shp 60 u && ys.all (shp 60)) with
    | false => rw [c] at e; cases e
    | true =>
      rw [c] at e; cases e
      simp only [Bool.and_eq_true] at c
      have l : ∀ x ∈ ys, shp 60 x = true := fun x hx => List.all_eq_true.mp c.2 x hx
      refine .inl ⟨_, toDs ys, bx.dp c.1, ?_, shp_shaped c.1, (shps_shaped c.2).1, by rw [← anyD u 60 c.1 ys 60 l]; exact q⟩
      have := by_.dp (n := 61) (by simpa [shp] using l)
      simpa only [toD] using this
theorem cmpR_notin (hu : X.A.units + 65 < cLine) : OpR X (compareOp .NotIn) (rCmp X.K .notin) := by
  refine OpR.imp (.or (op_notInD hu) (op_notInT hu)) ?_
  rintro x y H Q ⟨m, al, u, w, k, bx, by_, e, q⟩
  cases w <;> simp only [cmp2] at e <;> try cases e
  · rename_i ys
    cases c : (shp 60 u && ys.all (shp 60)) with
    | false => rw [c] at e; cases e
    | true =>
      rw [c] at e; cases e
      simp only [Bool.and_eq_true] at c
      have l : ∀ x ∈ ys, shp 60 x = true := fun x hx => List.all_eq_true.mp c.2 x hx
      refine .inr ⟨_, toDs ys, bx.dp c.1, ?_, shp_shaped c.1, (shps_shaped c.2).2, by rw [← anyD u 60 c.1 ys 60 l]; exact q⟩
      have := by_.dp (n := 61) (by simpa [shp] using l)
      simpa only [toD] using this
  · rename_i ys
    cases c : (shp 60 u && ys.all (shp 60)) with
    | false => rw [c] at e; cases e
    | true =>
      rw [c] at e; cases e
      simp only [Bool.and_eq_true] at c
      have l : ∀ x ∈ ys, shp 60 x = true := fun x hx => List.all_eq_true.mp c.2 x hx
      refine .inl ⟨_, toDs ys, bx.dp c.1, ?_, shp_shaped c.1, (shps_shaped c.2).1, by rw [← anyD u 60 c.1 ys 60 l]; exact q⟩
      have := by_.dp (n := 61) (by simpa [shp] using l)
      simpa only [toD] using this
theorem cmpR_lt (hu : X.A.units < cLine) : OpR X (compareOp .Lt) (rCmp X.K .lt) := by
  refine OpR.imp (.or op_lt (op_ltT hu)) ?_
  rintro x y H Q ⟨m, al, u, w, k, bx, by_, e, q⟩
  cases u <;> cases w <;> simp only [cmp2] at e <;> try cases e
  · cases bx.int; cases by_.int
    exact .inl ⟨_, _, rfl, rfl, q⟩
  · rename_i xs ys
    cases c1 : intsU xs with
    | none => rw [c1] at e; cases e
    | some a =>
      cases c2 : intsU ys with
      | none => rw [c1, c2] at e; cases e
      | some b =>
        rw [c1, c2] at e; cases e
        obtain ⟨p, vs, rfl, h1, h2, _⟩ := bx.tup
        obtain ⟨p2, zs, rfl, k1, k2, _⟩ := by_.tup
        rw [h2.intsU c1] at h1
        rw [k2.intsU c2] at k1
        exact .inr ⟨_, _, _, _, rfl, rfl, h1, k1, q⟩
theorem cmpR_le : OpR X (compareOp .LtE) (rCmp X.K .le) := by
  refine OpR.imp op_le ?_
  rintro x y H Q ⟨m, al, u, w, k, bx, by_, e, q⟩
  cases u <;> cases w <;> simp only [cmp2] at e <;> try cases e
  cases bx.int; cases by_.int
  exact ⟨_, _, rfl, rfl, q⟩
theorem cmpR_gt : OpR X (compareOp .Gt) (rCmp X.K .gt) := by
  refine OpR.imp op_gt ?_
  rintro x y H Q ⟨m, al, u, w, k, bx, by_, e, q⟩
  cases u <;> cases w <;> simp only [cmp2] at e <;> try cases e
  cases bx.int; cases by_.int
  exact ⟨_, _, rfl, rfl, q⟩
theorem cmpR_ge : OpR X (compareOp .GtE) (rCmp X.K .ge) := by
  refine OpR.imp op_ge ?_
  rintro x y H Q ⟨m, al, u, w, k, bx, by_, e, q⟩
  cases u <;> cases w <;> simp only [cmp2] at e <;> try cases e
  cases bx.int; cases by_.int
  exact ⟨_, _, rfl, rfl, q⟩
theorem BR.none_iff {K : PySem.W.Frag} {H : Hp} {m : Addr → Prop} {al : List Addr} {u : U} {x : V} (h : BR K H m al u x) : decide (x = .non) = isNon u := by
  cases h with
  | sh h => cases h <;> simp [isNon]
  | own => simp [isNon]
theorem cmpR_is : OpR X (compareOp .Is) (rCmp X.K .is_) := by
  refine OpR.imp op_isN ?_
  rintro x y H Q ⟨m, al, u, w, k, bx, by_, e, q⟩
  cases w <;> simp only [cmp2] at e <;> try cases e
  cases by_.non
  exact ⟨rfl, by rw [bx.none_iff]; exact q⟩
theorem cmpR_isnot : OpR X (compareOp .IsNot) (rCmp X.K .isnot) := by
  refine OpR.imp op_notN ?_
  rintro x y H Q ⟨m, al, u, w, k, bx, by_, e, q⟩
  cases w <;> simp only [cmp2] at e <;> try cases e
  cases by_.non
  exact ⟨rfl, by rw [bx.none_iff]; exact q⟩
theorem cmpR (hu : X.A.units + 65 < cLine) (o : Cmp) : OpR X (compareOp (cmpSyn o)) (rCmp X.K o) := by
  cases o
  · exact cmpR_eq (by omega)
  · exact cmpR_ne (by omega)
  · exact cmpR_lt (by omega)
  · exact cmpR_le
  · exact cmpR_gt
  · exact cmpR_ge
  · exact cmpR_isin hu
  · exact cmpR_notin hu
  · exact cmpR_is
  · exact cmpR_isnot
end

/-! ### truth, subscripts -/
theorem BR.truth {K : PySem.W.Frag} {H : Hp} {m : Addr → Prop} {al : List Addr} {u : U} {x : V} {k : Bool} (h : BR K H m al u x) (e : truth u = some k) : TruV K x H k := by
  cases u with
  | non => cases h.non; cases e; rfl
  | bl b => cases h.bl; cases e; rfl
  | int i => cases h.int; cases e; rfl
  | str z =>
    cases h.str
    simp only [Ev.truth] at e
    by_cases c : z.length ≤ lim
    · rw [if_pos c] at e; cases e; exact ⟨lim_le c, rfl⟩
    · rw [if_neg c] at e; cases e
  | tup us =>
    obtain ⟨a, vs, rfl, h1, h2, _⟩ := h.tup
    simp only [Ev.truth, Option.some.injEq] at e
    refine .inr (.inl ⟨vs, h1, ?_⟩)
    rw [← e]
    cases h2 <;> rfl
  | lst us =>
    obtain ⟨a, vs, rfl, h1, h2⟩ := h.lst
    simp only [Ev.truth, Option.some.injEq] at e
    refine .inl ⟨vs, h1.sq, ?_⟩
    rw [← e]
    cases h2 <;> rfl
  | dct _ => cases e
  | ref _ => cases e
end Ev

end
section
set_option Elab.async false
set_option linter.all false
set_option maxRecDepth 100000
set_option maxHeartbeats 2000000
namespace Ev
open PySem L2
section
variable {X : Cx}
theorem IxR.imp {r r' : R2} (h : IxR X r) (i : ∀ x y H Q, r' x y H Q → r x y H Q) : IxR X r' := fun value slice pins s σ H x y v u Q I rx ry q hs => h value slice pins s σ H x y v u Q I rx ry (i _ _ _ _ q) hs
theorem SlR.imp {r r' : V → Option Int → Option Int → Hp → VK → Prop} (h : SlR X r) (i : ∀ x a b H Q, r' x a b H Q → r x a b H Q) : SlR X r' := fun pins s σ H x v vl vu lo hi sl Q I rx hs pl pu q => h pins s σ H x v vl vu lo hi sl Q I rx hs pl pu (i _ _ _ _ _ q)
theorem CallR.imp {f : Value} {r r' : List V → Hp → VK → Prop} (h : CallR X f r) (i : ∀ xs H Q, r' xs H Q → r xs H Q) : CallR X f r' := fun pins s σ H xs us Q I r q => h pins s σ H xs us Q I r (i _ _ _ q)
/-- a subscript -/
def rIxU (K : PySem.W.Frag) : R2 := fun x y H Q => ∃ m al s u w r, ST K m al s H ∧ BR K H m al u x ∧ BR K H m al w y ∧ getIx u w s = some r ∧ ∀ v, Sh K H m al r v → Q v H
theorem atIU {K : PySem.W.Frag} {H : Hp} {m : Addr → Prop} {al : List Addr} {us : List U} {vs : List V} {i : Int} {u : U} (h : Shs K H m al us vs) (e : (match ixN us.length i with | some k => nth k us | none => none) = some u) : ∃ v, atI vs i = some v ∧ Sh K H m al u v := by
  unfold atI
  rw [← h.length]
  cases c : ixN us.length i with
  | none => rw [c] at e; cases e
  | some k =>
    rw [c] at e
    have e' : us[k]? = some u := by rw [← nth_get]; exact e
    obtain ⟨v, e2, r⟩ := h.nth e'
    exact ⟨v, by simpa using e2, r⟩
theorem ixR : IxR X (rIxU X.K) := by
  refine IxR.imp ix_seq ?_
  rintro x y H Q ⟨m, al, s, u, w, r, st, bx, by_, e, q⟩
  cases w <;> (try (cases u <;> simp only [getIx] at e <;> cases e))
  cases by_.int
  cases u <;> simp only [getIx] at e <;> try cases e
  · rename_i i z
    by_cases c : z.length ≤ lim
    · rw [if_pos c] at e
      cases bx.str
      cases c2 : ixN z.length i with
      | none => rw [c2] at e; cases e
      | some k =>
        rw [c2] at e
        simp only at e
        cases c3 : nth k z.cps.toList with
        | none => rw [c3] at e; cases e
        | some ch =>
          rw [c3] at e; cases e
          refine .inr (.inr ⟨z, i, ch, rfl, rfl, lim_le c, ?_, q _ (.str _)⟩)
          unfold atI
          have hl : z.cps.toList.length = z.length := by simp [Str.length]
          rw [hl, c2]
          show z.cps.toList[k]? = some ch
          rw [← nth_get]; exact c3
    · rw [if_neg c] at e; cases e
  · obtain ⟨a, vs, rfl, h1, h2, _⟩ := bx.tup
    obtain ⟨v, e2, rv⟩ := atIU h2 e
    exact .inr (.inl ⟨a, vs, _, v, rfl, rfl, h1, e2, q v rv⟩)
  · obtain ⟨a, vs, rfl, h1, h2⟩ := bx.lst
    obtain ⟨v, e2, rv⟩ := atIU h2 e
    exact .inl ⟨a, vs, _, v, rfl, rfl, h1.sq, e2, q v rv⟩
  · rename_i i k
    cases c : nth k s with
    | none => rw [c] at e; cases e
    | some ob =>
      rw [c] at e
      cases ob with
      | lst xs =>
        rw [nth_get] at c
        obtain ⟨a, ea, hv⟩ := st.at_ k xs c
        simp only at e
        cases c2 : ixN xs.length i with
        | none => rw [c2] at e; cases e
        | some j =>
        rw [c2] at e
        simp only at e
        cases c3 : nth j xs with
        | none => rw [c3] at e; cases e
        | some w =>
        rw [c3] at e
        cases e
        have ex : x = .ref a := by
          cases bx with
          | sh bx => cases bx with | ref h1 => rw [nth_get, ea] at h1; cases h1; rfl
        subst ex
        refine .inl ⟨a, _, _, .int w, rfl, rfl, SqL.of hv, ?_, q _ (.int w)⟩
        unfold atI
        rw [List.length_map, c2]
        show (xs.map V.int)[j]? = _
        rw [List.getElem?_map, ← nth_get, c3]
        rfl
/-- a slice -/
def rSlU (K : PySem.W.Frag) : V → Option Int → Option Int → Hp → VK → Prop := fun x lo hi H Q => ∃ m al u r, Md m H ∧ BR K H m al u x ∧ getSl u lo hi = some r ∧ tV K m al r H Q
theorem Shs.cut {K : PySem.W.Frag} {H : Hp} {m : Addr → Prop} {al : List Addr} {us : List U} {vs : List V} (h : Shs K H m al us vs) (lo hi : Option Int) : Shs K H m al (cutL us lo hi) (cutV vs lo hi) := by
  unfold cutL cutV
  rw [h.length]
  exact (h.drop _).take _
theorem cut_whole {us : List U} {lo hi : Option Int} (h : HT.sIx us.length 0 lo = 0 ∧ HT.sIx us.length us.length hi = us.length) : cutL us lo hi = us := by
  unfold cutL
  rw [h.1, h.2]
  simp
theorem slR : SlR X (rSlU X.K) := by
  refine SlR.imp (.or sl_list sl_tupX) ?_
  rintro x lo hi H Q ⟨m, al, u, r, md, bx, e, t⟩
  cases u <;> simp only [getSl] at e <;> cases e
  · obtain ⟨a, vs, rfl, h1, h2, h3⟩ := bx.tup
    refine .inr ⟨a, vs, rfl, h1, fun w => ?_, fun _ p its hp => t.newT md (h2.cut lo hi) hp⟩
    rw [← h2.length] at w
    rw [cut_whole w] at t
    exact t.at h3
  · obtain ⟨a, vs, rfl, h1, h2⟩ := bx.lst
    exact .inl ⟨a, vs, rfl, h1.sq, fun p hp => t.newL md (h2.cut lo hi) hp⟩

/-! ### built-ins -/
inductive BRs (K : PySem.W.Frag) (H : Hp) (m : Addr → Prop) (al : List Addr) : List U → List V → Prop
  | nil : BRs K H m al [] []
  | cons {u : U} {v : V} {us : List U} {vs : List V} : BR K H m al u v → BRs K H m al us vs → BRs K H m al (u :: us) (v :: vs)
def rBi (K : PySem.W.Frag) (b : Bi) : List V → Hp → VK → Prop := fun xs H Q => ∃ m al us r, Md m H ∧ BRs K H m al us xs ∧ biV b us = some r ∧ tV K m al r H Q
theorem BRs.one {K : PySem.W.Frag} {H : Hp} {m : Addr → Prop} {al : List Addr} {u : U} {xs : List V} (h : BRs K H m al [u] xs) : ∃ x, xs = [x] ∧ BR K H m al u x := by
  cases h with | cons h1 h2 => cases h2; exact ⟨_, rfl, h1⟩
theorem BRs.two {K : PySem.W.Frag} {H : Hp} {m : Addr → Prop} {al : List Addr} {u w : U} {xs : List V} (h : BRs K H m al [u, w] xs) : ∃ x y, xs = [x, y] ∧ BR K H m al u x ∧ BR K H m al w y := by
  cases h with | cons h1 h2 => cases h2 with | cons h2 h3 => cases h3; exact ⟨_, _, rfl, h1, h2⟩
theorem biR_len : CallR X (.builtin "len") (rBi X.K .len) := by
  refine CallR.imp (.or call_len_seq call_len_str) ?_
  rintro xs H Q ⟨m, al, us, r, md, bs, e, t⟩
  match us, e with
  | [u], e =>
    obtain ⟨x, rfl, b⟩ := bs.one
    cases u <;> simp only [biV] at e <;> try cases e
    · rename_i z
      by_cases c : z.length ≤ lim
      · rw [if_pos c] at e; cases e
        cases b.str
        exact .inr ⟨z, rfl, lim_le c, t.at (.int _)⟩
      · rw [if_neg c] at e; cases e
    · obtain ⟨a, vs, rfl, h1, h2, _⟩ := b.tup
      refine .inl ⟨a, vs, rfl, .inr h1, ?_⟩
      rw [← h2.length]; exact t.at (.int _)
    · obtain ⟨a, vs, rfl, h1, h2⟩ := b.lst
      refine .inl ⟨a, vs, rfl, .inl h1.sq, ?_⟩
      rw [← h2.length]; exact t.at (.int _)
theorem biR_abs : CallR X (.builtin "abs") (rBi X.K .abs) := by
  refine CallR.imp call_abs ?_
  rintro xs H Q ⟨m, al, us, r, md, bs, e, t⟩
  match us, e with
  | [.int i], e =>
    obtain ⟨x, rfl, b⟩ := bs.one
    cases b.int
    simp only [biV] at e; cases e
    exact ⟨i, rfl, t.at (.int _)⟩
theorem biR_int1 : CallR X (.type "int") (rBi X.K .int1) := by
  refine CallR.imp call_int1 ?_
  rintro xs H Q ⟨m, al, us, r, md, bs, e, t⟩
  match us, e with
  | [u], e =>
    obtain ⟨x, rfl, b⟩ := bs.one
    cases u <;> simp only [biV] at e <;> cases e
    · cases b.bl; exact .inr ⟨_, rfl, t.at (.int _)⟩
    · cases b.int; exact .inl ⟨_, rfl, t.at (.int _)⟩
theorem biR_min2 (hc : X.calm = true) : CallR X (.builtin "min") (rBi X.K .min2) := by
  refine CallR.imp (call_min2 hc) ?_
  rintro xs H Q ⟨m, al, us, r, md, bs, e, t⟩
  match us, e with
  | [.int i, .int j], e =>
    obtain ⟨x, y, rfl, b, b2⟩ := bs.two
    cases b.int; cases b2.int
    simp only [biV] at e; cases e
    exact ⟨i, j, rfl, t.at (.int _)⟩
theorem biR_max2 (hc : X.calm = true) : CallR X (.builtin "max") (rBi X.K .max2) := by
  refine CallR.imp (call_max2 hc) ?_
  rintro xs H Q ⟨m, al, us, r, md, bs, e, t⟩
  match us, e with
  | [.int i, .int j], e =>
    obtain ⟨x, y, rfl, b, b2⟩ := bs.two
    cases b.int; cases b2.int
    simp only [biV] at e; cases e
    exact ⟨i, j, rfl, t.at (.int _)⟩
theorem maxI_spec : ∀ (r : List Int) (i : Int), i ≤ maxI i r ∧ (∀ y ∈ r, y ≤ maxI i r) ∧ maxI i r ∈ i :: r
  | [], i => by simp [maxI]
  | x :: r, i => by
    have h := maxI_spec r (if x > i then x else i)
    unfold maxI
    obtain ⟨h1, h2, h3⟩ := h
    by_cases c : x > i
    · rw [if_pos c] at h1 h2 h3 ⊢
      refine ⟨by omega, fun y hy => ?_, ?_⟩
      · rcases List.mem_cons.mp hy with rfl | hy
        · exact h1
        · exact h2 y hy
      · exact List.mem_cons_of_mem _ h3
    · rw [if_neg c] at h1 h2 h3 ⊢
      refine ⟨h1, fun y hy => ?_, ?_⟩
      · rcases List.mem_cons.mp hy with rfl | hy
        · omega
        · exact h2 y hy
      · rcases List.mem_cons.mp h3 with h3 | h3
        · rw [h3]; exact List.mem_cons_self
        · exact List.mem_cons_of_mem _ (List.mem_cons_of_mem _ h3)
theorem minI_spec : ∀ (r : List Int) (i : Int), minI i r ≤ i ∧ (∀ y ∈ r, minI i r ≤ y) ∧ minI i r ∈ i :: r
  | [], i => by simp [minI]
  | x :: r, i => by
    have h := minI_spec r (if x < i then x else i)
    unfold minI
    obtain ⟨h1, h2, h3⟩ := h
    by_cases c : x < i
    · rw [if_pos c] at h1 h2 h3 ⊢
      refine ⟨by omega, fun y hy => ?_, ?_⟩
      · rcases List.mem_cons.mp hy with rfl | hy
        · exact h1
        · exact h2 y hy
      · exact List.mem_cons_of_mem _ h3
    · rw [if_neg c] at h1 h2 h3 ⊢
      refine ⟨h1, fun y hy => ?_, ?_⟩
      · rcases List.mem_cons.mp hy with rfl | hy
        · omega
        · exact h2 y hy
      · rcases List.mem_cons.mp h3 with h3 | h3
        · rw [h3]; exact List.mem_cons_self
        · exact List.mem_cons_of_mem _ (List.mem_cons_of_mem _ h3)
theorem biR_maxS (hc : X.calm = true) : CallR X (.builtin "max") (rBi X.K .maxS) := by
  refine CallR.imp (cr_max hc) ?_
  rintro xs H Q ⟨m, al, us, r, md, bs, e, t⟩
  match us, e with
  | [.lst ys], e =>
    obtain ⟨x, rfl, b⟩ := bs.one
    simp only [biV] at e
    cases c : intsU ys with
    | none => rw [c] at e; cases e
    | some is =>
      rw [c] at e
      cases is with
      | nil => cases e
      | cons i is =>
        cases e
        obtain ⟨a, vs, rfl, h1, h2⟩ := b.lst
        have h3 := h1.sq
        rw [h2.intsU c] at h3
        refine ⟨a, i :: is, rfl, h3, by simp, fun z hz hy => ?_⟩
        have sp := maxI_spec is i
        have e1 : z = maxI i is := by
          have := hy _ sp.2.2
          have h4 : z ≤ maxI i is := by
            rcases List.mem_cons.mp hz with rfl | hz
            · exact sp.1
            · exact sp.2.1 z hz
          omega
        rw [e1]; exact t.at (.int _)
theorem biR_minS (hc : X.calm = true) : CallR X (.builtin "min") (rBi X.K .minS) := by
  refine CallR.imp (cr_min hc) ?_
  rintro xs H Q ⟨m, al, us, r, md, bs, e, t⟩
  match us, e with
  | [.lst ys], e =>
    obtain ⟨x, rfl, b⟩ := bs.one
    simp only [biV] at e
    cases c : intsU ys with
    | none => rw [c] at e; cases e
    | some is =>
      rw [c] at e
      cases is with
      | nil => cases e
      | cons i is =>
        cases e
        obtain ⟨a, vs, rfl, h1, h2⟩ := b.lst
        have h3 := h1.sq
        rw [h2.intsU c] at h3
        refine ⟨a, i :: is, rfl, h3, by simp, fun z hz hy => ?_⟩
        have sp := minI_spec is i
        have e1 : z = minI i is := by
          have := hy _ sp.2.2
          have h4 : minI i is ≤ z := by
            rcases List.mem_cons.mp hz with rfl | hz
            · exact sp.1
            · exact sp.2.1 z hz
          omega
        rw [e1]; exact t.at (.int _)
theorem cr_or' {f : Value} {r1 r2 : List V → Hp → VK → Prop} (h1 : CallR X f r1) (h2 : CallR X f r2) : CallR X f fun vs H Q => r1 vs H Q ∨ r2 vs H Q := by
  intro pins s σ H vs us Q I r h
  rcases h with h | h
  · exact h1 pins s σ H vs us Q I r h
  · exact h2 pins s σ H vs us Q I r h
theorem biR_sum (hc : X.calm = true) : CallR X (.builtin "sum") (rBi X.K .sum) := by
  refine CallR.imp (cr_or' (cr_sum hc) (cr_sumT hc)) ?_
  rintro xs H Q ⟨m, al, us, r, md, bs, e, t⟩
  match us, e with
  | [.lst ys], e =>
    obtain ⟨x, rfl, b⟩ := bs.one
    simp only [biV] at e
    cases c : intsU ys with
    | none => rw [c] at e; cases e
    | some is =>
      rw [c] at e; cases e
      obtain ⟨a, vs, rfl, h1, h2⟩ := b.lst
      have h3 := h1.sq
      rw [h2.intsU c] at h3
      exact .inl ⟨a, is, rfl, h3, t.at (.int _)⟩
  | [.tup ys], e =>
    obtain ⟨x, rfl, b⟩ := bs.one
    simp only [biV] at e
    cases c : intsU ys with
    | none => rw [c] at e; cases e
    | some is =>
      rw [c] at e; cases e
      obtain ⟨a, vs, rfl, h1, h2, _⟩ := b.tup
      rw [h2.intsU c] at h1
      exact .inr ⟨a, is, rfl, h1, t.at (.int _)⟩
theorem biR_all (hc : X.calm = true) : CallR X (.builtin "all") (rBi X.K .all) := by
  refine CallR.imp (cr_all hc) ?_
  rintro xs H Q ⟨m, al, us, r, md, bs, e, t⟩
  match us, e with
  | [.lst ys], e =>
    obtain ⟨x, rfl, b⟩ := bs.one
    simp only [biV] at e
    cases c : boolsU ys with
    | none => rw [c] at e; cases e
    | some is =>
      rw [c] at e; cases e
      obtain ⟨a, vs, rfl, h1, h2⟩ := b.lst
      have h3 := h1.sq
      rw [h2.boolsU c] at h3
      exact ⟨a, is, rfl, h3, t.at (.bl _)⟩
theorem biR_any (hc : X.calm = true) : CallR X (.builtin "any") (rBi X.K .any) := by
  refine CallR.imp (cr_any hc) ?_
  rintro xs H Q ⟨m, al, us, r, md, bs, e, t⟩
  match us, e with
  | [.lst ys], e =>
    obtain ⟨x, rfl, b⟩ := bs.one
    simp only [biV] at e
    cases c : boolsU ys with
    | none => rw [c] at e; cases e
    | some is =>
      rw [c] at e; cases e
      obtain ⟨a, vs, rfl, h1, h2⟩ := b.lst
      have h3 := h1.sq
      rw [h2.boolsU c] at h3
      exact ⟨a, is, rfl, h3, t.at (.bl _)⟩
theorem biR_list : CallR X (.type "list") (rBi X.K .list) := by
  refine CallR.imp call_list_of ?_
  rintro xs H Q ⟨m, al, us, r, md, bs, e, t⟩
  match us, e with
  | [u], e =>
    obtain ⟨x, rfl, b⟩ := bs.one
    cases u <;> simp only [biV, items] at e <;> cases e
    · obtain ⟨a, vs, rfl, h1, h2, _⟩ := b.tup
      exact ⟨a, vs, rfl, .inr h1, fun l hl => t.newL md h2 hl⟩
    · obtain ⟨a, vs, rfl, h1, h2⟩ := b.lst
      exact ⟨a, vs, rfl, .inl h1.sq, fun l hl => t.newL md h2 hl⟩
theorem biR_tuple : CallR X (.type "tuple") (rBi X.K .tuple) := by
  refine CallR.imp cr_tupX ?_
  rintro xs H Q ⟨m, al, us, r, md, bs, e, t⟩
  match us, e with
  | [u], e =>
    obtain ⟨x, rfl, b⟩ := bs.one
    cases u <;> simp only [biV, items] at e <;> cases e
    · obtain ⟨a, vs, rfl, h1, h2, h3⟩ := b.tup
      exact ⟨a, vs, rfl, .inr ⟨h1, t.at h3⟩⟩
    · obtain ⟨a, vs, rfl, h1, h2⟩ := b.lst
      exact ⟨a, vs, rfl, .inl ⟨h1.sq, fun l its hl => t.newT md h2 hl⟩⟩
end
end Ev

end
section
set_option Elab.async false
set_option linter.all false
set_option maxRecDepth 100000
set_option maxHeartbeats 2000000
namespace Ev
open PySem L2

/-! ### does a term of the evaluator say what a piece of syntax says? -/
structure FnE where
  name : Str
  np : Nat
structure KwE where
  f : Nat
  npos : Nat
  ks : List Str
/-- the program's tables: its defs, its calls with keywords, its constants -/
structure Tb where
  fns : List FnE
  kws : List KwE
  cons : List (Str × U)
  dfs : List (Nat × List U)
/-- a def's defaults -/
def dfOf (T : Tb) (f : Nat) : List U := (T.dfs.lookup f).getD []
structure Ck where
  N : List Str
  sc : Scope
  fn : Str → Bool
inductive Mo where
  | esc | brw | tst
def visB (sc : Scope) (x : Str) : Bool := match sc.names.lookup x with
  | some .local => true
  | some .cell => true
  | some .free => true
  | _ => false
def glB (sc : Scope) (x : Str) : Bool := match sc.names.lookup x with
  | some .globalImplicit => true
  | _ => false
def locB (k : Ck) (x : Str) : Bool := match k.sc.names.lookup x with
  | some .local => true
  | some .cell => k.fn x
  | _ => false
def plainN (x : Str) : Bool := !(x == ("__debug__" : Str)) && !(x == ("__classdict__" : Str)) && !decide (x = "__name__")
def varOk (k : Ck) (i : Nat) : Expr → Bool
  | .Name x _ => decide (k.N[i]? = some x) && visB k.sc x && plainN x
  | _ => false
/-- the name of a global -/
def gName? (k : Ck) : Expr → Option Str
  | .Name x _ => if glB k.sc x && plainN x then some x else none
  | _ => none
def isG (k : Ck) (n : Str) (e : Expr) : Bool := match gName? k e with
  | some x => decide (x = n)
  | none => false
mutual
def sameU : U → U → Bool
  | .non, b => (match b with | .non => true | _ => false)
  | .bl a, b => (match b with | .bl c => a == c | _ => false)
  | .int i, b => (match b with | .int j => i == j | _ => false)
  | .str x, b => (match b with | .str y => decide (x = y) | _ => false)
  | .tup xs, b => (match b with | .tup ys => sameUs xs ys | _ => false)
  | .lst xs, b => (match b with | .lst ys => sameUs xs ys | _ => false)
  | .dct _, _ => false
  | .ref _, _ => false
def sameUs : List U → List U → Bool
  | [], b => (match b with | [] => true | _ => false)
  | x :: xs, b => (match b with | y :: ys => sameU x y && sameUs xs ys | [] => false)
end
mutual
theorem sameU_eq : ∀ (u w : U), sameU u w = true → u = w
  | .non, w, h => by cases w <;> simp [sameU] at h ⊢
  | .bl _, w, h => by cases w <;> simp [sameU] at h ⊢; exact h
  | .int _, w, h => by cases w <;> simp [sameU] at h ⊢; exact h
  | .str _, w, h => by cases w <;> simp [sameU] at h ⊢; exact h
  | .tup xs, w, h => by
    cases w <;> simp [sameU] at h ⊢
    exact sameUs_eq xs _ h
  | .lst xs, w, h => by
    cases w <;> simp [sameU] at h ⊢
    exact sameUs_eq xs _ h
  | .dct _, w, h => by simp [sameU] at h
  | .ref _, w, h => by simp [sameU] at h
theorem sameUs_eq : ∀ (us ws : List U), sameUs us ws = true → us = ws
  | [], ws, h => by cases ws <;> simp [sameUs] at h ⊢
  | x :: xs, ws, h => by
    cases ws <;> simp [sameUs] at h ⊢
    exact ⟨sameU_eq x _ h.1, sameUs_eq xs _ h.2⟩
end
def conOk (T : Tb) (k : Ck) (u : U) : Expr → Bool
  | .Constant c _ _ => (match c, u with
    | .none, .non => true
    | .bool b, .bl c => b == c
    | .int i, .int j => i == j
    | .str x, .str y => decide (x = y)
    | _, _ => false)
  | e => (match gName? k e with
    | some x => (match T.cons.lookup x with | some w => sameU u w | none => false)
    | none => false)
def opIs : Op2 → Operator → Bool
  | .add, .Add => true | .sub, .Sub => true | .mul, .Mult => true | .fdiv, .FloorDiv => true | .mod, .Mod => true | .pow, .Pow => true | .shl, .LShift => true | .shr, .RShift => true | .band, .BitAnd => true | .bxor, .BitXor => true
  | _, _ => false
theorem opIs_eq {o : Op2} {p : Operator} (h : opIs o p = true) : p = opSyn o := by cases o <;> cases p <;> first | rfl | cases h
def cmpIs : Cmp → CmpOp → Bool
  | .eq, .Eq => true | .ne, .NotEq => true | .lt, .Lt => true | .le, .LtE => true | .gt, .Gt => true | .ge, .GtE => true | .isin, .In => true | .notin, .NotIn => true | .is_, .Is => true | .isnot, .IsNot => true
  | _, _ => false
theorem cmpIs_eq {o : Cmp} {p : CmpOp} (h : cmpIs o p = true) : p = cmpSyn o := by cases o <;> cases p <;> first | rfl | cases h
/-- no set display on the right of in -/
def noSet : Expr → Bool
  | .Set .. => false
  | _ => true
def noStar : Expr → Bool
  | .Starred .. => false
  | _ => true
def notSlice : Expr → Bool
  | .Slice .. => false
  | _ => true
/-- a built-in by its one word -/
def biName : Bi → Option Str
  | .len => some "len" | .abs => some "abs" | .int1 => some "int" | .min2 => some "min" | .max2 => some "max" | .minS => some "min" | .maxS => some "max" | .sum => some "sum" | .all => some "all" | .any => some "any" | .list => some "list" | .tuple => some "tuple"
  | .sorted => some "sorted"
  | _ => none
def tyName : Ty → Str
  | .int => "int" | .bool => "bool" | .tuple => "tuple" | .list => "list" | .str => "str"
def tysOk (k : Ck) : List Ty → List Expr → Bool
  | [], [] => true
  | t :: ts, e :: es => isG k (tyName t) e && tysOk k ts es
  | _, _ => false
def lenA : A → Nat
  | .nil => 0
  | .cons _ r => lenA r + 1
def relK (scope sc : Scope) : Scope := relS scope sc
def idxN : List Str → Str → Option Nat
  | [], _ => none
  | y :: r, x => if y = x then some 0 else (match idxN r x with | some i => some (i + 1) | none => none)
/-- a block's own names -/
def ownOf (N : List Str) (scope : Scope) : List (Str × Nat) := scope.names.filterMap fun y => match y.2 with
  | .local => (match idxN N y.1 with | some i => some (y.1, i) | none => none)
  | .cell => (match idxN N y.1 with | some i => some (y.1, i) | none => none)
  | _ => none
def sameN (w v : List Nat) : Bool := (w.all fun i => v.contains i) && v.all fun i => w.contains i
def chkTg : Tg → Ck → Expr → Bool
  | .nm i, k, e => (match e with | .Name x _ => decide (k.N[i]? = some x) && locB k x | _ => false)
  | .t2 a b, k, e => (match e with | .Tuple [x, y] _ _ => chkTg a k x && chkTg b k y | _ => false)
  | .t3 a b c, k, e => (match e with | .Tuple [x, y, z] _ _ => chkTg a k x && chkTg b k y && chkTg c k z | _ => false)
  | .t4 a b c d, k, e => (match e with | .Tuple [x, y, z, w] _ _ => chkTg a k x && chkTg b k y && chkTg c k z && chkTg d k w | _ => false)
def isNameE : Expr → Bool
  | .Name .. => true
  | _ => false
def isTupE : Expr → Bool
  | .Tuple .. => true
  | _ => false
def tgSlots : Tg → List Nat
  | .nm i => [i]
  | .t2 a b => tgSlots a ++ tgSlots b
  | .t3 a b c => tgSlots a ++ (tgSlots b ++ tgSlots c)
  | .t4 a b c d => tgSlots a ++ (tgSlots b ++ (tgSlots c ++ tgSlots d))
/-- the context of a comprehension's block -/
def Ck.blk (k : Ck) (scope : Scope) : Ck := ⟨k.N, relS scope k.sc, fun x => scope.names.lookup x == some .cell⟩
section
variable (T : Tb)
mutual
def chk : C → Mo → Ck → Expr → Bool
  | .con u, _, k, e => conOk T k u e
  | .var i, _, k, e => varOk k i e
  | .peek i, m, k, e => (match m with | .esc => false | _ => varOk k i e)
  | .tup as, _, k, e => (match e with | .Tuple es _ _ => decide (lenA as ≤ 1000) && chkA as .esc k es | _ => false)
  | .lst as, _, k, e => (match e with | .List es _ => decide (lenA as ≤ 1000) && chkA as .esc k es | _ => false)
  | .slst as, _, k, e => (match e with | .List es _ => decide (lenA as ≤ 1000) && chkA as .esc k es | _ => false)
  | .op o a b, _, k, e => (match e with | .BinOp x p y _ => opIs o p && chk a .brw k x && chk b .brw k y | _ => false)
  | .neg a, _, k, e => (match e with | .UnaryOp .USub x _ => chk a .brw k x | _ => false)
  | .cmp o a b, _, k, e => (match e with | .Compare x [p] [y] _ => cmpIs o p && noSet y && chk a .brw k x && chk b .brw k y | _ => false)
  | .chain o q a b c, _, k, e => (match e with | .Compare x [p, p2] [y, z] _ => cmpIs o p && cmpIs q p2 && noSet y && noSet z && chk a .brw k x && chk b .brw k y && chk c .brw k z | _ => false)
  | .not a, m, k, e => (match e with | .UnaryOp .Not x _ => chk a (match m with | .tst => .tst | _ => .brw) k x | _ => false)
  | .and a b, m, k, e => (match e with
    | .BoolOp .And [x, y] p => chk a m k x && chk b m k y
    | .BoolOp .And (x :: y :: z :: r) p => chk a m k x && chk b m k (.BoolOp .And (y :: z :: r) p)
    | _ => false)
  | .or a b, m, k, e => (match e with
    | .BoolOp .Or [x, y] p => chk a m k x && chk b m k y
    | .BoolOp .Or (x :: y :: z :: r) p => chk a m k x && chk b m k (.BoolOp .Or (y :: z :: r) p)
    | _ => false)
  | .ife t a b, m, k, e => (match e with | .IfExp x y z _ => chk t .tst k x && chk a m k y && chk b m k z | _ => false)
  | .ix a b, _, k, e => (match e with | .Subscript x y _ => notSlice y && chk a .brw k x && chk b .brw k y | _ => false)
  | .sl a lo hi, _, k, e => (match e with | .Subscript x (.Slice (some y) (some z) none _) _ => chk a .brw k x && chk lo .brw k y && chk hi .brw k z | _ => false)
  | .slL a lo, _, k, e => (match e with | .Subscript x (.Slice (some y) none none _) _ => chk a .brw k x && chk lo .brw k y | _ => false)
  | .slH a hi, _, k, e => (match e with | .Subscript x (.Slice none (some z) none _) _ => chk a .brw k x && chk hi .brw k z | _ => false)
  | .rev _, _, _, _ => false
  | .call f as, _, k, e => (match e with
    | .Call g es [] _ => (match gName? k g, nth f T.fns with | some x, some fe => decide (x = fe.name) && decide (es.length = fe.np) && chkA as .esc k es | _, _ => false)
    | _ => false)
  | .callK f kw as bs, _, k, e => (match e with
    | .Call g es ks _ => (match gName? k g, nth f T.fns, nth kw T.kws with
      | some x, some fe, some ke => decide (x = fe.name) && decide (ke.f = f) && decide (es.length = ke.npos) && decide (lenA bs = ke.ks.length) && decide (ks.map (·.arg) = ke.ks.map some) && decide (ke.ks ≠ []) && chkA as .esc k es && chkA bs .esc k (ks.map (·.value))
      | _, _, _ => false)
    | _ => false)
  | .bi b as, _, k, e => (match e with
    | .Call g es [] _ => (match biName b with
      | some n => isG k n g && chkA as .brw k es && decide (es ≠ [])
      | none => (match b with
        | .isinst ts => isG k "isinstance" g && (match as, es with
          | .cons a .nil, [x, y] => noStar x && chk a .brw k x && (match ts, y with
            | [t], .Name .. => isG k (tyName t) y
            | _, .Tuple ys _ _ => tysOk k ts ys && decide (ys.length ≤ 1000) && decide (ts.length ≤ 1000)
            | _, _ => false)
          | _, _ => false)
        | .sortedSet => isG k "sorted" g && (match as, es with
          | .cons a .nil, [.Call g2 [x] [] _] => isG k "set" g2 && noStar x && chk a .brw k x
          | _, _ => false)
        | .listRange => isG k "list" g && (match as, es with
          | .cons a .nil, [.Call g2 [x] [] _] => isG k "range" g2 && noStar x && chk a .brw k x
          | _, _ => false)
        | _ => false))
    | _ => false)
  | .comp w tg it t e', _, k, e => (match e with
    | .ListComp elt [⟨tg', iter, ifs, 0⟩] scope _ => noSet iter && (tgSlots tg).all (fun i => w.contains i) && sameN w ((ownOf k.N scope).map (·.2)) && blkC k.N k.sc scope (ownOf k.N scope) && chkI it .brw k tg' iter && chkTg tg (k.blk scope) tg' &&
        (match ifs with | [] => (match t with | .con (.bl true) => true | _ => false) | [x] => chk t .tst (k.blk scope) x | _ => false) && chk e' .esc (k.blk scope) elt
    | _ => false)
  | .comp2 w tg it t tg2 it2 t2 e', _, k, e => false
  | .refNe a, _, k, e => (match e with | .Compare x [.NotEq] [.List [] _] _ => chk a .brw k x | _ => false)
  | .dict1 a, _, k, e => (match e with | .Call g [x] [] _ => isG k "dict" g && noStar x && chk a .brw k x | _ => false)
  | .dGet a b, _, k, e => (match e with | .Subscript x y _ => notSlice y && chk a .brw k x && chk b .brw k y | _ => false)
  | .dIn neg a b, _, k, e => (match e with | .Compare x [p] [y] _ => (match p with | .In => !neg | .NotIn => neg | _ => false) && noSet y && chk a .brw k x && chk b .brw k y | _ => false)
  | .callD f as ds, _, k, e => (match e with
    | .Call g es [] _ => (match gName? k g, nth f T.fns with | some x, some fe => decide (x = fe.name) && decide (es.length + ds.length = fe.np) && decide (ds.length ≤ (dfOf T f).length) && !ds.isEmpty && sameUs ((dfOf T f).drop ((dfOf T f).length - ds.length)) ds && chkA as .esc k es | _, _ => false)
    | _ => false)
  | .sortedR a, _, k, e => (match e with | .Call g [x] [] _ => isG k "sorted" g && noStar x && chk a .brw k x | _ => false)
def chkA : A → Mo → Ck → List Expr → Bool
  | .nil, _, _, es => (match es with | [] => true | _ => false)
  | .cons c r, m, k, es => (match es with | e :: es => noStar e && chk c m k e && chkA r m k es | [] => false)
def chkI : It → Mo → Ck → Expr → Expr → Bool
  | .seq c, m, k, _, e => chk c m k e
  | .enum c, m, k, tg, e => (match e with | .Call g [x] [] _ => isTupE tg && isG k "enumerate" g && noStar x && chk c m k x | _ => false)
  | .zip2 a b, m, k, tg, e => (match e with | .Call g [x, y] [] _ => isTupE tg && isG k "zip" g && noStar x && noStar y && chk a m k x && chk b m k y | _ => false)
  | .zips c, m, k, tg, e => (match e with | .Call g [.Starred x _] [] _ => isNameE tg && isG k "zip" g && chk c m k x | _ => false)
  | .rng1 c, m, k, _, e => (match e with | .Call g [x] [] _ => isG k "range" g && noStar x && chk c .brw k x | _ => false)
  | .rng2 a b, m, k, _, e => (match e with | .Call g [x, y] [] _ => isG k "range" g && noStar x && noStar y && chk a .brw k x && chk b .brw k y | _ => false)
  | .rng3 _ _ _, _, _, _, _ => false
end
end
end Ev

end
section
set_option Elab.async false
set_option linter.all false
set_option maxRecDepth 100000
set_option maxHeartbeats 2000000
namespace Ev
open PySem L2
def isLC : Expr → Bool
  | .ListComp .. => true
  | .SetComp .. => true
  | .DictComp .. => true
  | _ => false
def isFn (k : Ck) : Bool := match k.sc.kind with
  | .function => true
  | _ => false
/-- x = [..] on one line -/
def swapOne (k : Ck) (ex : Expr) (x : Str) (p : Pos) : Bool := match ex with
  | .ListComp _ _ scope cp => k.sc.names.lookup x == some .local && p.line == cp.line && !(scope.names.any fun (n, kk) => n == x && (kk == .local || kk == .cell))
  | _ => false
def locName (k : Ck) (line : Nat) : Expr → Option Str
  | .Name id pos => if k.sc.names.lookup id == some .local && pos.line == line then some id else none
  | _ => none
/-- which names two or three stores at once have: some none, stored in order; none, not told -/
def swM (k : Ck) (ts vs : List Expr) : Option (Option (List Str)) :=
  if isFn k = false then none else
  if (!(ts.length == 2 || ts.length == 3) || vs.length != ts.length) = true then some none else
  if vs.all noStar = false then none else
  let names := ts.filterMap (locName k ((ts.head?.map (·.pos.line)).getD 0))
  if (names.length != ts.length || names.eraseDups.length != names.length) = true then some none else
  if vs.all (foldedForSure 8) = true then some none else
  if vs.all (constantsAlone 8) = true then none else some (some names)
theorem no_any (f : Expr → Bool) (hf : ∀ x, noStar x = true → f x = false) : ∀ vs : List Expr, vs.all noStar = true → vs.any f = false
  | [], _ => rfl
  | x :: r, h => by
    rw [List.all_cons] at h
    have h := Bool.and_eq_true_iff.mp h
    rw [List.any_cons, hf x h.1, no_any f hf r h.2]
    rfl
theorem sw_eq {k : Ck} {env : PySem.Env} (hs : env.scope = k.sc) {ts vs : List Expr} {a c : Nat} {b d : Pos} {r : Option (List Str)} (h : swM k ts vs = some r) : swappedStores [.Tuple ts a b] (.Tuple vs c d) env = pure r := by
  have hn : ∀ id, env.kindOf id = k.sc.names.lookup id := fun id => by unfold Env.kindOf; rw [hs]
  unfold swM at h
  by_cases hf : isFn k = false
  · rw [if_pos hf] at h; cases h
  · rw [if_neg hf] at h
    have hb : env.blockKind = .function := by
      unfold Env.blockKind
      rw [hs]
      unfold isFn at hf
      cases q : k.sc.kind <;> rw [q] at hf <;> first | rfl | exact absurd rfl hf
    unfold swappedStores
    simp only [hb, hn]
    have hx : (ScopeKind.function != ScopeKind.function) = false := by decide
    rw [hx]
    simp only [Bool.or_false]
    generalize (!(ts.length == 2 || ts.length == 3) || vs.length != ts.length) = c1 at h ⊢
    by_cases c1t : c1 = true
    · rw [if_pos c1t] at h ⊢
      cases h; rfl
    rw [if_neg c1t] at h ⊢
    by_cases hst : vs.all noStar = false
    · rw [if_pos hst] at h; cases h
    rw [if_neg hst] at h
    rw [no_any _ ?_ vs (by cases q : vs.all noStar <;> simp_all), if_neg Bool.false_ne_true]
    rotate_left
    · intro x hx
      cases x <;> first | rfl | (cases hx; done)
    have key : ∀ f : Expr → Option Str, (∀ x, f x = locName k ((ts.head?.map (·.pos.line)).getD 0) x) → ts.filterMap f = ts.filterMap (locName k ((ts.head?.map (·.pos.line)).getD 0)) := fun f h => by rw [funext h]
    rw [key _ ?_]
    rotate_left
    · intro x
      cases x <;> rfl
    generalize (vs.all (foldedForSure 8)) = c4 at h ⊢
    generalize (vs.all (constantsAlone 8)) = c5 at h ⊢
    revert h
    dsimp only
    repeat' split
    all_goals first | (intro h; cases h; rfl) | (intro h; cases h)
/-- none of the swapped stores -/
def swNo (k : Ck) (t ex : Expr) : Bool := match t, ex with
  | .Tuple ts _ _, .Tuple vs _ _ => (match swM k ts vs with | some none => true | _ => false)
  | _, _ => true
def sameNames : List Str → List Str → Bool
  | [], [] => true
  | x :: xs, y :: ys => decide (x = y) && sameNames xs ys
  | _, _ => false
def swIs (k : Ck) (ts vs : List Expr) (xs : List Str) : Bool := match swM k ts vs with
  | some (some ys) => sameNames ys xs
  | _ => false
def isComp : C → Bool
  | .comp .. => true
  | _ => false
def isCall : Expr → Bool
  | .Call .. => true
  | _ => false
def nameI (k : Ck) (i : Nat) (x : Str) : Bool := decide (k.N[i]? = some x) && k.sc.names.lookup x == some .local
section
variable (T : Tb)
mutual
def chkS : S → Ck → Stmt → Bool
  | .asg fz i o e, k, st => (match st with
    | .Assign [.Name x p] ex _ => isFn k && decide (k.N[i]? = some x) && locB k x && chk T e .esc k ex && (match ex with
      | .ListComp .. => isComp e
      | .SetComp .. => false
      | .DictComp .. => false
      | _ => true)
    | _ => false)
  | .asgT fz tg e, k, st => (match st with
    | .Assign [t] ex _ => isTupE t && chkTg tg k t && chk T e .esc k ex && !isLC ex && swNo k t ex
    | _ => false)
  | .par2 fz i oi a j oj b, k, st => (match st with
    | .Assign [.Tuple [.Name x px, .Name y py] kt pt] (.Tuple [e1, e2] k2 p2) _ => nameI k i x && nameI k j y && decide (i ≠ j) && noStar e1 && noStar e2 && chk T a .esc k e1 && chk T b .esc k e2 && swIs k [.Name x px, .Name y py] [e1, e2] [x, y]
    | _ => false)
  | .par3 fz i j l as, k, st => (match st with
    | .Assign [.Tuple [.Name x px, .Name y py, .Name z pz] kt pt] (.Tuple [e1, e2, e3] k2 p2) _ => nameI k i x && nameI k j y && nameI k l z && decide (i ≠ j) && decide (i ≠ l) && decide (j ≠ l) && chkA T as .esc k [e1, e2, e3] && swIs k [.Name x px, .Name y py, .Name z pz] [e1, e2, e3] [x, y, z]
    | _ => false)
  | .asgIx fz x kx e, k, st => (match st with
    | .Assign [.Subscript o ix _] ex _ => varOk k x o && notSlice ix && chk T kx .brw k ix && chk T e .esc k ex && !isLC ex
    | _ => false)
  | .aug fz i o e, k, st => (match st with
    | .AugAssign (.Name x p) op ex _ => (match o, op with | .add, .Add => true | .sub, .Sub => true | _, _ => false) && decide (k.N[i]? = some x) && locB k x && chk T e .brw k ex
    | _ => false)
  | .app fz x e, k, st => (match st with
    | .Expr (.Call (.Attribute o nm ap) [ex] [] cp) _ => decide (nm = "append") && varOk k x o && noStar ex && chk T e .esc k ex && ap.endLine == cp.line
    | _ => false)
  | .appPop fz x y kk, k, st => (match st with
    | .Expr (.Call (.Attribute o nm ap) [.Call (.Attribute o2 nm2 ap2) [ix] [] cp2] [] cp) _ => decide (nm = "append") && varOk k x o && decide (nm2 = "pop") && varOk k y o2 && noStar ix && chk T kk .brw k ix && ap.endLine == cp.line && ap2.endLine == cp2.line
    | _ => false)
  | .ret fz e, k, st => (match st with | .Return (some ex) _ => chk T e .esc k ex | _ => false)
  | .retV i, k, st => (match st with | .Return (some ex) _ => varOk k i ex | _ => false)
  | .retN, k, st => (match st with | .Return none _ => true | _ => false)
  | .ife fz t a b, k, st => (match st with | .If c p q _ => chk T t .tst k c && chkB a k p && chkB b k q | _ => false)
  | .for_ fz tg it b, k, st => (match st with | .For t iter body [] _ => noSet iter && chkI T it .esc k t iter && chkTg tg k t && chkB b k body | _ => false)
  | .while_ fz t b, k, st => (match st with | .While c body [] _ => chk T t .tst k c && chkB b k body | _ => false)
  | .ex fz e, k, st => (match st with | .Expr ex _ => isCall ex && chk T e .brw k ex | _ => false)
  | .popS fz y kk, k, st => (match st with
    | .Expr (.Call (.Attribute o2 nm2 ap2) [ix] [] cp2) _ => decide (nm2 = "pop") && varOk k y o2 && noStar ix && chk T kk .brw k ix && ap2.endLine == cp2.line
    | _ => false)
  | .appR fz a e, k, st => (match st with
    | .Expr (.Call (.Attribute (.Subscript o ix sp) nm ap) [ex] [] cp) _ => decide (nm = "append") && chk T a .brw k (.Subscript o ix sp) && noStar ex && chk T e .brw k ex && ap.endLine == cp.line
    | _ => false)
  | .pass, _, st => (match st with | .Pass _ => true | _ => false)
  | .cont, _, st => (match st with | .Continue _ => true | _ => false)
  | .brk, _, st => (match st with | .Break _ => true | _ => false)
  | .never, _, _ => true
def chkB : B → Ck → List Stmt → Bool
  | .nil, _, sts => (match sts with | [] => true | _ => false)
  | .cons s b, k, sts => (match sts with | st :: sts => chkS s k st && chkB b k sts | [] => false)
end
end
end Ev

end
section
set_option Elab.async false
set_option linter.all false
set_option maxRecDepth 100000
set_option maxHeartbeats 2000000
namespace Ev
open PySem L2

section
variable {K : PySem.W.Frag} {H H1 H2 H' : Hp} {m m' : Addr → Prop} {al al1 al2 al' : List Addr} {ρ : Env} {σ : L2.St} {s s1 s2 s' : Sto} {u : U} {v : V} {us : List U} {vs : List V} {r : Rv}

theorem Sh.step (h : Sh K H m al u v) (a : Step H H1 al al1) (sb : ∀ c ∈ al, m c) : Sh K H1 (mU m al1) al1 u v :=
  h.mono (fun b o e n => a.ext b o e fun z => n (sb b z)) (fun b o e n => a.notm sb e n) a.nth
theorem Shs.step (h : Shs K H m al us vs) (a : Step H H1 al al1) (sb : ∀ c ∈ al, m c) : Shs K H1 (mU m al1) al1 us vs :=
  h.mono (fun b o e n => a.ext b o e fun z => n (sb b z)) (fun b o e n => a.notm sb e n) a.nth
theorem Sh.weak (h : Sh K H m al u v) (w : ∀ a, m' a → m a) : Sh K H m' al u v := h.mono (fun _ _ e _ => e) (fun b _ _ n z => n (w b z)) fun _ _ z => z
theorem Shs.weak (h : Shs K H m al us vs) (w : ∀ a, m' a → m a) : Shs K H m' al us vs := h.mono (fun _ _ e _ => e) (fun b _ _ n z => n (w b z)) fun _ _ z => z
theorem Step.notin (a : Step H H1 al al1) {c : Addr} {o : HO} (h : H c = some o) (n : c ∉ al) : c ∉ al1 := fun z => by
  obtain ⟨g, e, q⟩ := a.pre
  rw [e] at z
  rcases List.mem_append.mp z with z | z
  · exact n z
  · rw [q c z] at h; cases h
theorem BR.step (h : BR K H m al u v) (a : Step H H1 al al1) (sb : ∀ c ∈ al, m c) : BR K H1 (mU m al1) al1 u v := by
  cases h with
  | sh h => exact .sh (h.step a sb)
  | own h1 h2 h3 => exact .own (a.ext _ _ h1 h2) (a.notin h1 h2) (h3.step a sb)
theorem BR.weak (h : BR K H m al u v) (w : ∀ a, m' a → m a) : BR K H m' al u v := by
  cases h with
  | sh h => exact .sh (h.weak w)
  | own h1 h2 h3 => exact .own h1 h2 (h3.weak w)
theorem Step.none (a : Step H H1 al al1) {c : Addr} (z : H1 c = none) : H c = none := by
  cases q : H c with
  | none => rfl
  | some o => obtain ⟨o', q'⟩ := a.dom c o q; rw [z] at q'; cases q'
theorem Step.grow (a : Step H H1 al al1) (g : Grow H1 H') : Step H H' al al1 := a.trans g.step
theorem ST.grow (t : ST K m al s H) (g : Grow H H') : ST K m al s H' := ⟨t.len, t.nd, t.sub, fun k us e => by
  obtain ⟨a, e1, e2⟩ := t.at_ k us e
  exact ⟨a, e1, g _ _ e2⟩⟩
theorem ST.weak (t : ST K m al s H) (w : ∀ a, m' a → m a) (sb : ∀ a ∈ al, m' a) : ST K m' al s H := ⟨t.len, t.nd, sb, fun k us e => t.at_ k us e⟩
theorem ST.trk (t : ST K m al s H) {a : Addr} (h : a ∈ al) : ∃ o, H a = some o := by
  obtain ⟨k, hk, e⟩ := List.getElem_of_mem h
  have hk' : k < s.length := by rw [← t.len]; exact hk
  cases q : s[k] with
  | lst us =>
    obtain ⟨b, e1, e2⟩ := t.at_ k us (by rw [List.getElem?_eq_getElem hk', q])
    rw [List.getElem?_eq_getElem hk, e] at e1
    cases e1
    exact ⟨_, e2⟩
theorem mU_sub {a : Addr} (z : mU m al a) : mU (mU m al1) al a := by
  rcases z with z | z
  · exact .inl (.inl z)
  · exact .inr z
theorem VR.weak (h : VR K H H' m al r v) (w : ∀ a, m' a → m a) : VR K H H' m' al r v := ⟨h.sh.weak w, fun f us e => by
  obtain ⟨a, vs, e1, e2, e3, e4⟩ := h.fr f us e
  exact ⟨a, vs, e1, e2, e3.weak fun b z => z.elim (fun z => .inl (w b z)) .inr, e4.1, fun z => e4.2 (w a z)⟩⟩
theorem VR.back (h : VR K H1 H' m al r v) (a : Step H H1 al1 al2) : VR K H H' m al r v := ⟨h.sh, fun f us e => by
  obtain ⟨c, vs, e1, e2, e3, e4⟩ := h.fr f us e
  exact ⟨c, vs, e1, e2, e3, a.none e4.1, e4.2⟩⟩

/-- the store and the slots -/
structure SC (K : PySem.W.Frag) (m : Addr → Prop) (al : List Addr) (s : Sto) (ρ : Env) (σ : L2.St) (H : Hp) : Prop where
  t : ST K m al s H
  r : SR K m al ρ σ H
theorem SC.step (c : SC K m al s ρ σ H) (a : Step H H1 al al1) (t : ST K (mU m al1) al1 s1 H1) : SC K (mU m al1) al1 s1 ρ σ H1 where
  t := t
  r := ⟨c.r.len, fun b z => by
      rcases z with z | z
      · obtain ⟨o, e⟩ := c.r.md b z
        exact a.dom b o e
      · exact t.trk z,
    fun i u e => by
      obtain ⟨v, e1, e2⟩ := c.r.sh i u e
      exact ⟨v, e1, e2.step a c.t.sub⟩,
    fun i u e => by
      obtain ⟨us, b, vs, e1, e2, e3, e4, e5, e6⟩ := c.r.own i u e
      exact ⟨us, b, vs, e1, e2, a.ext _ _ e3 e6, e4.step a c.t.sub, .inl e5, a.notin e3 e6⟩,
    c.r.inj⟩
theorem SC.md (c : SC K m al s ρ σ H) : Md m H := c.r.md
end

/-! ### readings -/
section
variable (F : CallF) (KW : List (List Nat)) (K : PySem.W.Frag)
def tE (c : C) : TE := fun σ H Q => ∃ ρ s m al r s', SC K m al s ρ σ H ∧ evE F KW c ρ s = .ok r s' ∧
  ∀ v H' al', Step H H' al al' → ST K (mU m al') al' s' H' → VR K H H' (mU m al') al' r v → Q v H'
def tB (c : C) : TE := fun σ H Q => ∃ ρ s m al r s', SC K m al s ρ σ H ∧ evE F KW c ρ s = .ok r s' ∧
  ∀ v H' al', Step H H' al al' → ST K (mU m al') al' s' H' → BR K H' (mU m al') al' r.u v → Q v H'
def tT (c : C) : TT := fun σ H Q => ∃ ρ s m al r s' k, SC K m al s ρ σ H ∧ evE F KW c ρ s = .ok r s' ∧ truth r.u = some k ∧
  ∀ H' al', Step H H' al al' → ST K (mU m al') al' s' H' → Q k H'
def tAs (a : A) : TA := fun σ H Q => ∃ ρ s m al us s', SC K m al s ρ σ H ∧ evA F KW a ρ s = .ok us s' ∧
  ∀ vs H' al', Step H H' al al' → ST K (mU m al') al' s' H' → Shs K H' (mU m al') al' us vs → Q vs H'
def tAb (a : A) : TA := fun σ H Q => ∃ ρ s m al us s', SC K m al s ρ σ H ∧ evA F KW a ρ s = .ok us s' ∧
  ∀ vs H' al', Step H H' al al' → ST K (mU m al') al' s' H' → BRs K H' (mU m al') al' us vs → Q vs H'
/-- what later heaps keep -/
def PP (m : Addr → Prop) (al : List Addr) (md : Mo) (H H2 : Hp) : Prop := match md with
  | .esc => ∀ b o, H b = some o → ¬ m b → H2 b = some o
  | _ => ∀ b o, H b = some o → b ∉ al → H2 b = some o
/-- what an iterator hands on -/
inductive ItemOf (m : Addr → Prop) (al : List Addr) (H H2 H3 : Hp) : U → V → Prop
  | old {u : U} {x : V} : H3 = H2 → Sh K H m al u x → ItemOf m al H H2 H3 u x
  | new {ws : List U} {xs : List V} {T : Addr} {its : List Value} : H2 T = none → H3 = upd H2 T (tupO its xs) → Shs K H m al ws xs → ItemOf m al H H2 H3 (.tup ws) (.ref T)
structure Yl (m : Addr → Prop) (al : List Addr) (md : Mo) (H : Hp) (J : L2.It) (us : List U) : Prop where
  go : ∀ i H2, PP m al md H H2 → i < us.length → J.go i H2
  st : ∀ H2, PP m al md H H2 → J.stop us.length H2
  yl : ∀ (i : Nat) H2 x H3 u, PP m al md H H2 → us[i]? = some u → J.yld i H2 x H3 → ItemOf K m al H H2 H3 u x
def tI (md : Mo) (it : Ev.It) : TI := fun σ H R => ∃ ρ s m al us s', SC K m al s ρ σ H ∧ evI F KW it ρ s = .ok us s' ∧
  ∀ J H' al', Step H H' al al' → ST K (mU m al') al' s' H' → Yl K (mU m al') al' md H' J us → R J H'
end
theorem PE.imp {X : Cx} {e : Expr} {t t' : TE} (h : PE X e t) (i : ∀ σ H Q, t' σ H Q → t σ H Q) : PE X e t' := ⟨fun pins s σ H Q I q => h.run pins s σ H Q I (i σ H Q q)⟩
theorem PT.imp {X : Cx} {e : Expr} {t t' : TT} (h : PT X e t) (i : ∀ σ H Q, t' σ H Q → t σ H Q) : PT X e t' := ⟨fun pins s σ H Q I q => h.run pins s σ H Q I (i σ H Q q)⟩
theorem PA.imp {X : Cx} {e : List Expr} {t t' : TA} (h : PA X e t) (i : ∀ σ H Q, t' σ H Q → t σ H Q) : PA X e t' := ⟨fun pos pins s σ H Q I q => h.run pos pins s σ H Q I (i σ H Q q)⟩
theorem PI.imp {X : Cx} {tg e : Expr} {t t' : TI} (h : PI X tg e t) (i : ∀ σ H Q, t' σ H Q → t σ H Q) : PI X tg e t' := ⟨fun pins s σ H Q I q => h.run pins s σ H Q I (i σ H Q q)⟩
theorem bind_ok {α β : Type} {x : RE α} {f : α → Sto → RE β} {b : β} {s : Sto} (h : x.bind f = .ok b s) : ∃ a s1, x = .ok a s1 ∧ f a s1 = .ok b s := by
  cases x with
  | ok a s1 => exact ⟨a, s1, rfl, h⟩
  | exc _ _ => cases h
  | bad => cases h
theorem ofO_ok {α : Type} {s s' : Sto} {o : Option α} {a : α} (h : ofO s o = .ok a s') : o = some a ∧ s = s' := by
  cases o with
  | none => cases h
  | some b => cases h; exact ⟨rfl, rfl⟩

theorem bindO_ok {α β : Type} {s s' : Sto} {o : Option α} {f : α → Sto → RE β} {b : β} (h : (ofO s o).bind f = .ok b s') : ∃ a, o = some a ∧ f a s = .ok b s' := by
  cases o with
  | none => cases h
  | some a => exact ⟨a, rfl, h⟩

/-! ### what a context must have -/
/-- a def as the evaluator has it -/
def spF (F : CallF) (K : PySem.W.Frag) (f n : Nat) : Sp := fun vs H Q _ => ∃ s m al us r s', Md m H ∧ ST K m al s H ∧ Shs K H m al us vs ∧ us.length = n ∧ F f us s = .ok r s' ∧
  ∀ v H' al', Step H H' al al' → ST K (mU m al') al' s' H' → VR K H H' (mU m al') al' r v → Q v H'
structure CallOk (F : CallF) (X : Cx) (f : Nat) (fe : FnE) : Prop where
  ex : ∃ (a : Addr) (fd : FuncData) (ps : List Str) (d : Nat), FnOk X.prog X.w X.K X.mg X.base CX0 d a fd ps (spF F X.K f fe.np) ∧ Room d X.A ∧ X.mg fe.name = some (.ref a) ∧ PySem.W.keepIn X.K (.ref a) = true ∧ Binds X.K fd ps [] ∧ ps.length = fe.np
structure KwOk (F : CallF) (KW : List (List Nat)) (X : Cx) (kw : Nat) (ke : KwE) (fe : FnE) : Prop where
  ex : ∃ (a : Addr) (fd : FuncData) (ps : List Str) (d : Nat) (g : List Value → List Value → List Value) (gV : List V → List V → List V), FnOk X.prog X.w X.K X.mg X.base CX0 d a fd ps (spF F X.K ke.f fe.np) ∧ Room d X.A ∧ X.mg fe.name = some (.ref a) ∧ PySem.W.keepIn X.K (.ref a) = true ∧
    KBinds X.K fd ps ke.ks g gV ∧ ps.length = fe.np ∧ ∃ p, nth kw KW = some p ∧ ∀ (K : PySem.W.Frag) (H : Hp) (m : Addr → Prop) (al : List Addr) us ws vs zs xs, us.length = ke.npos → ws.length = ke.ks.length → Shs K H m al us vs → Shs K H m al ws zs → permU p (us ++ ws) = some xs → xs.length = fe.np ∧ Shs K H m al xs (gV vs zs)
/-- a constant's value, as a default -/
def dvV : U → V
  | .bl b => .bl b
  | .int i => .int i
  | _ => .non
def plainDv : U → Bool
  | .non => true
  | .bl _ => true
  | .int _ => true
  | _ => false
/-- a def called with its last parameters left to their defaults -/
structure DfOk (F : CallF) (X : Cx) (f : Nat) (fe : FnE) (us : List U) : Prop where
  ex : ∃ (a : Addr) (fd : FuncData) (ps : List Str) (d : Nat) (ds : List Value), FnOk X.prog X.w X.K X.mg X.base CX0 d a fd ps (spF F X.K f fe.np) ∧ Room d X.A ∧ X.mg fe.name = some (.ref a) ∧ PySem.W.keepIn X.K (.ref a) = true ∧ Binds X.K fd ps ds ∧ Vals (us.map dvV) ds ∧ us.all plainDv = true
/-- the built-ins' names that the evaluator calls -/
def bltNames : List Str := ["len", "abs", "int", "min", "max", "sum", "all", "any", "list", "tuple", "sorted", "set", "isinstance", "range", "enumerate", "zip", "bool", "str", "dict"]
structure XOk (T : Tb) (F : CallF) (KW : List (List Nat)) (k : Ck) (X : Cx) : Prop where
  N : X.N = k.N
  nd : k.N.Nodup
  sc : X.env.scope = k.sc
  fn : X.fn = k.fn
  calm : X.calm = true
  units : X.A.units + 66 < cLine
  blt : ∀ n ∈ bltNames, X.mg n = none
  cons : ∀ x u, T.cons.lookup x = some u → ∃ v w, X.mg x = some w ∧ RelV v w ∧ ∀ H m al, Sh X.K H m al u v
  fns : ∀ f fe, nth f T.fns = some fe → CallOk F X f fe
  kws : ∀ kw ke fe, nth kw T.kws = some ke → nth ke.f T.fns = some fe → KwOk F KW X kw ke fe
  dfs : ∀ f fe j, nth f T.fns = some fe → j < (dfOf T f).length → DfOk F X f fe ((dfOf T f).drop j)
end Ev

end
section
set_option Elab.async false
set_option linter.all false
set_option maxRecDepth 100000
set_option maxHeartbeats 2000000
namespace Ev
open PySem L2
section
variable {X : Cx} {F : CallF} {KW : List (List Nat)} {a b c : C} {x y z : Expr} {pos : Pos}

/-! ### from one reading to another -/
theorem tE_tB {e : Expr} (h : PE X e (tE F KW X.K a)) : PE X e (tB F KW X.K a) := PE.imp h fun σ H Q ⟨ρ, s, m, al, r, s', sc, e, q⟩ => ⟨ρ, s, m, al, r, s', sc, e, fun v H' al' st t vr => q v H' al' st t (.sh vr.sh)⟩
/-- a test whose truth is its value's -/
theorem tB_tT {e : Expr} (h : PE X e (tB F KW X.K a)) (he : ∀ whole, isTrue e X.env whole = (do let v ← whole; standAt e.pos; holding [v] (truthy v))) : PT X e (tT F KW X.K a) :=
  PT.imp (pt_truth h he) fun σ H Q ⟨ρ, s, m, al, r, s', k, sc, e, tr, q⟩ => ⟨ρ, s, m, al, r, s', sc, e, fun v H' al' st t br => ⟨k, br.truth tr, q H' al' st t⟩⟩
/-- what one way asks of a term -/
def Goal (F : CallF) (KW : List (List Nat)) (X : Cx) (c : C) (e : Expr) : Mo → Prop
  | .esc => PE X e (tE F KW X.K c)
  | .brw => PE X e (tB F KW X.K c)
  | .tst => PT X e (tT F KW X.K c)
theorem Goal.of {e : Expr} (m : Mo) (h : PE X e (tE F KW X.K a)) (he : ∀ whole, isTrue e X.env whole = (do let v ← whole; standAt e.pos; holding [v] (truthy v))) : Goal F KW X a e m := by
  cases m with
  | esc => exact h
  | brw => exact tE_tB h
  | tst => exact tB_tT (tE_tB h) he

/-! ### leaves -/
theorem snd_con {u : U} {e : Expr} {v : V} (h : PE X e (tC v)) (r : ∀ H m al, Sh X.K H m al u v) : PE X e (tE F KW X.K (.con u)) :=
  PE.imp h fun σ H Q ⟨ρ, s, m, al, r', s', sc, e, q⟩ => by
    simp only [evE] at e
    cases e
    exact q v H al Step.refl (sc.t.weak (fun b z => z.elim id (sc.t.sub b)) fun b z => .inr z) ⟨r _ _ _, fun z => nomatch z⟩
theorem mU_id {m : Addr → Prop} {al : List Addr} (sb : ∀ a ∈ al, m a) : ∀ a, mU m al a → m a := fun a z => z.elim id (sb a)
theorem ST.up {K : PySem.W.Frag} {m : Addr → Prop} {al : List Addr} {s : Sto} {H : Hp} (t : ST K m al s H) : ST K (mU m al) al s H := t.weak (mU_id t.sub) fun _ z => .inr z
theorem snd_var {i : Nat} {e : Expr} (h : PE X e (tVar i)) : PE X e (tE F KW X.K (.var i)) :=
  PE.imp h fun σ H Q ⟨ρ, s, m, al, r', s', sc, e, q⟩ => by
    simp only [evE] at e
    cases l : look i ρ with
    | sh u =>
      rw [l] at e
      cases e
      obtain ⟨v, e1, e2⟩ := sc.r.sh i u l
      exact ⟨v, e1, q v H al Step.refl sc.t.up ⟨e2.weak (mU_id sc.t.sub), fun z => nomatch z⟩⟩
    | un => rw [l] at e; cases e
    | own u => rw [l] at e; cases e
theorem snd_peek {i : Nat} {e : Expr} (h : PE X e (tVar i)) : PE X e (tB F KW X.K (.peek i)) :=
  PE.imp h fun σ H Q ⟨ρ, s, m, al, r', s', sc, e, q⟩ => by
    simp only [evE] at e
    cases l : look i ρ with
    | sh u =>
      rw [l] at e
      cases e
      obtain ⟨v, e1, e2⟩ := sc.r.sh i u l
      exact ⟨v, e1, q v H al Step.refl sc.t.up (.sh (e2.weak (mU_id sc.t.sub)))⟩
    | un => rw [l] at e; cases e
    | own u =>
      rw [l] at e
      cases e
      obtain ⟨us, b, vs, rfl, e2, e3, e4, e5, e6⟩ := sc.r.own i u l
      exact ⟨_, e2, q _ H al Step.refl sc.t.up (.own e3 e6 (e4.weak (mU_id sc.t.sub)))⟩

/-! ### two operands -/
theorem two_op {o : Op2} : ∀ σ H (Q : VK), tE F KW X.K (.op o a b) σ H Q → tOp (rOp X.K o) (tB F KW X.K a) (tB F KW X.K b) σ H Q := by
  rintro σ H Q ⟨ρ, s, m, al, r, s', sc, e, q⟩
  simp only [evE] at e
  obtain ⟨ra, s1, e1, e⟩ := bind_ok e
  obtain ⟨rb, s2, e2, e⟩ := bind_ok e
  obtain ⟨e3, rfl⟩ := ofO_ok e
  refine ⟨ρ, s, m, al, ra, s1, sc, e1, fun v1 H1 al1 st1 t1 b1 => ⟨ρ, s1, mU m al1, al1, rb, _, sc.step st1 t1, e2, fun v2 H2 al2 st2 t2 b2 => ?_⟩⟩
  have sc2 := (sc.step st1 t1).step st2 t2
  refine ⟨mU (mU m al1) al2, al2, _, _, r, sc2.md, b1.step st2 t1.sub, b2, e3, fun v H' g vr => ?_⟩
  exact q v H' al2 ((st1.trans st2).grow g) ((t2.grow g).weak (fun _ z => mU_sub z) fun _ z => .inr z) ((vr.back (st1.trans st2)).weak fun _ z => mU_sub z)
theorem snd_op {o : Op2} (ha : PE X x (tB F KW X.K a)) (hb : PE X y (tB F KW X.K b)) : PE X (.BinOp x (opSyn o) y pos) (tE F KW X.K (.op o a b)) := PE.imp (pe_op (opR o) ha hb) two_op
theorem snd_neg (ha : PE X x (tB F KW X.K a)) : PE X (.UnaryOp .USub x pos) (tE F KW X.K (.neg a)) :=
  PE.imp (pe_un un_neg ha) fun σ H Q ⟨ρ, s, m, al, r, s', sc, e, q⟩ => by
    simp only [evE] at e
    obtain ⟨ra, s1, e1, e⟩ := bind_ok e
    obtain ⟨u, f⟩ := ra
    cases u <;> simp only at e <;> cases e
    exact ⟨ρ, s, m, al, _, _, sc, e1, fun v H1 al1 st t b => by cases b.int; exact ⟨_, rfl, q _ H1 al1 st t ⟨.int _, fun z => nomatch z⟩⟩⟩
theorem two_cmp {o : Cmp} {R : V → Hp → Prop} {σ : L2.St} {H : Hp} {ρ : Env} {s s2 : Sto} {m : Addr → Prop} {al : List Addr} {ra rb : Rv} {k : Bool} {s1 : Sto} (sc : SC X.K m al s ρ σ H) (e1 : evE F KW a ρ s = .ok ra s1) (e2 : evE F KW b ρ s1 = .ok rb s2) (e3 : cmp2 o ra.u rb.u = some k)
    (q : ∀ H' al', Step H H' al al' → ST X.K (mU m al') al' s2 H' → R (.bl k) H') : tOp (rCmp X.K o) (tB F KW X.K a) (tB F KW X.K b) σ H R := by
  refine ⟨ρ, s, m, al, ra, s1, sc, e1, fun v1 H1 al1 st1 t1 b1 => ⟨ρ, s1, mU m al1, al1, rb, _, sc.step st1 t1, e2, fun v2 H2 al2 st2 t2 b2 => ?_⟩⟩
  exact ⟨mU (mU m al1) al2, al2, _, _, k, b1.step st2 t1.sub, b2, e3, q H2 al2 (st1.trans st2) (t2.weak (fun _ z => mU_sub z) fun _ z => .inr z)⟩
theorem noSet_mark {o : CmpOp} {y : Expr} (h : noSet y = true) : behindInMarks o y = false := by
  cases y <;> first | rfl | cases h
theorem snd_cmp {o : Cmp} (hu : X.A.units + 65 < cLine) (hy : noSet y = true) (ha : PE X x (tB F KW X.K a)) (hb : PE X y (tB F KW X.K b)) : PE X (.Compare x [cmpSyn o] [y] pos) (tE F KW X.K (.cmp o a b)) :=
  PE.imp (pe_cmpR (cmpR hu o) ha hb (noSet_mark hy)) fun σ H Q ⟨ρ, s, m, al, r, s', sc, e, q⟩ => by
    simp only [evE] at e
    obtain ⟨ra, s1, e1, e⟩ := bind_ok e
    obtain ⟨rb, s2, e2, e⟩ := bind_ok e
    obtain ⟨k, e3, e⟩ := bindO_ok e
    cases e
    exact two_cmp sc e1 e2 e3 fun H' al' st t => q _ H' al' st t ⟨.bl _, fun z => nomatch z⟩
theorem snd_cmpT {o : Cmp} (hu : X.A.units + 65 < cLine) (hy : noSet y = true) (ha : PE X x (tB F KW X.K a)) (hb : PE X y (tB F KW X.K b)) : PT X (.Compare x [cmpSyn o] [y] pos) (tT F KW X.K (.cmp o a b)) :=
  PT.imp (pt_cmpR (cmpR hu o) ha hb (noSet_mark hy)) fun σ H Q ⟨ρ, s, m, al, r, s', k, sc, e, tr, q⟩ => by
    simp only [evE] at e
    obtain ⟨ra, s1, e1, e⟩ := bind_ok e
    obtain ⟨rb, s2, e2, e⟩ := bind_ok e
    obtain ⟨k', e3, e⟩ := bindO_ok e
    cases e
    cases tr
    exact two_cmp sc e1 e2 e3 fun H' al' st t => ⟨_, rfl, q H' al' st t⟩
/-- the rest of a chain -/
theorem chain_in {o p : Cmp} {σ : L2.St} {H : Hp} {ρ : Env} {s s' : Sto} {m : Addr → Prop} {al : List Addr} {r : Rv} {R : V → Hp → Prop} (sc : SC X.K m al s ρ σ H) (e : evE F KW (.chain o p a b c) ρ s = .ok r s')
    (q : ∀ k, r = ⟨.bl k, false⟩ → ∀ H' al', Step H H' al al' → ST X.K (mU m al') al' s' H' → R (.bl k) H') : tChain (rCmp X.K o) (rCmp X.K p) (tB F KW X.K a) (tB F KW X.K b) (tB F KW X.K c) σ H R := by
  simp only [evE] at e
  obtain ⟨ra, s1, e1, e⟩ := bind_ok e
  obtain ⟨rb, s2, e2, e⟩ := bind_ok e
  obtain ⟨k, e3, e⟩ := bindO_ok e
  refine ⟨ρ, s, m, al, ra, s1, sc, e1, fun v1 H1 al1 st1 t1 b1 => ⟨ρ, s1, mU m al1, al1, rb, _, sc.step st1 t1, e2, fun v2 H2 al2 st2 t2 b2 => ?_⟩⟩
  have sc2 := (sc.step st1 t1).step st2 t2
  refine ⟨mU (mU m al1) al2, al2, _, _, k, b1.step st2 t1.sub, b2, e3, k, rfl, ?_⟩
  cases k with
  | false =>
    cases e
    rw [if_neg Bool.false_ne_true]
    exact q _ rfl H2 al2 (st1.trans st2) (t2.weak (fun _ z => mU_sub z) fun _ z => .inr z)
  | true =>
    rw [if_pos rfl]
    simp only at e
    obtain ⟨rc, s4, e4, e⟩ := bind_ok e
    obtain ⟨k2, e5, e⟩ := bindO_ok e
    cases e
    refine ⟨ρ, _, mU (mU m al1) al2, al2, rc, _, sc2, e4, fun v3 H3 al3 st3 t3 b3 => ?_⟩
    exact ⟨mU (mU (mU m al1) al2) al3, al3, _, _, k2, b2.step st3 t2.sub, b3, e5, q _ rfl H3 al3 ((st1.trans st2).trans st3) (t3.weak (fun _ z => mU_sub (mU_sub z)) fun _ z => .inr z)⟩
end
end Ev

end
section
set_option Elab.async false
set_option linter.all false
set_option maxRecDepth 100000
set_option maxHeartbeats 2000000
namespace Ev
open PySem L2
section
variable {X : Cx} {F : CallF} {KW : List (List Nat)} {a b c : C} {x y z : Expr} {pos : Pos}
theorem snd_chain {o p : Cmp} (hu : X.A.units + 65 < cLine) (hz : noSet z = true) (ha : PE X x (tB F KW X.K a)) (hb : PE X y (tB F KW X.K b)) (hc : PE X z (tB F KW X.K c)) :
    PE X (.Compare x [cmpSyn o, cmpSyn p] [y, z] pos) (tE F KW X.K (.chain o p a b c)) :=
  PE.imp (pe_chain (cmpR hu o) (cmpR hu p) ha hb hc (noSet_mark hz)) fun σ H Q ⟨ρ, s, m, al, r, s', sc, e, q⟩ => chain_in sc e fun k er H' al' st t => q _ H' al' st t (by rw [er]; exact ⟨.bl _, fun z => nomatch z⟩)
theorem snd_chainT {o p : Cmp} (hu : X.A.units + 65 < cLine) (hz : noSet z = true) (ha : PE X x (tB F KW X.K a)) (hb : PE X y (tB F KW X.K b)) (hc : PE X z (tB F KW X.K c)) :
    PT X (.Compare x [cmpSyn o, cmpSyn p] [y, z] pos) (tT F KW X.K (.chain o p a b c)) :=
  PT.imp (pt_chain (cmpR hu o) (cmpR hu p) ha hb hc (noSet_mark hz)) fun σ H Q ⟨ρ, s, m, al, r, s', k, sc, e, tr, q⟩ => chain_in sc e fun k' er H' al' st t => by
    rw [er] at tr
    cases tr
    exact ⟨_, rfl, q H' al' st t⟩

/-! ### not, and, or, if -/
theorem snd_not (ha : PE X x (tB F KW X.K a)) : PE X (.UnaryOp .Not x pos) (tE F KW X.K (.not a)) :=
  PE.imp (pe_notT ha) fun σ H Q ⟨ρ, s, m, al, r, s', sc, e, q⟩ => by
    simp only [evE] at e
    obtain ⟨ra, s1, e1, e⟩ := bind_ok e
    obtain ⟨k, e2, e⟩ := bindO_ok e
    cases e
    exact ⟨ρ, s, m, al, ra, _, sc, e1, fun v H' al' st t b => ⟨k, b.truth e2, q _ H' al' st t ⟨.bl _, fun z => nomatch z⟩⟩⟩
theorem snd_notT (ha : PT X x (tT F KW X.K a)) : PT X (.UnaryOp .Not x pos) (tT F KW X.K (.not a)) :=
  PT.imp (pt_not ha) fun σ H Q ⟨ρ, s, m, al, r, s', k, sc, e, tr, q⟩ => by
    simp only [evE] at e
    obtain ⟨ra, s1, e1, e⟩ := bind_ok e
    obtain ⟨k', e2, e⟩ := bindO_ok e
    cases e
    cases tr
    exact ⟨ρ, s, m, al, ra, _, k', sc, e1, e2, fun H' al' st t => q H' al' st t⟩
theorem and_ok {ρ : Env} {s s' : Sto} {r : Rv} (e : evE F KW (.and a b) ρ s = .ok r s') : ∃ ra s1, evE F KW a ρ s = .ok ra s1 ∧ ((truth ra.u = some true ∧ evE F KW b ρ s1 = .ok r s') ∨ (truth ra.u = some false ∧ r = ra ∧ s' = s1)) := by
  simp only [evE] at e
  obtain ⟨ra, s1, e1, e⟩ := bind_ok e
  obtain ⟨k, e2, e⟩ := bindO_ok e
  refine ⟨ra, s1, e1, ?_⟩
  cases k with
  | true => exact .inl ⟨e2, e⟩
  | false => cases e; exact .inr ⟨e2, rfl, rfl⟩
theorem or_ok {ρ : Env} {s s' : Sto} {r : Rv} (e : evE F KW (.or a b) ρ s = .ok r s') : ∃ ra s1, evE F KW a ρ s = .ok ra s1 ∧ ((truth ra.u = some false ∧ evE F KW b ρ s1 = .ok r s') ∨ (truth ra.u = some true ∧ r = ra ∧ s' = s1)) := by
  simp only [evE] at e
  obtain ⟨ra, s1, e1, e⟩ := bind_ok e
  obtain ⟨k, e2, e⟩ := bindO_ok e
  refine ⟨ra, s1, e1, ?_⟩
  cases k with
  | false => exact .inl ⟨e2, e⟩
  | true => cases e; exact .inr ⟨e2, rfl, rfl⟩
theorem ife_ok {t : C} {ρ : Env} {s s' : Sto} {r : Rv} (e : evE F KW (.ife t a b) ρ s = .ok r s') : ∃ ra s1 k, evE F KW t ρ s = .ok ra s1 ∧ truth ra.u = some k ∧ evE F KW (if k = true then a else b) ρ s1 = .ok r s' := by
  simp only [evE] at e
  obtain ⟨ra, s1, e1, e⟩ := bind_ok e
  obtain ⟨k, e2, e⟩ := bindO_ok e
  refine ⟨ra, s1, k, e1, e2, ?_⟩
  cases k <;> exact e
section
variable {K : PySem.W.Frag} {m : Addr → Prop} {al al1 al2 : List Addr} {s1 s2 : Sto} {H H1 H2 : Hp}
theorem ST.mm (t : ST K (mU (mU m al1) al2) al2 s2 H2) : ST K (mU m al2) al2 s2 H2 := t.weak (fun _ z => mU_sub z) fun _ z => .inr z
theorem VR.mm {r : Rv} {v : V} (h : VR K H1 H2 (mU (mU m al1) al2) al2 r v) : VR K H1 H2 (mU m al2) al2 r v := h.weak fun _ z => mU_sub z
theorem BR.mm {u : U} {v : V} (h : BR K H2 (mU (mU m al1) al2) al2 u v) : BR K H2 (mU m al2) al2 u v := h.weak fun _ z => mU_sub z
theorem VR.br {r : Rv} {v : V} (h : VR K H1 H2 m al r v) : BR K H2 m al r.u v := .sh h.sh
end
theorem snd_and {rest : List Expr} (ha : PE X x (tE F KW X.K a)) (hb : PE X (.BoolOp .And (y :: rest) pos) (tE F KW X.K b)) : PE X (.BoolOp .And (x :: y :: rest) pos) (tE F KW X.K (.and a b)) :=
  PE.imp (pe_andT ha hb) fun σ H Q ⟨ρ, s, m, al, r, s', sc, e, q⟩ => by
    obtain ⟨ra, s1, e1, h⟩ := and_ok e
    refine ⟨ρ, s, m, al, ra, s1, sc, e1, fun v H1 al1 st1 t1 r1 => ?_⟩
    rcases h with ⟨h, e2⟩ | ⟨h, rfl, rfl⟩
    · exact ⟨true, r1.br.truth h, by rw [if_pos rfl]; exact ⟨ρ, s1, _, al1, r, s', sc.step st1 t1, e2, fun v H' al' st t vr => q v H' al' (st1.trans st) t.mm ((vr.back st1).mm)⟩⟩
    · exact ⟨false, r1.br.truth h, by rw [if_neg Bool.false_ne_true]; exact q v H1 al1 st1 t1 r1⟩
theorem snd_andB {rest : List Expr} (ha : PE X x (tB F KW X.K a)) (hb : PE X (.BoolOp .And (y :: rest) pos) (tB F KW X.K b)) : PE X (.BoolOp .And (x :: y :: rest) pos) (tB F KW X.K (.and a b)) :=
  PE.imp (pe_andT ha hb) fun σ H Q ⟨ρ, s, m, al, r, s', sc, e, q⟩ => by
    obtain ⟨ra, s1, e1, h⟩ := and_ok e
    refine ⟨ρ, s, m, al, ra, s1, sc, e1, fun v H1 al1 st1 t1 r1 => ?_⟩
    rcases h with ⟨h, e2⟩ | ⟨h, rfl, rfl⟩
    · exact ⟨true, r1.truth h, by rw [if_pos rfl]; exact ⟨ρ, s1, _, al1, r, s', sc.step st1 t1, e2, fun v H' al' st t vr => q v H' al' (st1.trans st) t.mm vr.mm⟩⟩
    · exact ⟨false, r1.truth h, by rw [if_neg Bool.false_ne_true]; exact q v H1 al1 st1 t1 r1⟩
theorem snd_or {rest : List Expr} (ha : PE X x (tE F KW X.K a)) (hb : PE X (.BoolOp .Or (y :: rest) pos) (tE F KW X.K b)) : PE X (.BoolOp .Or (x :: y :: rest) pos) (tE F KW X.K (.or a b)) :=
  PE.imp (pe_orT ha hb) fun σ H Q ⟨ρ, s, m, al, r, s', sc, e, q⟩ => by
    obtain ⟨ra, s1, e1, h⟩ := or_ok e
    refine ⟨ρ, s, m, al, ra, s1, sc, e1, fun v H1 al1 st1 t1 r1 => ?_⟩
    rcases h with ⟨h, e2⟩ | ⟨h, rfl, rfl⟩
    · exact ⟨false, r1.br.truth h, by rw [if_neg Bool.false_ne_true]; exact ⟨ρ, s1, _, al1, r, s', sc.step st1 t1, e2, fun v H' al' st t vr => q v H' al' (st1.trans st) t.mm ((vr.back st1).mm)⟩⟩
    · exact ⟨true, r1.br.truth h, by rw [if_pos rfl]; exact q v H1 al1 st1 t1 r1⟩
theorem snd_orB {rest : List Expr} (ha : PE X x (tB F KW X.K a)) (hb : PE X (.BoolOp .Or (y :: rest) pos) (tB F KW X.K b)) : PE X (.BoolOp .Or (x :: y :: rest) pos) (tB F KW X.K (.or a b)) :=
  PE.imp (pe_orT ha hb) fun σ H Q ⟨ρ, s, m, al, r, s', sc, e, q⟩ => by
    obtain ⟨ra, s1, e1, h⟩ := or_ok e
    refine ⟨ρ, s, m, al, ra, s1, sc, e1, fun v H1 al1 st1 t1 r1 => ?_⟩
    rcases h with ⟨h, e2⟩ | ⟨h, rfl, rfl⟩
    · exact ⟨false, r1.truth h, by rw [if_neg Bool.false_ne_true]; exact ⟨ρ, s1, _, al1, r, s', sc.step st1 t1, e2, fun v H' al' st t vr => q v H' al' (st1.trans st) t.mm vr.mm⟩⟩
    · exact ⟨true, r1.truth h, by rw [if_pos rfl]; exact q v H1 al1 st1 t1 r1⟩
theorem snd_andT {rest : List Expr} (ha : PT X x (tT F KW X.K a)) (hb : PW X (.BoolOp .And (y :: rest) pos) (tT F KW X.K b)) : PW X (.BoolOp .And (x :: y :: rest) pos) (tT F KW X.K (.and a b)) := by
  have h0 := pw_and (pos := pos) ha hb
  refine ⟨fun whole pins s0 σ H Q I h => h0.run whole pins s0 σ H Q I ?_⟩
  obtain ⟨ρ, s, m, al, r, s', k, sc, e, tr, q⟩ := h
  obtain ⟨ra, s1, e1, h⟩ := and_ok e
  rcases h with ⟨h, e2⟩ | ⟨h, rfl, rfl⟩
  · exact ⟨ρ, s, m, al, ra, s1, true, sc, e1, h, fun H1 al1 st1 t1 => iteT ⟨ρ, s1, _, al1, r, s', k, sc.step st1 t1, e2, tr, fun H' al' st t => q H' al' (st1.trans st) t.mm⟩⟩
  · rw [h] at tr; cases tr
    exact ⟨ρ, s, m, al, _, _, false, sc, e1, h, fun H1 al1 st1 t1 => iteF (q H1 al1 st1 t1)⟩
theorem snd_orT {rest : List Expr} (ha : PT X x (tT F KW X.K a)) (hb : PW X (.BoolOp .Or (y :: rest) pos) (tT F KW X.K b)) : PW X (.BoolOp .Or (x :: y :: rest) pos) (tT F KW X.K (.or a b)) := by
  have h0 := pw_or (pos := pos) ha hb
  refine ⟨fun whole pins s0 σ H Q I h => h0.run whole pins s0 σ H Q I ?_⟩
  obtain ⟨ρ, s, m, al, r, s', k, sc, e, tr, q⟩ := h
  obtain ⟨ra, s1, e1, h⟩ := or_ok e
  rcases h with ⟨h, e2⟩ | ⟨h, rfl, rfl⟩
  · exact ⟨ρ, s, m, al, ra, s1, false, sc, e1, h, fun H1 al1 st1 t1 => iteF ⟨ρ, s1, _, al1, r, s', k, sc.step st1 t1, e2, tr, fun H' al' st t => q H' al' (st1.trans st) t.mm⟩⟩
  · rw [h] at tr; cases tr
    exact ⟨ρ, s, m, al, _, _, true, sc, e1, h, fun H1 al1 st1 t1 => iteT (q H1 al1 st1 t1)⟩
theorem snd_ife {t : C} (ht : PT X x (tT F KW X.K t)) (ha : PE X y (tE F KW X.K a)) (hb : PE X z (tE F KW X.K b)) : PE X (.IfExp x y z pos) (tE F KW X.K (.ife t a b)) :=
  PE.imp (pe_ifExp ht ha hb) fun σ H Q ⟨ρ, s, m, al, r, s', sc, e, q⟩ => by
    obtain ⟨ra, s1, k, e1, h, e2⟩ := ife_ok e
    refine ⟨ρ, s, m, al, ra, s1, k, sc, e1, h, fun H1 al1 st1 t1 => ?_⟩
    cases k with
    | true =>
      rw [if_pos rfl] at e2 ⊢
      exact ⟨ρ, s1, _, al1, r, s', sc.step st1 t1, e2, fun v H' al' st t vr => q v H' al' (st1.trans st) t.mm ((vr.back st1).mm)⟩
    | false =>
      rw [if_neg Bool.false_ne_true] at e2 ⊢
      exact ⟨ρ, s1, _, al1, r, s', sc.step st1 t1, e2, fun v H' al' st t vr => q v H' al' (st1.trans st) t.mm ((vr.back st1).mm)⟩
theorem snd_ifeB {t : C} (ht : PT X x (tT F KW X.K t)) (ha : PE X y (tB F KW X.K a)) (hb : PE X z (tB F KW X.K b)) : PE X (.IfExp x y z pos) (tB F KW X.K (.ife t a b)) :=
  PE.imp (pe_ifExp ht ha hb) fun σ H Q ⟨ρ, s, m, al, r, s', sc, e, q⟩ => by
    obtain ⟨ra, s1, k, e1, h, e2⟩ := ife_ok e
    refine ⟨ρ, s, m, al, ra, s1, k, sc, e1, h, fun H1 al1 st1 t1 => ?_⟩
    cases k with
    | true =>
      rw [if_pos rfl] at e2 ⊢
      exact ⟨ρ, s1, _, al1, r, s', sc.step st1 t1, e2, fun v H' al' st t vr => q v H' al' (st1.trans st) t.mm vr.mm⟩
    | false =>
      rw [if_neg Bool.false_ne_true] at e2 ⊢
      exact ⟨ρ, s1, _, al1, r, s', sc.step st1 t1, e2, fun v H' al' st t vr => q v H' al' (st1.trans st) t.mm vr.mm⟩
/-- a test of a conditional -/
theorem pt_ife {t : TT} {ta tb : TT} (ht : PT X x t) (ha : PT X y ta) (hb : PT X z tb) : PT X (.IfExp x y z pos) (fun σ H Q => t σ H fun k H1 => if k = true then ta σ H1 Q else tb σ H1 Q) := by
  refine ⟨fun pins s σ H Q I h => ?_⟩
  unfold PySem.isTrue
  refine wpAny_bind (thn (ht.run pins s σ H _ I h) fun k s1 ⟨H1, I1, q⟩ => ?_)
  cases k with
  | true => rw [if_pos rfl] at q ⊢; exact ha.run pins s1 σ H1 Q I1 q
  | false => rw [if_neg Bool.false_ne_true] at q ⊢; exact hb.run pins s1 σ H1 Q I1 q
theorem snd_ifeT {t : C} (ht : PT X x (tT F KW X.K t)) (ha : PT X y (tT F KW X.K a)) (hb : PT X z (tT F KW X.K b)) : PT X (.IfExp x y z pos) (tT F KW X.K (.ife t a b)) :=
  PT.imp (pt_ife ht ha hb) fun σ H Q ⟨ρ, s, m, al, r, s', k', sc, e, tr, q⟩ => by
    obtain ⟨ra, s1, k, e1, h, e2⟩ := ife_ok e
    refine ⟨ρ, s, m, al, ra, s1, k, sc, e1, h, fun H1 al1 st1 t1 => ?_⟩
    cases k with
    | true =>
      rw [if_pos rfl] at e2 ⊢
      exact ⟨ρ, s1, _, al1, r, s', k', sc.step st1 t1, e2, tr, fun H' al' st t => q H' al' (st1.trans st) t.mm⟩
    | false =>
      rw [if_neg Bool.false_ne_true] at e2 ⊢
      exact ⟨ρ, s1, _, al1, r, s', k', sc.step st1 t1, e2, tr, fun H' al' st t => q H' al' (st1.trans st) t.mm⟩

/-! ### subscripts, slices -/
theorem snd_ix (hs : PlainIx y) (ha : PE X x (tB F KW X.K a)) (hb : PE X y (tB F KW X.K b)) : PE X (.Subscript x y pos) (tE F KW X.K (.ix a b)) :=
  PE.imp (pe_ix ixR ha hb hs) fun σ H Q ⟨ρ, s, m, al, r, s', sc, e, q⟩ => by
    simp only [evE] at e
    obtain ⟨ra, s1, e1, e⟩ := bind_ok e
    obtain ⟨rb, s2, e2, e⟩ := bind_ok e
    obtain ⟨u, e3, e⟩ := bindO_ok e
    cases e
    refine ⟨ρ, s, m, al, ra, s1, sc, e1, fun v1 H1 al1 st1 t1 b1 => ⟨ρ, s1, mU m al1, al1, rb, _, sc.step st1 t1, e2, fun v2 H2 al2 st2 t2 b2 => ?_⟩⟩
    exact ⟨_, al2, _, _, _, u, t2, b1.step st2 t1.sub, b2, e3, fun v sh => q v H2 al2 (st1.trans st2) t2.mm ⟨sh.weak fun _ z => mU_sub z, fun z => nomatch z⟩⟩
theorem sl_in {u : U} {r : Rv} {s' : Sto} {m : Addr → Prop} {al al2 : List Addr} {m2 : Addr → Prop} {H H2 : Hp} {v : V} {lo hi : Option Int} {Q : VK} {ρ : Env} {σ : L2.St} (sc2 : SC X.K m2 al2 s' ρ σ H2) (st : Step H H2 al al2) (w : ∀ a, mU m al2 a → m2 a) (b : BR X.K H2 m2 al2 u v)
    (e : getSl u lo hi = some r) (q : ∀ v H' al', Step H H' al al' → ST X.K (mU m al') al' s' H' → VR X.K H H' (mU m al') al' r v → Q v H') : rSlU X.K v lo hi H2 Q :=
  ⟨m2, al2, u, r, sc2.md, b, e, fun v H' g vr => q v H' al2 (st.grow g) ((sc2.t.grow g).weak w fun _ z => .inr z) ((vr.back st).weak w)⟩
theorem bnd_int {u : U} {i : Int} (h : bnd u = some i) : u = .int i := by cases u <;> simp [bnd] at h; rw [h]
theorem snd_sl (ha : PE X x (tB F KW X.K a)) (hb : PE X y (tB F KW X.K b)) (hc : PE X z (tB F KW X.K c)) {p2 : Pos} : PE X (.Subscript x (.Slice (some y) (some z) none p2) pos) (tE F KW X.K (.sl a b c)) :=
  PE.imp (pe_slice slR ha (po_some hb) (po_some hc)) fun σ H Q ⟨ρ, s, m, al, r, s', sc, e, q⟩ => by
    simp only [evE] at e
    obtain ⟨ra, s1, e1, e⟩ := bind_ok e
    obtain ⟨rb, s2, e2, e⟩ := bind_ok e
    obtain ⟨rc, s3, e3, e⟩ := bind_ok e
    obtain ⟨i, e4, e⟩ := bindO_ok e
    obtain ⟨j, e5, e⟩ := bindO_ok e
    obtain ⟨e6, rfl⟩ := ofO_ok e
    have h4 := bnd_int e4
    have h5 := bnd_int e5
    refine ⟨ρ, s, m, al, ra, s1, sc, e1, fun v1 H1 al1 st1 t1 b1 => ⟨ρ, s1, mU m al1, al1, rb, _, sc.step st1 t1, e2, fun v2 H2 al2 st2 t2 b2 => ⟨i, ?_, ρ, s2, _, al2, rc, _, (sc.step st1 t1).step st2 t2, e3, fun v3 H3 al3 st3 t3 b3 => ⟨j, ?_, ?_⟩⟩⟩⟩
    · rw [h4] at b2; exact b2.int
    · rw [h5] at b3; exact b3.int
    · exact sl_in (((sc.step st1 t1).step st2 t2).step st3 t3) ((st1.trans st2).trans st3) (fun _ z => mU_sub (mU_sub z)) ((b1.step st2 t1.sub).step st3 t2.sub) e6 q
theorem snd_slL (ha : PE X x (tB F KW X.K a)) (hb : PE X y (tB F KW X.K b)) {p2 : Pos} : PE X (.Subscript x (.Slice (some y) none none p2) pos) (tE F KW X.K (.slL a b)) :=
  PE.imp (pe_slice slR ha (po_some hb) po_none) fun σ H Q ⟨ρ, s, m, al, r, s', sc, e, q⟩ => by
    simp only [evE] at e
    obtain ⟨ra, s1, e1, e⟩ := bind_ok e
    obtain ⟨rb, s2, e2, e⟩ := bind_ok e
    obtain ⟨i, e4, e⟩ := bindO_ok e
    obtain ⟨e6, rfl⟩ := ofO_ok e
    have h4 := bnd_int e4
    refine ⟨ρ, s, m, al, ra, s1, sc, e1, fun v1 H1 al1 st1 t1 b1 => ⟨ρ, s1, mU m al1, al1, rb, _, sc.step st1 t1, e2, fun v2 H2 al2 st2 t2 b2 => ⟨i, ?_, ?_⟩⟩⟩
    · rw [h4] at b2; exact b2.int
    · exact sl_in ((sc.step st1 t1).step st2 t2) (st1.trans st2) (fun _ z => mU_sub z) (b1.step st2 t1.sub) e6 q
theorem snd_slH (ha : PE X x (tB F KW X.K a)) (hb : PE X y (tB F KW X.K b)) {p2 : Pos} : PE X (.Subscript x (.Slice none (some y) none p2) pos) (tE F KW X.K (.slH a b)) :=
  PE.imp (pe_slice slR ha po_none (po_some hb)) fun σ H Q ⟨ρ, s, m, al, r, s', sc, e, q⟩ => by
    simp only [evE] at e
    obtain ⟨ra, s1, e1, e⟩ := bind_ok e
    obtain ⟨rb, s2, e2, e⟩ := bind_ok e
    obtain ⟨i, e4, e⟩ := bindO_ok e
    obtain ⟨e6, rfl⟩ := ofO_ok e
    have h4 := bnd_int e4
    refine ⟨ρ, s, m, al, ra, s1, sc, e1, fun v1 H1 al1 st1 t1 b1 => ⟨ρ, s1, mU m al1, al1, rb, _, sc.step st1 t1, e2, fun v2 H2 al2 st2 t2 b2 => ⟨i, ?_, ?_⟩⟩⟩
    · rw [h4] at b2; exact b2.int
    · exact sl_in ((sc.step st1 t1).step st2 t2) (st1.trans st2) (fun _ z => mU_sub z) (b1.step st2 t1.sub) e6 q
end
end Ev

end
section
set_option Elab.async false
set_option linter.all false
set_option maxRecDepth 100000
set_option maxHeartbeats 2000000
namespace Ev
open PySem L2
section
variable {X : Cx} {F : CallF} {KW : List (List Nat)} {a b c : C} {as : A} {x y z : Expr} {es : List Expr} {pos : Pos}
theorem star_of (h : noStar x = true) (env : PySem.Env) : starEach (x :: es) env = (false, PySem.eval x env) :: starEach es env := by
  cases x <;> first | rfl | cases h
def noStars : List Expr → Bool
  | [] => true
  | e :: r => noStar e && noStars r
theorem stars_plain (pos : Pos) (env : PySem.Env) : ∀ {es : List Expr}, noStars es = true → (backTo pos (starEach es env)).any (·.1) = false
  | [], _ => rfl
  | e :: r, h => by
    have h := Bool.and_eq_true_iff.mp h
    rw [star_of h.1]
    have q := stars_plain pos env h.2
    show (false || (backTo pos (starEach r env)).any (·.1)) = false
    rw [q]
    rfl
theorem evA_len : ∀ (as : A) (ρ : Env) (s s' : Sto) (us : List U), evA F KW as ρ s = .ok us s' → us.length = lenA as
  | .nil, ρ, s, s', us, e => by simp only [evA] at e; cases e; rfl
  | .cons c r, ρ, s, s', us, e => by
    simp only [evA] at e
    obtain ⟨x, s1, e1, e⟩ := bind_ok e
    obtain ⟨xs, s2, e2, e⟩ := bind_ok e
    cases e
    show xs.length + 1 = lenA r + 1
    rw [evA_len r ρ s1 _ xs e2]

/-! ### arguments -/
theorem snd_nil : PA X [] (tAs F KW X.K .nil) := PA.imp pa_nil fun σ H Q ⟨ρ, s, m, al, us, s', sc, e, q⟩ => by
  simp only [evA] at e; cases e
  exact q [] H al Step.refl sc.t.up .nil
theorem snd_nilB : PA X [] (tAb F KW X.K .nil) := PA.imp pa_nil fun σ H Q ⟨ρ, s, m, al, us, s', sc, e, q⟩ => by
  simp only [evA] at e; cases e
  exact q [] H al Step.refl sc.t.up .nil
theorem snd_cons (hs : noStar x = true) (ha : PE X x (tE F KW X.K a)) (hr : PA X es (tAs F KW X.K as)) : PA X (x :: es) (tAs F KW X.K (.cons a as)) :=
  PA.imp (pa_cons ha hr (star_of hs _)) fun σ H Q ⟨ρ, s, m, al, us, s', sc, e, q⟩ => by
    simp only [evA] at e
    obtain ⟨ra, s1, e1, e⟩ := bind_ok e
    obtain ⟨xs, s2, e2, e⟩ := bind_ok e
    cases e
    refine ⟨ρ, s, m, al, ra, s1, sc, e1, fun v1 H1 al1 st1 t1 r1 => ⟨ρ, s1, _, al1, xs, _, sc.step st1 t1, e2, fun vs H2 al2 st2 t2 rs => ?_⟩⟩
    exact q _ H2 al2 (st1.trans st2) t2.mm (.cons ((r1.sh.step st2 t1.sub).weak fun _ z => mU_sub z) (rs.weak fun _ z => mU_sub z))
theorem BRs.step {K : PySem.W.Frag} {H H1 : Hp} {m : Addr → Prop} {al al1 : List Addr} {us : List U} {vs : List V} (h : BRs K H m al us vs) (a : Step H H1 al al1) (sb : ∀ c ∈ al, m c) : BRs K H1 (mU m al1) al1 us vs := by
  induction h with
  | nil => exact .nil
  | cons h1 _ ih => exact .cons (h1.step a sb) ih
theorem BRs.weak {K : PySem.W.Frag} {H : Hp} {m m' : Addr → Prop} {al : List Addr} {us : List U} {vs : List V} (h : BRs K H m al us vs) (w : ∀ a, m' a → m a) : BRs K H m' al us vs := by
  induction h with
  | nil => exact .nil
  | cons h1 _ ih => exact .cons (h1.weak w) ih
theorem snd_consB (hs : noStar x = true) (ha : PE X x (tB F KW X.K a)) (hr : PA X es (tAb F KW X.K as)) : PA X (x :: es) (tAb F KW X.K (.cons a as)) :=
  PA.imp (pa_cons ha hr (star_of hs _)) fun σ H Q ⟨ρ, s, m, al, us, s', sc, e, q⟩ => by
    simp only [evA] at e
    obtain ⟨ra, s1, e1, e⟩ := bind_ok e
    obtain ⟨xs, s2, e2, e⟩ := bind_ok e
    cases e
    refine ⟨ρ, s, m, al, ra, s1, sc, e1, fun v1 H1 al1 st1 t1 r1 => ⟨ρ, s1, _, al1, xs, _, sc.step st1 t1, e2, fun vs H2 al2 st2 t2 rs => ?_⟩⟩
    exact q _ H2 al2 (st1.trans st2) t2.mm (.cons ((r1.step st2 t1.sub).weak fun _ z => mU_sub z) (rs.weak fun _ z => mU_sub z))

/-! ### displays -/
theorem small_line {n : Nat} (h : n ≤ 1000) : n ≤ sizeLine := Nat.le_of_lt (small1000 h)
theorem VR.newL {K : PySem.W.Frag} {H H1 : Hp} {m : Addr → Prop} {al al1 : List Addr} {us : List U} {vs : List V} {p : Addr} {f : Bool} (md : Md m H1) (st : Step H H1 al al1) (r : Shs K H1 m al1 us vs) (hp : H1 p = none) :
    VR K H (upd H1 p (.lst vs)) m al1 ⟨.lst us, f⟩ (.ref p) :=
  ⟨.lst upd_same (md.not hp) (r.grow (Grow.new hp)), fun _ us' e => by cases e; exact ⟨p, vs, rfl, upd_same, r.newE hp, st.none hp, md.not hp⟩⟩
theorem VR.newT {K : PySem.W.Frag} {H H1 : Hp} {m : Addr → Prop} {al1 : List Addr} {us : List U} {vs : List V} {p : Addr} {its : List Value} (md : Md m H1) (r : Shs K H1 m al1 us vs) (hp : H1 p = none) :
    VR K H (upd H1 p (tupO its vs)) m al1 ⟨.tup us, false⟩ (.ref p) := ⟨.tup upd_same (md.not hp) (r.grow (Grow.new hp)), fun z => nomatch z⟩
theorem snd_tup {k : Nat} (hl : lenA as ≤ 1000) (ha : PA X es (tAs F KW X.K as)) : PE X (.Tuple es k pos) (tE F KW X.K (.tup as)) :=
  PE.imp (pe_tupX ha) fun σ H Q ⟨ρ, s, m, al, r, s', sc, e, q⟩ => by
    simp only [evE] at e
    obtain ⟨us, s1, e1, e⟩ := bind_ok e
    cases e
    refine ⟨ρ, s, m, al, us, _, sc, e1, fun vs H1 al1 st t rs => ⟨by rw [← rs.length, evA_len as _ _ _ _ e1]; exact small_line hl, fun p its hp => ?_⟩⟩
    exact q _ _ al1 (st.grow (Grow.new hp)) (t.grow (Grow.new hp)) (VR.newT (sc.step st t).md rs hp)
theorem snd_lst (hl : lenA as ≤ 1000) (ha : PA X es (tAs F KW X.K as)) : PE X (.List es pos) (tE F KW X.K (.lst as)) :=
  PE.imp (pe_lst ha) fun σ H Q ⟨ρ, s, m, al, r, s', sc, e, q⟩ => by
    simp only [evE] at e
    obtain ⟨us, s1, e1, e⟩ := bind_ok e
    cases e
    refine ⟨ρ, s, m, al, us, _, sc, e1, fun vs H1 al1 st t rs => ⟨by rw [← rs.length, evA_len as _ _ _ _ e1]; exact small_line hl, fun p hp => ?_⟩⟩
    exact q _ _ al1 (st.grow (Grow.new hp)) (t.grow (Grow.new hp)) (VR.newL (sc.step st t).md st rs hp)
theorem ST.push {K : PySem.W.Frag} {m : Addr → Prop} {al : List Addr} {s : Sto} {H : Hp} {is : List Int} {p : Addr} (t : ST K m al s H) (hp : H p = none) :
    Step H (upd H p (.lst (is.map V.int))) al (al ++ [p]) ∧ ST K (mU m (al ++ [p])) (al ++ [p]) (s ++ [.lst is]) (upd H p (.lst (is.map V.int))) := by
  have st : Step H (upd H p (.lst (is.map V.int))) al (al ++ [p]) := ⟨⟨[p], rfl, fun a ha => by rw [List.mem_singleton.mp ha]; exact hp⟩, fun b o e _ => Grow.new hp b o e, fun b o e => ⟨o, Grow.new hp b o e⟩⟩
  have np : p ∉ al := fun z => by obtain ⟨o, e⟩ := t.trk z; rw [hp] at e; cases e
  refine ⟨st, by rw [List.length_append, List.length_append, t.len] <;> rfl, List.nodup_append.mpr ⟨t.nd, by simp, fun a ha b hb e => ?_⟩, fun a ha => .inr ha, fun k ws e => ?_⟩
  · rw [List.mem_singleton.mp hb] at e
    exact np (e ▸ ha)
  · by_cases hk : k < s.length
    · rw [List.getElem?_append_left hk] at e
      obtain ⟨a, e1, e2⟩ := t.at_ k ws e
      refine ⟨a, ?_, Grow.new hp _ _ e2⟩
      rw [List.getElem?_append_left (by rw [t.len]; exact hk)]
      exact e1
    · have hk' : s.length ≤ k := Nat.le_of_not_lt hk
      rw [List.getElem?_append_right hk'] at e
      have h0 : k - s.length = 0 := by
        cases q : k - s.length with
        | zero => rfl
        | succ n => rw [q] at e; simp at e
      rw [h0] at e
      simp at e
      subst e
      refine ⟨p, ?_, upd_same⟩
      rw [List.getElem?_append_right (by rw [t.len]; exact hk'), t.len, h0]
      rfl
theorem snd_slst (hl : lenA as ≤ 1000) (ha : PA X es (tAs F KW X.K as)) : PE X (.List es pos) (tE F KW X.K (.slst as)) :=
  PE.imp (pe_lst ha) fun σ H Q ⟨ρ, s, m, al, r, s', sc, e, q⟩ => by
    simp only [evE] at e
    obtain ⟨us, s1, e1, e⟩ := bind_ok e
    obtain ⟨is, e2, e⟩ := bindO_ok e
    cases e
    refine ⟨ρ, s, m, al, us, _, sc, e1, fun vs H1 al1 st t rs => ⟨by rw [← rs.length, evA_len as _ _ _ _ e1]; exact small_line hl, fun p hp => ?_⟩⟩
    rw [rs.intsU e2]
    obtain ⟨st2, t2⟩ := t.push (is := is) hp
    refine q _ _ (al1 ++ [p]) (st.trans st2) t2.mm ⟨.ref ?_, fun z => nomatch z⟩
    rw [nth_get, ← t.len]
    simp

/-! ### calls -/
theorem snd_call {f : Nat} {fe : FnE} {n : Str} {p : Pos} (C : CallOk F X f fe) (hg : Gl X fe.name) (hd : (fe.name == ("__debug__" : Str)) = false) (hs : noStars es = true) (hl : lenA as = fe.np) (he : es.length = fe.np) (ha : PA X es (tAs F KW X.K as)) :
    PE X (.Call (.Name fe.name p) es [] pos) (tE F KW X.K (.call f as)) := by
  obtain ⟨a, fd, ps, d, G, hr, hm, hk, hb, hp⟩ := C.ex
  have key : ∀ σ H (Q : VK), tE F KW X.K (.call f as) σ H Q → tCall (spF F X.K f fe.np) [] E0 (tAs F KW X.K as) σ H Q := fun σ H Q ⟨ρ, s, m, al, r, s', sc, e, q⟩ => by
    simp only [evE] at e
    obtain ⟨us, s1, e1, e⟩ := bind_ok e
    refine ⟨ρ, s, m, al, us, s1, sc, e1, fun vs H1 al1 st t rs => ?_⟩
    show spF F X.K f fe.np (vs ++ []) H1 Q E0
    rw [List.append_nil]
    exact ⟨s1, _, al1, us, r, s', (sc.step st t).md, t, rs, by rw [evA_len as _ _ _ _ e1, hl], e, fun v H' al' st' t' vr => q v H' al' (st.trans st') t'.mm ((vr.back st).mm)⟩
  cases es with
  | nil =>
    have h0 := pe_call0 (p := p) (pos := pos) G hr hg hm hk hb .nil pass0 hd
    refine PE.imp h0 fun σ H Q h => ?_
    obtain ⟨ρ, s, m, al, us, s1, sc, e1, q⟩ := key σ H Q h
    have hn : us = [] := by
      have := evA_len as _ _ _ _ e1
      rw [hl, ← he] at this
      exact List.length_eq_zero_iff.mp this
    subst hn
    have ha0 : as = .nil := by
      cases as with
      | nil => rfl
      | cons c r => rw [← he] at hl; cases hl
    subst ha0
    simp only [evA] at e1; cases e1
    exact q [] H al Step.refl sc.t.up .nil
  | cons e es =>
    have hs' := Bool.and_eq_true_iff.mp hs
    exact PE.imp (pe_call (p := p) (pos := pos) G hr hg hm hk hb .nil pass0 ha hd (star_of hs'.1 _) (stars_plain _ _ hs'.2)) key

/-! ### calls with keywords -/
theorem kw_all (pos : Pos) (env : PySem.Env) : ∀ {kws : List Keyword} {ks : List Str}, kws.map (·.arg) = ks.map some → (backToKw pos (keywordEach kws env)).all (·.1.isSome) = true ∧ (backToKw pos (keywordEach kws env)).filterMap (·.1) = ks ∧ (backToKw pos (keywordEach kws env)).any (·.1.isNone) = false
  | [], [], _ => ⟨rfl, rfl, rfl⟩
  | [], _ :: _, h => by simp at h
  | _ :: _, [], h => by simp at h
  | ⟨a, v, p⟩ :: r, k :: ks, h => by
    simp only [List.map_cons, List.cons.injEq] at h
    obtain ⟨h1, h2⟩ := h
    subst h1
    obtain ⟨q1, q2, q3⟩ := kw_all pos env h2
    refine ⟨?_, ?_, ?_⟩
    · show (true && (backToKw pos (keywordEach r env)).all (·.1.isSome)) = true
      rw [q1]; rfl
    · show k :: (backToKw pos (keywordEach r env)).filterMap (·.1) = _
      rw [q2]
    · show (false || (backToKw pos (keywordEach r env)).any (·.1.isNone)) = false
      rw [q3]; rfl
theorem PK.imp {kws : List Keyword} {t t' : TA} (h : PK X kws t) (i : ∀ σ H Q, t' σ H Q → t σ H Q) : PK X kws t' := ⟨fun pos pins s σ H Q I q => h.run pos pins s σ H Q I (i σ H Q q)⟩
theorem snd_kNil : PK X [] (tAs F KW X.K .nil) := PK.imp pk_nil fun σ H Q ⟨ρ, s, m, al, us, s', sc, e, q⟩ => by
  simp only [evA] at e; cases e
  exact q [] H al Step.refl sc.t.up .nil
theorem snd_kCons {nm : Option Str} {kpos : Pos} {kws : List Keyword} (ha : PE X x (tE F KW X.K a)) (hr : PK X kws (tAs F KW X.K as)) : PK X (⟨nm, x, kpos⟩ :: kws) (tAs F KW X.K (.cons a as)) :=
  PK.imp (pk_cons ha hr) fun σ H Q ⟨ρ, s, m, al, us, s', sc, e, q⟩ => by
    simp only [evA] at e
    obtain ⟨ra, s1, e1, e⟩ := bind_ok e
    obtain ⟨xs, s2, e2, e⟩ := bind_ok e
    cases e
    refine ⟨ρ, s, m, al, ra, s1, sc, e1, fun v1 H1 al1 st1 t1 r1 => ⟨ρ, s1, _, al1, xs, _, sc.step st1 t1, e2, fun vs H2 al2 st2 t2 rs => ?_⟩⟩
    exact q _ H2 al2 (st1.trans st2) t2.mm (.cons ((r1.sh.step st2 t1.sub).weak fun _ z => mU_sub z) (rs.weak fun _ z => mU_sub z))
/-- f(k = v, ..), no positional argument -/
theorem pe_callK0 {CX : CXT} {k : Nat} {f : Addr} {fd : FuncData} {ps ks : List Str} {sp : Sp} {E : XK} {n : Str} {p : Pos} {kws : List Keyword} {tk : TA} {g : List Value → List Value → List Value} {gV : List V → List V → List V}
    (F : FnOk X.prog X.w X.K X.mg X.base CX k f fd ps sp) (hr : Room k X.A) (hg : Gl X n) (hm : X.mg n = some (.ref f)) (hk : PySem.W.keepIn X.K (.ref f) = true) (hb : KBinds X.K fd ps ks g gV) (hx : Passes CX X E)
    (hkw : PK X kws tk) (hall : (backToKw pos (keywordEach kws X.env)).all (·.1.isSome) = true) (hks : (backToKw pos (keywordEach kws X.env)).filterMap (·.1) = ks)
    (hdb : (n == ("__debug__" : Str)) = false) (hpl : (backToKw pos (keywordEach kws X.env)).any (·.1.isNone) = false) :
    PE X (.Call (.Name n p) [] kws pos) (tCallK sp gV E tNil tk) := by
  refine ⟨fun pins s σ H Q I h => ?_⟩
  refine PySem.wpAny_Call_Name_kw (ld_glob I hg hm ?_ hdb)
  refine PySem.W.callWith_KW0 (h₀ := X.base) I.ok.mod.kin hk hall ?_ (by show (false || _) = false; rw [hpl]; rfl)
  have h : tk σ H fun zs H2 => sp (gV [] zs) H2 Q E := h
  refine thn (hkw.run pos pins s σ H _ I h) fun ws s2 ⟨zs, H2, I2, rz, q2⟩ => ⟨I2.kIn, ?_⟩
  rw [hks]
  exact run_fnk F hr hb hx I2 .nil rz q2
theorem snd_callK {kw : Nat} {ke : KwE} {fe : FnE} {p : Pos} {bs : A} {kws : List Keyword} (C : KwOk F KW X kw ke fe) (hg : Gl X fe.name) (hd : (fe.name == ("__debug__" : Str)) = false) (hs : noStars es = true) (he : es.length = ke.npos) (hla : lenA as = es.length) (hlb : lenA bs = ke.ks.length)
    (hk : kws.map (·.arg) = ke.ks.map some) (ha : PA X es (tAs F KW X.K as)) (hbs : PK X kws (tAs F KW X.K bs)) :
    PE X (.Call (.Name fe.name p) es kws pos) (tE F KW X.K (.callK ke.f kw as bs)) := by
  obtain ⟨a, fd, ps, d, g, gV, G, hr, hm, hkp, hb, hp, pm, epm, perm⟩ := C.ex
  obtain ⟨k1, k2, k3⟩ := kw_all pos X.env hk
  have key : ∀ σ H (Q : VK), tE F KW X.K (.callK ke.f kw as bs) σ H Q → tCallK (spF F X.K ke.f fe.np) gV E0 (tAs F KW X.K as) (tAs F KW X.K bs) σ H Q := fun σ H Q ⟨ρ, s, m, al, r, s', sc, e, q⟩ => by
    simp only [evE] at e
    obtain ⟨us, s1, e1, e⟩ := bind_ok e
    obtain ⟨ws, s2, e2, e⟩ := bind_ok e
    obtain ⟨xs, e3, e⟩ := bindO_ok e
    rw [epm] at e3
    refine ⟨ρ, s, m, al, us, s1, sc, e1, fun vs H1 al1 st1 t1 r1 => ⟨ρ, s1, _, al1, ws, s2, sc.step st1 t1, e2, fun zs H2 al2 st2 t2 r2 => ?_⟩⟩
    have sc2 := (sc.step st1 t1).step st2 t2
    obtain ⟨lx, sx⟩ := perm X.K H2 _ al2 us ws vs zs xs (by rw [evA_len as _ _ _ _ e1, hla, he]) (by rw [evA_len bs _ _ _ _ e2, hlb]) (r1.step st2 t1.sub) r2 e3
    refine ⟨s2, _, al2, xs, r, s', sc2.md, t2, sx, lx, e, fun v H' al' st t vr => ?_⟩
    exact q v H' al' ((st1.trans st2).trans st) (t.mm.mm) (((vr.back (st1.trans st2)).mm).mm)
  cases es with
  | nil =>
    refine PE.imp (pe_callK0 (p := p) (pos := pos) G hr hg hm hkp hb pass0 hbs k1 k2 hd k3) fun σ H Q h => ?_
    obtain ⟨ρ, s, m, al, us, s1, sc, e1, q⟩ := key σ H Q h
    have ha0 : as = .nil := by
      cases as with
      | nil => rfl
      | cons c r => cases hla
    subst ha0
    simp only [evA] at e1; cases e1
    exact q [] H al Step.refl sc.t.up .nil
  | cons e es =>
    have hs' := Bool.and_eq_true_iff.mp hs
    refine PE.imp (pe_callK (p := p) (pos := pos) G hr hg hm hkp hb pass0 ha hbs k1 k2 hd (star_of hs'.1 _) ?_) key
    rw [stars_plain pos X.env (es := e :: es) hs, k3]
    rfl
end
end Ev

end
section
set_option Elab.async false
set_option linter.all false
set_option maxRecDepth 100000
set_option maxHeartbeats 2000000
namespace Ev
open PySem L2
section
variable {X : Cx} {F : CallF} {KW : List (List Nat)} {a b c : C} {as : A} {x y z : Expr} {es : List Expr} {pos p : Pos}
theorem bi_in {b : Bi} : ∀ σ H (Q : VK), tE F KW X.K (.bi b as) σ H Q → tCB (rBi X.K b) (tAb F KW X.K as) σ H Q := by
  rintro σ H Q ⟨ρ, s, m, al, r, s', sc, e, q⟩
  simp only [evE] at e
  obtain ⟨us, s1, e1, e⟩ := bind_ok e
  obtain ⟨e2, rfl⟩ := ofO_ok e
  refine ⟨ρ, s, m, al, us, s1, sc, e1, fun vs H1 al1 st t bs => ⟨_, al1, us, r, (sc.step st t).md, bs, e2, fun v H' g vr => ?_⟩⟩
  exact q v H' al1 (st.grow g) (t.grow g) (vr.back st)
theorem stars_of : ∀ {es : List Expr} (h : noStars es = true), (backTo pos (starEach es X.env)).any (·.1) = false := fun h => stars_plain pos X.env h
theorem snd_biB {bi : Bi} {id : String} {n : Str} (hc : CallR X (.builtin id) (rBi X.K bi)) (hg : Gl X n) (hm : X.mg n = none) (hv : bootBuiltins n = some (.builtin id)) (hn : n ≠ "__name__") (hdb : (n == ("__debug__" : Str)) = false) (hne : es ≠ []) (hs : noStars es = true) (ha : PA X es (tAb F KW X.K as)) :
    PE X (.Call (.Name n p) es [] pos) (tE F KW X.K (.bi bi as)) := by
  cases es with
  | nil => exact absurd rfl hne
  | cons e es =>
    have hs' := Bool.and_eq_true_iff.mp hs
    exact PE.imp (pe_callB hc hg hm hv ha hn hdb (star_of hs'.1 _) (stars_plain _ _ hs'.2)) bi_in
theorem snd_biT {bi : Bi} {id : String} {n : Str} (hc : CallR X (.type id) (rBi X.K bi)) (hg : Gl X n) (hm : X.mg n = none) (hv : bootBuiltins n = some (.type id)) (hn : n ≠ "__name__") (hdb : (n == ("__debug__" : Str)) = false) (hne : es ≠ []) (hs : noStars es = true) (ha : PA X es (tAb F KW X.K as)) :
    PE X (.Call (.Name n p) es [] pos) (tE F KW X.K (.bi bi as)) := by
  cases es with
  | nil => exact absurd rfl hne
  | cons e es =>
    have hs' := Bool.and_eq_true_iff.mp hs
    exact PE.imp (pe_callTy hc hg hm hv ha hn hdb (star_of hs'.1 _) (stars_plain _ _ hs'.2)) bi_in

theorem BR.grow {K : PySem.W.Frag} {H H' : Hp} {m : Addr → Prop} {al : List Addr} {u : U} {v : V} (h : BR K H m al u v) (g : Grow H H') : BR K H' m al u v := by
  cases h with
  | sh h => exact .sh (h.grow g)
  | own h1 h2 h3 => exact .own (g _ _ h1) h2 (h3.grow g)
/-! ### isinstance -/
def tyOf : U → Option String
  | .non => some "NoneType" | .bl _ => some "bool" | .int _ => some "int" | .str _ => some "str" | .tup _ => some "tuple" | .lst _ => some "list"
  | _ => none
theorem SqT.tyx {K : PySem.W.Frag} {H : Hp} {a : Addr} {vs : List V} (h : SqT K H a vs) : TyX K H (.ref a) (.type "tuple") := by
  rcases h with (h | ⟨o, h⟩) | ⟨o, its, n, h1, h2, _⟩
  · exact .base (.tup h)
  · exact .fTuple h
  · exact .kTuple h1 h2
theorem SqL.tyx {K : PySem.W.Frag} {H : Hp} {a : Addr} {vs : List V} (h : SqL K H a vs) : TyX K H (.ref a) (.type "list") := by
  rcases h with (h | ⟨o, h⟩) | ⟨o, its, n, h1, h2, _⟩
  · exact .base (.lst h)
  · exact .base (.frz h)
  · exact .kList h1 h2
theorem Sh.tyx {K : PySem.W.Frag} {H : Hp} {m : Addr → Prop} {al : List Addr} {u : U} {v : V} (h : Sh K H m al u v) {T : String} (e : tyOf u = some T) : TyX K H v (.type T) := by
  cases h with
  | non => cases e; exact .base .non
  | bl b => cases e; exact .base (.bl b)
  | int i => cases e; exact .base (.int i)
  | str x => cases e; exact .base (.str x)
  | tup h1 h2 h3 => cases e; exact SqT.tyx (sqt_of h1)
  | tupK h1 h2 h4 h3 => cases e; exact SqT.tyx (sqt_k h1 h2 h4)
  | lst h1 h2 h3 => cases e; exact SqL.tyx (SqL.of h1)
  | lstF h1 h2 h3 => cases e; exact .base (.frz h1)
  | lstK h1 h2 h4 h3 => cases e; exact .kList h1 rfl
  | ref h1 => cases e
  | dct h0 h1 h2 h3 => cases e
theorem BR.tyx {K : PySem.W.Frag} {H : Hp} {m : Addr → Prop} {al : List Addr} {u : U} {v : V} (h : BR K H m al u v) {T : String} (e : tyOf u = some T) : TyX K H v (.type T) := by
  cases h with
  | sh h => exact h.tyx e
  | own h1 h2 h3 => cases e; exact SqL.tyx (SqL.of h1)
def tyS : Ty → String
  | .int => "int" | .bool => "bool" | .tuple => "tuple" | .list => "list" | .str => "str"
theorem isTy_kit {K : PySem.W.Frag} (t : Ty) (u : U) {T : String} (e : tyOf u = some T) : PySem.W.kitOne K (.type T) (.type (tyS t)) = some (isTy t u) := by
  refine kit_ty ?_
  cases u <;> simp only [tyOf] at e <;> cases e <;> cases t <;> first | (show _ = some true; decide +kernel) | (show _ = some false; decide +kernel)
theorem plain_ty {u : U} (h : isPlain u = true) : ∃ T, tyOf u = some T := by
  cases u <;> first | exact ⟨_, rfl⟩ | cases h
theorem tys_kit {K : PySem.W.Frag} (u : U) {T : String} (e : tyOf u = some T) : ∀ ts : List Ty, PySem.W.kitAny K (.type T) (ts.map fun t => Value.type (tyS t)) = some (ts.any fun t => isTy t u)
  | [] => rfl
  | t :: ts => kitAny_cons (isTy_kit t u e) (fun h => by rw [List.any_cons, h, Bool.false_or]; exact tys_kit u e ts) fun h => by rw [List.any_cons, h]; rfl
theorem tys_pair : ∀ ts : List Ty, PySem.Paired ClsV (ts.map fun t => V.ty (tyS t)) (ts.map fun t => Value.type (tyS t))
  | [] => .nil
  | t :: ts => .cons (.ty _) (tys_pair ts)

/-- a class by its name -/
theorem ty_name (t : Ty) : bootBuiltins (tyName t) = some (.type (tyS t)) ∧ tyName t ≠ "__name__" ∧ (tyName t == ("__debug__" : Str)) = false ∧ tyName t ∈ bltNames := by
  cases t <;> refine ⟨by decide +kernel, by decide +kernel, by decide +kernel, by decide +kernel⟩
theorem pe_ty {t : Ty} (hg : Gl X (tyName t)) (hm : X.mg (tyName t) = none) : PE X (.Name (tyName t) p) (tC (.ty (tyS t))) :=
  pe_bltn hg hm (ty_name t).1 rfl (ty_name t).2.1 (ty_name t).2.2.1
theorem isi_ok {ts : List Ty} {ρ : Env} {s s' : Sto} {r : Rv} (e : evE F KW (.bi (.isinst ts) (.cons a .nil)) ρ s = .ok r s') : ∃ ra T, evE F KW a ρ s = .ok ra s' ∧ tyOf ra.u = some T ∧ r = ⟨.bl (ts.any fun t => isTy t ra.u), false⟩ := by
  simp only [evE, evA] at e
  obtain ⟨us, s1, e1, e⟩ := bind_ok e
  obtain ⟨ra, s2, e2, e1⟩ := bind_ok e1
  obtain ⟨xs, s3, e3, e1⟩ := bind_ok e1
  cases e3
  cases e1
  obtain ⟨e, rfl⟩ := ofO_ok e
  simp only [biV] at e
  cases c : isPlain ra.u with
  | false => rw [c] at e; cases e
  | true =>
    rw [c] at e
    cases e
    obtain ⟨T, hT⟩ := plain_ty c
    exact ⟨ra, T, e2, hT, rfl⟩
theorem snd_isi1 {t : Ty} {p1 p2 : Pos} (hg : Gl X "isinstance") (hm : X.mg "isinstance" = none) (hs : noStar x = true) (ha : PE X x (tB F KW X.K a)) (hg2 : Gl X (tyName t)) (hm2 : X.mg (tyName t) = none) :
    PE X (.Call (.Name "isinstance" p1) [x, .Name (tyName t) p2] [] pos) (tE F KW X.K (.bi (.isinst [t]) (.cons a .nil))) :=
  PE.imp (pe_callB call_isi hg hm (by decide +kernel) (pa_cons ha (pa_cons (pe_ty hg2 hm2) pa_nil) (star_of hs _)) (by decide +kernel) (by decide +kernel) (star_of hs _)) fun σ H Q ⟨ρ, s, m, al, r, s', sc, e, q⟩ => by
    obtain ⟨ra, T, e1, hT, er⟩ := isi_ok e
    refine ⟨ρ, s, m, al, ra, s', sc, e1, fun v H1 al1 st t1 b => ⟨v, _, _, _, _, rfl, .ty _, b.tyx hT, isTy_kit t ra.u hT, ?_⟩⟩
    have q' := q (.bl (isTy t ra.u)) H1 al1 st t1
    rw [er] at q'
    rw [List.any_cons, List.any_nil, Bool.or_false] at q'
    exact q' ⟨.bl _, fun z => nomatch z⟩
def tTys (ts : List Ty) : TA := fun _ H Q => Q (ts.map fun t => V.ty (tyS t)) H
theorem pa_tys (k : Ck) (hsc : X.env.scope = k.sc) (hb : ∀ n ∈ bltNames, X.mg n = none) : ∀ (ts : List Ty) (ys : List Expr), tysOk k ts ys = true → PA X ys (tTys ts)
  | [], [], _ => pa_nil
  | [], _ :: _, h => nomatch h
  | _ :: _, [], h => nomatch h
  | t :: ts, y :: ys, h => by
    have h := Bool.and_eq_true_iff.mp h
    have h1 := h.1
    obtain ⟨n, p, rfl⟩ : ∃ n p, y = .Name n p := by cases y <;> first | exact ⟨_, _, rfl⟩ | (cases h1; done)
    unfold isG gName? at h1
    simp only at h1
    by_cases c : (glB k.sc n && plainN n) = true
    · rw [if_pos c] at h1
      simp only [decide_eq_true_eq] at h1
      subst h1
      have hg : Gl X (tyName t) := by
        show X.env.scope.names.lookup (tyName t) = _
        rw [hsc]
        have c1 := (Bool.and_eq_true_iff.mp c).1
        unfold glB at c1
        cases q : k.sc.names.lookup (tyName t) with
        | none => rw [q] at c1; cases c1
        | some w => rw [q] at c1; cases w <;> first | rfl | cases c1
      exact PA.imp (pa_cons (pe_ty hg (hb _ (ty_name t).2.2.2)) (pa_tys k hsc hb ts ys h.2)) fun σ H Q h => h
    · rw [if_neg c] at h1; cases h1
theorem snd_isiT {ts : List Ty} {ys : List Expr} {n : Nat} {p1 p2 : Pos} (hl : ys.length ≤ 1000) (hg : Gl X "isinstance") (hm : X.mg "isinstance" = none) (hs : noStar x = true) (ha : PE X x (tB F KW X.K a)) (hy : PA X ys (tTys ts)) (hl : ts.length ≤ 1000) :
    PE X (.Call (.Name "isinstance" p1) [x, .Tuple ys n p2] [] pos) (tE F KW X.K (.bi (.isinst ts) (.cons a .nil))) :=
  PE.imp (pe_callB call_isiT hg hm (by decide +kernel) (pa_cons ha (pa_cons (pe_tup hy) pa_nil) (star_of hs _)) (by decide +kernel) (by decide +kernel) (star_of hs _)) fun σ H Q ⟨ρ, s, m, al, r, s', sc, e, q⟩ => by
    obtain ⟨ra, T, e1, hT, er⟩ := isi_ok e
    refine ⟨ρ, s, m, al, ra, s', sc, e1, fun v H1 al1 st t1 b => ⟨by rw [List.length_map]; exact small_line hl, fun tp htp => ?_⟩⟩
    refine ⟨v, tp, _, _, _, _, rfl, upd_same, tys_pair ts, (b.grow (Grow.new htp)).tyx hT, tys_kit ra.u hT ts, ?_⟩
    have q' := q (.bl (ts.any fun t => isTy t ra.u)) (upd H1 tp (.tup (ts.map fun t => V.ty (tyS t)))) al1 (st.grow (Grow.new htp)) (t1.grow (Grow.new htp))
    rw [er] at q'
    exact q' ⟨.bl _, fun z => nomatch z⟩

/-! ### list(range(n)) -/
theorem snd_listRange {p1 p2 pos2 : Pos} (hc : X.calm = true) (hg : Gl X "list") (hm : X.mg "list" = none) (hg2 : Gl X "range") (hm2 : X.mg "range" = none) (hs : noStar x = true) (ha : PE X x (tB F KW X.K a)) :
    PE X (.Call (.Name "list" p1) [.Call (.Name "range" p2) [x] [] pos2] [] pos) (tE F KW X.K (.bi .listRange (.cons a .nil))) :=
  PE.imp (pe_listRg hc hg hm (prg_1 hg2 hm2 ha (star_of hs _))) fun σ H Q ⟨ρ, s, m, al, r, s', sc, e, q⟩ => by
    simp only [evE, evA] at e
    obtain ⟨us, s1, e1, e⟩ := bind_ok e
    obtain ⟨ra, s2, e2, e1⟩ := bind_ok e1
    obtain ⟨xs, s3, e3, e1⟩ := bind_ok e1
    cases e3
    cases e1
    obtain ⟨e, rfl⟩ := ofO_ok e
    obtain ⟨u, f⟩ := ra
    obtain ⟨n, hn⟩ : ∃ n, u = .int n := by
      cases u <;> simp only [biV] at e <;> first | exact ⟨_, rfl⟩ | (cases e; done)
    subst hn
    simp only [biV] at e
    by_cases c : (decide (n ≤ 1000000) && decide (-1000000 ≤ n)) = true
    · rw [if_pos c] at e
      cases e
      have c := Bool.and_eq_true_iff.mp c
      have c1 : n ≤ 1000000 := of_decide_eq_true c.1
      have c2 : -1000000 ≤ n := of_decide_eq_true c.2
      refine ⟨ρ, s, m, al, _, _, sc, e2, fun v H1 al1 st t b => ?_⟩
      cases b.int
      refine ⟨n, rfl, ⟨by omega, by omega, by omega, by omega, by omega⟩, fun p hp => ?_⟩
      refine q _ _ al1 (st.grow (Grow.new hp)) (t.grow (Grow.new hp)) ?_
      have hV : Shs X.K H1 (mU m al1) al1 ((List.range n.toNat).map fun k : Nat => U.int k) (rgV 0 n) := by
        unfold rgV
        rw [Int.sub_zero]
        generalize List.range n.toNat = L
        induction L with
        | nil => exact .nil
        | cons k L ih =>
          refine .cons ?_ ih
          show Sh _ _ _ _ (U.int k) (V.int (0 + (k : Int)))
          rw [Int.zero_add]
          exact .int _
      exact VR.newL (sc.step st t).md st hV hp
    · rw [if_neg c] at e; cases e
end
end Ev

end
section
set_option Elab.async false
set_option linter.all false
set_option maxRecDepth 100000
set_option maxHeartbeats 2000000
namespace Ev
open PySem L2
/-! ### sorted -/
theorem insI_perm (x : Int) : ∀ l : List Int, (insI x l).Perm (x :: l)
  | [] => .refl _
  | y :: r => by
    unfold insI
    by_cases c : x ≤ y
    · rw [if_pos c]
    · rw [if_neg c]
      exact ((insI_perm x r).cons y).trans (.swap x y r)
theorem sortI_perm' : ∀ l : List Int, (sortI l).Perm l
  | [] => .refl _
  | x :: r => (insI_perm x _).trans ((sortI_perm' r).cons x)
theorem insI_up (x : Int) : ∀ l : List Int, l.Pairwise (· ≤ ·) → (insI x l).Pairwise (· ≤ ·)
  | [], _ => by simp [insI]
  | y :: r, h => by
    unfold insI
    have h1 := List.pairwise_cons.mp h
    by_cases c : x ≤ y
    · rw [if_pos c]
      refine List.pairwise_cons.mpr ⟨fun z hz => ?_, h⟩
      rcases List.mem_cons.mp hz with e | hz
      · rw [e]; exact c
      · exact Int.le_trans c (h1.1 z hz)
    · rw [if_neg c]
      refine List.pairwise_cons.mpr ⟨fun z hz => ?_, insI_up x r h1.2⟩
      rcases List.mem_cons.mp ((insI_perm x r).mem_iff.mp hz) with e | hz
      · rw [e]; omega
      · exact h1.1 z hz
theorem sortI_up : ∀ l : List Int, (sortI l).Pairwise (· ≤ ·)
  | [] => .nil
  | x :: r => insI_up x _ (sortI_up r)
theorem sortI_of {a l : List Int} (p : a.Perm l) (u : a.Pairwise (· ≤ ·)) : a = sortI l :=
  List.Perm.eq_of_pairwise (fun _ _ _ _ h1 h2 => Int.le_antisymm h1 h2) u (sortI_up l) (p.trans (sortI_perm' l).symm)
theorem insS_mem (x : Int) (z : Int) : ∀ l : List Int, z ∈ insS x l ↔ z = x ∨ z ∈ l
  | [] => by simp [insS]
  | y :: r => by
    unfold insS
    by_cases c : x < y
    · rw [if_pos c, List.mem_cons]
    · rw [if_neg c]
      by_cases d : (x == y) = true
      · rw [if_pos d]
        have d := eq_of_beq d
        subst d
        rw [List.mem_cons]
        constructor
        · exact .inr
        · rintro (h | h)
          · exact .inl h
          · exact h
      · rw [if_neg d, List.mem_cons, insS_mem x z r, List.mem_cons]
        constructor
        · rintro (h | h | h)
          · exact .inr (.inl h)
          · exact .inl h
          · exact .inr (.inr h)
        · rintro (h | h | h)
          · exact .inr (.inl h)
          · exact .inl h
          · exact .inr (.inr h)
theorem insS_up (x : Int) : ∀ l : List Int, l.Pairwise (· < ·) → (insS x l).Pairwise (· < ·)
  | [], _ => by simp [insS]
  | y :: r, h => by
    unfold insS
    have h1 := List.pairwise_cons.mp h
    by_cases c : x < y
    · rw [if_pos c]
      refine List.pairwise_cons.mpr ⟨fun z hz => ?_, h⟩
      rcases List.mem_cons.mp hz with e | hz
      · rw [e]; exact c
      · exact Int.lt_trans c (h1.1 z hz)
    · rw [if_neg c]
      by_cases d : (x == y) = true
      · rw [if_pos d]; exact h
      · rw [if_neg d]
        refine List.pairwise_cons.mpr ⟨fun z hz => ?_, insS_up x r h1.2⟩
        rcases (insS_mem x z r).mp hz with e | hz
        · rw [e]
          have : x ≠ y := fun e => d (by rw [e]; exact beq_self_eq_true y)
          omega
        · exact h1.1 z hz
theorem sortS_mem (z : Int) : ∀ l : List Int, z ∈ sortS l ↔ z ∈ l
  | [] => by simp [sortS]
  | x :: r => by
    show z ∈ insS x (sortS r) ↔ _
    rw [insS_mem, sortS_mem z r, List.mem_cons]
theorem sortS_up : ∀ l : List Int, (sortS l).Pairwise (· < ·)
  | [] => .nil
  | x :: r => insS_up x _ (sortS_up r)
theorem lt_mem_eq {a b : List Int} (ha : a.Pairwise (· < ·)) (hb : b.Pairwise (· < ·)) (h : ∀ z, z ∈ a ↔ z ∈ b) : a = b := by
  have na : a.Nodup := ha.imp fun {x y} h e => by omega
  have nb : b.Nodup := hb.imp fun {x y} h e => by omega
  refine List.Perm.eq_of_pairwise (le := (· < ·)) (fun x y _ _ h1 h2 => by omega) ha hb ?_
  exact (List.perm_ext_iff_of_nodup na nb).mpr h
section
variable {X : Cx}
open PySem.Spec PyProof.Rows
/-- the items of a tuple, collected -/
theorem collect_tup {P : Program} {w : World} {A : Around} {E : Value → Shared → Prop} {s : Shared} {l : Addr} {vs : List Value} {Q : List Value → Shared → Prop} (hl : s.heap.IsTuple l vs.toArray)
    (h : Q vs { s with heap := (s.heap.push (seqObj "list" #[] 0)).update s.heap.objs.size (Obj.mapSeq (· ++ vs.toArray)) }) (hsz : vs.length ≤ sizeLine) :
    wpAny (model P w) A (collect (.ref l)) Q E s := by
  obtain ⟨o, ho, hc, n, hd⟩ := id hl
  unfold collect
  refine wpAny_bind (wpAny_runValue (codeAny_builtin entry_proto_collect' ?_))
  show wpAny _ _ (do again (.builtin "list.__iadd__" ⟨[← newList [], .ref l], []⟩)) _ _ s
  refine wpAny_bind (wpAny_newList (wpAny_pure ⟨Code.quiet_builtin _ (by decide +kernel), codeAny_builtin entry_list_iadd' ?_⟩))
  show wpAny _ _ (Builtin.List.listExtendWith (.ref s.heap.objs.size) (.ref l) (.ref s.heap.objs.size)) _ _ { s with heap := s.heap.push (seqObj "list" #[] 0) }
  unfold Builtin.List.listExtendWith
  have ho' : (s.heap.push (seqObj "list" #[] 0)).get? l = some o := Heap.get?_push_of_some _ ho
  refine wpAny_bind (wpAny_typeOf (T := "tuple") ⟨o, ho', hc⟩ ?_)
  have ht : (Value.type "tuple" == Value.type "tuple") = true := by rfl
  rw [if_pos (by rw [ht]; simp)]
  refine wpAny_bind (listItems_at ho' hd ?_)
  refine wpAny_bind (listItems_at (xs := #[]) (n := 0) (Heap.get?_push_size _ rfl) rfl ?_)
  rw [if_neg (by simp)]
  refine wpAny_bind (listUpdate_at (xs := #[]) (n := 0) (Heap.get?_push_size _ rfl) rfl ?_ (Nat.zero_le _) (by show (#[] ++ vs.toArray).size ≤ sizeLine + 1; simp only [Array.size_append, List.size_toArray, List.length_nil]; omega))
  refine wpAny_pure ?_
  show wpAny (model P w) A (do
      let o ← load s.heap.objs.size
      match o.data with
      | .seq xs _ => pure xs.toList
      | _ => unsupported "internal:collect") Q E { s with heap := (s.heap.push (seqObj "list" #[] 0)).update s.heap.objs.size (Obj.mapSeq (· ++ vs.toArray)) }
  refine wpAny_bind (wpAny_load (get?_update_seq (Heap.get?_push_size _ rfl) _) ?_)
  show wpAny _ _ (pure ((#[] : Array Value) ++ vs.toArray).toList) Q E _
  rw [show ((#[] : Array Value) ++ vs.toArray).toList = vs by simp]
  exact wpAny_pure h
/-- sorted(t), t a tuple -/
theorem sorted_tup {P : Program} {w : World} {A : Around} {E : Value → Shared → Prop} {s : Shared} {l : Addr} {vs : List Value} {ltv : Value → Value → Bool} {Q : Value → Shared → Prop} (O : SrtO.Swo ltv) (hl : s.heap.IsTuple l vs.toArray) (hz : vs.length ≤ sizeLine)
    (hS : 2 ≤ vs.length → ∀ (h₁ : Heap) (a : Addr), h₁.get? a = some (seqObj "list" vs.toArray 0) → (∀ b o, s.heap.get? b = some o → b ≠ a ∧ h₁.get? b = some o) → SrtO.SortableO P w A.in1.in1 { s with heap := h₁ } a vs ltv)
    (h : ∀ out : List Value, SrtO.Srtd ltv out → SrtO.Stb ltv out vs → Q (.ref (s.heap.objs.size + 1)) { s with heap := sortedAll s.heap vs out.toArray }) :
    wpAny (model P w) A (call (.builtin "sorted") [.ref l]) Q E s := by
  refine Calls.call_function_entry kind_sorted plain_sorted entry_sorted (args_sorted1 _) ?_
  unfold Builtin.«sorted»
  refine wpAny_bind (m := checkCount "sorted" 1 1 _) (wpAny_pure ?_)
  refine wpAny_bind (collect_tup hl ?_ hz)
  refine wpAny_bind (wpAny_newList ?_ hz)
  have hsz : ((s.heap.push (seqObj "list" #[] 0)).update s.heap.objs.size (Obj.mapSeq (· ++ vs.toArray))).objs.size = s.heap.objs.size + 1 := by
    rw [Heap.size_update, size_push']
  have hoL : (((s.heap.push (seqObj "list" #[] 0)).update s.heap.objs.size (Obj.mapSeq (· ++ vs.toArray))).push (seqObj "list" vs.toArray 0)).get? (s.heap.objs.size + 1) = some (seqObj "list" vs.toArray 0) := by
    rw [← hsz]; exact Heap.get?_push_size _ rfl
  have keep : ∀ b o, s.heap.get? b = some o → b ≠ s.heap.objs.size + 1 ∧ (((s.heap.push (seqObj "list" #[] 0)).update s.heap.objs.size (Obj.mapSeq (· ++ vs.toArray))).push (seqObj "list" vs.toArray 0)).get? b = some o := fun b o q => by
    have hlt : b < s.heap.objs.size := Heap.lt_size q
    refine ⟨Nat.ne_of_lt (Nat.lt_succ_of_lt hlt), Heap.get?_push_of_some _ ?_⟩
    rw [Heap.get?_update_ne _ _ _ _ (Nat.ne_of_lt hlt)]
    exact Heap.get?_push_of_some _ q
  show wpAny _ _ _ _ _ { s with heap := ((s.heap.push (seqObj "list" #[] 0)).update s.heap.objs.size (Obj.mapSeq (· ++ vs.toArray))).push (seqObj "list" vs.toArray 0) }
  rw [hsz]
  refine wpAny_bind (wpAny_holding (wpAny_call_entry slot_list_sort ⟨_, hoL, rfl⟩ entry_list_sort (SrtO.list_sort_ord O hoL hz (fun h2 => hS h2 _ _ hoL keep) fun out hs hb => ⟨_, rfl, ?_⟩) (args_list_sort _)))
  exact wpAny_pure ⟨_, rfl, h out hs hb⟩
/-- sorted(xs), ints in a list or a tuple -/
def rSrt (K : PySem.W.Frag) : List V → Hp → VK → Prop := fun vs H Q => ∃ (a : Addr) (ns : List Int), vs = [V.ref a] ∧ (SqL K H a (ns.map V.int) ∨ SqT K H a (ns.map V.int)) ∧
  ∀ p : Addr, H p = none → Q (.ref p) (upd H p (.lst ((Ev.sortI ns).map V.int)))
theorem cr_srt : CallR X (.builtin "sorted") (rSrt X.K) := by
  intro pins s σ H vs us Q I r h
  obtain ⟨a, ns, rfl, hs, q⟩ := h
  have fin : ∀ (its : List Value), Vals (ns.map V.int) its → (ns.map V.int).length ≤ sizeLine → ∀ out : List Value, SrtO.Srtd SrtO.ltIv out → SrtO.Stb SrtO.ltIv out its →
      EP X pins σ Q (.ref (s.heap.objs.size + 1)) { s with heap := sortedAll s.heap its out.toArray } := fun its rv hz out h1 h2 => by
    have hi := rv.ints
    obtain ⟨k1, k2, k3⟩ := SrtO.ints_out hi h1 h2
    obtain ⟨ep, he'⟩ := PyProof.Rows.sortedAll_at s.heap its out.toArray
    have hlen : ((out.map SrtO.iv).map V.int).length ≤ sizeLine := by
      rw [List.length_map, k2.length_eq]
      rw [List.length_map] at hz
      exact hz
    refine ⟨.ref _, upd H (s.heap.objs.size + 1) (.lst ((out.map SrtO.iv).map V.int)), I.laid (t' := s.toks) (fun _ _ => PyProof.Rows.sortedAll_old) (Nat.le_succ _) ⟨hlen, out, ep, vals_of_ints k1, he'⟩, rfl, ?_⟩
    rw [sortI_of k2 k3]
    exact q _ (I.hok.fresh (Nat.le_succ _))
  rw [Vals.ref1 r]
  rcases hs with hs | hs
  · obtain ⟨its, rv, hl, hz⟩ := I.list hs
    exact SrtO.sorted_ord SrtO.swo_int hl.isList (by rw [← rv.length]; exact hz) (fun h2 h₁ a' _ _ => SrtO.ints_sortable rv.ints h2) (fin its rv hz)
  · obtain ⟨its, rv, hl, hz⟩ := I.tuple hs
    exact sorted_tup SrtO.swo_int hl (by rw [← rv.length]; exact hz) (fun h2 h₁ a' _ _ => SrtO.ints_sortable rv.ints h2) (fin its rv hz)
end
end Ev

end
section
set_option Elab.async false
set_option linter.all false
set_option maxRecDepth 100000
set_option maxHeartbeats 2000000
namespace Ev
open PySem L2
/-! ### tuples in order -/
theorem lex_eq : ∀ {a b : List Int}, HT.lexLt a b = false → HT.lexLt b a = false → a = b
  | [], [], _, _ => rfl
  | [], y :: ys, h, _ => by rw [HT.lexLt_nil_cons] at h; cases h
  | x :: xs, [], _, h => by rw [HT.lexLt_nil_cons] at h; cases h
  | x :: xs, y :: ys, h1, h2 => by
    rw [HT.lexLt_cons] at h1 h2
    by_cases e : x = y
    · subst e
      rw [if_pos rfl] at h1 h2
      rw [lex_eq h1 h2]
    · rw [if_neg e] at h1
      rw [if_neg (Ne.symm e)] at h2
      have a := of_decide_eq_false h1
      have b := of_decide_eq_false h2
      omega
theorem lex_self (a : List Int) : HT.lexLt a a = false := by
  cases h : HT.lexLt a a with
  | false => rfl
  | true => have := NtL.lex_asym a a h; rw [h] at this; cases this
theorem insT_perm (x : List Int) : ∀ l : List (List Int), (insT x l).Perm (x :: l)
  | [] => .refl _
  | y :: r => by
    unfold insT
    split
    · exact ((insT_perm x r).cons y).trans (.swap x y r)
    · exact .refl _
theorem sortT_perm : ∀ l : List (List Int), (sortT l).Perm l
  | [] => .refl _
  | x :: r => (insT_perm x _).trans ((sortT_perm r).cons x)
/-- not above -/
abbrev leT (a b : List Int) : Prop := HT.lexLt b a = false
theorem leT_tr {a b c : List Int} (h1 : leT a b) (h2 : leT b c) : leT a c := NtL.lex_tr a b c h1 h2
theorem insT_up (x : List Int) : ∀ l : List (List Int), l.Pairwise leT → (insT x l).Pairwise leT
  | [], _ => by simp [insT]
  | y :: r, h => by
    have h1 := List.pairwise_cons.mp h
    unfold insT
    by_cases c : HT.lexLt y x = true
    · rw [if_pos c]
      refine List.pairwise_cons.mpr ⟨fun z hz => ?_, insT_up x r h1.2⟩
      rcases List.mem_cons.mp ((insT_perm x r).mem_iff.mp hz) with e | hz
      · rw [e]; exact NtL.lex_asym _ _ c
      · exact h1.1 z hz
    · rw [if_neg c]
      have c : HT.lexLt y x = false := by simpa using c
      refine List.pairwise_cons.mpr ⟨fun z hz => ?_, h⟩
      rcases List.mem_cons.mp hz with e | hz
      · rw [e]; exact c
      · exact leT_tr c (h1.1 z hz)
theorem sortT_up : ∀ l : List (List Int), (sortT l).Pairwise leT
  | [] => .nil
  | x :: r => insT_up x _ (sortT_up r)
theorem sortT_of {a l : List (List Int)} (p : a.Perm l) (u : a.Pairwise leT) : a = sortT l :=
  List.Perm.eq_of_pairwise (le := leT) (fun _ _ _ _ h1 h2 => lex_eq h2 h1) u (sortT_up l) (p.trans (sortT_perm l).symm)
theorem insTS_mem (x z : List Int) : ∀ l : List (List Int), z ∈ insTS x l ↔ z = x ∨ z ∈ l
  | [] => by simp [insTS]
  | y :: r => by
    unfold insTS
    split
    · rw [List.mem_cons, insTS_mem x z r, List.mem_cons]
      constructor
      · rintro (h | h | h)
        · exact .inr (.inl h)
        · exact .inl h
        · exact .inr (.inr h)
      · rintro (h | h | h)
        · exact .inr (.inl h)
        · exact .inl h
        · exact .inr (.inr h)
    · split
      · rename_i h
        have e := eq_of_beq h
        subst e
        rw [List.mem_cons]
        constructor
        · exact .inr
        · rintro (h | h)
          · exact .inl h
          · exact h
      · rw [List.mem_cons]
abbrev ltT (a b : List Int) : Prop := HT.lexLt a b = true
theorem ltT_tr {a b c : List Int} (h1 : ltT a b) (h2 : ltT b c) : ltT a c := by
  cases h : HT.lexLt a c with
  | true => exact h
  | false =>
    have h3 : leT c a := h
    have h4 : leT a b := NtL.lex_asym _ _ h1
    have h5 : HT.lexLt b c = false := leT_tr h3 h4
    rw [h2] at h5; cases h5
theorem insTS_up (x : List Int) : ∀ l : List (List Int), l.Pairwise ltT → (insTS x l).Pairwise ltT
  | [], _ => by simp [insTS]
  | y :: r, h => by
    have h1 := List.pairwise_cons.mp h
    unfold insTS
    by_cases c : HT.lexLt y x = true
    · rw [if_pos c]
      refine List.pairwise_cons.mpr ⟨fun z hz => ?_, insTS_up x r h1.2⟩
      rcases (insTS_mem x z r).mp hz with e | hz
      · rw [e]; exact c
      · exact h1.1 z hz
    · rw [if_neg c]
      by_cases d : (x == y) = true
      · rw [if_pos d]; exact h
      · rw [if_neg d]
        have c : HT.lexLt y x = false := by simpa using c
        have hxy : ltT x y := by
          cases q : HT.lexLt x y with
          | true => exact q
          | false => exact absurd (beq_iff_eq.mpr (lex_eq q c)) d
        refine List.pairwise_cons.mpr ⟨fun z hz => ?_, h⟩
        rcases List.mem_cons.mp hz with e | hz
        · rw [e]; exact hxy
        · exact ltT_tr hxy (h1.1 z hz)
theorem sortTS_mem (z : List Int) : ∀ l : List (List Int), z ∈ sortTS l ↔ z ∈ l
  | [] => by simp [sortTS]
  | x :: r => by
    show z ∈ insTS x (sortTS r) ↔ _
    rw [insTS_mem, sortTS_mem z r, List.mem_cons]
theorem sortTS_up : ∀ l : List (List Int), (sortTS l).Pairwise ltT
  | [] => .nil
  | x :: r => insTS_up x _ (sortTS_up r)
theorem ltT_mem_eq {a b : List (List Int)} (ha : a.Pairwise ltT) (hb : b.Pairwise ltT) (h : ∀ z, z ∈ a ↔ z ∈ b) : a = b := by
  have ne : ∀ {x y : List Int}, ltT x y → x ≠ y := fun {x y} h e => by subst e; rw [ltT, lex_self] at h; cases h
  have na : a.Nodup := ha.imp ne
  have nb : b.Nodup := hb.imp ne
  refine List.Perm.eq_of_pairwise (le := ltT) (fun x y _ _ h1 h2 => absurd (NtL.lex_asym _ _ h1) (by rw [h2]; simp)) ha hb ?_
  exact (List.perm_ext_iff_of_nodup na nb).mpr h
/-- order by code, of tuples of one length -/
theorem code_lex {B : Int} : ∀ {a b : List Int}, a.length = b.length → TS.Bd B a → TS.Bd B b → (TS.code B a < TS.code B b ↔ HT.lexLt a b = true)
  | [], [], _, _, _ => by rw [HT.lexLt_nil_nil]; simp
  | [], _ :: _, h, _, _ => by simp at h
  | _ :: _, [], h, _, _ => by simp at h
  | x :: xs, y :: ys, h, h1, h2 => by
    have h' : xs.length = ys.length := by simpa using h
    rw [HT.lexLt_cons]
    by_cases e : x = y
    · subst e
      rw [if_pos rfl, TS.code_same h']
      exact code_lex h' h1.tail h2.tail
    · rw [if_neg e, decide_eq_true_eq]
      constructor
      · intro z
        rcases Int.lt_trichotomy x y with q | q | q
        · exact q
        · exact absurd q e
        · have := TS.code_lt h'.symm h2.tail h1.tail q
          omega
      · exact fun z => TS.code_lt h' h1.tail h2.tail z
section
open PySem.Spec PyProof.Rows
variable {prog : Program} {w : World} {A : Around} {s : Shared} {Q : Bool → Shared → Prop}
theorem lexk {b c : Bool} {xs ys : List Value} {ns ms : List Int} (i : Nat) (hx : IntsAre xs ns) (hy : IntsAre ys ms) (hc : ∀ (l1 l2 : Nat), ns.length + l2 = ms.length + l1 → c = decide (l1 < l2)) (h : Q (HT.lexLt ns ms) s) : PySem.W.KatLex prog w A b c Q (xs.zip ys) i s := by
  induction hx generalizing ys ms i with
  | nil =>
    cases hy with
    | nil =>
      rw [HT.lexLt_nil_nil] at h
      have e : c = false := by rw [hc 0 0 rfl]; rfl
      rw [e]
      exact PySem.W.kat_nil h
    | @cons q u ys ms hy =>
      rw [HT.lexLt_nil_cons] at h
      have e : c = true := by
        rw [hc 0 (ms.length + 1) (by simp)]
        exact decide_eq_true (by omega)
      rw [e]
      show PySem.W.KatLex prog w A b true Q [] i s
      exact PySem.W.kat_nil h
  | @cons p t xs ns hx ih =>
    cases hy with
    | nil =>
      rw [HT.lexLt_cons_nil] at h
      have e : c = false := by
        rw [hc (ns.length + 1) 0 (by simp)]
        exact decide_eq_false (by omega)
      rw [e]
      show PySem.W.KatLex prog w A b false Q [] i s
      exact PySem.W.kat_nil h
    | @cons q u ys ms hy =>
      show PySem.W.KatLex prog w A b c Q ((Value.int p t, Value.int q u) :: xs.zip ys) i s
      rw [HT.lexLt_cons] at h
      refine PySem.W.kat_cons (wpAny_eqBool_int ?_)
      by_cases e : p = q
      · subst e
        rw [if_pos rfl] at h
        rw [beq_self_eq_true]
        refine PySem.W.kat_yes ?_
        exact ih (i + 1) hy (fun l1 l2 hl => hc l1 l2 (by simp only [List.length_cons]; omega)) h
      · rw [if_neg e] at h
        rw [show (p == q) = false from beq_eq_false_iff_ne.mpr e]
        exact PySem.W.kat_no (TS.oneLt_ints _ h)
theorem firsts1 {h : Heap} : ∀ vs : List Value, (∀ v ∈ vs, ∃ ns, TS.TupInts h v ns ∧ ns ≠ []) → ∃ fs, PySem.W.KatTups h vs fs ∧ fs.length = vs.length ∧ ∀ f, f ∈ fs → ∃ n t, f = Value.int n t
  | [], _ => ⟨[], PySem.W.KatTups.nil, rfl, fun f hf => by simp at hf⟩
  | v :: vs, x => by
    obtain ⟨fs, k, hl, hi⟩ := firsts1 vs fun u hu => x u (List.mem_cons_of_mem _ hu)
    obtain ⟨ns, ⟨a, xs, rfl, ⟨o, ho, hc, n, hdt⟩, i⟩, hn⟩ := x v (List.mem_cons_self ..)
    obtain ⟨y, ys, e⟩ : ∃ y ys, xs.toList = y :: ys := by
      cases q : xs.toList with
      | nil =>
        rw [q] at i
        have l := i.length
        rw [List.length_nil] at l
        exact absurd (List.eq_nil_of_length_eq_zero l.symm) hn
      | cons y ys => exact ⟨y, ys, rfl⟩
    obtain ⟨m, t, hy⟩ := i.all y (by rw [e]; exact List.mem_cons_self ..)
    refine ⟨y :: fs, PySem.W.KatTups.cons ho hc hdt ?_ k, by simp [hl], ?_⟩
    · have z := congrArg (fun l : List Value => l[0]?) e
      simpa using z
    · intro f hf
      rcases List.mem_cons.mp hf with rfl | hf
      · exact ⟨m, t, hy⟩
      · exact hi f hf
theorem tup_cmp {vs : List Value} {k : Value → List Int} {b : Bool} (hp : ∀ v ∈ vs, TS.TupInts s.heap v (k v)) : SrtO.Cmp prog w A s (tuples' b) (fun p => p.1 ∈ vs) (SrtO.lt2 fun v u => HT.lexLt (k v) (k u)) := by
  intro p q hm hm'
  have h1 := hp _ hm
  have h2 := hp _ hm'
  show wpAny (model prog w) A (keyLt' (tuples' b) p.1 q.1) (fun r s' => s' = s ∧ r = HT.lexLt (k p.1) (k q.1)) (fun _ _ => False) s
  obtain ⟨a, xs, e1, ⟨o, ho, hc, n, hdt⟩, i⟩ := h1
  obtain ⟨a', ys, e2, ⟨o', ho', hc', n', hdt'⟩, i'⟩ := h2
  rw [e1, e2] at *
  refine PySem.W.kat_lt ho hdt ho' hdt' ?_
  have l1 := i.length
  have l2 := i'.length
  rw [Array.length_toList] at l1 l2
  exact lexk 0 i i' (fun m1 m2 hm => decide_eq_decide.mpr (by omega)) ⟨rfl, rfl⟩
theorem tup_sortable {a : Addr} {vs : List Value} {k : Value → List Int} (h0 : 0 < vs.length) (hp : ∀ v ∈ vs, TS.TupInts s.heap v (k v) ∧ k v ≠ []) (ha : ∀ o, s.heap.get? a = some o → o.cls ≠ .type "tuple") : SrtO.SortableO prog w A s a vs fun v u => HT.lexLt (k v) (k u) := by
  intro h' keep
  have hp' : ∀ v ∈ vs, TS.TupInts h' v (k v) := fun v hm => (hp v hm).1.keeps fun b o e c => keep b o (fun z => by subst z; exact ha o e c) e
  obtain ⟨fs, h1, h2, h3⟩ := firsts1 vs fun v hm => ⟨_, hp' v hm, (hp v hm).2⟩
  refine ⟨tuples' true, fun Q E hq => ?_, tup_cmp (s := { s with heap := h' }) hp'⟩
  refine PySem.W.kat_kind (T := .type "int") h1 (by omega) (fun f hm => ?_) (by rfl) ?_
  · obtain ⟨x, t, rfl⟩ := h3 f hm
    exact PySem.W.Looks.now
  · have e : (Value.type "int" != Value.type "tuple") = true := by first | decide +kernel | rfl | decide
    rw [e]
    exact hq
end
section
variable {X : Cx}
open PySem.Spec PyProof.Rows
/-- sorted(xs), tuples of ints, none empty, in a list or a tuple -/
def rSrtT (K : PySem.W.Frag) : List V → Hp → VK → Prop := fun vs H Q => ∃ (a : Addr) (xs : List V), vs = [V.ref a] ∧ (SqL K H a xs ∨ SqT K H a xs) ∧ (∀ x ∈ xs, ∃ ns, TupI K H x ns ∧ ns ≠ []) ∧
  ∀ (ys : List V) (p : Addr), ys.Perm xs → ys.Pairwise (fun x y => ∀ n m, TupI K H x n → TupI K H y m → leT n m) → H p = none → Q (.ref p) (upd H p (.lst ys))
theorem cr_srtT : CallR X (.builtin "sorted") (rSrtT X.K) := by
  intro pins s σ H vs us Q I r h
  obtain ⟨a, xs, rfl, hs, hx, q⟩ := h
  have ref : ∀ x ∈ xs, ∃ a, x = V.ref a := fun x m => by
    obtain ⟨ns, ⟨t, e, _⟩, _⟩ := hx x m
    exact ⟨t, e⟩
  have fin : ∀ (its : List Value), Vals xs its → xs.length ≤ sizeLine → ∀ out : List Value, SrtO.Srtd (fun v u => HT.lexLt (TS.intsOf s.heap v) (TS.intsOf s.heap u)) out → out.Perm its →
      EP X pins σ Q (.ref (s.heap.objs.size + 1)) { s with heap := sortedAll s.heap its out.toArray } := fun its rv hz out h1 h2 => by
    obtain ⟨e1, e2⟩ := bkV_refs rv ref
    obtain ⟨ep, he'⟩ := PyProof.Rows.sortedAll_at s.heap its out.toArray
    have h3 : ∀ u ∈ out, ∃ a, u = Value.ref a := fun u hu => e2 u (h2.mem_iff.mp hu)
    have hp : (out.map bkV).Perm xs := by
      rw [e1]
      exact h2.map bkV
    have hlen : (out.map bkV).length ≤ sizeLine := by
      rw [hp.length_eq]
      exact hz
    refine ⟨.ref _, upd H (s.heap.objs.size + 1) (.lst (out.map bkV)), I.laid (t' := s.toks) (fun _ _ => PyProof.Rows.sortedAll_old) (Nat.le_succ _) ⟨hlen, out, ep, bkV_vals h3, he'⟩, rfl, q _ _ hp ?_ (I.hok.fresh (Nat.le_succ _))⟩
    rw [List.pairwise_map]
    refine List.Pairwise.imp (fun {u v} huv n m hn hm => ?_) h1
    obtain ⟨t, et, ht⟩ := hn
    obtain ⟨t', et', ht'⟩ := hm
    have eu := bkV_ref et
    have ev := bkV_ref et'
    have i1 : TS.intsOf s.heap u = n := by
      rw [eu]
      exact (tupI_raw I ht).ints
    have i2 : TS.intsOf s.heap v = m := by
      rw [ev]
      exact (tupI_raw I ht').ints
    show HT.lexLt m n = false
    rw [← i1, ← i2]
    exact huv
  have tup : ∀ (its : List Value), Vals xs its → ∀ v ∈ its, TS.TupInts s.heap v (TS.intsOf s.heap v) ∧ TS.intsOf s.heap v ≠ [] := fun its rv v hv => by
    obtain ⟨e1, e2⟩ := bkV_refs rv ref
    obtain ⟨t, rfl⟩ := e2 v hv
    have hm : V.ref t ∈ xs := by
      rw [e1]
      exact List.mem_map.mpr ⟨_, hv, rfl⟩
    obtain ⟨ns, ⟨t', e, ht⟩, hn⟩ := hx _ hm
    cases e
    have hT := tupI_raw I ht
    rw [hT.ints]
    exact ⟨hT, hn⟩
  have srt : ∀ (its : List Value), Vals xs its → 2 ≤ its.length → ∀ (h₁ : Heap) (a : Addr), h₁.get? a = some (seqObj "list" its.toArray 0) → (∀ b o, s.heap.get? b = some o → b ≠ a ∧ h₁.get? b = some o) → ∀ A : Around, SrtO.SortableO X.prog X.w A { s with heap := h₁ } a its (fun v u => HT.lexLt (TS.intsOf s.heap v) (TS.intsOf s.heap u)) := fun its rv h2 h₁ a ha kk A => by
    refine tup_sortable (s := { s with heap := h₁ }) (by omega) (fun v hm => ⟨(tup its rv v hm).1.keeps fun b o e _ => (kk b o e).2, (tup its rv v hm).2⟩) fun o e => ?_
    have e' : some o = some (seqObj "list" its.toArray 0) := e.symm.trans ha
    cases e'
    intro c
    exact absurd (Value.type.inj c) (by decide)
  rw [Vals.ref1 r]
  rcases hs with hs | hs
  · obtain ⟨its, rv, hl, hz⟩ := I.list hs
    exact SrtO.sorted_ord (NtL.swo_lexL _) hl.isList (by rw [← rv.length]; exact hz) (fun h2 h₁ a' ha kk => srt its rv h2 h₁ a' ha kk _) fun out h1 h2 => fin its rv hz out h1 h2.1
  · obtain ⟨its, rv, hl, hz⟩ := I.tuple hs
    exact sorted_tup (NtL.swo_lexL _) hl (by rw [← rv.length]; exact hz) (fun h2 h₁ a' ha kk => srt its rv h2 h₁ a' ha kk _) fun out h1 h2 => fin its rv hz out h1 h2.1
end
/-! ### perms of mapped lists -/
theorem perm_map_inv {α β : Type} {f : α → β} {ys bs : List β} (p : ys.Perm bs) : ∀ {ks : List α}, bs = ks.map f → ∃ ks' : List α, ks'.Perm ks ∧ ys = ks'.map f := by
  induction p with
  | nil => intro ks e; exact ⟨[], by cases ks with | nil => exact .refl _ | cons a b => simp at e, rfl⟩
  | @cons x l1 l2 p ih =>
    intro ks e
    cases ks with
    | nil => simp at e
    | cons k ks =>
      rw [List.map_cons] at e
      injection e with e1 e2
      obtain ⟨ks', p1, e3⟩ := ih e2
      exact ⟨k :: ks', p1.cons k, by rw [List.map_cons, e1, e3]⟩
  | swap x y l =>
    intro ks e
    match ks, e with
    | [], e => simp at e
    | [_], e => simp at e
    | k :: j :: ks, e =>
      rw [List.map_cons, List.map_cons] at e
      injection e with e1 e
      injection e with e2 e3
      exact ⟨j :: k :: ks, .swap _ _ _, by rw [List.map_cons, List.map_cons, e1, e2, e3]⟩
  | trans p1 p2 ih1 ih2 =>
    intro ks e
    obtain ⟨ks1, q1, e1⟩ := ih2 e
    obtain ⟨ks2, q2, e2⟩ := ih1 e1
    exact ⟨ks2, q2.trans q1, e2⟩
section
variable {K : PySem.W.Frag} {H : Hp} {m : Addr → Prop} {al : List Addr}
theorem SqT_grow {H' : Hp} {a : Addr} {xs : List V} (h : SqT K H a xs) (g : Grow H H') : SqT K H' a xs := by
  rcases h with (h | ⟨o, h⟩) | h
  · exact .inl (.inl (g _ _ h))
  · exact .inl (.inr ⟨o, g _ _ h⟩)
  · exact .inr h
theorem ints_back : ∀ {us : List U} {is : List Int}, intsU us = some is → us = is.map .int
  | [], is, h => by cases h; rfl
  | .int i :: us, is, h => by
    simp only [intsU] at h
    cases q : intsU us with
    | none => rw [q] at h; cases h
    | some js => rw [q] at h; cases h; rw [ints_back q]; rfl
  | .non :: _, _, h => nomatch h
  | .bl _ :: _, _, h => nomatch h
  | .str _ :: _, _, h => nomatch h
  | .tup _ :: _, _, h => nomatch h
  | .lst _ :: _, _, h => nomatch h
  | .dct _ :: _, _, h => nomatch h
  | .ref _ :: _, _, h => nomatch h
theorem tupKs : ∀ {us : List U} {vs : List V} {ts : List (List Int)}, Shs K H m al us vs → tupsU us = some ts → ∃ ks : List (Addr × List Int), ks.map (·.2) = ts ∧ vs = ks.map (fun p => V.ref p.1) ∧ us = ts.map Ev.tupI ∧ ∀ p ∈ ks, SqT K H p.1 (p.2.map V.int) ∧ Sh K H m al (Ev.tupI p.2) (.ref p.1) ∧ p.2 ≠ []
  | [], _, ts, h, e => by
    cases h; cases e
    exact ⟨[], rfl, rfl, rfl, fun p hp => nomatch hp⟩
  | .tup xs :: us, _, ts, .cons (v := v) (vs := vs) h1 h2, e => by
    simp only [tupsU] at e
    cases c1 : intsU xs with
    | none => rw [c1] at e; cases e
    | some is =>
      rw [c1] at e
      cases is with
      | nil => cases e
      | cons i is =>
        cases c2 : tupsU us with
        | none => rw [c2] at e; cases e
        | some rs =>
          rw [c2] at e
          cases e
          obtain ⟨ks, k1, k2, k3, k4⟩ := tupKs h2 c2
          have hx := ints_back c1
          subst hx
          obtain ⟨a, ws, rfl, q1, q2, q3⟩ := (BR.sh h1).tup
          have hw := q2.intsU c1
          subst hw
          refine ⟨(a, i :: is) :: ks, by rw [List.map_cons, k1], by rw [List.map_cons, k2], by rw [List.map_cons, k3]; rfl, fun p hp => ?_⟩
          rcases List.mem_cons.mp hp with rfl | hp
          · exact ⟨q1, h1, by simp⟩
          · exact k4 p hp
  | .non :: _, _, _, _, e => nomatch e
  | .bl _ :: _, _, _, _, e => nomatch e
  | .str _ :: _, _, _, _, e => nomatch e
  | .int _ :: _, _, _, _, e => nomatch e
  | .lst _ :: _, _, _, _, e => nomatch e
  | .dct _ :: _, _, _, _, e => nomatch e
  | .ref _ :: _, _, _, _, e => nomatch e
theorem shs_ks : ∀ {ks : List (Addr × List Int)}, (∀ p ∈ ks, Sh K H m al (Ev.tupI p.2) (.ref p.1)) → Shs K H m al ((ks.map (·.2)).map Ev.tupI) (ks.map fun p => V.ref p.1)
  | [], _ => .nil
  | p :: ks, h => .cons (h p List.mem_cons_self) (shs_ks fun q hq => h q (List.mem_cons_of_mem _ hq))
end
section
variable {X : Cx}
theorem cr_or {f : Value} {r1 r2 : List V → Hp → VK → Prop} (h1 : CallR X f r1) (h2 : CallR X f r2) : CallR X f fun vs H Q => r1 vs H Q ∨ r2 vs H Q := by
  intro pins s σ H vs us Q I r h
  rcases h with h | h
  · exact h1 pins s σ H vs us Q I r h
  · exact h2 pins s σ H vs us Q I r h
end
end Ev

end
section
set_option Elab.async false
set_option linter.all false
set_option maxRecDepth 100000
set_option maxHeartbeats 4000000
namespace Ev
open PySem L2
section
open PySem.Spec PyProof.Rows
variable {P : Program} {w : World} {A : Around} {E : Value → Shared → Prop} {s : Shared}
/-- set(xs) of a list of ints (the library's row for a tuple, turned to a list) -/
theorem set_of_list {l : Addr} {items : Array Value} (ns : List Int) {Q : Value → Shared → Prop} (hh : A.handled = none) (hl : s.heap.IsList l items) (hit : IntsAre items.toList ns) (hb : ns.length + 1 < scanBound)
    (h : ∀ (h' : Heap) (tk c : Nat), SetR w h' s.heap.objs.size (fun j => decide (j ∈ ns)) c → c ≤ ns.length → (∀ b o, s.heap.get? b = some o → h'.get? b = some o) → Q (.ref s.heap.objs.size) { s with heap := h', toks := tk }) :
    wpAny (model P w) A (call (.type "set") [.ref l]) Q E s := by
  have hisz : items.size = ns.length := by
    have q := IntsAre.length hit
    rw [Array.length_toList] at q
    exact q
  obtain ⟨c, tl, hmro⟩ := F.called_set.mro
  have hmade := F.called_set.made
  have hsub := F.called_set.sub
  refine wpAny_call (codeAny_of_tree ?_)
  show wpAny _ _ (callAny (.type "set") _) _ _ _
  refine wpAny_pure ⟨Code.quiet_builtin _ (by decide +kernel), codeAny_builtin F.entry_type_call ?_⟩
  rw [Around.under_plain (weight_type_call_type "set" [.ref l] []) rfl]
  have h1 := F.called_set.notType
  have h2 := F.called_set.canCreate
  have hct := F.typeCall_set_1 (.ref l)
  repeat (any_goals (first | assumption | wp_step))

  refine codeAny_mono (code_set_led1 (.ref l) (E := E) (Q₁ := fun obj s₁ => obj = .ref s.heap.objs.size ∧ s₁ = { s with heap := s.heap.push { cls := .type "set", dict := none, data := .set #[] 0 (.fresh 0 0 (!w.params.followText "set-order")) } }) ⟨rfl, rfl⟩) fun r s₁ hr => ?_
  cases r with
  | error e => exact hr
  | ok fl =>
    cases fl with
    | ret obj =>
      obtain ⟨rfl, rfl⟩ := hr
      have hS : (s.heap.push { cls := .type "set", dict := none, data := .set #[] 0 (.fresh 0 0 (!w.params.followText "set-order")) }).get? s.heap.objs.size = some { cls := .type "set", dict := none, data := .set #[] 0 (.fresh 0 0 (!w.params.followText "set-order")) } := Heap.get?_push_size _ rfl
      have hT : Shared.TypeIs { s with heap := s.heap.push { cls := .type "set", dict := none, data := .set #[] 0 (.fresh 0 0 (!w.params.followText "set-order")) } } (.ref s.heap.objs.size) "set" := ⟨_, hS, rfl⟩
      have hli := F.called_set.init.lookup
      have hbi := F.called_set.init.bind (.ref s.heap.objs.size)
      repeat (any_goals (first | assumption | wp_step))

      refine codeAny_mono (codeAny_call_builtin (R := wants (fun r s₂ => r = .none ∧ ∃ h' tk c, s₂ = { s with heap := h', toks := tk } ∧ SetR w h' s.heap.objs.size (fun j => decide (j ∈ ns)) c ∧ c ≤ ns.length ∧
          (∀ b o, s.heap.get? b = some o → h'.get? b = some o)) E) F.called_set.init.plain F.entry_set_init (check_set_init_1 hT ?_)) fun r₂ s₂ hr₂ => ?_
      · obtain ⟨ol, hol, hcl, nl, hdl⟩ := hl
        obtain ⟨ocls, odict, odata, oslots⟩ := ol
        simp only at hcl hdl
        subst hcl; subst hdl
        have hol' : (s.heap.push { cls := .type "set", dict := none, data := .set #[] 0 (.fresh 0 0 (!w.params.followText "set-order")) }).get? l = some { cls := .type "list", dict := odict, data := .seq items nl, slots := oslots } := Heap.get?_push_of_some _ hol
        have hsls := F.sub_list_set
        have hslf := F.sub_list_frozenset
        have hne : (Value.type "list" == Value.type "dict") = false := by decide
        have hl1 : (s.heap.push { cls := .type "set", dict := none, data := .set #[] 0 (.fresh 0 0 (!w.params.followText "set-order")) }).IsList l items := ⟨_, hol', rfl, nl, rfl⟩
        unfold Builtin.«set.__init__» noKeywords Builtin.Frozenset.updateFrom
        generalize hPI : pyIter = PI
        wp_walk
        subst hPI

        refine wpAny_pyIter_list hl1 ?_
        refine wpAny_bind (wpAny_runValue ?_)
        have hlS : l < s.heap.objs.size := Heap.lt_size hol
        have hh3 : A.in1.in1.in1.handled = none := by simp [hh]
        have hz1 : (s.heap.push { cls := .type "set", dict := none, data := .set #[] 0 (.fresh 0 0 (!w.params.followText "set-order")) }).objs.size = s.heap.objs.size + 1 := Heap.size_push ..
        have hneI : l ≠ (s.heap.push { cls := .type "set", dict := none, data := .set #[] 0 (.fresh 0 0 (!w.params.followText "set-order")) }).objs.size := by
          rw [Heap.size_push]; exact Nat.ne_of_lt (Nat.lt_succ_of_lt hlS)
        have hSf : s.heap.objs.size ∉ [(s.heap.push { cls := .type "set", dict := none, data := .set #[] 0 (.fresh 0 0 (!w.params.followText "set-order")) }).objs.size, l] := by
          rw [Heap.size_push]; simp only [List.mem_cons, List.mem_singleton, List.not_mem_nil, or_false, not_or]
          exact ⟨Nat.ne_of_lt (Nat.lt_succ_self _), Nat.ne_of_gt hlS⟩
        have hval : ∀ (i : Nat) (v : Value), items[i]? = some v → ∃ k t, ns[i]? = some k ∧ v = .int k t := fun i v hv => by
          have hi : i < ns.length := by rw [← hisz]; exact (Array.getElem?_eq_some_iff.mp hv).1
          obtain ⟨t, e⟩ := PyProof.Rows.IntsAre.int_at hit i v (by rw [Array.getElem?_toList]; exact hv)
          refine ⟨ns[i], t, List.getElem?_eq_getElem hi, ?_⟩
          rw [e, List.getD_eq_getElem?_getD, List.getElem?_eq_getElem hi] <;> rfl
        refine set_update_ints ((Walks.list hh3 _ l hneI items).toS) s.heap.objs.size
          hSf ns hisz hb hval (items.size - 0) 0 _ (by omega) (Nat.zero_le _)
          ⟨⟨_, Heap.get?_push_size _ rfl, rfl, rfl⟩, (hl1.push _)⟩ ?hS0 ?hR
        case hS0 =>
          have hget : ((s.heap.push { cls := .type "set", dict := none, data := .set #[] 0 (.fresh 0 0 (!w.params.followText "set-order")) }).push { cls := .type "list_iterator", data := .fields #[.ref l, .int 0 0] }).get? s.heap.objs.size
              = some { cls := .type "set", dict := none, data := .set #[] 0 (.fresh 0 0 (!w.params.followText "set-order")) } := Heap.get?_push_of_some _ hS
          exact ⟨0, Nat.le_refl 0, setR_new_at hget⟩
        case hR =>
          intro s' c' hm hc' hS'
          obtain ⟨h', g2, d', tk', os'⟩ := s'
          have eg : g2 = s.gens := hm.gens
          have ed : d' = s.drawn := hm.drawn
          have eo : os' = s.os := hm.os
          subst eg; subst ed; subst eo
          show wpAny _ _ _ _ _ _
          refine wpAny_pure ?_
          show wpAny _ _ (ret Value.none) _ _ _
          rw [hisz] at hc'
          refine wpAny_pure ⟨rfl, h', tk', c', rfl, hS', hc', fun b o e => ?_⟩
          have hb0 : b < s.heap.objs.size := Heap.lt_size e
          have hb1 : b ≠ s.heap.objs.size := Nat.ne_of_lt hb0
          have hb2 : b ≠ (s.heap.push { cls := .type "set", dict := none, data := .set #[] 0 (.fresh 0 0 (!w.params.followText "set-order")) }).objs.size := by
            rw [Heap.size_push]; exact Nat.ne_of_lt (Nat.lt_succ_of_lt hb0)
          exact hm.heap b o (by simp only [List.mem_cons, List.mem_singleton, List.not_mem_nil, or_false, not_or]; exact ⟨hb1, hb2⟩) (Heap.get?_push_of_some _ (Heap.get?_push_of_some _ e))

      · cases r₂ with
        | error e => exact hr₂
        | ok fl₂ =>
          cases fl₂ with
          | ret r =>
            obtain ⟨rfl, h', tk, c', rfl, hS', hc', hk'⟩ := hr₂
            repeat (any_goals (first | assumption | wp_step))
            exact h _ _ _ hS' hc' hk'
          | _ => exact hr₂.elim
    | _ => exact hr.elim

end
section
variable {X : Cx}
open PySem.Spec PyProof.Rows
/-- set(xs), ints in a list or a tuple -/
def rSetI (K : PySem.W.Frag) (w : World) : List V → Hp → VK → Prop := fun vs H Q => ∃ (a : Addr) (ns : List Int), vs = [V.ref a] ∧ (SqL K H a (ns.map V.int) ∨ SqT K H a (ns.map V.int)) ∧ ns.length < 64 ∧
  ∀ (p : Addr) (c : Nat), c ≤ ns.length → H p = none → Q (.ref p) (upd H p (SetO w p (fun j => decide (j ∈ ns)) c))
theorem cr_setI (hc : X.calm = true) : CallR X (.type "set") (rSetI X.K X.w) := by
  intro pins s σ H vs us Q I r h
  obtain ⟨a, ns, rfl, hs, hl, q⟩ := h
  have hd := I.ok.hd hc
  have fin : ∀ (h' : Heap) (tk c : Nat), SetR X.w h' s.heap.objs.size (fun j => decide (j ∈ ns)) c → c ≤ ns.length → (∀ b o, s.heap.get? b = some o → h'.get? b = some o) → EP X pins σ Q (.ref s.heap.objs.size) { s with heap := h', toks := tk } := fun h' tk c R1 hcn k =>
    ⟨.ref s.heap.objs.size, upd H s.heap.objs.size (SetO X.w s.heap.objs.size (fun j => decide (j ∈ ns)) c), I.laid (t' := tk) k (Nat.le_refl _) (setO_new R1), rfl, q _ c hcn (I.hok.fresh (Nat.le_refl _))⟩
  rw [Vals.ref1 r]
  rcases hs with hs | hs
  · obtain ⟨its, rv, pl, hz⟩ := I.list hs
    have hi : IntsAre its.toArray.toList ns := ints_of_vals rv
    exact set_of_list ns hd pl.isList hi (by unfold scanBound; omega) fin
  · obtain ⟨its, rv, pt, hz⟩ := I.tuple hs
    have hi : IntsAre its.toArray.toList ns := ints_of_vals rv
    exact call_set_tupI ns hd pt hi (by unfold scanBound; omega) fin
end
section
variable {X : Cx} {F : CallF} {KW : List (List Nat)} {a b c : C} {as : A} {x y z : Expr} {es : List Expr} {pos p : Pos}
theorem biR_sorted : CallR X (.builtin "sorted") (rBi X.K .sorted) := by
  refine CallR.imp (cr_or cr_srt cr_srtT) ?_
  rintro xs H Q ⟨m, al, us, r, md, bs, e, t⟩
  match us, e with
  | [u], e =>
    obtain ⟨x, rfl, b⟩ := bs.one
    have key : ∀ (ys : List U) (a : Addr) (vs : List V), items u = some ys → Shs X.K H m al ys vs → (SqL X.K H a vs ∨ SqT X.K H a vs) → x = .ref a → rSrt X.K [x] H Q ∨ rSrtT X.K [x] H Q := fun ys a vs hi hs hq hx => by
      simp only [biV, hi] at e
      cases c : intsU ys with
      | some is =>
        rw [c] at e; cases e
        rw [hs.intsU c] at hq
        exact .inl ⟨a, is, by rw [hx], hq, fun p hp => t.newL md Shs.ints hp⟩
      | none =>
        rw [c] at e
        simp only at e
        cases c2 : tupsU ys with
        | none => rw [c2] at e; cases e
        | some ts =>
          rw [c2] at e; cases e
          obtain ⟨ks, k1, k2, k3, k4⟩ := tupKs hs c2
          refine .inr ⟨a, vs, by rw [hx], hq, fun x hm => ?_, fun zs p hp hu hn => ?_⟩
          · rw [k2] at hm
            obtain ⟨q, hq, rfl⟩ := List.mem_map.mp hm
            obtain ⟨q1, _, q3⟩ := k4 q hq
            exact ⟨q.2, ⟨q.1, rfl, q1⟩, q3⟩
          · obtain ⟨ks', p1, e1⟩ := perm_map_inv hp k2
            have h4 : ∀ q ∈ ks', SqT X.K H q.1 (q.2.map V.int) ∧ Sh X.K H m al (Ev.tupI q.2) (.ref q.1) ∧ q.2 ≠ [] := fun q hq => k4 q (p1.mem_iff.mp hq)
            have es : ks'.map (·.2) = sortT ts := by
              rw [← k1]
              refine sortT_of (p1.map _) ?_
              rw [e1, List.pairwise_map] at hu
              rw [List.pairwise_map]
              exact hu.imp_of_mem fun {x y} hx hy h => h _ _ ⟨_, rfl, (h4 x hx).1⟩ ⟨_, rfl, (h4 y hy).1⟩
            have r := shs_ks (K := X.K) (H := H) (m := m) (al := al) (ks := ks') fun q hq => (h4 q hq).2.1
            rw [es] at r
            rw [e1]
            exact t.newL md r hn
    cases u <;> (try (simp only [biV, items] at e; cases e; done))
    · obtain ⟨a, vs, rfl, h1, h2, _⟩ := b.tup
      exact key _ a vs rfl h2 (.inr h1) rfl
    · obtain ⟨a, vs, rfl, h1, h2⟩ := b.lst
      exact key _ a vs rfl h2 (.inl h1.sq) rfl
/-- sorted(set(x)) -/
theorem snd_sortedSet {p1 p2 pos2 : Pos} (hu : X.A.units + 64 < cLine) (hc : X.calm = true) (hg : Gl X "sorted") (hm : X.mg "sorted" = none) (hg2 : Gl X "set") (hm2 : X.mg "set" = none) (hs : noStar x = true) (ha : PE X x (tB F KW X.K a)) :
    PE X (.Call (.Name "sorted" p1) [.Call (.Name "set" p2) [x] [] pos2] [] pos) (tE F KW X.K (.bi .sortedSet (.cons a .nil))) := by
  have h1 := pe_callTy (p := p2) (pos := pos2) (cr_or (cr_setI hc) (cr_setOfT hc hu)) hg2 hm2 (by decide +kernel) (pa_cons ha pa_nil (star_of hs _)) (by decide +kernel) (by decide +kernel) (star_of hs _) rfl
  refine PE.imp (pe_callB (cr_or (cr_sortedSet hc) (cr_sortedT hc)) hg hm (by decide +kernel) (pa_cons h1 pa_nil) (by decide +kernel) (by decide +kernel)) fun σ H Q ⟨ρ, s, m, al, r, s', sc, e, q⟩ => ?_
  simp only [evE, evA] at e
  obtain ⟨us, s1, e1, e⟩ := bind_ok e
  obtain ⟨ra, s2, e2, e1⟩ := bind_ok e1
  obtain ⟨xs, s3, e3, e1⟩ := bind_ok e1
  cases e3
  cases e1
  obtain ⟨e, rfl⟩ := ofO_ok e
  refine ⟨ρ, s, m, al, _, _, sc, e2, fun v H1 al1 st t b => ?_⟩
  have key : ∀ (ys : List U) (a : Addr) (vs : List V), items ra.u = some ys → Shs X.K H1 (mU m al1) al1 ys vs → (SqL X.K H1 a vs ∨ SqT X.K H1 a vs) → ((∃ zs, ra.u = .lst zs) → SqL X.K H1 a vs) → v = .ref a →
      (rSetI X.K X.w [v] H1 (fun x H2 => rSortedSet X.w [x] H2 Q ∨ rSortedT X.K X.prog X.w [x] H2 Q) ∨ rSetOfT X.K X.prog X.w [v] H1 fun x H2 => rSortedSet X.w [x] H2 Q ∨ rSortedT X.K X.prog X.w [x] H2 Q) := fun ys a vs hi hs hq hql hx => by
    simp only [biV, hi] at e
    cases c : intsU ys with
    | none =>
      rw [c] at e
      simp only at e
      obtain ⟨zs, hz⟩ : ∃ zs, ra.u = .lst zs := by
        cases q : ra.u <;> rw [q] at e <;> first | exact ⟨_, rfl⟩ | (cases e; done)
      have hl := hql ⟨zs, hz⟩
      rw [hz] at e
      simp only at e
      cases c2 : tupsU ys with
      | none => rw [c2] at e; cases e
      | some ts =>
        rw [c2] at e
        simp only at e
        by_cases c3 : okT ts = true
        · rw [if_pos c3] at e
          cases e
          obtain ⟨ks, k1, k2, k3, k4⟩ := tupKs hs c2
          unfold okT at c3
          obtain ⟨c4, c5⟩ := Bool.and_eq_true_iff.mp c3
          have c4 := of_decide_eq_true c4
          have hkl : ks.length = ts.length := by rw [← k1, List.length_map]
          have c6 : ∀ q ∈ ks, q.2.length = (ts.headD []).length ∧ TS.Bd 18446744073709551616 q.2 := fun q hq => by
            have := List.all_eq_true.mp c5 q.2 (by rw [← k1]; exact List.mem_map_of_mem hq)
            obtain ⟨d1, d2⟩ := Bool.and_eq_true_iff.mp this
            refine ⟨eq_of_beq d1, fun x hx => ?_⟩
            have := List.all_eq_true.mp d2 x hx
            obtain ⟨d3, d4⟩ := Bool.and_eq_true_iff.mp this
            exact ⟨of_decide_eq_true d3, of_decide_eq_true d4⟩
          rw [k2] at hl
          have hne : ks ≠ [] := fun z => by
            subst z
            cases k1
            rw [k3] at c
            cases c
          have hd1 : 1 ≤ (ts.headD []).length := by
            obtain ⟨q, hq⟩ := List.exists_mem_of_ne_nil _ hne
            have h1 := (c6 q hq).1
            have h2 := (k4 q hq).2.2
            cases q2 : q.2 with
            | nil => exact absurd q2 h2
            | cons y ys => rw [q2, List.length_cons] at h1; omega
          refine .inr ⟨a, ks, by rw [hx], hl, fun q hq => (k4 q hq).1, by omega, fun p L hp sub all => .inr ⟨p, L, _, _, rfl, upd_same, fun q hq => ?_, hd1, fun q hq => c6 q (sub q hq), fun L' p2 pm nd few pw hp2 => ?_⟩⟩
          · exact SqT_grow (k4 q (sub q hq)).1 (Grow.new hp)
          · have g1 : Grow H1 (upd H1 p (SetTO X.prog X.w p L)) := Grow.new hp
            have st2 := st.grow g1
            have t2 := t.grow g1
            refine q _ _ al1 (st2.grow (Grow.new hp2)) (t2.grow (Grow.new hp2)) ?_
            have hs2 : ∀ q ∈ L', Sh X.K (upd H1 p (SetTO X.prog X.w p L)) (mU m al1) al1 (Ev.tupI q.2) (.ref q.1) := fun q hq => ((k4 q (sub q (pm.mem_iff.mp hq))).2.1).grow g1
            have r := shs_ks hs2
            have es : L'.map (·.2) = sortTS ts := by
              refine ltT_mem_eq ?_ (sortTS_up ts) fun z => ?_
              · rw [List.pairwise_map]
                unfold List.Nodup at nd
                rw [List.pairwise_map] at nd
                refine (pw.and nd).imp_of_mem fun {x y} hx hy h => ?_
                have b1 := c6 x (sub x (pm.mem_iff.mp hx))
                have b2 := c6 y (sub y (pm.mem_iff.mp hy))
                cases q : HT.lexLt x.2 y.2 with
                | true => exact q
                | false =>
                  cases q2 : HT.lexLt y.2 x.2 with
                  | false => exact absurd (lex_eq q q2) h.2
                  | true =>
                    have := (code_lex (by rw [b1.1, b2.1]) b2.2 b1.2).mpr q2
                    have := h.1
                    omega
              · rw [sortTS_mem, ← k1, (pm.map _).mem_iff]
                constructor
                · intro hz
                  obtain ⟨x, hx, e⟩ := List.mem_map.mp hz
                  exact List.mem_map.mpr ⟨x, sub x hx, e⟩
                · intro hz
                  obtain ⟨x, hx, e⟩ := List.mem_map.mp hz
                  rw [← e]
                  exact all x hx
            rw [es] at r
            exact VR.newL (sc.step st2 t2).md st2 r hp2
        · rw [if_neg c3] at e; cases e
    | some is =>
      rw [c] at e
      simp only at e
      by_cases c2 : is.length < 64
      · rw [if_pos c2] at e
        cases e
        rw [hs.intsU c] at hq
        refine .inl ⟨a, is, by rw [hx], hq, c2, fun p n hn hp => .inl ⟨p, _, n, rfl, upd_same, by omega, fun ns p2 up mem _ hp2 => ?_⟩⟩
        have en : ns = sortS is := lt_mem_eq up (sortS_up is) fun z => by rw [mem z, sortS_mem z is, decide_eq_true_eq]
        subst en
        have g1 : Grow H1 (upd H1 p (SetO X.w p (fun j => decide (j ∈ is)) n)) := Grow.new hp
        have st2 := st.grow g1
        have t2 := t.grow g1
        refine q _ _ al1 (st2.grow (Grow.new hp2)) (t2.grow (Grow.new hp2)) ?_
        exact VR.newL (sc.step st2 t2).md st2 Shs.ints hp2
      · rw [if_neg c2] at e; cases e
  obtain ⟨u, f⟩ := ra
  cases u <;> (try (simp only [biV, items] at e; cases e; done))
  · obtain ⟨a, vs, rfl, h1, h2, _⟩ := b.tup
    exact key _ a vs rfl h2 (.inr h1) (fun ⟨_, z⟩ => nomatch z) rfl
  · obtain ⟨a, vs, rfl, h1, h2⟩ := b.lst
    exact key _ a vs rfl h2 (.inl h1.sq) (fun _ => h1.sq) rfl
end
end Ev

end
section
set_option Elab.async false
set_option linter.all false
set_option maxRecDepth 100000
set_option maxHeartbeats 4000000
namespace Ev
open PySem L2
section
variable {X : Cx} {F : CallF} {KW : List (List Nat)} {a b c : C} {as : A} {x y z : Expr} {es : List Expr} {pos p : Pos}
/-- a list of the store, behind a value -/
theorem ref_at {K : PySem.W.Frag} {m : Addr → Prop} {al : List Addr} {s : Sto} {H : Hp} {k : Nat} {xs : List Int} {v : V} (t : ST K m al s H) (b : BR K H m al (.ref k) v) (e : nth k s = some (.lst xs)) : ∃ d, v = .ref d ∧ al[k]? = some d ∧ H d = some (.lst (xs.map V.int)) := by
  cases b with
  | sh h =>
    cases h with
    | ref h =>
      rename_i d
      rw [nth_get] at h e
      obtain ⟨d', e1, e2⟩ := t.at_ k xs e
      rw [h] at e1; cases e1
      exact ⟨d, rfl, h, e2⟩
theorem snd_sortedR {p1 : Pos} (hg : Gl X "sorted") (hm : X.mg "sorted" = none) (hs : noStar x = true) (ha : PE X x (tB F KW X.K a)) :
    PE X (.Call (.Name "sorted" p1) [x] [] pos) (tE F KW X.K (.sortedR a)) := by
  refine PE.imp (pe_callB cr_srt hg hm (by decide +kernel) (pa_cons ha pa_nil (star_of hs _)) (by decide +kernel) (by decide +kernel) (star_of hs _) rfl) fun σ H Q ⟨ρ, s, m, al, r, s', sc, e, q⟩ => ?_
  simp only [evE] at e
  obtain ⟨ra, s1, e1, e⟩ := bind_ok e
  obtain ⟨u, f⟩ := ra
  cases u <;> simp only at e <;> try (cases e; done)
  rename_i k
  cases hk : nth k s1 with
  | none => rw [hk] at e; cases e
  | some ob =>
    obtain ⟨xs⟩ := ob
    rw [hk] at e
    cases e
    refine ⟨ρ, s, m, al, _, _, sc, e1, fun v H1 al1 st t b => ?_⟩
    obtain ⟨d, rfl, _, h2⟩ := ref_at t b hk
    exact ⟨d, xs, rfl, .inl (SqL.of h2), fun p hp => q _ _ al1 (st.grow (Grow.new hp)) (t.grow (Grow.new hp)) (VR.newL (sc.step st t).md st Shs.ints hp)⟩
theorem refNe_in {R : V → Hp → Prop} {σ : L2.St} {H : Hp} {ρ : Env} {s s' : Sto} {m : Addr → Prop} {al : List Addr} {r : Rv} (sc : SC X.K m al s ρ σ H) (e : evE F KW (.refNe a) ρ s = .ok r s')
    (q : ∀ k, r = ⟨.bl k, false⟩ → ∀ H' al', Step H H' al al' → ST X.K (mU m al') al' s' H' → R (.bl k) H') : tOp (rCmp X.K .ne) (tB F KW X.K a) (tB F KW X.K (.lst .nil)) σ H R := by
  simp only [evE] at e
  obtain ⟨ra, s1, e1, e⟩ := bind_ok e
  obtain ⟨u, f⟩ := ra
  cases u <;> simp only at e <;> try (cases e; done)
  rename_i k
  cases hk : nth k s1 with
  | none => rw [hk] at e; cases e
  | some ob =>
    obtain ⟨xs⟩ := ob
    rw [hk] at e
    simp only at e
    obtain ⟨kk, e3, e⟩ := bindO_ok e
    cases e
    refine ⟨ρ, s, m, al, _, _, sc, e1, fun v1 H1 al1 st1 t1 b1 => ⟨ρ, s', mU m al1, al1, ⟨.lst [], true⟩, s', sc.step st1 t1, by simp only [evE, evA, RE.bind], fun v2 H2 al2 st2 t2 b2 => ?_⟩⟩
    obtain ⟨d, rfl, _, h2⟩ := ref_at t2 (b1.step st2 t1.sub) hk
    have c1 : BR X.K H2 (fun _ => False) [] (.lst (xs.map .int)) (.ref d) := .own h2 (by simp) Shs.ints
    have c2 : BR X.K H2 (fun _ => False) [] (.lst []) v2 := by
      obtain ⟨b, vs, rfl, h, g⟩ := b2.lst
      cases g
      rcases h with h | ⟨its, h⟩ | ⟨its, n, h, z, g⟩
      · exact .sh (.lst h (fun z => z) .nil)
      · exact .sh (.lstF h (fun z => z) .nil)
      · exact .sh (.lstK h z g .nil)
    exact ⟨_, _, _, _, kk, c1, c2, e3, q _ rfl H2 al2 (st1.trans st2) (t2.weak (fun _ z => mU_sub z) fun _ z => .inr z)⟩
theorem snd_refNe {p2 : Pos} (hu : X.A.units + 65 < cLine) (ha : PE X x (tB F KW X.K a)) (hb : PE X (.List [] p2) (tB F KW X.K (.lst .nil))) : PE X (.Compare x [.NotEq] [.List [] p2] pos) (tE F KW X.K (.refNe a)) :=
  PE.imp (pe_cmpR (cmpR hu .ne) ha hb (noSet_mark rfl)) fun σ H Q ⟨ρ, s, m, al, r, s', sc, e, q⟩ =>
    refNe_in sc e fun k hk H' al' st t => q _ H' al' st t (by rw [hk]; exact ⟨.bl _, fun z => nomatch z⟩)
theorem snd_refNeT {p2 : Pos} (hu : X.A.units + 65 < cLine) (ha : PE X x (tB F KW X.K a)) (hb : PE X (.List [] p2) (tB F KW X.K (.lst .nil))) : PT X (.Compare x [.NotEq] [.List [] p2] pos) (tT F KW X.K (.refNe a)) :=
  PT.imp (pt_cmpR (cmpR hu .ne) ha hb (noSet_mark rfl)) fun σ H Q ⟨ρ, s, m, al, r, s', k, sc, e, tr, q⟩ =>
    refNe_in sc e fun k' hk H' al' st t => by
      subst hk
      cases tr
      exact ⟨_, rfl, q H' al' st t⟩
end
end Ev

end
section
set_option Elab.async false
set_option linter.all false
set_option maxRecDepth 100000
set_option maxHeartbeats 4000000
namespace Ev
open PySem L2
section
variable {K : PySem.W.Frag} {H : Hp} {m : Addr → Prop} {al : List Addr}
theorem zipK_cons (k : Int) (v : V) (ks : List Int) (vs : List V) : zipK (k :: ks) (v :: vs) = (.inl k, v) :: zipK ks vs := rfl
theorem zipK_val : ∀ {d : List (Int × U)} {vs : List V}, Shs K H m al (d.map Prod.snd) vs → ∀ k : Int, match d.find? (fun p => p.1 == k) with
    | some p => ∃ v, valV (zipK (d.map Prod.fst) vs) (.inl k) = some v ∧ Sh K H m al p.2 v
    | none => valV (zipK (d.map Prod.fst) vs) (.inl k) = none
  | [], _, h, k => by cases h; rfl
  | (j, u) :: d, _, .cons (v := v) (vs := vs) h1 h2, k => by
    have ih := zipK_val (d := d) h2 k
    rw [List.find?_cons]
    by_cases e : j = k
    · subst e
      simp only [beq_self_eq_true]
      exact ⟨v, valV_pos (p := (Sum.inl j, v)) rfl, h1⟩
    · have e1 : (j == k) = false := beq_eq_false_iff_ne.mpr e
      have e2 : valV (zipK (((j, u) :: d).map Prod.fst) (v :: vs)) (.inl k) = valV (zipK (d.map Prod.fst) vs) (.inl k) := valV_neg (p := (Sum.inl j, v)) fun z => e (Sum.inl.inj z)
      simp only [e1, e2]
      exact ih
theorem zipK_keys : ∀ {ks : List Int} {vs : List V}, ks.length = vs.length → (zipK ks vs).map (·.1) = ks.map Sum.inl
  | [], [], _ => rfl
  | [], _ :: _, h => by simp at h
  | _ :: _, [], h => by simp at h
  | k :: ks, v :: vs, h => by
    have := zipK_keys (ks := ks) (vs := vs) (by simpa using h)
    rw [zipK_cons, List.map_cons, this]
    rfl
theorem dct_pairs : ∀ {us : List U} {vs : List V} {d : List (Int × U)}, Shs K H m al us vs → dctU us = some d → ∃ (ps : List Addr) (ws : List V), vs = ps.map V.ref ∧ Shs K H m al (d.map Prod.snd) ws ∧ Paired (fun p kv => SqT K H p [kV kv.1, kv.2]) ps (zipK (d.map Prod.fst) ws) ∧ (d.map Prod.fst).Nodup
  | [], _, d, h, e => by
    cases h; cases e
    exact ⟨[], [], rfl, .nil, .nil, .nil⟩
  | u :: us, _, d, .cons (v := v) (vs := vs) h1 h2, e => by
    obtain ⟨xs, rfl⟩ : ∃ xs, u = .tup xs := by cases u <;> first | exact ⟨_, rfl⟩ | (cases e; done)
    match xs, e with
    | [.int k, w], e =>
      simp only [dctU] at e
      cases c : dctU us with
      | none => rw [c] at e; cases e
      | some d' =>
        rw [c] at e
        simp only at e
        by_cases c2 : (d'.any fun p => p.1 == k) = true
        · rw [if_pos c2] at e; cases e
        · rw [if_neg c2] at e
          cases e
          obtain ⟨ps, ws, rfl, q2, q3, q4⟩ := dct_pairs h2 c
          obtain ⟨a, zs, rfl, g1, g2, _⟩ := (BR.sh h1).tup
          cases g2 with
          | cons r1 r2 =>
            cases r1
            cases r2 with
            | cons r3 r4 =>
              cases r4
              rename_i vv
              refine ⟨a :: ps, vv :: ws, rfl, .cons r3 q2, .cons g1 q3, List.nodup_cons.mpr ⟨fun z => c2 ?_, q4⟩⟩
              obtain ⟨p, hp, e⟩ := List.mem_map.mp z
              exact List.any_eq_true.mpr ⟨p, hp, by rw [e]; exact beq_self_eq_true k⟩
end
section
variable {X : Cx} {F : CallF} {KW : List (List Nat)} {a b c : C} {as : A} {x y z : Expr} {es : List Expr} {pos p : Pos}
theorem snd_dict1 {p1 : Pos} (hc : X.calm = true) (hg : Gl X "dict") (hm : X.mg "dict" = none) (hs : noStar x = true) (ha : PE X x (tB F KW X.K a)) :
    PE X (.Call (.Name "dict" p1) [x] [] pos) (tE F KW X.K (.dict1 a)) := by
  refine PE.imp (pe_callTy (cr_dictX hc) hg hm (by decide +kernel) (pa_cons ha pa_nil (star_of hs _)) (by decide +kernel) (by decide +kernel) (star_of hs _) rfl) fun σ H Q ⟨ρ, s, m, al, r, s', sc, e, q⟩ => ?_
  simp only [evE] at e
  obtain ⟨ra, s1, e1, e⟩ := bind_ok e
  obtain ⟨us, e2, e⟩ := bindO_ok e
  obtain ⟨d, e3, e⟩ := bindO_ok e
  cases e
  refine ⟨ρ, s, m, al, _, _, sc, e1, fun v H1 al1 st t br => ?_⟩
  have key : ∀ (l : Addr) (vs : List V), v = .ref l → Shs X.K H1 (mU m al1) al1 us vs → PrAt X.K H1 l vs → rDictX X.K [v] H1 Q := fun l vs hv hs hp => by
    subst hv
    obtain ⟨ps, ws, rfl, q2, q3, q4⟩ := dct_pairs hs e3
    refine ⟨l, ps, _, rfl, hp, q3, fun p hp => ?_⟩
    have hl := q2.length
    rw [List.length_map] at hl
    have hn : ((zipK (d.map Prod.fst) ws).map (·.1)).Nodup := by
      rw [zipK_keys (by rw [List.length_map]; exact hl)]
      exact List.Pairwise.map _ (fun a b h e => h (Sum.inl.inj e)) q4
    rw [mergeK_new _ [] (by simpa using hn), List.nil_append]
    have g := Grow.new (o := .dK (zipK (d.map Prod.fst) ws)) hp
    exact q _ _ al1 (st.grow g) (t.grow g) ⟨.dct rfl upd_same ((sc.step st t).md.not hp) (q2.grow g), fun z => nomatch z⟩
  obtain ⟨u, f⟩ := ra
  cases u <;> simp only [items] at e2 <;> cases e2
  · cases br with
    | sh h =>
      cases h with
      | tup h1 h2 h3 => exact key _ _ rfl h3 (.inr (.inl ⟨_, h1⟩))
      | tupK h1 h2 h4 h3 => exact key _ _ rfl h3 (.inr (.inr ⟨_, _, h1, h2, h4⟩))
  · obtain ⟨l, vs, rfl, h1, h2⟩ := br.lst
    exact key _ _ rfl h2 (.inl h1.sq)
theorem BR.dct {K : PySem.W.Frag} {H : Hp} {m : Addr → Prop} {al : List Addr} {d : List (Int × U)} {v : V} (h : BR K H m al (.dct d) v) : ∃ l ws, v = .ref l ∧ H l = some (.dK (zipK (d.map Prod.fst) ws)) ∧ Shs K H m al (d.map Prod.snd) ws := by
  cases h with
  | sh h => cases h with
    | dct h0 h1 h2 h3 => subst h0; exact ⟨_, _, rfl, h1, h3⟩
theorem snd_dGet (hu : X.A.units + 65 < cLine) (hs : NoSl y) (ha : PE X x (tB F KW X.K a)) (hb : PE X y (tB F KW X.K b)) : PE X (.Subscript x y pos) (tE F KW X.K (.dGet a b)) :=
  PE.imp (pe_dget (by omega) ha hb hs) fun σ H Q ⟨ρ, s, m, al, r, s', sc, e, q⟩ => by
    simp only [evE] at e
    obtain ⟨ra, s1, e1, e⟩ := bind_ok e
    obtain ⟨rb, s2, e2, e⟩ := bind_ok e
    obtain ⟨u, e3, e⟩ := bindO_ok e
    cases e
    refine ⟨ρ, s, m, al, ra, s1, sc, e1, fun v1 H1 al1 st1 t1 b1 => ⟨ρ, s1, mU m al1, al1, rb, _, sc.step st1 t1, e2, fun v2 H2 al2 st2 t2 b2 => ?_⟩⟩
    obtain ⟨ua, fa⟩ := ra
    obtain ⟨ub, fb⟩ := rb
    obtain ⟨d, rfl⟩ : ∃ d, ua = .dct d := by cases ua <;> first | exact ⟨_, rfl⟩ | (cases e3; done)
    obtain ⟨k, rfl⟩ : ∃ k, ub = .int k := by cases ub <;> first | exact ⟨_, rfl⟩ | (cases e3; done)
    simp only [dgetU] at e3
    obtain ⟨l, ws, rfl, g1, g2⟩ := (b1.step st2 t1.sub).dct
    cases b2.int
    have hv := zipK_val g2 k
    cases c : d.find? (fun p => p.1 == k) with
    | none => rw [c] at e3; cases e3
    | some p =>
      rw [c] at e3 hv
      cases e3
      obtain ⟨v, h1, h2⟩ := hv
      refine ⟨l, v, rfl, ?_, q v H2 al2 (st1.trans st2) t2.mm ⟨h2.weak fun _ z => mU_sub z, fun z => nomatch z⟩⟩
      rw [← h1]
      exact DGet.k (k := .inl k) g1
theorem dIn_in {neg : Bool} {R : V → Hp → Prop} {σ : L2.St} {H : Hp} {ρ : Env} {s s' : Sto} {m : Addr → Prop} {al : List Addr} {r : Rv} (sc : SC X.K m al s ρ σ H) (e : evE F KW (.dIn neg a b) ρ s = .ok r s')
    (q : ∀ k, r = ⟨.bl k, false⟩ → ∀ H' al', Step H H' al al' → ST X.K (mU m al') al' s' H' → R (.bl k) H') : tB F KW X.K a σ H fun y H1 => tB F KW X.K b σ H1 fun x H2 => ∃ l o, x = .ref l ∧ DGet H2 l y o ∧ R (.bl (if neg then !o.isSome else o.isSome)) H2 := by
  simp only [evE] at e
  obtain ⟨ra, s1, e1, e⟩ := bind_ok e
  obtain ⟨rb, s2, e2, e⟩ := bind_ok e
  obtain ⟨kk, e3, e⟩ := bindO_ok e
  cases e
  refine ⟨ρ, s, m, al, ra, s1, sc, e1, fun v1 H1 al1 st1 t1 b1 => ⟨ρ, s1, mU m al1, al1, rb, _, sc.step st1 t1, e2, fun v2 H2 al2 st2 t2 b2 => ?_⟩⟩
  obtain ⟨ua, fa⟩ := ra
  obtain ⟨ub, fb⟩ := rb
  obtain ⟨k, rfl⟩ : ∃ k, ua = .int k := by cases ua <;> first | exact ⟨_, rfl⟩ | (cases e3; done)
  obtain ⟨d, rfl⟩ : ∃ d, ub = .dct d := by cases ub <;> first | exact ⟨_, rfl⟩ | (cases e3; done)
  simp only [dinU] at e3
  cases e3
  cases b1.int
  obtain ⟨l, ws, rfl, g1, g2⟩ := b2.dct
  have hv := zipK_val g2 k
  refine ⟨l, _, rfl, DGet.k (k := .inl k) g1, ?_⟩
  have hb : (valV (zipK (d.map Prod.fst) ws) (.inl k)).isSome = d.any fun p => p.1 == k := by
    cases c : d.find? (fun p => p.1 == k) with
    | none =>
      rw [c] at hv
      rw [hv]
      have : (d.any fun p => p.1 == k) = false := by
        rw [← Bool.not_eq_true, List.any_eq_true]
        rintro ⟨p, hp, hk⟩
        exact (List.find?_eq_none.mp c) p hp hk
      rw [this]
      rfl
    | some p =>
      rw [c] at hv
      obtain ⟨v, h1, _⟩ := hv
      rw [h1]
      have : (d.any fun p => p.1 == k) = true := List.any_eq_true.mpr ⟨p, List.mem_of_find?_eq_some c, by have := List.find?_some c; simpa using this⟩
      rw [this]
      rfl
  rw [hb]
  exact q _ rfl H2 al2 (st1.trans st2) (t2.weak (fun _ z => mU_sub z) fun _ z => .inr z)
theorem snd_dIn (hu : X.A.units + 65 < cLine) (hy : noSet y = true) (ha : PE X x (tB F KW X.K a)) (hb : PE X y (tB F KW X.K b)) : PE X (.Compare x [.In] [y] pos) (tE F KW X.K (.dIn false a b)) :=
  PE.imp (pe_cmp (pc_din (by omega) ha hb) (noSet_mark hy)) fun σ H Q ⟨ρ, s, m, al, r, s', sc, e, q⟩ =>
    dIn_in sc e fun k hk H' al' st t => q _ H' al' st t (by rw [hk]; exact ⟨.bl _, fun z => nomatch z⟩)
theorem snd_dNotIn (hu : X.A.units + 65 < cLine) (hy : noSet y = true) (ha : PE X x (tB F KW X.K a)) (hb : PE X y (tB F KW X.K b)) : PE X (.Compare x [.NotIn] [y] pos) (tE F KW X.K (.dIn true a b)) :=
  PE.imp (pe_cmp (pc_dnotin (by omega) ha hb) (noSet_mark hy)) fun σ H Q ⟨ρ, s, m, al, r, s', sc, e, q⟩ =>
    dIn_in sc e fun k hk H' al' st t => q _ H' al' st t (by rw [hk]; exact ⟨.bl _, fun z => nomatch z⟩)
theorem snd_dInT (hu : X.A.units + 65 < cLine) (hy : noSet y = true) (ha : PE X x (tB F KW X.K a)) (hb : PE X y (tB F KW X.K b)) : PT X (.Compare x [.In] [y] pos) (tT F KW X.K (.dIn false a b)) :=
  PT.imp (pt_cmp (pc_din (by omega) ha hb) (noSet_mark hy)) fun σ H Q ⟨ρ, s, m, al, r, s', k, sc, e, tr, q⟩ =>
    dIn_in (R := fun v H => ∃ d, v = .bl d ∧ Q d H) sc e fun k' hk H' al' st t => by
      subst hk
      cases tr
      exact ⟨_, rfl, q H' al' st t⟩
theorem snd_dNotInT (hu : X.A.units + 65 < cLine) (hy : noSet y = true) (ha : PE X x (tB F KW X.K a)) (hb : PE X y (tB F KW X.K b)) : PT X (.Compare x [.NotIn] [y] pos) (tT F KW X.K (.dIn true a b)) :=
  PT.imp (pt_cmp (pc_dnotin (by omega) ha hb) (noSet_mark hy)) fun σ H Q ⟨ρ, s, m, al, r, s', k, sc, e, tr, q⟩ =>
    dIn_in (R := fun v H => ∃ d, v = .bl d ∧ Q d H) sc e fun k' hk H' al' st t => by
      subst hk
      cases tr
      exact ⟨_, rfl, q H' al' st t⟩
theorem dv_sh {K : PySem.W.Frag} {H : Hp} {m : Addr → Prop} {al : List Addr} : ∀ {ds : List U}, ds.all plainDv = true → Shs K H m al ds (ds.map dvV)
  | [], _ => .nil
  | d :: ds, h => by
    rw [List.all_cons] at h
    have h := Bool.and_eq_true_iff.mp h
    refine .cons ?_ (dv_sh h.2)
    cases d <;> first | (cases h.1; done) | exact .non | exact .bl _ | exact .int _
theorem snd_callD {f : Nat} {fe : FnE} {ds : List U} {p : Pos} (C : DfOk F X f fe ds) (hg : Gl X fe.name) (hd : (fe.name == ("__debug__" : Str)) = false) (hs : noStars es = true) (hl : lenA as = es.length) (he : es.length + ds.length = fe.np) (ha : PA X es (tAs F KW X.K as)) :
    PE X (.Call (.Name fe.name p) es [] pos) (tE F KW X.K (.callD f as ds)) := by
  obtain ⟨a, fd, ps, d, dv, G, hr, hm, hk, hb, hv, hp⟩ := C.ex
  have key : ∀ σ H (Q : VK), tE F KW X.K (.callD f as ds) σ H Q → tCall (spF F X.K f fe.np) (ds.map dvV) E0 (tAs F KW X.K as) σ H Q := fun σ H Q ⟨ρ, s, m, al, r, s', sc, e, q⟩ => by
    simp only [evE] at e
    obtain ⟨us, s1, e1, e⟩ := bind_ok e
    refine ⟨ρ, s, m, al, us, s1, sc, e1, fun vs H1 al1 st t rs => ?_⟩
    show spF F X.K f fe.np (vs ++ ds.map dvV) H1 Q E0
    exact ⟨s1, _, al1, us ++ ds, r, s', (sc.step st t).md, t, rs.append (dv_sh hp), by rw [List.length_append, evA_len as _ _ _ _ e1, hl, he], e, fun v H' al' st' t' vr => q v H' al' (st.trans st') t'.mm ((vr.back st).mm)⟩
  cases es with
  | nil =>
    have h0 := pe_call0 (p := p) (pos := pos) G hr hg hm hk hb hv pass0 hd
    refine PE.imp h0 fun σ H Q h => ?_
    obtain ⟨ρ, s, m, al, us, s1, sc, e1, q⟩ := key σ H Q h
    have hz : as = .nil := by
      cases as with
      | nil => rfl
      | cons c r => simp [lenA] at hl
    subst hz
    simp only [evA] at e1
    cases e1
    exact q [] H al Step.refl sc.t.up .nil
  | cons x es =>
    have hs' := Bool.and_eq_true_iff.mp hs
    exact PE.imp (pe_call (p := p) (pos := pos) G hr hg hm hk hb hv pass0 ha hd (star_of hs'.1 _) (stars_plain _ _ hs'.2)) key
end
end Ev

end
section
set_option Elab.async false
set_option linter.all false
set_option maxRecDepth 100000
set_option maxHeartbeats 2000000
namespace Ev
open PySem L2
/-! ### lists and tuples alike -/
def SqK (k : Bool) (K : PySem.W.Frag) (H : Hp) (a : Addr) (xs : List V) : Prop := match k with
  | true => SqL K H a xs
  | false => SqT K H a xs
def IsK (k : Bool) (h : Heap) (a : Addr) (its : Array Value) : Prop := match k with
  | true => h.IsList a its
  | false => h.IsTuple a its
def ItK (k : Bool) (h : Heap) (it a : Addr) (i : Nat) : Prop := match k with
  | true => h.IsListIter it a i
  | false => h.IsTupleIter it a i
def oK (k : Bool) (a : Addr) : Obj := match k with
  | true => { cls := .type "list_iterator", data := .fields #[.ref a, .int 0 0] }
  | false => { cls := .type "tuple_iterator", data := .fields #[.ref a, .int 0 0] }
section
variable {X : Cx} {pins : List (Addr × Obj)} {σ : L2.St} {H : Hp} {s : Shared} {a it : Addr} {xs ys : List V} {k : Bool} {h h' : Heap} {its : Array Value} {i : Nat}
theorem SqK.of (I : Inv X pins σ H s) (q : SqK k X.K H a xs) : ∃ its : List Value, Vals xs its ∧ IsK k s.heap a its.toArray ∧ xs.length ≤ sizeLine := by
  cases k with
  | true => obtain ⟨its, rv, p, hz⟩ := I.list q; exact ⟨its, rv, p.isList, hz⟩
  | false => obtain ⟨its, rv, p, hz⟩ := I.tuple q; exact ⟨its, rv, p, hz⟩
theorem SqK.inj (I : Inv X pins σ H s) (q : SqK k X.K H a xs) (q' : SqK k X.K H a ys) : xs = ys := by
  cases k with
  | true => exact I.list_inj q q'
  | false => exact I.tuple_inj q q'
theorem IsK.lt (q : IsK k h a its) : a < h.objs.size := by
  cases k with
  | true => obtain ⟨o, e, _⟩ := q; exact Heap.lt_size e
  | false => obtain ⟨o, e, _⟩ := q; exact Heap.lt_size e
theorem ItK.live (q : ItK k h it a i) : ∃ o, h.get? it = some o ∧ ∀ v, o.data ≠ .cell v := by
  cases k with
  | true => obtain ⟨o, e, _, d⟩ := q; exact ⟨o, e, fun v z => by rw [d] at z; cases z⟩
  | false => obtain ⟨o, e, _, d⟩ := q; exact ⟨o, e, fun v z => by rw [d] at z; cases z⟩
theorem ItK.at (q : ItK k h it a i) (e : ∀ o, h.get? it = some o → h'.get? it = some o) : ItK k h' it a i := by
  cases k with
  | true => exact Heap.IsListIter.at q e
  | false => exact Heap.IsTupleIter.at q e
theorem ItK.new : ItK k (h.push (oK k a)) h.objs.size a 0 := by
  cases k with
  | true => exact ⟨_, Heap.get?_push_size _ rfl, rfl, rfl⟩
  | false => exact ⟨_, Heap.get?_push_size _ rfl, rfl, rfl⟩
theorem ItK.of_new (e : h.get? it = some (oK k a)) : ItK k h it a 0 := by
  cases k with
  | true => exact ⟨_, e, rfl, rfl⟩
  | false => exact ⟨_, e, rfl, rfl⟩
theorem drawsK {P : Program} {w : World} {A : Around} (k : Bool) (hh : A.handled = none) (it a : Addr) (hne : a ≠ it) (its : Array Value) : Draws P w A it [it, a] its.size (fun i v => its[i]? = some v) (fun i h => ItK k h it a i ∧ IsK k h a its) := by
  cases k with
  | true => exact Draws.list hh it a hne its
  | false => exact Draws.tuple hh it a hne its
theorem beginsK (k : Bool) (a : Addr) (its : Array Value) : Begins (.ref a) (oK k a) fun h => IsK k h a its := by
  cases k with
  | true => exact begins_list a its
  | false => exact begins_tuple a its
end

/-! ### a source -/
structure Src (K : PySem.W.Frag) (m : Addr → Prop) (al : List Addr) (md : Mo) (H : Hp) (us : List U) (k : Bool) (a : Addr) (vs : List V) : Prop where
  sh : Shs K H m al us vs
  sq : ∀ H2, PP m al md H H2 → SqK k K H2 a vs
section
variable {K : PySem.W.Frag} {m : Addr → Prop} {al : List Addr} {md : Mo} {H H2 : Hp} {us : List U} {k : Bool} {a : Addr} {vs : List V} {u : U} {v : V}
theorem PP.refl : PP m al md H H := by cases md <;> exact fun _ _ e _ => e
theorem PP.at (sb : ∀ c ∈ al, m c) (p : PP m al md H H2) {b : Addr} {o : HO} (e : H b = some o) (n : ¬ m b) : H2 b = some o := by
  cases md with
  | esc => exact p b o e n
  | brw => exact p b o e fun z => n (sb b z)
  | tst => exact p b o e fun z => n (sb b z)
theorem Sh.src (sb : ∀ c ∈ al, m c) (h : Sh K H m al u v) (e : items u = some us) : ∃ k a vs, v = .ref a ∧ Src K m al md H us k a vs := by
  cases h with
  | non => cases e
  | bl b => cases e
  | int i => cases e
  | str x => cases e
  | tup h1 h2 h3 => cases e; exact ⟨false, _, _, rfl, h3, fun H2 p => sqt_of (p.at sb h1 h2)⟩
  | tupK h1 h2 h4 h3 => cases e; exact ⟨false, _, _, rfl, h3, fun H2 p => sqt_k h1 h2 h4⟩
  | lst h1 h2 h3 => cases e; exact ⟨true, _, _, rfl, h3, fun H2 p => SqL.of (p.at sb h1 h2)⟩
  | lstF h1 h2 h3 => cases e; exact ⟨true, _, _, rfl, h3, fun H2 p => .inl (.inr ⟨_, p.at sb h1 h2⟩)⟩
  | lstK h1 h2 h4 h3 => cases e; exact ⟨true, _, _, rfl, h3, fun H2 p => LstAt.sq (.inr (.inr ⟨_, _, h1, h2, h4⟩))⟩
  | ref h1 => cases e
  | dct h0 h1 h2 h3 => cases e
theorem BR.src (sb : ∀ c ∈ al, m c) (hm : md ≠ .esc) (h : BR K H m al u v) (e : items u = some us) : ∃ k a vs, v = .ref a ∧ Src K m al md H us k a vs := by
  cases h with
  | sh h => exact h.src sb e
  | own h1 h2 h3 =>
    cases e
    refine ⟨true, _, _, rfl, h3, fun H2 p => SqL.of ?_⟩
    cases md with
    | esc => exact absurd rfl hm
    | brw => exact p _ _ h1 h2
    | tst => exact p _ _ h1 h2
def Itk (k : Bool) (K : PySem.W.Frag) (a : Addr) : L2.It := match k with
  | true => Itl K a
  | false => Itt K a
theorem Src.yl (S : Src K m al md H us k a vs) : Yl K m al md H (Itk k K a) us := by
  have hl := S.sh.length
  have key : ∀ i u, us[i]? = some u → ∃ v, vs[i]? = some v ∧ Sh K H m al u v := fun i u e => S.sh.nth e
  cases k with
  | true =>
    refine ⟨fun i H2 p hi => ⟨vs, vs[i]'(by omega), S.sq H2 p, List.getElem?_eq_getElem (by omega)⟩, fun H2 p => ⟨vs, S.sq H2 p, by omega⟩, fun i H2 x H3 u p e y => ?_⟩
    obtain ⟨v, e1, r⟩ := key i u e
    have e2 := y.2 vs (S.sq H2 p)
    rw [e1] at e2
    cases e2
    exact .old y.1 r
  | false =>
    refine ⟨fun i H2 p hi => ⟨vs, vs[i]'(by omega), S.sq H2 p, List.getElem?_eq_getElem (by omega)⟩, fun H2 p => ⟨vs, S.sq H2 p, by omega⟩, fun i H2 x H3 u p e y => ?_⟩
    obtain ⟨v, e1, r⟩ := key i u e
    have e2 := y.2 vs (S.sq H2 p)
    rw [e1] at e2
    cases e2
    exact .old y.1 r
end
section
variable {X : Cx} {tg : Expr}
open PySem.Spec PyProof.Rows
def iSeq (K : PySem.W.Frag) (tl : TE) : TI := fun σ H R => tl σ H fun x H1 => ∃ k a xs, x = .ref a ∧ SqK k K H1 a xs ∧ R (Itk k K a) H1
theorem pi_seq {l : Expr} {tl : TE} (hl : PE X l tl) : PI X tg l (iSeq X.K tl) := by
  refine ⟨fun pins s σ H R I h => ?_⟩
  refine thn (hl.run pins s σ H _ I h) fun v s1 ⟨x, H1, I1, r1, q1⟩ => ?_
  obtain ⟨k, a, xs, e, hq, q⟩ := q1
  subst e
  cases r1
  obtain ⟨its, rv, p, hz⟩ := hq.of I1
  have hf : ∀ b ∈ [s1.heap.objs.size], FpOk X pins H1 b := fun b hb => by
    have e : b = s1.heap.objs.size := by simpa using hb
    subst e
    exact I1.fpOk (Nat.le_refl _) (I1.hok.fresh (Nat.le_refl _))
  cases k with
  | true => exact wpAny_pyIter_list p ⟨s1.heap.objs.size, [s1.heap.objs.size], _, _, H1, rfl, I1.kept (t' := s1.toks) fun b o e => Heap.get?_push_of_some _ e, turn_list a _, ⟨_, Heap.get?_push_size _ rfl, rfl, rfl⟩, hf, q⟩
  | false => exact wpAny_pyIter_tuple p ⟨s1.heap.objs.size, [s1.heap.objs.size], _, _, H1, rfl, I1.kept (t' := s1.toks) fun b o e => Heap.get?_push_of_some _ e, turn_tuple a _, ⟨_, Heap.get?_push_size _ rfl, rfl, rfl⟩, hf, q⟩

/-! ### enumerate -/
theorem meets_enum1 {v : Value} {o : Obj} {H : Heap → Prop} (B : Begins v o H) :
    Meets (Builtin.«enumerate.__new__» ⟨[.type "enumerate", v], []⟩) (fun _ R s => H s.heap ∧
      R (.ok (.ret (.ref (s.heap.push o).objs.size))) { s with heap := (s.heap.push o).push { cls := .type "enumerate", data := .fields #[.none, .bool false, .ref s.heap.objs.size, rawInt 0, .none, .none] } }) :=
  .of_wp fun prog w A R s h => by
    obtain ⟨hp, g, d, tk, os⟩ := s; obtain ⟨h1, h⟩ := h
    have hsub := sub_enumerate
    have q1 : ∀ {A' : Around} {E : Value → Shared → Prop} {Q : Value → Shared → Prop}, Q (.ref hp.objs.size) ⟨hp.push o, g, d, tk, os⟩ → wpAny (model prog w) A' (pyIter v) Q E ⟨hp, g, d, tk, os⟩ :=
      fun q => B.iter prog w _ _ ⟨hp, g, d, tk, os⟩ _ h1 q
    wp_walk using q1
    refine wpAny_stack_any fun st => wpAny_pure ?_
    split
    · rename_i c _ _ _ _ _
      cases (c == Value.type "enumerate")
      · wp_walk using q1
        exact ⟨_, rfl, h⟩
      · wp_walk using q1
        exact ⟨_, rfl, h⟩
    · wp_walk using q1
      exact ⟨_, rfl, h⟩
theorem enum_begins1 {P : Program} {w : World} {A : Around} {E : Value → Shared → Prop} {s : Shared} {v : Value} {o : Obj} {H : Heap → Prop} {Q : Value → Shared → Prop} (B : Begins v o H) (h1 : H s.heap)
    (h : ∀ h', IsEnum h' (s.heap.objs.size + 1) s.heap.objs.size 0 .none → h'.get? s.heap.objs.size = some o → h'.objs.size = s.heap.objs.size + 2 →
      (∀ b o, s.heap.get? b = some o → h'.get? b = some o) → Q (.ref (s.heap.objs.size + 1)) { s with heap := h' }) :
    wpAny (model P w) A (call (.type "enumerate") [v]) Q E s := by
  refine callType_new F.called_enumerate (by decide) (F.typeCall_enumerate_1 _) (F.newCall_enumerate_1 _) (fun obj => F.args_object_init_2 obj _) F.entry_enumerate_new
    (meets_enum1 B) ⟨h1, ?_⟩
  have hz : (s.heap.push o).objs.size = s.heap.objs.size + 1 := Heap.size_push ..
  show _ ∧ _
  rw [hz]
  have he : IsEnum ((s.heap.push o).push { cls := .type "enumerate", data := .fields #[.none, .bool false, .ref s.heap.objs.size, rawInt 0, .none, .none] }) (s.heap.objs.size + 1) s.heap.objs.size 0 .none := by
    have := Heap.get?_push_size (s.heap.push o) (o := { cls := .type "enumerate", data := .fields #[.none, .bool false, .ref s.heap.objs.size, rawInt 0, .none, .none] }) rfl
    rw [hz] at this; exact this
  refine ⟨⟨_, he, rfl⟩, h _ he (Heap.get?_push_of_some _ (Heap.get?_push_size _ B.free)) (by rw [Heap.size_push, hz]) fun b o x => Heap.get?_push_of_some _ (Heap.get?_push_of_some _ x)⟩
/-- the row at a, each item in a new pair -/
def Iek (k : Bool) (K : PySem.W.Frag) (a : Addr) : L2.It :=
  ⟨fun i H => ∃ (xs : List V) (x : V), SqK k K H a xs ∧ xs[i]? = some x, fun i H v H' => ∃ T x its, v = .ref T ∧ H T = none ∧ H' = upd H T (tupO its [.int (i : Nat), x]) ∧ ∀ xs, SqK k K H a xs → xs[i]? = some x, fun i H => ∃ xs : List V, SqK k K H a xs ∧ xs.length = i⟩
theorem turn_enumK {P : Program} {w : World} {K : PySem.W.Frag} {elts : List Expr} {kk : Nat} {tpos : Pos} (k : Bool) (a e it : Addr) :
    Turn P w K (.Tuple elts kk tpos) (Iek k K a) [e, it] e (fun i h => (∃ old, IsEnum h e it ((i : Nat) : Int) old) ∧ ItK k h it a i ∧ e ≠ it ∧ e ≠ a ∧ a ≠ it) where
  mem := by simp
  obj := fun i h st b hb => by
    obtain ⟨⟨old, he⟩, hi, _⟩ := st
    have e' : b = e ∨ b = it := by simpa using hb
    rcases e' with z | z
    · rw [z]; exact ⟨_, he, fun v q => nomatch q⟩
    · rw [z]; exact hi.live
  keep := fun i h h' st kp => let ⟨⟨old, he⟩, hi, hne⟩ := st; ⟨⟨old, kp e (by simp) _ he⟩, hi.at fun o q => kp it (by simp) o q, hne⟩
  item := by
    intro X hP hw hK hc i pins s σ H E I hf st hg
    subst hP hw hK
    obtain ⟨⟨old, he⟩, hit, hne, hea, hai⟩ := st
    obtain ⟨xs, x, hq, hx⟩ := hg
    obtain ⟨its, rv, p, hz⟩ := hq.of I
    obtain ⟨u, hu, ru⟩ := rv.get hx
    have hel : e < s.heap.objs.size := Heap.lt_size he
    have hil : it < s.heap.objs.size := by obtain ⟨_, q, _⟩ := hit.live; exact Heap.lt_size q
    have hlt : i < its.toArray.size := by
      have := (List.getElem?_eq_some_iff.mp hu).1
      simpa using this
    refine wpAny_pyNext_enum_itemD (drawsK k (by rw [Around.in1_handled]; exact I.ok.hd hc) it a hai its.toArray) he ⟨hit, p⟩ hlt hne (by simp [hne, hea]) fun u' h' tk hu' ho hit' hT hsz hk => ?_
    have eu : u' = u := by
      have h1 : its.toArray[i]? = some u := by simpa using hu
      rw [h1] at hu'; cases hu'; rfl
    subst eu
    refine ⟨_, rfl, wpAny_letOwnedTupleGo_enum (s := { s with heap := h', toks := tk + 1 }) ho fun h'' he' sb => ?_⟩
    have hT2 : h''.get? s.heap.objs.size = some { cls := .type "tuple", data := .seq #[.int i tk, u'] } := (sb.2 _ (Nat.ne_of_gt hel)).trans hT
    have new : ObjOk X.prog X.w (upd H s.heap.objs.size (tupO [.int i tk, u'] [.int (i : Nat), x])) h'' s.heap.objs.size (tupO [.int i tk, u'] [.int (i : Nat), x]) :=
      ⟨hT2, by show 2 ≤ sizeLine; decide, [.int i tk, u'], .cons ⟨_, rfl⟩ (.cons ru .nil), ⟨_, hT2, rfl, _, rfl⟩⟩
    have I1 : Inv X pins σ (upd H s.heap.objs.size (tupO [.int i tk, u'] [.int (i : Nat), x])) { s with heap := h'', toks := tk + 1 } :=
      I.turnedNew (ch := [e, it]) (fun b ob hb q => (sb.2 b (fun z => hb (by simp [z]))).trans (hk b ob (fun z => hb (by simp [z])) (fun z => hb (by simp [z])) q)) hf (Nat.le_refl _) new
    refine ⟨.ref s.heap.objs.size, _, I1, rfl, ⟨_, x, _, rfl, I.hok.fresh (Nat.le_refl _), rfl, fun ys hy => by rw [hy.inj I hq]; exact hx⟩, ⟨⟨u', ?_⟩, hit'.1.at fun o q => (sb.2 it (Ne.symm hne)).trans q, hne, hea, hai⟩, fun b hb => ?_⟩
    · have e1 : ((i + 1 : Nat) : Int) = (i : Int) + 1 := by omega
      rw [e1]; exact he'
    · have hb' : b < s.heap.objs.size := by
        have e' : b = e ∨ b = it := by simpa using hb
        rcases e' with z | z
        · rw [z]; exact hel
        · rw [z]; exact hil
      rw [upd_ne (Nat.ne_of_lt hb')]
      exact (hf b hb).1
  done := by
    intro X hP hw hK hc i pins s σ H E I hf st hg
    subst hP hw hK
    obtain ⟨⟨old, he⟩, hit, hne, hea, hai⟩ := st
    obtain ⟨xs, hq, hx⟩ := hg
    obtain ⟨its, rv, p, hz⟩ := hq.of I
    obtain ⟨f0, f1, f2, f3, f4, f5⟩ := hf it (by simp)
    have hl := rv.length
    have hn : its.toArray.size = i := by simp; omega
    refine wpAny_pyNext_enum_endD (drawsK k (by rw [Around.in1_handled]; exact I.ok.hd hc) it a hai its.toArray) he (by rw [hn]; exact ⟨hit, p⟩) fun h' eb => ⟨rfl, I.turned (t' := s.toks) (fun b o hb q => eb b o hb q) f0 f1 f3 f4 f5⟩
  self := fun A i s Q E st h => let ⟨⟨_, he⟩, _⟩ := st; wpAny_pyIter_enum he h
def iEnk (K : PySem.W.Frag) (ta : TA) : TI := fun σ H R => ta σ H fun vs H1 => ∃ k a xs, vs = [.ref a] ∧ SqK k K H1 a xs ∧ R (Iek k K a) H1
theorem pi_enk {e : Expr} {ta : TA} {p pos tpos : Pos} {elts : List Expr} {kk : Nat} (hg : Gl X "enumerate") (hm : X.mg "enumerate" = none) (ha : PA X [e] ta) (hs : starEach [e] X.env = [(false, eval e X.env)] := by rfl) :
    PI X (.Tuple elts kk tpos) (.Call (.Name "enumerate" p) [e] [] pos) (iEnk X.K ta) := by
  refine ⟨fun pins s σ H R I h => ?_⟩
  refine Call_ (ld_blt I hg hm boot_enumerate (PyProof.Rows.callWith_type1 (thn (ha.run pos pins s σ H _ I h) fun us s1 ⟨vs, H1, I1, r1, q1⟩ => ?_) hs rfl))
  obtain ⟨k, a, xs, ex, hq, q⟩ := q1
  subst ex
  cases r1 with
  | cons r rr =>
    cases rr
    cases r
    obtain ⟨its, rv, p', hz⟩ := hq.of I1
    have hal := p'.lt
    refine enum_begins1 (beginsK k a its.toArray) p' fun h' he hit hsz hk => wpAny_pyIter_enum he ?_
    have I2 : Inv X pins σ H1 { s1 with heap := h' } := I1.kept (t' := s1.toks) hk
    refine ⟨s1.heap.objs.size + 1, [s1.heap.objs.size + 1, s1.heap.objs.size], _, _, H1, rfl, I2, turn_enumK k a (s1.heap.objs.size + 1) s1.heap.objs.size, ⟨⟨.none, he⟩, ItK.of_new hit, Nat.succ_ne_self _, Nat.ne_of_gt (Nat.lt_succ_of_lt hal), Nat.ne_of_lt hal⟩, fun b hb => ?_, q⟩
    have e' : b = s1.heap.objs.size + 1 ∨ b = s1.heap.objs.size := by simpa using hb
    have hle : s1.heap.objs.size ≤ b := by
      rcases e' with z | z
      · rw [z]; exact Nat.le_add_right _ _
      · rw [z]; exact Nat.le_refl _
    exact I1.fpOk hle (I1.hok.fresh hle)
end
end Ev

end
section
set_option Elab.async false
set_option linter.all false
set_option maxRecDepth 100000
set_option maxHeartbeats 2000000
namespace Ev
open PySem L2
section
variable {K : PySem.W.Frag} {m : Addr → Prop} {al : List Addr} {md : Mo} {H H2 : Hp} {us : List U} {k : Bool} {a : Addr} {vs : List V} {u : U} {v : V}
theorem enumU_get : ∀ (us : List U) (n i : Nat) (w : U), (enumU n us)[i]? = some w → ∃ u, us[i]? = some u ∧ w = .tup [.int ((n + i : Nat) : Int), u]
  | [], n, i, w, e => by simp [enumU] at e
  | x :: xs, n, i, w, e => by
    cases i with
    | zero => simp [enumU] at e; exact ⟨x, rfl, by rw [← e]; rfl⟩
    | succ i =>
      simp only [enumU, List.getElem?_cons_succ] at e
      obtain ⟨u, e1, e2⟩ := enumU_get xs (n + 1) i w e
      refine ⟨u, by simpa using e1, ?_⟩
      rw [e2, show n + 1 + i = n + (i + 1) from by omega]
theorem enumU_len : ∀ (us : List U) (n : Nat), (enumU n us).length = us.length
  | [], _ => rfl
  | x :: xs, n => by simp [enumU, enumU_len xs]
theorem Src.yle (S : Src K m al md H us k a vs) : Yl K m al md H (Iek k K a) (enumU 0 us) := by
  have hl := S.sh.length
  refine ⟨fun i H2 p hi => ?_, fun H2 p => ⟨vs, S.sq H2 p, by rw [enumU_len]; omega⟩, fun i H2 x H3 u p e y => ?_⟩
  · rw [enumU_len] at hi
    exact ⟨vs, vs[i]'(by omega), S.sq H2 p, List.getElem?_eq_getElem (by omega)⟩
  · obtain ⟨u1, e1, rfl⟩ := enumU_get us 0 i u e
    obtain ⟨v, e2, r⟩ := S.sh.nth e1
    obtain ⟨T, x1, tits, rfl, hT, rfl, hx⟩ := y
    have e3 := hx vs (S.sq H2 p)
    rw [e2] at e3
    cases e3
    refine .new hT rfl (.cons ?_ (.cons r .nil))
    rw [Nat.zero_add]
    exact .int _
theorem rngU_get {lo : Int} {n i : Nat} {w : U} (e : (rngU lo n 1)[i]? = some w) : w = .int (lo + i) := by
  unfold rngU at e
  rw [List.getElem?_map] at e
  cases q : (List.range n)[i]? with
  | none => rw [q] at e; cases e
  | some j =>
    rw [q] at e
    have hj := List.getElem?_eq_some_iff.mp q
    obtain ⟨h1, h2⟩ := hj
    rw [List.getElem_range] at h2
    subst h2
    have e' := Option.some.inj e
    rw [← e']
    show U.int (lo + (i : Int) * 1) = _
    rw [Int.mul_one]
theorem rng_yl {lo : Int} {n : Nat} : Yl K m al md H (Itr lo n) (rngU lo n 1) := by
  have hl : (rngU lo n 1).length = n := by unfold rngU; simp
  refine ⟨fun i H2 p hi => by rw [hl] at hi; exact hi, fun H2 p => by rw [hl]; exact Nat.le_refl _, fun i H2 x H3 u p e y => ?_⟩
  rw [rngU_get e]
  obtain ⟨h1, h2⟩ := y
  rw [h2]
  exact .old h1 (.int _)
end
section
variable {X : Cx} {F : CallF} {KW : List (List Nat)} {a b c : C} {as : A} {x y z tg : Expr} {es : List Expr} {pos p : Pos}
/-- what one way asks of an iterator's term -/
def GoalI (F : CallF) (KW : List (List Nat)) (X : Cx) (it : Ev.It) (tg e : Expr) (md : Mo) : Prop := PI X tg e (tI F KW X.K md it)
theorem goal_src {md : Mo} (g : Goal F KW X a x md) (hm : md ≠ .tst) : ∃ te : TE, PE X x te ∧ ∀ {ρ : Env} {s s' : Sto} {m : Addr → Prop} {al : List Addr} {σ : L2.St} {H : Hp} {ra : Rv} {Q : VK}, SC X.K m al s ρ σ H → evE F KW a ρ s = .ok ra s' →
    (∀ v H' al', Step H H' al al' → ST X.K (mU m al') al' s' H' → (∀ us, items ra.u = some us → ∃ k q vs, v = .ref q ∧ Src X.K (mU m al') al' md H' us k q vs) → Q v H') → te σ H Q := by
  cases md with
  | tst => exact absurd rfl hm
  | esc => exact ⟨_, g, fun sc e q => ⟨_, _, _, _, _, _, sc, e, fun v H' al' st t vr => q v H' al' st t fun us hi => vr.sh.src t.sub hi⟩⟩
  | brw => exact ⟨_, g, fun sc e q => ⟨_, _, _, _, _, _, sc, e, fun v H' al' st t br => q v H' al' st t fun us hi => br.src t.sub (fun z => nomatch z) hi⟩⟩
theorem snd_seq {md : Mo} (hm : md ≠ .tst) (g : Goal F KW X a x md) : GoalI F KW X (.seq a) tg x md := by
  obtain ⟨te, pe, h⟩ := goal_src g hm
  refine PI.imp (pi_seq pe) fun σ H R ⟨ρ, s, m, al, us, s', sc, e, q⟩ => ?_
  simp only [evI] at e
  obtain ⟨ra, s1, e1, e⟩ := bind_ok e
  obtain ⟨e2, rfl⟩ := ofO_ok e
  refine h sc e1 fun v H' al' st t src => ?_
  obtain ⟨k, a, vs, rfl, S⟩ := src us e2
  exact ⟨k, a, vs, rfl, S.sq H' PP.refl, q _ H' al' st t S.yl⟩
theorem snd_enum {md : Mo} {elts : List Expr} {kk : Nat} {tpos : Pos} (hm : md ≠ .tst) (hg : Gl X "enumerate") (hmg : X.mg "enumerate" = none) (hs : noStar x = true) (g : Goal F KW X a x md) :
    GoalI F KW X (.enum a) (.Tuple elts kk tpos) (.Call (.Name "enumerate" p) [x] [] pos) md := by
  obtain ⟨te, pe, h⟩ := goal_src g hm
  refine PI.imp (pi_enk hg hmg (pa_cons pe pa_nil (star_of hs _)) (star_of hs _)) fun σ H R ⟨ρ, s, m, al, us, s', sc, e, q⟩ => ?_
  simp only [evI] at e
  obtain ⟨ra, s1, e1, e⟩ := bind_ok e
  obtain ⟨ys, e2, e⟩ := bindO_ok e
  cases e
  refine h sc e1 fun v H' al' st t src => ?_
  obtain ⟨k, a, vs, rfl, S⟩ := src ys e2
  exact ⟨k, a, vs, rfl, S.sq H' PP.refl, q _ H' al' st t S.yle⟩
theorem snd_rng1 {md : Mo} (hg : Gl X "range") (hmg : X.mg "range" = none) (hs : noStar x = true) (g : PE X x (tB F KW X.K a)) : GoalI F KW X (.rng1 a) tg (.Call (.Name "range" p) [x] [] pos) md :=
  PI.imp (pi_range1 hg hmg (pa_cons g pa_nil (star_of hs _)) (star_of hs _)) fun σ H R ⟨ρ, s, m, al, us, s', sc, e, q⟩ => by
    simp only [evI] at e
    obtain ⟨ra, s1, e1, e⟩ := bind_ok e
    obtain ⟨u, f⟩ := ra
    obtain ⟨n, hn⟩ : ∃ n, u = .int n := by
      cases u <;> first | exact ⟨_, rfl⟩ | (cases e; done)
    subst hn
    simp only at e
    by_cases c : (decide (n ≤ 1000000) && decide (-1000000 ≤ n)) = true
    · rw [if_pos c] at e
      cases e
      have c := Bool.and_eq_true_iff.mp c
      have c1 : n ≤ 1000000 := of_decide_eq_true c.1
      have c2 : -1000000 ≤ n := of_decide_eq_true c.2
      refine ⟨ρ, s, m, al, _, _, sc, e1, fun v H1 al1 st t b => ?_⟩
      cases b.int
      exact ⟨n, rfl, by omega, by omega, q _ H1 al1 st t rng_yl⟩
    · rw [if_neg c] at e; cases e
theorem snd_rng2 {md : Mo} (hg : Gl X "range") (hmg : X.mg "range" = none) (hs : noStar x = true) (hs2 : noStar y = true) (g : PE X x (tB F KW X.K a)) (g2 : PE X y (tB F KW X.K b)) : GoalI F KW X (.rng2 a b) tg (.Call (.Name "range" p) [x, y] [] pos) md :=
  PI.imp (pi_range2 hg hmg (pa_cons g (pa_cons g2 pa_nil (star_of hs2 _)) (star_of hs _)) (by rw [star_of hs, star_of hs2]; rfl) (by rw [star_of hs2]; rfl)) fun σ H R ⟨ρ, s, m, al, us, s', sc, e, q⟩ => by
    simp only [evI] at e
    obtain ⟨ra, s1, e1, e⟩ := bind_ok e
    obtain ⟨rb, s2, e2, e⟩ := bind_ok e
    obtain ⟨u, f⟩ := ra
    obtain ⟨u2, f2⟩ := rb
    obtain ⟨i, hn⟩ : ∃ n, u = .int n := by
      cases u <;> first | exact ⟨_, rfl⟩ | (cases e; done)
    subst hn
    obtain ⟨n, hn⟩ : ∃ n, u2 = .int n := by
      cases u2 <;> first | exact ⟨_, rfl⟩ | (cases e; done)
    subst hn
    simp only at e
    by_cases c : (decide (n ≤ 1000000) && decide (-1000000 ≤ n) && decide (i ≤ 1000000) && decide (-1000000 ≤ i)) = true
    · rw [if_pos c] at e
      cases e
      have c := Bool.and_eq_true_iff.mp c
      have d := Bool.and_eq_true_iff.mp c.1
      have d' := Bool.and_eq_true_iff.mp d.1
      have c1 : n ≤ 1000000 := of_decide_eq_true d'.1
      have c2 : -1000000 ≤ n := of_decide_eq_true d'.2
      have c3 : i ≤ 1000000 := of_decide_eq_true d.2
      have c4 : -1000000 ≤ i := of_decide_eq_true c.2
      refine ⟨ρ, s, m, al, _, _, sc, e1, fun v H1 al1 st t b => ⟨ρ, s1, _, al1, _, _, sc.step st t, e2, fun v2 H2 al2 st2 t2 b2 => ?_⟩⟩
      cases b.int
      cases b2.int
      refine ⟨i, n, rfl, ⟨by omega, by omega, by omega, by omega⟩, q _ H2 al2 (st.trans st2) t2.mm rng_yl⟩
    · rw [if_neg c] at e; cases e
end
end Ev

end
section
set_option Elab.async false
set_option linter.all false
set_option maxRecDepth 100000
set_option maxHeartbeats 4000000
namespace Ev
open PySem L2
section
open PySem.Spec PyProof.Rows
theorem zip_sep (N a b : Nat) (la : a < N) (lb : b < N) : ZipSep2 (N + 4) (N + 2) (N + 3) N (N + 1) [N, a] [N + 1, b] := by
  have no : ∀ (x y c : Nat), x ≠ y → x ≠ c → (x : Addr) ∉ [(y : Addr), c] := fun x y c h1 h2 h => by
    rcases List.mem_cons.mp h with z | z
    · exact h1 z
    · exact h2 (List.mem_singleton.mp z)
  have ne : ∀ x y : Nat, x ≠ y → (x : Addr) ≠ y := fun x y h => h
  exact ⟨ne _ _ (by omega), ne _ _ (by omega), ne _ _ (by omega), ne _ _ (by omega), List.mem_cons_self, no _ _ _ (by omega) (by omega), no _ _ _ (by omega) (by omega), ne _ _ (by omega), List.mem_cons_self, no _ _ _ (by omega) (by omega), no _ _ _ (by omega) (by omega), no _ _ _ (by omega) (by omega), no _ _ _ (by omega) (by omega)⟩
/-- the rows at a and b, the items in new pairs -/
def Izk (k1 k2 : Bool) (K : PySem.W.Frag) (a b : Addr) : L2.It :=
  ⟨fun i H => ∃ (xs ys : List V) (x y : V), SqK k1 K H a xs ∧ SqK k2 K H b ys ∧ xs[i]? = some x ∧ ys[i]? = some y,
    fun i H v H' => ∃ T x y its, v = .ref T ∧ H T = none ∧ H' = upd H T (tupO its [x, y]) ∧ (∀ xs, SqK k1 K H a xs → xs[i]? = some x) ∧ ∀ ys, SqK k2 K H b ys → ys[i]? = some y,
    fun i H => ∃ xs ys : List V, SqK k1 K H a xs ∧ SqK k2 K H b ys ∧ i = min xs.length ys.length⟩
theorem turn_zipK {P : Program} {w : World} {K : PySem.W.Frag} {elts : List Expr} {kk : Nat} {tpos : Pos} (k1 k2 : Bool) {a b z TI TO i1 i2 : Addr} (S : ZipSep2 z TI TO i1 i2 [i1, a] [i2, b]) :
    Turn P w K (.Tuple elts kk tpos) (Izk k1 k2 K a b) [z, TI, TO, i1, i2] z (fun i h => IsZip h z TI TO .none ∧ IsTupOf2 h TI (.ref i1) (.ref i2) ∧ (∃ x y, IsTupOf2 h TO x y) ∧ ItK k1 h i1 a i ∧ ItK k2 h i2 b i ∧ a ≠ i1 ∧ b ≠ i2) where
  mem := by simp
  obj := fun i h st c hc => by
    obtain ⟨hz, hTI, ⟨x, y, hTO⟩, h1, h2, _⟩ := st
    have e' : c = z ∨ c = TI ∨ c = TO ∨ c = i1 ∨ c = i2 := by simpa using hc
    rcases e' with q | q | q | q | q
    · rw [q]; exact ⟨_, hz, fun v q => nomatch q⟩
    · rw [q]; exact ⟨_, hTI, fun v q => nomatch q⟩
    · rw [q]; exact ⟨_, hTO, fun v q => nomatch q⟩
    · rw [q]; exact h1.live
    · rw [q]; exact h2.live
  keep := fun i h h' st k => by
    obtain ⟨hz, hTI, ⟨x, y, hTO⟩, h1, h2, hn⟩ := st
    exact ⟨k z (by simp) _ hz, k TI (by simp) _ hTI, ⟨x, y, k TO (by simp) _ hTO⟩, h1.at fun o q => k i1 (by simp) o q, h2.at fun o q => k i2 (by simp) o q, hn⟩
  item := by
    intro X hP hw hK hc i pins s σ H E I hf st hg
    subst hP hw hK
    obtain ⟨hz, hTI, ⟨x0, y0, hTO⟩, h1, h2, na, nb⟩ := st
    obtain ⟨xs, ys, x, y, hqx, hqy, hx, hy⟩ := hg
    obtain ⟨its, rv, p, _⟩ := hqx.of I
    obtain ⟨its2, rv2, p2, _⟩ := hqy.of I
    obtain ⟨u, hu, ru⟩ := rv.get hx
    obtain ⟨u2, hu2, ru2⟩ := rv2.get hy
    have hzl : z < s.heap.objs.size := Heap.lt_size hz
    have hd := I.ok.hd hc
    have hlt1 : i < its.toArray.size := by have := (List.getElem?_eq_some_iff.mp hu).1; simpa using this
    have hlt2 : i < its2.toArray.size := by have := (List.getElem?_eq_some_iff.mp hu2).1; simpa using this
    refine wpAny_pyNext_zipD2_item S (drawsK k1 (by rw [Around.in1_handled]; exact hd) i1 a na its.toArray) (drawsK k2 (by rw [Around.in1_handled]; exact hd) i2 b nb its2.toArray) hz hTI hTO ⟨h1, p⟩ ⟨h2, p2⟩ hlt1 hlt2 fun x1 x2 h' tk y1 y2 z' TO' h1' h2' hT hsz hk => ?_
    have eu : x1 = u := by
      have e : its.toArray[i]? = some u := by simpa using hu
      rw [e] at y1; cases y1; rfl
    have eu2 : x2 = u2 := by
      have e : its2.toArray[i]? = some u2 := by simpa using hu2
      rw [e] at y2; cases y2; rfl
    subst eu eu2
    refine ⟨_, rfl, wpAny_letOwnedTupleGo_zip (s := { s with heap := h', toks := tk }) z' fun h'' z'' sb => ?_⟩
    have hT2 : h''.get? s.heap.objs.size = some { cls := .type "tuple", data := .seq #[x1, x2] } := (sb.2 _ (Nat.ne_of_gt hzl)).trans hT
    have new : ObjOk X.prog X.w (upd H s.heap.objs.size (tupO [x1, x2] [x, y])) h'' s.heap.objs.size (tupO [x1, x2] [x, y]) :=
      ⟨hT2, by show 2 ≤ sizeLine; decide, [x1, x2], .cons ru (.cons ru2 .nil), ⟨_, hT2, rfl, _, rfl⟩⟩
    have I1 : Inv X pins σ (upd H s.heap.objs.size (tupO [x1, x2] [x, y])) { s with heap := h'', toks := tk } :=
      I.turnedNew (t' := tk) (ch := [z, TI, TO, i1, i2]) (fun c o hb q => (sb.2 c (fun q' => hb (by simp [q']))).trans (hk c o (fun q' => hb (by simp [q'])) (fun q' => hb (by simp [q'])) (fun q' => hb (by simp [q'])) (fun q' => hb (by simp [q'])) q)) hf (Nat.le_refl _) new
    refine ⟨.ref s.heap.objs.size, _, I1, rfl, ⟨_, x, y, _, rfl, I.hok.fresh (Nat.le_refl _), rfl, fun l hl => by rw [hl.inj I hqx]; exact hx, fun l hl => by rw [hl.inj I hqy]; exact hy⟩, ⟨z'', ?_, ⟨x1, x2, ?_⟩, ?_, ?_, na, nb⟩, fun c hcm => ?_⟩
    · exact (sb.2 _ S.TIz).trans (hk _ _ S.TIz S.TITO S.TIi1 S.TIi2 hTI)
    · exact (sb.2 _ S.TOz).trans TO'
    · exact h1'.1.at fun o q => (sb.2 _ (Ne.symm S.zi1)).trans q
    · exact h2'.1.at fun o q => (sb.2 _ (Ne.symm S.zi2)).trans q
    · have hlt : c < s.heap.objs.size := by
        have e' : c = z ∨ c = TI ∨ c = TO ∨ c = i1 ∨ c = i2 := by simpa using hcm
        rcases e' with q | q | q | q | q
        · rw [q]; exact hzl
        · rw [q]; exact Heap.lt_size hTI
        · rw [q]; exact Heap.lt_size hTO
        · rw [q]; obtain ⟨_, e1, _⟩ := h1.live; exact Heap.lt_size e1
        · rw [q]; obtain ⟨_, e2, _⟩ := h2.live; exact Heap.lt_size e2
      rw [upd_ne (Nat.ne_of_lt hlt)]
      exact (hf c hcm).1
  done := by
    intro X hP hw hK hc i pins s σ H E I hf st hg
    subst hP hw hK
    obtain ⟨hz, hTI, ⟨x0, y0, hTO⟩, h1, h2, na, nb⟩ := st
    obtain ⟨xs, ys, hqx, hqy, hend⟩ := hg
    obtain ⟨its, rv, p, _⟩ := hqx.of I
    obtain ⟨its2, rv2, p2, _⟩ := hqy.of I
    have l1 := rv.length
    have l2 := rv2.length
    have hd := I.ok.hd hc
    have s1 : its.toArray.size = xs.length := by simp; omega
    have s2 : its2.toArray.size = ys.length := by simp; omega
    refine wpAny_pyNext_zipD2_end S (drawsK k1 (by rw [Around.in1_handled]; exact hd) i1 a na its.toArray) (drawsK k2 (by rw [Around.in1_handled]; exact hd) i2 b nb its2.toArray) hz hTI hTO ⟨h1, p⟩ ⟨h2, p2⟩ (by rw [s1]; omega) (by rw [s2]; omega) (by rw [s1, s2]; omega) fun h' tk hk => ⟨rfl, I.turnedL (t' := tk) (ch := [z, TI, TO, i1, i2]) (fun c o hb q =>
      hk c o (fun q' => hb (by simp [q'])) (fun q' => hb (by simp [q'])) (fun q' => hb (by simp [q'])) (fun q' => hb (by simp [q'])) q) hf⟩
  self := fun A i s Q E st h => wpAny_pyIter_zip st.1 h
def iZk (K : PySem.W.Frag) (ta : TA) : TI := fun σ H R => ta σ H fun vs H1 => ∃ k1 k2 a b xs ys, vs = [.ref a, .ref b] ∧ SqK k1 K H1 a xs ∧ SqK k2 K H1 b ys ∧ R (Izk k1 k2 K a b) H1
theorem pi_zk {X : Cx} {e e2 : Expr} {ta : TA} {p pos tpos : Pos} {elts : List Expr} {kk : Nat} (hg : Gl X "zip") (hm : X.mg "zip" = none) (ha : PA X [e, e2] ta)
    (hs : starEach [e, e2] X.env = (false, eval e X.env) :: starEach [e2] X.env) (hpl : (backTo pos (starEach [e2] X.env)).any (·.1) = false) :
    PI X (.Tuple elts kk tpos) (.Call (.Name "zip" p) [e, e2] [] pos) (iZk X.K ta) := by
  refine ⟨fun pins s σ H R I h => ?_⟩
  refine Call_ (ld_blt I hg hm PyProof.Rows.boot_zip (PyProof.Rows.callWith_type1 (thn (ha.run pos pins s σ H _ I h) fun us s1 ⟨vs, H1, I1, r1, q1⟩ => ?_) hs hpl))
  obtain ⟨k1, k2, a, b, xs, ys, ex, hqx, hqy, q⟩ := q1
  subst ex
  cases r1 with
  | cons r rr =>
    cases rr with
    | cons r' rr =>
      cases rr
      cases r
      cases r'
      obtain ⟨its, rv, p1, _⟩ := hqx.of I1
      obtain ⟨its2, rv2, p2, _⟩ := hqy.of I1
      have la := p1.lt
      have lb := p2.lt
      have fresh5 : ∀ c, c ∈ [s1.heap.objs.size + 4, s1.heap.objs.size + 2, s1.heap.objs.size + 3, s1.heap.objs.size, s1.heap.objs.size + 1] → FpOk X pins H1 c := fun c hcm => by
        have e' : c = s1.heap.objs.size + 4 ∨ c = s1.heap.objs.size + 2 ∨ c = s1.heap.objs.size + 3 ∨ c = s1.heap.objs.size ∨ c = s1.heap.objs.size + 1 := by simpa using hcm
        have hle : s1.heap.objs.size ≤ c := by
          rcases e' with z | z | z | z | z
          · rw [z]; exact Nat.le_add_right _ _
          · rw [z]; exact Nat.le_add_right _ _
          · rw [z]; exact Nat.le_add_right _ _
          · rw [z]; exact Nat.le_refl _
          · rw [z]; exact Nat.le_add_right _ _
        exact I1.fpOk hle (I1.hok.fresh hle)
      refine zip_begins2 (beginsK k1 a its.toArray) (beginsK k2 b its2.toArray) p1 p2 fun h' hz hTI hTO h1 h2 hsz hk => wpAny_pyIter_zip hz ?_
      have I2 : Inv X pins σ H1 { s1 with heap := h' } := I1.kept (t' := s1.toks) hk
      have S : ZipSep2 (s1.heap.objs.size + 4) (s1.heap.objs.size + 2) (s1.heap.objs.size + 3) s1.heap.objs.size (s1.heap.objs.size + 1) [s1.heap.objs.size, a] [s1.heap.objs.size + 1, b] := by
        exact zip_sep _ a b la lb
      exact ⟨s1.heap.objs.size + 4, [s1.heap.objs.size + 4, s1.heap.objs.size + 2, s1.heap.objs.size + 3, s1.heap.objs.size, s1.heap.objs.size + 1], _, _, H1, rfl, I2, turn_zipK k1 k2 S, ⟨hz, hTI, ⟨_, _, hTO⟩, ItK.of_new h1, ItK.of_new h2, Nat.ne_of_lt la, Nat.ne_of_lt (Nat.lt_succ_of_lt lb)⟩, fresh5, q⟩
end
section
variable {K : PySem.W.Frag} {m : Addr → Prop} {al : List Addr} {md : Mo} {H H2 : Hp}
theorem zipU_len : ∀ (us ws : List U), (zipU us ws).length = min us.length ws.length
  | [], ws => by simp [zipU]
  | _ :: _, [] => by simp [zipU]
  | x :: xs, y :: ys => by simp only [zipU, List.length_cons, zipU_len xs ys]; omega
theorem zipU_get : ∀ (us ws : List U) (i : Nat) (u : U), (zipU us ws)[i]? = some u → ∃ x y, us[i]? = some x ∧ ws[i]? = some y ∧ u = .tup [x, y]
  | [], ws, i, u, e => by simp [zipU] at e
  | _ :: _, [], i, u, e => by simp [zipU] at e
  | x :: xs, y :: ys, i, u, e => by
    cases i with
    | zero => simp [zipU] at e; exact ⟨x, y, rfl, rfl, e.symm⟩
    | succ i =>
      simp only [zipU, List.getElem?_cons_succ] at e
      obtain ⟨a, b, e1, e2, e3⟩ := zipU_get xs ys i u e
      exact ⟨a, b, by simpa using e1, by simpa using e2, e3⟩
theorem Src.ylz {us ws : List U} {k1 k2 : Bool} {a b : Addr} {vs zs : List V} (S : Src K m al md H us k1 a vs) (S2 : Src K m al md H ws k2 b zs) : Yl K m al md H (Izk k1 k2 K a b) (zipU us ws) := by
  have hl := S.sh.length
  have hl2 := S2.sh.length
  refine ⟨fun i H2 p hi => ?_, fun H2 p => ⟨vs, zs, S.sq H2 p, S2.sq H2 p, by rw [zipU_len]; omega⟩, fun i H2 x H3 u p e y => ?_⟩
  · rw [zipU_len] at hi
    exact ⟨vs, zs, vs[i]'(by omega), zs[i]'(by omega), S.sq H2 p, S2.sq H2 p, List.getElem?_eq_getElem (by omega), List.getElem?_eq_getElem (by omega)⟩
  · obtain ⟨u1, u2, e1, e2, rfl⟩ := zipU_get us ws i u e
    obtain ⟨v1, g1, r1⟩ := S.sh.nth e1
    obtain ⟨v2, g2, r2⟩ := S2.sh.nth e2
    obtain ⟨T, x1, y1, tits, rfl, hT, rfl, hx, hy⟩ := y
    have q1 := hx vs (S.sq H2 p)
    rw [g1] at q1
    cases q1
    have q2 := hy zs (S2.sq H2 p)
    rw [g2] at q2
    cases q2
    exact .new hT rfl (.cons r1 (.cons r2 .nil))
end
section
variable {X : Cx} {F : CallF} {KW : List (List Nat)} {a b c : C} {as : A} {x y z tg : Expr} {es : List Expr} {pos p : Pos}
theorem Src.step {K : PySem.W.Frag} {m : Addr → Prop} {al al1 : List Addr} {md : Mo} {H H1 : Hp} {us : List U} {k : Bool} {q : Addr} {vs : List V} (S : Src K m al md H us k q vs) (st : Step H H1 al al1) (sb : ∀ c ∈ al, m c) : Src K (mU m al1) al1 md H1 us k q vs := by
  refine ⟨S.sh.step st sb, fun H2 p => S.sq H2 ?_⟩
  cases md with
  | esc => exact fun b o e n => p b o (st.ext b o e fun z => n (sb b z)) (st.notm sb e n)
  | brw => exact fun b o e n => p b o (st.ext b o e n) (st.notin e n)
  | tst => exact fun b o e n => p b o (st.ext b o e n) (st.notin e n)
theorem Src.mm {K : PySem.W.Frag} {m : Addr → Prop} {al al1 : List Addr} {md : Mo} {H : Hp} {us : List U} {k : Bool} {q : Addr} {vs : List V} (S : Src K (mU (mU m al) al1) al1 md H us k q vs) : Src K (mU m al1) al1 md H us k q vs := by
  refine ⟨S.sh.weak fun _ z => mU_sub z, fun H2 p => S.sq H2 ?_⟩
  cases md with
  | esc => exact fun b o e n => p b o e fun z => n (mU_sub z)
  | brw => exact p
  | tst => exact p
theorem snd_zip2 {md : Mo} {elts : List Expr} {kk : Nat} {tpos : Pos} (hm : md ≠ .tst) (hg : Gl X "zip") (hmg : X.mg "zip" = none) (hs : noStar x = true) (hs2 : noStar y = true) (g : Goal F KW X a x md) (g2 : Goal F KW X b y md) :
    GoalI F KW X (.zip2 a b) (.Tuple elts kk tpos) (.Call (.Name "zip" p) [x, y] [] pos) md := by
  obtain ⟨te, pe, h⟩ := goal_src g hm
  obtain ⟨te2, pe2, h2⟩ := goal_src g2 hm
  refine PI.imp (pi_zk hg hmg (pa_cons pe (pa_cons pe2 pa_nil (star_of hs2 _)) (star_of hs _)) (star_of hs _) (by rw [star_of hs2]; rfl)) fun σ H R ⟨ρ, s, m, al, us, s', sc, e, q⟩ => ?_
  simp only [evI] at e
  obtain ⟨ra, s1, e1, e⟩ := bind_ok e
  obtain ⟨rb, s2, e2, e⟩ := bind_ok e
  obtain ⟨ys, e3, e⟩ := bindO_ok e
  obtain ⟨ws, e4, e⟩ := bindO_ok e
  cases e
  refine h sc e1 fun v H1 al1 st t src => h2 (sc.step st t) e2 fun v2 H2 al2 st2 t2 src2 => ?_
  obtain ⟨k, q1, vs, rfl, S⟩ := src ys e3
  obtain ⟨k2, q2, zs, rfl, S2⟩ := src2 ws e4
  have S' := (S.step st2 t.sub).mm
  have S2' := S2.mm
  exact ⟨k, k2, q1, q2, vs, zs, rfl, S'.sq H2 PP.refl, S2'.sq H2 PP.refl, q _ H2 al2 (st.trans st2) t2.mm (S'.ylz S2')⟩
end
end Ev

end
section
set_option Elab.async false
set_option linter.all false
set_option maxRecDepth 100000
set_option maxHeartbeats 4000000
namespace Ev
open PySem L2
/-! ### zip of any number of rows -/
abbrev IsZipF (h : Heap) (z TI TO : Nat) (f0 f1 : Value) : Prop := h.get? z = some { cls := .type "zip", dict := none, data := .fields #[f0, f1, .bool false, .ref TI, .ref TO], slots := #[] }
abbrev IsTupOf (h : Heap) (T : Nat) (vs : List Value) : Prop := h.get? T = some { cls := .type "tuple", data := .seq vs.toArray }
def Held (f0 f1 : Value) : Prop := (f0 = .none ∨ ∃ n : Nat, f0 = rawInt n) ∧ ∃ b, f1 = .bool b
theorem IsK.at {k : Bool} {h h' : Heap} {a : Addr} {its : Array Value} (q : IsK k h a its) (e : ∀ o, h.get? a = some o → h'.get? a = some o) : IsK k h' a its := by
  cases k with
  | true => exact Heap.IsList.at q e
  | false => exact Heap.IsTuple.at q e
/-- outside of what a zip's turn changes -/
def Out (N n b : Nat) : Prop := b < N ∨ b = N + n ∨ N + n + 3 ≤ b
section
open PySem.Spec PyProof.Rows
/-- the rows' items at place i -/
structure Its (h : Heap) (N : Nat) (ks : List (Bool × Addr)) (i : Nat) (xs : List Value) : Prop where
  len : xs.length = ks.length
  low : ∀ (j : Nat) p, ks[j]? = some p → (p.2 : Nat) < N
  at_ : ∀ (j : Nat) p, ks[j]? = some p → ∃ (its : List Value) (x : Value), IsK p.1 h p.2 its.toArray ∧ its[i]? = some x ∧ xs[j]? = some x
/-- within a turn, j items drawn -/
structure Mid (h h' : Heap) (N : Nat) (ks : List (Bool × Addr)) (i j : Nat) : Prop where
  sz : h'.objs.size = h.objs.size
  fr : ∀ (b : Nat) o, Out N ks.length b → h.get? b = some o → h'.get? b = some o
  dn : ∀ (l : Nat) p, l < j → ks[l]? = some p → ItK p.1 h' (N + l : Nat) p.2 (i + 1)
  td : ∀ (l : Nat) p, j ≤ l → ks[l]? = some p → ItK p.1 h' (N + l : Nat) p.2 i
theorem Mid.other {h h1 h2 : Heap} {N : Nat} {ks : List (Bool × Addr)} {i j : Nat} (M : Mid h h1 N ks i j) {c : Nat} (s : Heap.SameBut c h1 h2) (hc : ¬ Out N ks.length c) (hi : ∀ l, l < ks.length → c ≠ N + l) : Mid h h2 N ks i j := by
  have key : ∀ l p, ks[l]? = some p → ∀ o, h1.get? (N + l : Nat) = some o → h2.get? (N + l : Nat) = some o := fun l p e o q => s.extBut _ _ (fun z => hi l (List.getElem?_eq_some_iff.mp e).1 z.symm) q
  exact ⟨s.1.trans M.sz, fun b o hb e => s.extBut _ _ (fun z => hc (by have z : b = c := z; rw [← z]; exact hb)) (M.fr b o hb e), fun l p hl e => (M.dn l p hl e).at (key l p e), fun l p hl e => (M.td l p hl e).at (key l p e)⟩
variable {P : Program} {w : World} {A : Around} {E : Value → Shared → Prop} {s : Shared} {N i : Nat} {ks : List (Bool × Addr)} {xs : List Value}
theorem drawJ {h : Heap} {j : Nat} {Q : Value → Shared → Prop} (hh : A.handled = none) (X : Its h N ks i xs) (M : Mid h s.heap N ks i j) (hj : j < ks.length)
    (hQ : ∀ x h' tk, xs[j]? = some x → Mid h h' N ks i (j + 1) → Heap.SameBut (N + j : Nat) s.heap h' → Q x { s with heap := h', toks := tk }) : wpAny (model P w) A (Builtin.SmallTypes.nextOf (.ref (N + j : Nat))) Q E s := by
  obtain ⟨p, hp⟩ : ∃ p, ks[j]? = some p := ⟨_, List.getElem?_eq_getElem hj⟩
  obtain ⟨its, x, h1, h2, h3⟩ := X.at_ j p hp
  have hlow := X.low j p hp
  have h1' : IsK p.1 s.heap p.2 its.toArray := h1.at fun o e => M.fr p.2 o (.inl hlow) e
  have hlt : i < its.toArray.size := by have := (List.getElem?_eq_some_iff.mp h2).1; simpa using this
  refine (drawsK p.1 hh (N + j : Nat) p.2 (fun z => absurd hlow (by rw [show p.2 = N + j from z]; exact Nat.not_lt.mpr (Nat.le_add_right _ _))) its.toArray).item i s Q E hlt ⟨M.td j p (Nat.le_refl _) hp, h1'⟩ fun y h' tk hy st sb => ?_
  have ey : y = x := by
    have e : its.toArray[i]? = some x := by simpa using h2
    rw [e] at hy; cases hy; rfl
  subst ey
  refine hQ y h' tk h3 ⟨sb.1.trans M.sz, fun b o hb e => sb.extBut _ _ (fun z => ?_) (M.fr b o hb e), fun l q hl e => ?_, fun l q hl e => ?_⟩ sb
  · have z : b = N + j := z
    unfold Out at hb
    omega
  · by_cases c : l = j
    · subst c
      rw [hp] at e; cases e
      exact st.1
    · exact (M.dn l q (by omega) e).at fun o g => sb.extBut _ _ (fun z => by have z : N + l = N + j := z; omega) g
  · exact (M.td l q (by omega) e).at fun o g => sb.extBut _ _ (fun z => by have z : N + l = N + j := z; omega) g
def refs (N n : Nat) : List Value := (List.range n).map fun j => Value.ref (N + j : Nat)
theorem alive_any {M : Model} {A : Around} {E : Value → Shared → Prop} {s : Shared} {a : Addr} {Q : Option Obj → Shared → Prop} (h : Q (s.heap.get? a) s) : wpAny M A (loadIfAlive a) Q E s := fun Γ p hΓ => by
  unfold loadIfAlive
  rw [Sem.wp_loadIfAlive]
  exact h
theorem refs_drop {N n j : Nat} {x : Value} {rest : List Value} (h : x :: rest = (refs N n).drop j) : j < n ∧ x = .ref (N + j : Nat) ∧ rest = (refs N n).drop (j + 1) := by
  have hl : (refs N n).length = n := by unfold refs; simp
  have hj : j < n := by
    have := congrArg List.length h
    rw [List.length_drop, hl] at this
    simp at this
    omega
  have e := List.drop_eq_getElem_cons (l := refs N n) (i := j) (by rw [hl]; exact hj)
  rw [e] at h
  cases h
  refine ⟨hj, ?_, rfl⟩
  unfold refs
  simp
theorem refsI_drop {N n j : Nat} {x : Value × Nat} {rest : List (Value × Nat)} (h : x :: rest = (refs N n).zipIdx.drop j) : j < n ∧ x = (.ref (N + j : Nat), j) ∧ rest = (refs N n).zipIdx.drop (j + 1) := by
  have hl : (refs N n).zipIdx.length = n := by unfold refs; simp
  have hj : j < n := by
    have := congrArg List.length h
    rw [List.length_drop, hl] at this
    simp at this
    omega
  have e := List.drop_eq_getElem_cons (l := (refs N n).zipIdx) (i := j) (by rw [hl]; exact hj)
  rw [e] at h
  cases h
  refine ⟨hj, ?_, rfl⟩
  unfold refs
  simp
theorem zip_free {z TI TO : Nat} {f0 f1 : Value} {Q : Bool → Shared → Prop} (hld : Held f0 f1) (hz : IsZipF s.heap z TI TO f0 f1)
    (h : ∀ b h' f0' f1', Held f0' f1' → IsZipF h' z TI TO f0' f1' → Heap.SameBut z s.heap h' → Q b { s with heap := h' }) : wpAny (model P w) A (Builtin.SmallTypes.ownedTupleIsFree (.ref z)) Q E s := by
  obtain ⟨h0, b, rfl⟩ := hld
  unfold Builtin.SmallTypes.ownedTupleIsFree
  rcases h0 with rfl | ⟨n, rfl⟩
  · exact wpAny_bind (wpAny_field hz rfl (x := .none) rfl (wpAny_pure (h true s.heap _ _ ⟨.inl rfl, b, rfl⟩ hz (Heap.SameBut.refl _ _))))
  · refine wpAny_bind (wpAny_field hz rfl (x := rawInt n) rfl ?_)
    show wpAny _ _ (loadIfAlive ((n : Int).toNat) >>= _) _ _ _
    rw [Int.toNat_natCast]
    refine wpAny_bind (alive_any ?_)
    cases s.heap.get? n with
    | none =>
      simp only [Option.isNone_none, if_true]
      exact wpAny_pure (h true s.heap _ _ ⟨.inr ⟨n, rfl⟩, b, rfl⟩ hz (Heap.SameBut.refl _ _))
    | some oT =>
      simp only [Option.isNone_some, Bool.false_eq_true, if_false]
      refine wpAny_bind (wpAny_field hz rfl (x := .bool b) rfl ?_)
      cases b with
      | true =>
        rw [if_neg (show ¬ ((Value.bool true != Value.bool true) = true) from Bool.false_ne_true)]
        exact wpAny_pure (h false s.heap _ _ ⟨.inr ⟨n, rfl⟩, true, rfl⟩ hz (Heap.SameBut.refl _ _))
      | false =>
        rw [if_pos (show (Value.bool false != Value.bool true) = true from rfl)]
        exact wpAny_bind (wpAny_setField_rec hz (by simp) fun h₁ hz₁ hs₁ => wpAny_pure (h false h₁ _ _ ⟨.inr ⟨n, rfl⟩, true, rfl⟩ hz₁ hs₁))
theorem zipN_next {T0 : List Value} {f0 f1 : Value} {Q : Value → Shared → Prop} (hh : A.handled = none) (hks : ks.length ≤ sizeLine) (hn : 0 < ks.length) (hld : Held f0 f1) (hz : IsZipF s.heap (N + ks.length + 2) (N + ks.length) (N + ks.length + 1) f0 f1) (hTI : IsTupOf s.heap (N + ks.length) (refs N ks.length))
    (hTO : IsTupOf s.heap (N + ks.length + 1) T0) (hT0 : T0.length = ks.length) (M : Mid s.heap s.heap N ks i 0) (X : Its s.heap N ks i xs)
    (hQ : ∀ h' tk f0' f1' T1, Held f0' f1' → IsZipF h' (N + ks.length + 2) (N + ks.length) (N + ks.length + 1) f0' f1' → IsTupOf h' (N + ks.length) (refs N ks.length) → IsTupOf h' (N + ks.length + 1) T1 → T1.length = ks.length →
      (∀ (l : Nat) p, ks[l]? = some p → ItK p.1 h' (N + l : Nat) p.2 (i + 1)) → IsTupOf h' s.heap.objs.size xs → h'.objs.size = s.heap.objs.size + 1 → (∀ (b : Nat) o, Out N ks.length b → s.heap.get? b = some o → h'.get? b = some o) → Q (.ref s.heap.objs.size) { s with heap := h', toks := tk }) :
    wpAny (model P w) A (Builtin.«zip.__next__» ⟨[.ref (N + ks.length + 2 : Nat)], []⟩) (fun fin s' => ∃ v, fin = .done (.ret v) ∧ Q v s') E s := by
  have hne : (refs N ks.length).toArray.isEmpty = false := by
    unfold refs
    cases q : ks.length with
    | zero => omega
    | succ n => simp [List.range_succ_eq_map]
  obtain ⟨hp, g, d, tk0, os⟩ := s
  show wpAny _ _ (field (.ref _) 2 >>= _) _ _ _
  refine wpAny_bind (wpAny_field hz rfl (x := .bool false) rfl ?_)
  show wpAny _ _ (field (.ref _) 3 >>= _) _ _ _
  refine wpAny_bind (wpAny_field hz rfl (x := .ref (N + ks.length : Nat)) rfl ?_)
  refine wpAny_bind (wpAny_seqItems hTI rfl ?_)
  simp only [hne, Bool.false_eq_true, if_false]
  refine wpAny_bind (zip_free hld hz fun b h0 f0' f1' hld' hz' sb0 => ?_)
  have nz : ¬ Out N ks.length (N + ks.length + 2) := by unfold Out; omega
  have nO : ¬ Out N ks.length (N + ks.length + 1) := by unfold Out; omega
  have M0 : Mid hp h0 N ks i 0 := M.other sb0 nz fun l hl => by omega
  have hTO0 : IsTupOf h0 (N + ks.length + 1) T0 := sb0.extBut _ _ (fun z => by have z : N + ks.length + 1 = N + ks.length + 2 := z; omega) hTO
  cases b with
  | false =>
    simp only [Bool.false_eq_true, if_false]
    rw [← Array.forIn_toList, show (refs N ks.length).toArray.toList = refs N ks.length by simp]
    refine wpAny_bind (wpAny_mono (wpAny_forIn_list _ (fun rest (st : Option Fin × Array Value) s' => st.1 = none ∧ ∃ j h' tk, j ≤ ks.length ∧ rest = (refs N ks.length).drop j ∧ s' = ⟨h', g, d, tk, os⟩ ∧ Mid hp h' N ks i j ∧ IsZipF h' (N + ks.length + 2) (N + ks.length) (N + ks.length + 1) f0' f1' ∧ IsTupOf h' (N + ks.length + 1) T0 ∧ st.2.toList = xs.take j)
      (fun (st : Option Fin × Array Value) s' => st.1 = none ∧ ∃ h' tk, s' = ⟨h', g, d, tk, os⟩ ∧ Mid hp h' N ks i ks.length ∧ IsZipF h' (N + ks.length + 2) (N + ks.length) (N + ks.length + 1) f0' f1' ∧ IsTupOf h' (N + ks.length + 1) T0 ∧ st.2.toList = xs) (fun x rest st s' hI => ?_) (fun st s' hI => ?_) (refs N ks.length) (none, #[]) ⟨rfl, 0, h0, tk0, Nat.zero_le _, rfl, rfl, M0, hz', hTO0, rfl⟩) (fun st s' hq => ?_) fun _ _ z => z)
    · obtain ⟨st1, st2⟩ := st
      obtain ⟨h1, j, h', tk, hj, er, rfl, Mj, zj, tj, ej⟩ := hI
      obtain ⟨hjn, rfl, rfl⟩ := refs_drop er
      refine wpAny_bind (wpAny_holding ?_)
      show wpAny _ _ (Builtin.SmallTypes.nextOf (.ref (N + j : Nat)) >>= _) _ _ _
      refine wpAny_bind (drawJ (s := ⟨h', g, d, tk, os⟩) hh X Mj hjn fun y h2 tk2 hy M2 sb2 => wpAny_pure ?_)
      refine wpAny_pure ⟨rfl, j + 1, h2, tk2, hjn, rfl, rfl, M2, ?_, ?_, ?_⟩
      · exact sb2.extBut _ _ (fun z => by have z : N + ks.length + 2 = N + j := z; omega) zj
      · exact sb2.extBut _ _ (fun z => by have z : N + ks.length + 1 = N + j := z; omega) tj
      · show (st2.push y).toList = _
        rw [Array.toList_push, ej, List.take_add_one, hy]
        rfl
    · obtain ⟨st1, st2⟩ := st
      obtain ⟨h1, j, h', tk, hj, er, rfl, Mj, zj, tj, ej⟩ := hI
      have hjn : j = ks.length := by
        have hl := congrArg List.length er
        rw [List.length_drop] at hl
        unfold refs at hl
        simp at hl
        omega
      subst hjn
      exact ⟨h1, h', tk, rfl, Mj, zj, tj, by rw [ej, ← X.len, List.take_length]⟩
    · obtain ⟨st1, st2⟩ := st
      obtain ⟨h1, h', tk, rfl, Mn, zn, tn, en⟩ := hq
      have h1 : st1 = none := h1
      subst h1
      have en : st2.toList = xs := en
      show wpAny _ _ (newTuple st2.toList >>= _) _ _ _
      rw [en]
      refine wpAny_bind (wpAny_newTuple ?_ (by rw [X.len]; exact hks))
      refine wpAny_pure ⟨_, rfl, ?_⟩
      have hTI' : IsTupOf h' (N + ks.length) (refs N ks.length) := Mn.fr _ _ (.inr (.inl rfl)) hTI
      have up : ∀ (b : Nat) o, h'.get? b = some o → (h'.push { cls := .type "tuple", data := .seq xs.toArray }).get? b = some o := fun b o e => Heap.get?_push_of_some _ e
      have hsz : h'.objs.size = hp.objs.size := Mn.sz
      have hnew : IsTupOf (h'.push { cls := .type "tuple", data := .seq xs.toArray }) hp.objs.size xs := by
        rw [← hsz]; exact Heap.get?_push_size _ rfl
      show Q (.ref h'.objs.size) _
      rw [hsz]
      exact hQ _ tk f0' f1' T0 hld' (up _ _ zn) (up _ _ hTI') (up _ _ tn) hT0 (fun l p e => (Mn.dn l p (List.getElem?_eq_some_iff.mp e).1 e).at fun o q => up _ _ q) hnew (by rw [Heap.size_push, hsz]) fun b o hb e => up _ _ (Mn.fr b o hb e)
  | true =>
    simp only [if_true]
    refine wpAny_bind (wpAny_rule ?_)
    refine wpAny_bind (wpAny_field (s := ⟨h0, g, d, tk0, os⟩) hz' rfl (x := .ref (N + ks.length + 1 : Nat)) rfl ?_)
    refine wpAny_bind (wpAny_setField_rec (s := ⟨h0, g, d, tk0, os⟩) hz' (by simp) fun g0 hz0 hs0 => ?_)
    replace hz0 : IsZipF g0 (N + ks.length + 2) (N + ks.length) (N + ks.length + 1) .ellipsis f1' := hz0
    replace hs0 : Heap.SameBut (N + ks.length + 2 : Nat) h0 g0 := hs0
    have Mg : Mid hp g0 N ks i 0 := M0.other hs0 nz fun l hl => by omega
    have tg : IsTupOf g0 (N + ks.length + 1) T0 := hs0.extBut _ _ (fun z => by have z : N + ks.length + 1 = N + ks.length + 2 := z; omega) hTO0
    refine wpAny_bind (wpAny_mono (wpAny_forIn_list _ (fun rest (st : Option Fin × Unit) s' => st.1 = none ∧ ∃ j h' tk T1, j ≤ ks.length ∧ rest = (refs N ks.length).zipIdx.drop j ∧ s' = ⟨h', g, d, tk, os⟩ ∧ Mid hp h' N ks i j ∧ IsZipF h' (N + ks.length + 2) (N + ks.length) (N + ks.length + 1) .ellipsis f1' ∧ IsTupOf h' (N + ks.length + 1) T1 ∧ T1.length = ks.length ∧ T1.take j = xs.take j)
      (fun (st : Option Fin × Unit) s' => st.1 = none ∧ ∃ h' tk, s' = ⟨h', g, d, tk, os⟩ ∧ Mid hp h' N ks i ks.length ∧ IsZipF h' (N + ks.length + 2) (N + ks.length) (N + ks.length + 1) .ellipsis f1' ∧ IsTupOf h' (N + ks.length + 1) xs) (fun x rest st s' hI => ?_) (fun st s' hI => ?_) (refs N ks.length).zipIdx (none, ()) ⟨rfl, 0, g0, tk0, T0, Nat.zero_le _, rfl, rfl, Mg, hz0, tg, hT0, rfl⟩) (fun st s' hq => ?_) fun _ _ z => z)
    · obtain ⟨st1, st2⟩ := st
      obtain ⟨h1, j, h', tk, T1, hj, er, rfl, Mj, zj, tj, lj, ej⟩ := hI
      obtain ⟨hjn, rfl, rfl⟩ := refsI_drop er
      refine wpAny_bind (wpAny_onRaise ?_)
      show wpAny _ _ (Builtin.SmallTypes.nextOf (.ref (N + j : Nat)) >>= _) _ _ _
      refine wpAny_bind (drawJ (s := ⟨h', g, d, tk, os⟩) hh X Mj hjn fun y h2 tk2 hy M2 sb2 => wpAny_pure ?_)
      have t2 : IsTupOf h2 (N + ks.length + 1) T1 := sb2.extBut _ _ (fun z => by have z : N + ks.length + 1 = N + j := z; omega) tj
      have z2 : IsZipF h2 (N + ks.length + 2) (N + ks.length) (N + ks.length + 1) .ellipsis f1' := sb2.extBut _ _ (fun z => by have z : N + ks.length + 2 = N + j := z; omega) zj
      refine wpAny_bind (wpAny_seqItems (s := ⟨h2, g, d, tk2, os⟩) t2 rfl ?_)
      refine wpAny_bind (wpAny_updateSeq (s := ⟨h2, g, d, tk2, os⟩) t2 rfl ?_ (by rw [List.size_toArray, lj]; exact hks) (by simp [lj]; omega))
      refine wpAny_bind (wpAny_letGo (wpAny_pure ?_))
      have su : Heap.SameBut (N + ks.length + 1 : Nat) h2 (h2.update (N + ks.length + 1 : Nat) (Obj.mapSeq fun q => q.setIfInBounds j y)) := Heap.SameBut.update ..
      refine ⟨rfl, j + 1, _, tk2, T1.set j y, hjn, rfl, rfl, M2.other su nO fun l hl => by omega, su.extBut _ _ (fun z => by have z : N + ks.length + 2 = N + ks.length + 1 := z; omega) z2, ?_, by rw [List.length_set]; exact lj, ?_⟩
      · have := Heap.get?_update_self (Obj.mapSeq fun q => q.setIfInBounds j y) t2 rfl
        show (h2.update (N + ks.length + 1 : Nat) (Obj.mapSeq fun q => q.setIfInBounds j y)).get? (N + ks.length + 1 : Nat) = _
        rw [this]
        simp [Obj.mapSeq]
      · have hjl : j < T1.length := by rw [lj]; exact hjn
        rw [List.take_add_one, List.take_add_one, List.getElem?_set_self hjl, hy, List.take_set_of_le (Nat.le_refl j), ej]
    · obtain ⟨st1, st2⟩ := st
      obtain ⟨h1, j, h', tk, T1, hj, er, rfl, Mj, zj, tj, lj, ej⟩ := hI
      have hjn : j = ks.length := by
        have hl := congrArg List.length er
        rw [List.length_drop] at hl
        unfold refs at hl
        simp at hl
        omega
      subst hjn
      have eT : T1 = xs := by
        have e1 : T1.take ks.length = T1 := by rw [← lj, List.take_length]
        have e2 : xs.take ks.length = xs := by rw [← X.len, List.take_length]
        rw [← e1, ej, e2]
      subst eT
      exact ⟨h1, h', tk, rfl, Mj, zj, tj⟩
    · obtain ⟨st1, st2⟩ := st
      obtain ⟨h1, h', tk, rfl, Mn, zn, tn⟩ := hq
      have h1 : st1 = none := h1
      subst h1
      refine wpAny_bind (wpAny_seqItems (s := ⟨h', g, d, tk, os⟩) tn rfl ?_)
      show wpAny _ _ (newTuple xs.toArray.toList >>= _) _ _ _
      rw [show xs.toArray.toList = xs by simp]
      refine wpAny_bind (wpAny_newTuple ?_ (by rw [X.len]; exact hks))
      have hTI' : IsTupOf h' (N + ks.length) (refs N ks.length) := Mn.fr _ _ (.inr (.inl rfl)) hTI
      have hsz : h'.objs.size = hp.objs.size := Mn.sz
      have zlt : (N + ks.length + 2 : Nat) < h'.objs.size := Heap.lt_size zn
      show wpAny _ _ (Builtin.SmallTypes.ownedTupleHandOut (.ref (N + ks.length + 2 : Nat)) (.ref h'.objs.size) >>= _) _ _ ⟨h'.push { cls := .type "tuple", data := .seq xs.toArray }, g, d, tk, os⟩
      refine wpAny_bind ?_
      unfold Builtin.SmallTypes.ownedTupleHandOut
      have hz₆ : IsZipF (h'.push { cls := .type "tuple", data := .seq xs.toArray }) (N + ks.length + 2) (N + ks.length) (N + ks.length + 1) .ellipsis f1' := Heap.get?_push_of_some _ zn
      refine wpAny_bind (wpAny_setField_rec (s := ⟨_, g, d, tk, os⟩) hz₆ (by simp) fun h₇ hz₇ hs₇ => ?_)
      replace hz₇ : IsZipF h₇ (N + ks.length + 2) (N + ks.length) (N + ks.length + 1) (rawInt h'.objs.size) f1' := hz₇
      replace hs₇ : Heap.SameBut (N + ks.length + 2 : Nat) (h'.push { cls := .type "tuple", data := .seq xs.toArray }) h₇ := hs₇
      refine wpAny_setField_rec (s := ⟨h₇, g, d, tk, os⟩) hz₇ (by simp) fun h₈ hz₈ hs₈ => ?_
      replace hz₈ : IsZipF h₈ (N + ks.length + 2) (N + ks.length) (N + ks.length + 1) (rawInt h'.objs.size) (.bool false) := hz₈
      replace hs₈ : Heap.SameBut (N + ks.length + 2 : Nat) h₇ h₈ := hs₈
      have up : ∀ (b : Nat) o, b ≠ N + ks.length + 2 → h'.get? b = some o → h₈.get? b = some o := fun b o hb e => hs₈.extBut _ _ hb (hs₇.extBut _ _ hb (Heap.get?_push_of_some _ e))
      have hnew : IsTupOf h₈ h'.objs.size xs := hs₈.extBut _ _ (Nat.ne_of_gt zlt) (hs₇.extBut _ _ (Nat.ne_of_gt zlt) (Heap.get?_push_size _ rfl))
      have hz8 : h₈.objs.size = h'.objs.size + 1 := by rw [hs₈.1, hs₇.1, Heap.size_push]
      rw [hsz] at hnew hz8
      refine wpAny_pure ⟨_, rfl, ?_⟩
      show Q (.ref h'.objs.size) ⟨h₈, g, d, tk, os⟩
      have hQ' := hQ h₈ tk _ _ xs ⟨.inr ⟨_, rfl⟩, false, rfl⟩ hz₈ (up _ _ (by omega) hTI') (up _ _ (by omega) tn) X.len (fun l p e => (Mn.dn l p (List.getElem?_eq_some_iff.mp e).1 e).at fun o q => up _ _ (by have := (List.getElem?_eq_some_iff.mp e).1; omega) q) hnew hz8 fun b o hb e => up _ _ (fun z => nz (by rw [← z]; exact hb)) (Mn.fr b o hb e)
      rw [hsz]
      exact hQ'
end
end Ev

end
section
set_option Elab.async false
set_option linter.all false
set_option maxRecDepth 100000
set_option maxHeartbeats 4000000
namespace Ev
open PySem L2
section
open PySem.Spec PyProof.Rows
theorem tcz (vs : List Value) : checkTypeCall "zip" ⟨vs, []⟩ = pure () := by kernel_rfl
theorem ncz (v : Value) (vs : List Value) : checkBuiltinCall "zip.__new__" ⟨.type "zip" :: v :: vs, []⟩ = pure () := by kernel_rfl
theorem aoz (obj v : Value) (vs : List Value) : argsOk "object.__init__" ⟨obj :: v :: vs, []⟩ := by unfold argsOk; kernel_rfl
def pushAll : List (Bool × Addr) → Heap → Heap
  | [], h => h
  | p :: r, h => pushAll r (h.push (oK p.1 p.2))
theorem oK_free (k : Bool) (a : Addr) : (oK k a).isFreed = false := by cases k <;> rfl
theorem pushAll_size : ∀ (ks : List (Bool × Addr)) (h : Heap), (pushAll ks h).objs.size = h.objs.size + ks.length
  | [], _ => rfl
  | p :: r, h => by
    show (pushAll r _).objs.size = _
    rw [pushAll_size r, Heap.size_push, List.length_cons]
    omega
theorem pushAll_keep : ∀ (ks : List (Bool × Addr)) (h : Heap) (b : Addr) (o : Obj), h.get? b = some o → (pushAll ks h).get? b = some o
  | [], _, _, _, e => e
  | p :: r, h, b, o, e => pushAll_keep r _ b o (Heap.get?_push_of_some _ e)
theorem pushAll_get : ∀ (ks : List (Bool × Addr)) (h : Heap) (j : Nat) (p : Bool × Addr), ks[j]? = some p → (pushAll ks h).get? (h.objs.size + j : Nat) = some (oK p.1 p.2)
  | [], _, j, p, e => by simp at e
  | q :: r, h, 0, p, e => by
    simp at e
    subst e
    exact pushAll_keep r _ _ _ (Heap.get?_push_size _ (oK_free _ _))
  | q :: r, h, j + 1, p, e => by
    have := pushAll_get r (h.push (oK q.1 q.2)) j p (by simpa using e)
    rw [Heap.size_push] at this
    rw [show h.objs.size + (j + 1) = h.objs.size + 1 + j by omega]
    exact this
theorem pushAll_snoc : ∀ (ks : List (Bool × Addr)) (p : Bool × Addr) (h : Heap), pushAll (ks ++ [p]) h = (pushAll ks h).push (oK p.1 p.2)
  | [], _, _ => rfl
  | q :: r, p, h => pushAll_snoc r p _
theorem iterAll_ks {P : Program} {w : World} {A : Around} {E : Value → Shared → Prop} {s : Shared} {ks : List (Bool × Addr)} {Q : List Value → Shared → Prop} (hk : ∀ p ∈ ks, ∃ its, IsK p.1 s.heap p.2 its)
    (h : Q (refs s.heap.objs.size ks.length) { s with heap := pushAll ks s.heap }) : wpAny (model P w) A (Builtin.SmallTypes.iterAll (ks.map fun p => Value.ref p.2)) Q E s := by
  obtain ⟨hp, g, d, tk, os⟩ := s
  unfold Builtin.SmallTypes.iterAll
  refine wpAny_bind (wpAny_mono (wpAny_forIn_list _ (fun rest (st : Array Value) s' => ∃ j, j ≤ ks.length ∧ rest = (ks.map fun p => Value.ref p.2).drop j ∧ s' = ⟨pushAll (ks.take j) hp, g, d, tk, os⟩ ∧ st.toList = refs hp.objs.size j)
    (fun (st : Array Value) s' => s' = ⟨pushAll ks hp, g, d, tk, os⟩ ∧ st.toList = refs hp.objs.size ks.length) (fun x rest st s' hI => ?_) (fun st s' hI => ?_) (ks.map fun p => Value.ref p.2) #[] ⟨0, Nat.zero_le _, rfl, rfl, rfl⟩) (fun st s' hq => ?_) fun _ _ z => z)
  · obtain ⟨j, hj, er, rfl, ej⟩ := hI
    have hl : (ks.map fun p => Value.ref p.2).length = ks.length := List.length_map _
    have hjn : j < ks.length := by
      have := congrArg List.length er
      rw [List.length_drop, hl] at this
      simp at this
      omega
    rw [List.drop_eq_getElem_cons (by rw [hl]; exact hjn)] at er
    cases er
    rw [List.getElem_map]
    obtain ⟨its, hi⟩ := hk _ (List.getElem_mem hjn)
    refine wpAny_bind (wpAny_holding ?_)
    refine (beginsK ks[j].1 ks[j].2 its).iter _ _ _ _ ⟨pushAll (ks.take j) hp, g, d, tk, os⟩ _ (hi.at fun o e => pushAll_keep _ _ _ _ e) ?_
    refine wpAny_pure ⟨j + 1, hjn, rfl, ?_, ?_⟩
    · rw [List.take_add_one, List.getElem?_eq_getElem hjn]
      show _ = Shared.mk (pushAll (ks.take j ++ [ks[j]]) hp) g d tk os
      rw [pushAll_snoc]
    · show (st.push (.ref (pushAll (ks.take j) hp).objs.size)).toList = _
      rw [Array.toList_push, ej, pushAll_size, List.length_take, Nat.min_eq_left (Nat.le_of_lt hjn)]
      unfold refs
      rw [List.range_succ, List.map_append]
      rfl
  · obtain ⟨j, hj, er, rfl, ej⟩ := hI
    have hjn : j = ks.length := by
      have hl := congrArg List.length er
      rw [List.length_drop, List.length_map] at hl
      simp at hl
      omega
    subst hjn
    exact ⟨by rw [List.take_length], ej⟩
  · obtain ⟨rfl, ej⟩ := hq
    refine wpAny_pure ?_
    rw [ej]
    exact h
abbrev zT (ks : List (Bool × Addr)) (h : Heap) : Heap := (pushAll ks h).push ({ cls := .type "tuple", data := .seq (refs h.objs.size ks.length).toArray } : Obj)
abbrev zO (ks : List (Bool × Addr)) (h : Heap) : Heap := (zT ks h).push ({ cls := .type "tuple", data := .seq ((refs h.objs.size ks.length).map fun _ => Value.none).toArray } : Obj)
abbrev zZ (ks : List (Bool × Addr)) (h : Heap) : Heap := (zO ks h).push ({ cls := .type "zip", data := .fields #[.none, .bool false, .bool false, .ref (pushAll ks h).objs.size, .ref (zT ks h).objs.size] } : Obj)
theorem meets_zipN (ks : List (Bool × Addr)) (hn : 0 < ks.length) (hz : ks.length ≤ sizeLine) : Meets (Builtin.«zip.__new__» ⟨.type "zip" :: ks.map fun p => Value.ref p.2, []⟩) (fun _ R s => (∀ p ∈ ks, ∃ its, IsK p.1 s.heap p.2 its) ∧
    R (.ok (.ret (.ref (zO ks s.heap).objs.size))) { s with heap := zZ ks s.heap }) :=
  .of_wp fun prog w A R s h => by
    obtain ⟨hp, g, d, tk, os⟩ := s; obtain ⟨hk, h⟩ := h
    have hsub := sub_zip
    have q1 : ∀ {A' : Around} {E : Value → Shared → Prop} {Q : List Value → Shared → Prop}, Q (refs hp.objs.size ks.length) ⟨pushAll ks hp, g, d, tk, os⟩ → wpAny (model prog w) A' (Builtin.SmallTypes.iterAll (ks.map fun p => Value.ref p.2)) Q E ⟨hp, g, d, tk, os⟩ :=
      fun q => iterAll_ks hk q
    have hrl : (refs hp.objs.size ks.length).length = ks.length := by unfold refs; simp
    have q2 : ∀ {A' : Around} {E : Value → Shared → Prop} {Q : Value → Shared → Prop}, Q (.ref (pushAll ks hp).objs.size) ⟨zT ks hp, g, d, tk, os⟩ → wpAny (model prog w) A' (newTuple (refs hp.objs.size ks.length)) Q E ⟨pushAll ks hp, g, d, tk, os⟩ :=
      fun q => wpAny_newTuple q (by rw [hrl]; exact hz)
    have q3 : ∀ {A' : Around} {E : Value → Shared → Prop} {Q : Value → Shared → Prop}, Q (.ref (zT ks hp).objs.size) ⟨zO ks hp, g, d, tk, os⟩ → wpAny (model prog w) A' (newTuple ((refs hp.objs.size ks.length).map fun _ => Value.none)) Q E ⟨zT ks hp, g, d, tk, os⟩ :=
      fun q => wpAny_newTuple q (by rw [List.length_map, hrl]; exact hz)
    wp_walk using q1, q2, q3
    exact ⟨_, rfl, h⟩
theorem zip_beginsN {P : Program} {w : World} {A : Around} {E : Value → Shared → Prop} {s : Shared} {ks : List (Bool × Addr)} {Q : Value → Shared → Prop} (hn : 0 < ks.length) (hz : ks.length ≤ sizeLine) (hk : ∀ p ∈ ks, ∃ its, IsK p.1 s.heap p.2 its)
    (h : ∀ h', IsZipF h' (s.heap.objs.size + ks.length + 2) (s.heap.objs.size + ks.length) (s.heap.objs.size + ks.length + 1) .none (.bool false) → IsTupOf h' (s.heap.objs.size + ks.length) (refs s.heap.objs.size ks.length) →
      (∃ T0, IsTupOf h' (s.heap.objs.size + ks.length + 1) T0 ∧ T0.length = ks.length) → (∀ (l : Nat) p, ks[l]? = some p → ItK p.1 h' (s.heap.objs.size + l : Nat) p.2 0) → (∀ c o, s.heap.get? c = some o → h'.get? c = some o) → Q (.ref (s.heap.objs.size + ks.length + 2 : Nat)) { s with heap := h' }) :
    wpAny (model P w) A (call (.type "zip") (ks.map fun p => Value.ref p.2)) Q E s := by
  have hc : ∃ v vs, (ks.map fun p => Value.ref p.2) = v :: vs := by
    cases ks with
    | nil => simp at hn
    | cons p r => exact ⟨_, _, rfl⟩
  obtain ⟨v, vs, hvs⟩ := hc
  refine callType_new F.called_zip (by decide) (tcz _) (by rw [hvs]; exact ncz v vs) (fun obj => by rw [hvs]; exact aoz obj v vs) F.entry_zip_new (meets_zipN ks hn hz) ⟨hk, ?_⟩
  have z1 : (pushAll ks s.heap).objs.size = s.heap.objs.size + ks.length := pushAll_size ks s.heap
  have z2 : (zT ks s.heap).objs.size = s.heap.objs.size + ks.length + 1 := by rw [Heap.size_push, z1]
  have z3 : (zO ks s.heap).objs.size = s.heap.objs.size + ks.length + 2 := by rw [Heap.size_push, z2]
  have gZ : (zZ ks s.heap).get? (zO ks s.heap).objs.size = some { cls := .type "zip", data := .fields #[.none, .bool false, .bool false, .ref (pushAll ks s.heap).objs.size, .ref (zT ks s.heap).objs.size] } := Heap.get?_push_size _ rfl
  have gO : (zZ ks s.heap).get? (zT ks s.heap).objs.size = some { cls := .type "tuple", data := .seq ((refs s.heap.objs.size ks.length).map fun _ => Value.none).toArray } := Heap.get?_push_of_some _ (Heap.get?_push_size _ rfl)
  have gT : (zZ ks s.heap).get? (pushAll ks s.heap).objs.size = some { cls := .type "tuple", data := .seq (refs s.heap.objs.size ks.length).toArray } := Heap.get?_push_of_some _ (Heap.get?_push_of_some _ (Heap.get?_push_size _ rfl))
  rw [z3, z1, z2] at gZ
  rw [z2] at gO
  rw [z1] at gT
  show _ ∧ _
  rw [z3]
  have up : ∀ (b : Nat) o, (pushAll ks s.heap).get? b = some o → (zZ ks s.heap).get? b = some o := fun b o e => Heap.get?_push_of_some _ (Heap.get?_push_of_some _ (Heap.get?_push_of_some _ e))
  exact ⟨⟨_, gZ, rfl⟩, h _ gZ gT ⟨_, gO, by unfold refs; simp⟩ (fun l p e => ItK.of_new (up _ _ (pushAll_get ks s.heap l p e))) fun c o e => up _ _ (pushAll_keep ks s.heap c o e)⟩
/-- the first row has come to its end -/
theorem zipN_end {P : Program} {w : World} {A : Around} {E : Value → Shared → Prop} {s : Shared} {N i : Nat} {ks : List (Bool × Addr)} {T0 : List Value} {f0 f1 : Value} {p0 : Bool × Addr} {its : List Value} {Q : Fin → Shared → Prop} (hh : A.handled = none) (h0 : ks[0]? = some p0) (hlow : (p0.2 : Nat) < N) (hi : IsK p0.1 s.heap p0.2 its.toArray) (hl : its.length = i)
    (hld : Held f0 f1) (hz : IsZipF s.heap (N + ks.length + 2) (N + ks.length) (N + ks.length + 1) f0 f1) (hTI : IsTupOf s.heap (N + ks.length) (refs N ks.length)) (hTO : IsTupOf s.heap (N + ks.length + 1) T0) (ht : ItK p0.1 s.heap (N : Nat) p0.2 i)
    (hE : ∀ h' e, (∀ (b : Nat) o, Out N ks.length b → s.heap.get? b = some o → h'.get? b = some o) → (∃ o, h'.get? e = some o ∧ o.cls = .type "StopIteration") → E (.ref e) { s with heap := h' }) :
    wpAny (model P w) A (Builtin.«zip.__next__» ⟨[.ref (N + ks.length + 2 : Nat)], []⟩) Q E s := by
  obtain ⟨p, r, hr⟩ : ∃ p r, ks = p :: r := by
    cases ks with
    | nil => cases h0
    | cons p r => exact ⟨_, _, rfl⟩
  have hlen : 0 < ks.length := by rw [hr]; simp
  have hrefs : refs N ks.length = .ref (N : Nat) :: (refs N ks.length).tail := by
    unfold refs
    rw [hr, List.length_cons, List.range_succ_eq_map]
    rfl
  have hne : (refs N ks.length).toArray.isEmpty = false := by rw [hrefs]; rfl
  obtain ⟨hp, g, d, tk0, os⟩ := s
  show wpAny _ _ (field (.ref _) 2 >>= _) _ _ _
  refine wpAny_bind (wpAny_field hz rfl (x := .bool false) rfl ?_)
  show wpAny _ _ (field (.ref _) 3 >>= _) _ _ _
  refine wpAny_bind (wpAny_field hz rfl (x := .ref (N + ks.length : Nat)) rfl ?_)
  refine wpAny_bind (wpAny_seqItems hTI rfl ?_)
  simp only [hne, Bool.false_eq_true, if_false]
  refine wpAny_bind (zip_free hld hz fun b h1 f0' f1' hld' hz' sb0 => ?_)
  have nz : ¬ Out N ks.length (N + ks.length + 2) := by unfold Out; omega
  have nN : ¬ Out N ks.length N := by unfold Out; omega
  have draw : ∀ (h2 : Heap), (∀ (b : Nat) o, b ≠ N + ks.length + 2 → hp.get? b = some o → h2.get? b = some o) → ∀ (Q' : Value → Shared → Prop) (E' : Value → Shared → Prop), (∀ h' e, Heap.ExtBut (N : Nat) h2 h' → (∃ o, h'.get? e = some o ∧ o.cls = .type "StopIteration") → E' (.ref e) ⟨h', g, d, tk0, os⟩) →
      wpAny (model P w) A (Builtin.SmallTypes.nextOf (.ref (N : Nat))) Q' E' ⟨h2, g, d, tk0, os⟩ := fun h2 hk Q' E' hE' => by
    refine (drawsK p0.1 hh (N : Nat) p0.2 (fun z => absurd hlow (by rw [show p0.2 = N from z]; exact Nat.lt_irrefl _)) its.toArray).done ⟨h2, g, d, tk0, os⟩ Q' E' ?_ hE'
    have hs : its.toArray.size = i := by rw [List.size_toArray, hl]
    rw [hs]
    exact ⟨ht.at fun o e => hk N o (by omega) e, hi.at fun o e => hk p0.2 o (fun z => absurd hlow (by rw [z]; exact Nat.not_lt.mpr (by omega))) e⟩
  cases b with
  | false =>
    simp only [Bool.false_eq_true, if_false]
    rw [← Array.forIn_toList, show (refs N ks.length).toArray.toList = refs N ks.length by simp, hrefs, List.forIn_cons]
    refine wpAny_bind (wpAny_bind (wpAny_bind (wpAny_holding ?_)))
    show wpAny _ _ (Builtin.SmallTypes.nextOf (.ref (N : Nat)) >>= _) _ _ _
    refine wpAny_bind (draw h1 (fun b o hb e => sb0.extBut _ _ hb e) _ _ fun h' e he hx => ?_)
    exact hE h' e (fun b o hb q => he _ _ (fun z => by have z : b = N := z; subst z; exact nN hb) (sb0.extBut _ _ (fun z => nz (by have z : b = N + ks.length + 2 := z; rw [← z]; exact hb)) q)) hx
  | true =>
    simp only [if_true]
    refine wpAny_bind (wpAny_rule ?_)
    refine wpAny_bind (wpAny_field (s := ⟨h1, g, d, tk0, os⟩) hz' rfl (x := .ref (N + ks.length + 1 : Nat)) rfl ?_)
    refine wpAny_bind (wpAny_setField_rec (s := ⟨h1, g, d, tk0, os⟩) hz' (by simp) fun g0 hz0 hs0 => ?_)
    replace hz0 : IsZipF g0 (N + ks.length + 2) (N + ks.length) (N + ks.length + 1) .ellipsis f1' := hz0
    replace hs0 : Heap.SameBut (N + ks.length + 2 : Nat) h1 g0 := hs0
    rw [hrefs, List.zipIdx_cons, List.forIn_cons]
    refine wpAny_bind (wpAny_bind (wpAny_bind (wpAny_onRaise ?_)))
    show wpAny _ _ (Builtin.SmallTypes.nextOf (.ref (N : Nat)) >>= _) _ _ _
    refine wpAny_bind (draw g0 (fun b o hb e => hs0.extBut _ _ hb (sb0.extBut _ _ hb e)) _ _ fun h' e he hx => ?_)
    have hz3 : IsZipF h' (N + ks.length + 2) (N + ks.length) (N + ks.length + 1) .ellipsis f1' := he _ _ (fun z => by have z : N + ks.length + 2 = N := z; omega) hz0
    refine wpAny_setField_rec (s := ⟨h', g, d, tk0, os⟩) hz3 (by simp) fun h4 hz4 hs4 => ?_
    replace hs4 : Heap.SameBut (N + ks.length + 2 : Nat) h' h4 := hs4
    obtain ⟨oe, hoe, hce⟩ := hx
    refine hE h4 e (fun b o hb q => hs4.extBut _ _ (fun z => nz (by have z : b = N + ks.length + 2 := z; rw [← z]; exact hb)) (he _ _ (fun z => by have z : b = N := z; subst z; exact nN hb) (hs0.extBut _ _ (fun z => nz (by have z : b = N + ks.length + 2 := z; rw [← z]; exact hb)) (sb0.extBut _ _ (fun z => nz (by have z : b = N + ks.length + 2 := z; rw [← z]; exact hb)) q)))) ⟨oe, hs4.extBut _ _ (fun z => ?_) hoe, hce⟩
    rw [z, hz3] at hoe
    cases hoe
    simp at hce
end
end Ev

end
section
set_option Elab.async false
set_option linter.all false
set_option maxRecDepth 100000
set_option maxHeartbeats 4000000
namespace Ev
open PySem L2
section
open PySem.Spec PyProof.Rows
def Izn (ks : List (Bool × Addr)) (K : PySem.W.Frag) : L2.It :=
  ⟨fun i H => ∀ p ∈ ks, ∃ (xs : List V) (x : V), SqK p.1 K H p.2 xs ∧ xs[i]? = some x,
    fun i H v H' => ∃ T cs its, v = .ref T ∧ H T = none ∧ H' = upd H T (tupO its cs) ∧ cs.length = ks.length ∧ ∀ (j : Nat) p, ks[j]? = some p → ∀ xs, SqK p.1 K H p.2 xs → ∃ x, xs[i]? = some x ∧ cs[j]? = some x,
    fun i H => ∃ p, ks[0]? = some p ∧ ∃ xs : List V, SqK p.1 K H p.2 xs ∧ xs.length = i⟩
/-- the items of all rows at a place -/
theorem its_all {X : Cx} {pins : List (Addr × Obj)} {σ : L2.St} {H : Hp} {s : Shared} {i : Nat} (I : Inv X pins σ H s) : ∀ ks : List (Bool × Addr), (∀ p ∈ ks, ∃ (xs : List V) (x : V), SqK p.1 X.K H p.2 xs ∧ xs[i]? = some x) →
    ∃ (us : List Value) (cs : List V), Vals cs us ∧ cs.length = ks.length ∧ us.length = ks.length ∧ (∀ (j : Nat) p, ks[j]? = some p → ∃ (its : List Value) (x : Value), IsK p.1 s.heap p.2 its.toArray ∧ its[i]? = some x ∧ us[j]? = some x) ∧
      ∀ (j : Nat) p, ks[j]? = some p → ∀ xs, SqK p.1 X.K H p.2 xs → ∃ x, xs[i]? = some x ∧ cs[j]? = some x
  | [], _ => ⟨[], [], .nil, rfl, rfl, fun j p e => by simp at e, fun j p e => by simp at e⟩
  | q :: r, h => by
    obtain ⟨us, cs, h1, h2, h3, h4, h5⟩ := its_all I r fun p hp => h p (List.mem_cons_of_mem _ hp)
    obtain ⟨xs, x, hq, hx⟩ := h q List.mem_cons_self
    obtain ⟨its, rv, p, hz⟩ := hq.of I
    obtain ⟨u, hu, ru⟩ := rv.get hx
    refine ⟨u :: us, x :: cs, .cons ru h1, by simp [h2], by simp [h3], fun j p' e => ?_, fun j p' e ys hy => ?_⟩
    · cases j with
      | zero => simp at e; subst e; exact ⟨its, u, p, hu, rfl⟩
      | succ j => simpa using h4 j p' (by simpa using e)
    · cases j with
      | zero => simp at e; subst e; exact ⟨x, by rw [hy.inj I hq]; exact hx, rfl⟩
      | succ j => simpa using h5 j p' (by simpa using e) ys hy
def fpN (N n : Nat) : List Addr := (List.range (n + 3)).map fun j => (N + j : Nat)
theorem fpN_mem {N n : Nat} {b : Nat} : b ∈ fpN N n ↔ N ≤ b ∧ b < N + n + 3 := by
  unfold fpN
  rw [List.mem_map]
  constructor
  · rintro ⟨j, hj, rfl⟩
    have := List.mem_range.mp hj
    exact ⟨Nat.le_add_right _ _, by omega⟩
  · rintro ⟨h1, h2⟩
    exact ⟨b - N, List.mem_range.mpr (by omega), by show N + (b - N) = b; omega⟩
theorem out_of {N n b : Nat} (h : b ∉ fpN N n) : Out N n b := by
  unfold Out
  rcases Nat.lt_or_ge b N with c | c
  · exact .inl c
  · rcases Nat.lt_or_ge b (N + n + 3) with d | d
    · exact absurd (fpN_mem.mpr ⟨c, d⟩) h
    · exact .inr (.inr d)
theorem three (N n b : Nat) (h1 : N + n ≤ b) (h2 : b < N + n + 3) : b = N + n ∨ b = N + n + 1 ∨ b = N + n + 2 := by omega
def tnN (N : Nat) (ks : List (Bool × Addr)) (i : Nat) (h : Heap) : Prop := ∃ f0 f1 T0, Held f0 f1 ∧ IsZipF h (N + ks.length + 2) (N + ks.length) (N + ks.length + 1) f0 f1 ∧ IsTupOf h (N + ks.length) (refs N ks.length) ∧ IsTupOf h (N + ks.length + 1) T0 ∧ T0.length = ks.length ∧ ∀ (l : Nat) p, ks[l]? = some p → ItK p.1 h (N + l : Nat) p.2 i
theorem turn_zipN {P : Program} {w : World} {K : PySem.W.Frag} {x : Str} {tpos : Pos} (N : Nat) (ks : List (Bool × Addr)) (hn : 0 < ks.length) (hz : ks.length ≤ sizeLine) (low : ∀ (j : Nat) p, ks[j]? = some p → (p.2 : Nat) < N) :
    Turn P w K (.Name x tpos) (Izn ks K) (fpN N ks.length) (N + ks.length + 2 : Nat) (tnN N ks) where
  mem := fpN_mem.mpr ⟨by omega, by omega⟩
  obj := fun i h st b hb => by
    obtain ⟨f0, f1, T0, hl, h1, h2, h3, h4, h5⟩ := st
    obtain ⟨b1, b2⟩ := fpN_mem.mp hb
    rcases Nat.lt_or_ge b (N + ks.length) with c | c
    · obtain ⟨p, hp⟩ : ∃ p, ks[b - N]? = some p := ⟨_, List.getElem?_eq_getElem (by omega)⟩
      have := (h5 _ p hp).live
      rw [show N + (b - N) = b by omega] at this
      exact this
    · rcases three N ks.length b c b2 with z | z | z
      · rw [z]; exact ⟨_, h2, fun v q => nomatch q⟩
      · rw [z]; exact ⟨_, h3, fun v q => nomatch q⟩
      · rw [z]; exact ⟨_, h1, fun v q => nomatch q⟩
  keep := fun i h h' st k => by
    obtain ⟨f0, f1, T0, hl, h1, h2, h3, h4, h5⟩ := st
    exact ⟨f0, f1, T0, hl, k _ (fpN_mem.mpr ⟨by omega, by omega⟩) _ h1, k _ (fpN_mem.mpr ⟨by omega, by omega⟩) _ h2, k _ (fpN_mem.mpr ⟨by omega, by omega⟩) _ h3, h4, fun l p e => (h5 l p e).at fun o q => k _ (fpN_mem.mpr ⟨by omega, by have := (List.getElem?_eq_some_iff.mp e).1; omega⟩) _ q⟩
  item := by
    intro X hP hw hK hc i pins s σ H E I hf st hg
    subst hP hw hK
    obtain ⟨f0, f1, T0, hl, h1, h2, h3, h4, h5⟩ := st
    obtain ⟨us, cs, rv, lc, lu, hus, hcs⟩ := its_all I ks hg
    have hd := I.ok.hd hc
    have hzl : (N + ks.length + 2 : Nat) < s.heap.objs.size := Heap.lt_size h1
    have hT : s.TypeIs (.ref (N + ks.length + 2 : Nat)) "zip" := ⟨_, h1, rfl⟩
    have M : Mid s.heap s.heap N ks i 0 := ⟨rfl, fun _ _ _ e => e, fun l p hl => absurd hl (Nat.not_lt_zero _), fun l p _ e => h5 l p e⟩
    have Xi : Its s.heap N ks i us := ⟨lu, low, hus⟩
    unfold pyNext
    refine wpAny_bind (wpAny_attempt (wpAny_callSpecial?_slot (name := Str.ofString "__next__") hT PySem.F.slot_zip_next
      (wpAny_call_entry PySem.F.slot_zip_next hT PySem.F.entry_zip_next
        (zipN_next (by first | exact hd | rw [Around.in1_handled]; exact hd) hz hn hl h1 h2 h3 h4 M Xi fun h' tk f0' f1' T1 hld' z' t' o' l' it' hT hsz hk => wpAny_pure ?_) (PySem.F.args_zip_next_1 _))))
    have hTz : Out N ks.length s.heap.objs.size := by unfold Out; omega
    have keep : ∀ (b : Nat) o, b ∉ fpN N ks.length → s.heap.get? b = some o → h'.get? b = some o := fun b o hb e => hk b o (out_of hb) e
    have new : ObjOk X.prog X.w (upd H s.heap.objs.size (tupO us cs)) h' s.heap.objs.size (tupO us cs) := ⟨hT, by rw [lc]; exact hz, us, rv, ⟨_, hT, rfl, _, rfl⟩⟩
    have I1 : Inv X pins σ (upd H s.heap.objs.size (tupO us cs)) { s with heap := h', toks := tk } := I.turnedNew (t' := tk) (ch := fpN N ks.length) (fun b o hb q => keep b o hb q) hf (Nat.le_refl _) new
    refine ⟨_, rfl, ?_⟩
    unfold letOwnedTupleGo
    refine wpAny_pure ⟨.ref s.heap.objs.size, _, I1, rfl, ⟨_, cs, _, rfl, I.hok.fresh (Nat.le_refl _), rfl, lc, hcs⟩, ⟨f0', f1', T1, hld', z', t', o', l', it'⟩, fun b hb => ?_⟩
    have hb' := fpN_mem.mp hb
    rw [upd_ne (Nat.ne_of_lt (Nat.lt_of_lt_of_le hb'.2 (show N + ks.length + 3 ≤ _ from hzl)))]
    exact (hf b hb).1
  done := by
    intro X hP hw hK hc i pins s σ H E I hf st hg
    subst hP hw hK
    obtain ⟨f0, f1, T0, hl, h1, h2, h3, h4, h5⟩ := st
    obtain ⟨p, hp, xs, hq, hx⟩ := hg
    obtain ⟨its, rv, pk, hzz⟩ := hq.of I
    have hd := I.ok.hd hc
    have hT : s.TypeIs (.ref (N + ks.length + 2 : Nat)) "zip" := ⟨_, h1, rfl⟩
    unfold pyNext
    refine wpAny_bind (wpAny_attempt (wpAny_callSpecial?_slot (name := Str.ofString "__next__") hT PySem.F.slot_zip_next
      (wpAny_call_entry PySem.F.slot_zip_next hT PySem.F.entry_zip_next
        (zipN_end (by first | exact hd | rw [Around.in1_handled]; exact hd) hp (low 0 p hp) pk (by rw [← rv.length, hx]) hl h1 h2 h3 (h5 0 p hp) fun h' e hk he => ?_) (PySem.F.args_zip_next_1 _))))
    obtain ⟨o, ho, hco⟩ := he
    refine wpAny_bind (wpAny_isInstance (T := "StopIteration") (b := true) ⟨o, ho, hco⟩ isSubtype_stop ?_)
    refine wpAny_pure ⟨rfl, I.turnedL (t' := s.toks) (ch := fpN N ks.length) (fun b o hb e => hk b o (out_of hb) e) hf⟩
  self := fun A i s Q E st h => by
    obtain ⟨f0, f1, T0, hl, h1, _⟩ := st
    have hT : s.TypeIs (.ref (N + ks.length + 2 : Nat)) "zip" := ⟨_, h1, rfl⟩
    refine wpAny_pyIter_slot hT PySem.F.slot_zip_iter (wpAny_call_entry PySem.F.slot_zip_iter hT PySem.F.entry_zip_iter ?_ (PySem.F.args_zip_iter_1 _))
    show wpAny _ _ (ret (.ref _)) _ _ s
    exact wpAny_pure ⟨_, rfl, "zip", _, hT, PySem.F.slot_zip_next.lookup, h⟩
theorem callWith_Tstar {M : Model} {A : Around} {E : Value → Shared → Prop} {s : Shared} {env : PySem.Env} {pos p : Pos} {T : String} {e : Expr} {Q : Value → Shared → Prop} (h : wpAny M A (eval e env) (fun v s₁ => PySem.W.StarOf M A E v (fun vs s₂ => wpAny M A (call (.type T) vs) Q E s₂) s₁) E s) :
    wpAny M A (callWith pos (.type T) [] (backTo pos (starEach [.Starred e p] env)) []) Q E s := by
  refine PySem.W.ks_call (P := fun _ => True) rfl (fun h _ => ⟨.machine, .inr (.inl rfl), PySem.W.Looks.of_pure rfl⟩) (PySem.W.ks_lone (wpAny_mono h (fun v s₁ hv => ?_) fun _ _ z => z))
  unfold PySem.W.StarOf at hv ⊢
  exact wpAny_mono hv (fun b s₂ h2 => ⟨h2.1, wpAny_mono h2.2 (fun vs s₃ h3 => ⟨trivial, h3⟩) fun _ _ z => z⟩) fun _ _ z => z
def iZn (K : PySem.W.Frag) (te : TE) : TI := fun σ H R => te σ H fun x H1 => ∃ k a ks, x = .ref a ∧ SqK k K H1 a (ks.map fun p : Bool × Addr => V.ref p.2) ∧ 0 < ks.length ∧ (∀ p ∈ ks, ∃ xs, SqK p.1 K H1 p.2 xs) ∧ R (Izn ks K) H1
theorem vals_refs : ∀ {ks : List (Bool × Addr)} {us : List Value}, Vals (ks.map fun p : Bool × Addr => V.ref p.2) us → us = ks.map fun p => Value.ref p.2
  | [], _, .nil => rfl
  | p :: r, _, .cons h1 h2 => by
    cases h1
    rw [vals_refs h2]
    rfl
theorem pi_zn {X : Cx} {e : Expr} {te : TE} {p p2 pos tpos : Pos} {x : Str} (hg : Gl X "zip") (hm : X.mg "zip" = none) (he : PE X e te) : PI X (.Name x tpos) (.Call (.Name "zip" p) [.Starred e p2] [] pos) (iZn X.K te) := by
  refine ⟨fun pins s σ H R I h => ?_⟩
  refine Call_ (ld_blt I hg hm PyProof.Rows.boot_zip (callWith_Tstar (thn (he.run pins s σ H _ I h) fun v s1 ⟨y, H1, I1, ry, q1⟩ => ?_)))
  obtain ⟨k, a, ks, ex, hq, hn, hks, q⟩ := q1
  subst ex
  cases ry
  have hz : ks.length ≤ sizeLine := by
    obtain ⟨_, _, _, hz⟩ := hq.of I1
    rw [List.length_map] at hz
    exact hz
  have hq' : SqT X.K H1 a (ks.map fun p : Bool × Addr => V.ref p.2) ∨ SqL X.K H1 a (ks.map fun p : Bool × Addr => V.ref p.2) := by
    cases k with
    | true => exact .inr hq
    | false => exact .inl hq
  refine StX.star_any I1 hq' fun us s2 I2 rv => ?_
  rw [vals_refs rv]
  refine zip_beginsN hn hz (fun p hp => ?_) fun h' z' t' o' it' hk => ?_
  · obtain ⟨xs, hx⟩ := hks p hp
    obtain ⟨its, _, pk, _⟩ := hx.of I2
    exact ⟨_, pk⟩
  · have low : ∀ (j : Nat) p, ks[j]? = some p → (p.2 : Nat) < s2.heap.objs.size := fun j p e => by
      obtain ⟨xs, hx⟩ := hks p (List.mem_of_getElem? e)
      obtain ⟨its, _, pk, _⟩ := hx.of I2
      exact pk.lt
    have I3 : Inv X pins σ H1 { s2 with heap := h' } := I2.kept (t' := s2.toks) hk
    have T := turn_zipN (P := X.prog) (w := X.w) (K := X.K) (x := x) (tpos := tpos) s2.heap.objs.size ks hn hz low
    obtain ⟨T0, o1, o2⟩ := o'
    have st : tnN s2.heap.objs.size ks 0 h' := ⟨_, _, T0, ⟨.inl rfl, false, rfl⟩, z', t', o1, o2, it'⟩
    refine T.self X.A 0 { s2 with heap := h' } _ _ st ?_
    exact ⟨_, _, _, _, H1, rfl, I3, T, st, fun b hb => I2.fpOk (fpN_mem.mp hb).1 (I2.hok.fresh (fpN_mem.mp hb).1), q⟩
end
end Ev

end
section
set_option Elab.async false
set_option linter.all false
set_option maxRecDepth 100000
set_option maxHeartbeats 4000000
namespace Ev
open PySem L2
theorem heads_ok : ∀ {rs : List (List U)} {hs : List U} {ts : List (List U)}, heads rs = some (hs, ts) → hs.length = rs.length ∧ ts.length = rs.length ∧ ∀ (j : Nat) row, rs[j]? = some row → ∃ x t, row = x :: t ∧ hs[j]? = some x ∧ ts[j]? = some t
  | [], hs, ts, h => by cases h; exact ⟨rfl, rfl, fun j row e => by simp at e⟩
  | [] :: _, _, _, h => by cases h
  | (x :: xs) :: r, hs, ts, h => by
    simp only [heads] at h
    cases q : heads r with
    | none => rw [q] at h; cases h
    | some y =>
      obtain ⟨hs', ts'⟩ := y
      rw [q] at h
      cases h
      obtain ⟨h1, h2, h3⟩ := heads_ok q
      refine ⟨by simp [h1], by simp [h2], fun j row e => ?_⟩
      cases j with
      | zero => simp at e; subst e; exact ⟨x, xs, rfl, rfl, rfl⟩
      | succ j => simpa using h3 j row (by simpa using e)
theorem heads_some : ∀ {rs : List (List U)} {n : Nat}, (∀ row ∈ rs, row.length = n + 1) → ∃ hs ts, heads rs = some (hs, ts) ∧ ∀ row ∈ ts, row.length = n
  | [], n, _ => ⟨[], [], rfl, fun _ z => nomatch z⟩
  | [] :: _, n, h => by have := h [] List.mem_cons_self; simp at this
  | (x :: xs) :: r, n, h => by
    obtain ⟨hs, ts, e, h2⟩ := heads_some (rs := r) fun row hr => h row (List.mem_cons_of_mem _ hr)
    refine ⟨x :: hs, xs :: ts, by simp only [heads, e], fun row hr => ?_⟩
    rcases List.mem_cons.mp hr with z | z
    · have := h (x :: xs) List.mem_cons_self
      rw [z]; simpa using this
    · exact h2 row z
theorem zipsU_ok : ∀ (n : Nat) {rs : List (List U)}, (∀ row ∈ rs, row.length = n) → (zipsU n rs).length = n ∧ ∀ (i : Nat) u, (zipsU n rs)[i]? = some u → ∃ cs, u = .tup cs ∧ cs.length = rs.length ∧ ∀ (j : Nat) row, rs[j]? = some row → ∃ x, row[i]? = some x ∧ cs[j]? = some x
  | 0, rs, _ => ⟨rfl, fun i u e => by simp [zipsU] at e⟩
  | n + 1, rs, h => by
    obtain ⟨hs, ts, e, h2⟩ := heads_some h
    obtain ⟨l1, l2, hh⟩ := heads_ok e
    obtain ⟨i1, i2⟩ := zipsU_ok n h2
    have eq : zipsU (n + 1) rs = .tup hs :: zipsU n ts := by simp only [zipsU, e]
    rw [eq]
    refine ⟨by simp [i1], fun i u e => ?_⟩
    cases i with
    | zero =>
      simp at e
      refine ⟨hs, e.symm, l1, fun j row er => ?_⟩
      obtain ⟨x, t, rfl, e1, e2⟩ := hh j row er
      exact ⟨x, rfl, e1⟩
    | succ i =>
      obtain ⟨cs, ec, lc, hc⟩ := i2 i u (by simpa using e)
      refine ⟨cs, ec, lc.trans l2, fun j row er => ?_⟩
      obtain ⟨x, t, rfl, e1, e2⟩ := hh j row er
      obtain ⟨y, y1, y2⟩ := hc j t e2
      exact ⟨y, by simpa using y1, y2⟩
section
variable {K : PySem.W.Frag} {m : Addr → Prop} {al : List Addr} {md : Mo} {H H2 : Hp}
/-- rows as sources -/
theorem rows_src (sb : ∀ c ∈ al, m c) : ∀ {us : List U} {vs : List V} {rs : List (List U)}, Shs K H m al us vs → rows us = some rs → ∃ ks : List (Bool × Addr), vs = ks.map (fun p => V.ref p.2) ∧ ks.length = rs.length ∧ ∀ (j : Nat) p, ks[j]? = some p → ∃ row ws, rs[j]? = some row ∧ Src K m al md H row p.1 p.2 ws
  | [], _, rs, .nil, e => by cases e; exact ⟨[], rfl, rfl, fun j p e => by simp at e⟩
  | u :: us, _, rs, .cons h1 h2, e => by
    simp only [rows] at e
    cases q1 : items u with
    | none => rw [q1] at e; cases e
    | some row =>
      cases q2 : rows us with
      | none => rw [q1, q2] at e; cases e
      | some rs' =>
        rw [q1, q2] at e
        cases e
        obtain ⟨k, a, ws, rfl, S⟩ := h1.src (md := md) sb q1
        obtain ⟨ks, rfl, hl, hk⟩ := rows_src sb h2 q2
        refine ⟨(k, a) :: ks, rfl, by simp [hl], fun j p e => ?_⟩
        cases j with
        | zero => simp at e; subst e; exact ⟨row, ws, rfl, S⟩
        | succ j => simpa using hk j p (by simpa using e)
theorem yl_zips {rs : List (List U)} {ks : List (Bool × Addr)} {n : Nat} (hl : ks.length = rs.length) (h0 : 0 < ks.length) (hr : ∀ row ∈ rs, row.length = n) (hk : ∀ (j : Nat) p, ks[j]? = some p → ∃ row ws, rs[j]? = some row ∧ Src K m al md H row p.1 p.2 ws) :
    Yl K m al md H (Izn ks K) (zipsU n rs) := by
  obtain ⟨z1, z2⟩ := zipsU_ok n hr
  refine ⟨fun i H2 pp hi => fun p hp => ?_, fun H2 pp => ?_, fun i H2 x H3 u pp e y => ?_⟩
  · rw [z1] at hi
    obtain ⟨j, hj⟩ := List.mem_iff_getElem?.mp hp
    obtain ⟨row, ws, e1, S⟩ := hk j p hj
    have hw : i < ws.length := by rw [← S.sh.length, hr row (List.mem_of_getElem? e1)]; exact hi
    exact ⟨ws, ws[i], S.sq H2 pp, List.getElem?_eq_getElem hw⟩
  · rw [z1]
    refine ⟨ks[0], List.getElem?_eq_getElem h0, ?_⟩
    obtain ⟨row, ws, e1, S⟩ := hk 0 ks[0] (List.getElem?_eq_getElem h0)
    exact ⟨ws, S.sq H2 pp, by rw [← S.sh.length, hr row (List.mem_of_getElem? e1)]⟩
  · obtain ⟨cs, rfl, lc, hc⟩ := z2 i u e
    obtain ⟨T, xs, tits, rfl, hT, rfl, lx, hx⟩ := y
    refine .new hT rfl (shs_of (by rw [lc, ← hl, lx]) fun j c hcj => ?_)
    have hj : j < ks.length := by rw [hl, ← lc]; exact (List.getElem?_eq_some_iff.mp hcj).1
    obtain ⟨row, ws, e1, S⟩ := hk j ks[j] (List.getElem?_eq_getElem hj)
    obtain ⟨v, e2, e3⟩ := hx j ks[j] (List.getElem?_eq_getElem hj) ws (S.sq H2 pp)
    obtain ⟨c', e4, e5⟩ := hc j row e1
    rw [hcj] at e5
    cases e5
    obtain ⟨v', e6, r⟩ := S.sh.nth e4
    rw [e2] at e6
    cases e6
    exact ⟨v, e3, r⟩
where
  shs_of : ∀ {us : List U} {vs : List V}, us.length = vs.length → (∀ (j : Nat) u, us[j]? = some u → ∃ v, vs[j]? = some v ∧ Sh K H m al u v) → Shs K H m al us vs
  | [], [], _, _ => .nil
  | [], _ :: _, h, _ => by simp at h
  | _ :: _, [], h, _ => by simp at h
  | u :: us, v :: vs, h, f => by
    obtain ⟨v', e, r⟩ := f 0 u rfl
    simp at e
    subst e
    exact .cons r (shs_of (by simpa using h) fun j u e => by simpa using f (j + 1) u (by simpa using e))
end
section
variable {X : Cx} {F : CallF} {KW : List (List Nat)} {a b c : C} {as : A} {x y z tg : Expr} {es : List Expr} {pos p p2 tpos : Pos}
theorem snd_zips {md : Mo} {nm : Str} (hm : md ≠ .tst) (hg : Gl X "zip") (hmg : X.mg "zip" = none) (g : Goal F KW X a x md) : GoalI F KW X (.zips a) (.Name nm tpos) (.Call (.Name "zip" p) [.Starred x p2] [] pos) md := by
  obtain ⟨te, pe, h⟩ := goal_src g hm
  refine PI.imp (pi_zn hg hmg pe) fun σ H R ⟨ρ, s, m, al, us, s', sc, e, q⟩ => ?_
  simp only [evI] at e
  obtain ⟨ra, s1, e1, e⟩ := bind_ok e
  obtain ⟨ys, e2, e⟩ := bindO_ok e
  obtain ⟨rs, e3, e⟩ := bindO_ok e
  refine h sc e1 fun v H' al' st t src => ?_
  obtain ⟨k, a, vs, rfl, S⟩ := src ys e2
  obtain ⟨ks, hv, hl, hk⟩ := rows_src (md := md) t.sub S.sh e3
  match rs, e, hl, hk with
  | r0 :: rs, e, hl, hk =>
    simp only at e
    cases hc : ((r0 :: rs).all fun t => t.length == r0.length) with
    | false => rw [hc] at e; cases e
    | true =>
      rw [hc] at e
      cases e
      have hr : ∀ row ∈ (r0 :: rs), row.length = r0.length := fun row hrow => by
        have := List.all_eq_true.mp hc row hrow
        simpa using this
      have h0 : 0 < ks.length := by rw [hl]; simp
      refine ⟨k, a, ks, rfl, by rw [← hv]; exact S.sq H' PP.refl, h0, fun p hp => ?_, q _ H' al' st t (yl_zips hl h0 hr hk)⟩
      obtain ⟨j, hj⟩ := List.mem_iff_getElem?.mp hp
      obtain ⟨row, ws, e1, S1⟩ := hk j p hj
      exact ⟨ws, S1.sq H' PP.refl⟩
end
end Ev

end
section
set_option Elab.async false
set_option linter.all false
set_option maxRecDepth 100000
set_option maxHeartbeats 2000000
namespace Ev
open PySem L2
theorem put_len (i : Nat) (s : Slot) : ∀ ρ : Env, (put i s ρ).length = ρ.length := by
  induction i with
  | zero => intro ρ; cases ρ <;> rfl
  | succ i ih => intro ρ; cases ρ with
    | nil => rfl
    | cons t r => simp [put, ih r]
theorem look_put_same {i : Nat} {s : Slot} : ∀ {ρ : Env}, i < ρ.length → look i (put i s ρ) = s := by
  induction i with
  | zero => intro ρ h; cases ρ with
    | nil => cases h
    | cons t r => rfl
  | succ i ih => intro ρ h; cases ρ with
    | nil => cases h
    | cons t r => exact ih (Nat.lt_of_succ_lt_succ h)
theorem look_put_ne {s : Slot} : ∀ {i j : Nat} {ρ : Env}, j ≠ i → look j (put i s ρ) = look j ρ
  | i, j, [], _ => by cases i <;> cases j <;> rfl
  | 0, 0, _ :: _, h => absurd rfl h
  | 0, j + 1, _ :: _, _ => rfl
  | i + 1, 0, _ :: _, _ => rfl
  | i + 1, j + 1, _ :: r, h => look_put_ne (ρ := r) fun e => h (by rw [e])
theorem look_ge : ∀ {i : Nat} {ρ : Env}, ρ.length ≤ i → look i ρ = .un
  | 0, [], _ => rfl
  | _ + 1, [], _ => rfl
  | 0, _ :: _, h => absurd h (by simp)
  | i + 1, _ :: r, h => look_ge (i := i) (ρ := r) (by simpa using h)
/-- what stands in a slot after a store -/
theorem look_put {i j : Nat} {s t : Slot} {ρ : Env} (h : look j (put i s ρ) = t) : (j = i ∧ i < ρ.length ∧ t = s) ∨ (j ≠ i ∧ look j ρ = t) ∨ t = .un := by
  by_cases e : j = i
  · subst e
    by_cases l : j < ρ.length
    · rw [look_put_same l] at h; exact .inl ⟨rfl, l, h.symm⟩
    · rw [look_ge (by rw [put_len]; exact Nat.le_of_not_lt l)] at h; exact .inr (.inr h.symm)
  · rw [look_put_ne e] at h; exact .inr (.inl ⟨e, h⟩)
section
variable {K : PySem.W.Frag} {H : Hp} {m : Addr → Prop} {al : List Addr} {ρ : Env} {σ : L2.St} {i : Nat} {u : U} {v : V} {s : Sto}
theorem SR.setSh (r : SR K m al ρ σ H) (h : Sh K H m al u v) : SR K m al (put i (.sh u) ρ) (σ.set i (some v)) H := by
  refine ⟨by rw [put_len, List.length_set]; exact r.len, r.md, fun j w e => ?_, fun j w e => ?_, fun j j' w w' a e1 e2 e3 e4 => ?_⟩
  · rcases look_put e with ⟨rfl, l, e⟩ | ⟨n, e⟩ | e
    · cases e; exact ⟨v, List.getElem?_set_self (by rw [← r.len]; exact l), h⟩
    · obtain ⟨x, e1, e2⟩ := r.sh j w e
      exact ⟨x, by rw [List.getElem?_set_ne (Ne.symm n)]; exact e1, e2⟩
    · cases e
  · rcases look_put e with ⟨rfl, l, e⟩ | ⟨n, e⟩ | e
    · cases e
    · obtain ⟨us, a, vs, e1, e2, e3⟩ := r.own j w e
      exact ⟨us, a, vs, e1, by rw [List.getElem?_set_ne (Ne.symm n)]; exact e2, e3⟩
    · cases e
  · rcases look_put e1 with ⟨rfl, l, e1⟩ | ⟨n1, e1⟩ | e1
    · cases e1
    · rcases look_put e2 with ⟨rfl, l, e2⟩ | ⟨n2, e2⟩ | e2
      · cases e2
      · rw [List.getElem?_set_ne (Ne.symm n1)] at e3
        rw [List.getElem?_set_ne (Ne.symm n2)] at e4
        exact r.inj j j' w w' a e1 e2 e3 e4
      · cases e2
    · cases e1
theorem SR.wipe (r : SR K m al ρ σ H) : ∀ w : List Nat, SR K m al (wipeE w ρ) (L2.wipe σ w) H
  | [] => r
  | j :: w => by
    have q := SR.wipe r w
    refine ⟨by show (put j .un (wipeE w ρ)).length = ((L2.wipe σ w).set j none).length; rw [put_len, List.length_set]; exact q.len, r.md, fun k u e => ?_, fun k u e => ?_, fun k k' u u' a e1 e2 e3 e4 => ?_⟩
    · rcases look_put e with ⟨_, _, e⟩ | ⟨n, e⟩ | e
      · cases e
      · obtain ⟨x, e1, e2⟩ := q.sh k u e
        exact ⟨x, by show ((L2.wipe σ w).set j none)[k]? = _; rw [List.getElem?_set_ne (Ne.symm n)]; exact e1, e2⟩
      · cases e
    · rcases look_put e with ⟨_, _, e⟩ | ⟨n, e⟩ | e
      · cases e
      · obtain ⟨us, a, vs, e1, e2, e3⟩ := q.own k u e
        exact ⟨us, a, vs, e1, by show ((L2.wipe σ w).set j none)[k]? = _; rw [List.getElem?_set_ne (Ne.symm n)]; exact e2, e3⟩
      · cases e
    · rcases look_put e1 with ⟨_, _, e1⟩ | ⟨n1, e1⟩ | e1
      · cases e1
      · rcases look_put e2 with ⟨_, _, e2⟩ | ⟨n2, e2⟩ | e2
        · cases e2
        · have e3 : ((L2.wipe σ w).set j none)[k]? = _ := e3
          have e4 : ((L2.wipe σ w).set j none)[k']? = _ := e4
          rw [List.getElem?_set_ne (Ne.symm n1)] at e3
          rw [List.getElem?_set_ne (Ne.symm n2)] at e4
          exact q.inj k k' u u' a e1 e2 e3 e4
        · cases e2
      · cases e1
theorem wipe_get {σ : L2.St} : ∀ {w : List Nat} {i : Nat}, (L2.wipe σ w)[i]? = if i ∈ w then (σ[i]?).map (fun _ => none) else σ[i]?
  | [], i => by simp [L2.wipe]
  | j :: w, i => by
    show ((L2.wipe σ w).set j none)[i]? = _
    rw [List.getElem?_set, L2.wipe_length, wipe_get (w := w)]
    by_cases e : j = i
    · subst e
      rw [if_pos rfl, if_pos List.mem_cons_self]
      by_cases l : j < σ.length
      · rw [if_pos l, List.getElem?_eq_getElem l]; rfl
      · rw [if_neg l, List.getElem?_eq_none (Nat.le_of_not_lt l)]; rfl
    · rw [if_neg e]
      have : (i ∈ j :: w) ↔ i ∈ w := by simp [Ne.symm e]
      by_cases c : i ∈ w
      · rw [if_pos c, if_pos (this.mpr c)]
      · rw [if_neg c, if_neg fun z => c (this.mp z)]
theorem wipe_same {w v : List Nat} (h : sameN w v = true) (σ : L2.St) : L2.wipe σ w = L2.wipe σ v := by
  have h := Bool.and_eq_true_iff.mp h
  have h1 := List.all_eq_true.mp h.1
  have h2 := List.all_eq_true.mp h.2
  refine List.ext_getElem? fun i => ?_
  rw [wipe_get, wipe_get]
  have : (i ∈ w) ↔ i ∈ v := ⟨fun z => by simpa using h1 i z, fun z => by simpa using h2 i z⟩
  by_cases c : i ∈ w
  · rw [if_pos c, if_pos (this.mp c)]
  · rw [if_neg c, if_neg fun z => c (this.mpr z)]
end

/-! ### targets -/
/-- alike but at some slots -/
structure Off (l : List Nat) (σ σ' : L2.St) : Prop where
  len : σ'.length = σ.length
  get : ∀ j, j ∉ l → σ'[j]? = σ[j]?
theorem Off.trans {l l' : List Nat} {σ σ1 σ2 : L2.St} (a : Off l σ σ1) (b : Off l' σ1 σ2) : Off (l ++ l') σ σ2 := ⟨b.len.trans a.len, fun j h => (b.get j fun z => h (List.mem_append_right _ z)).trans (a.get j fun z => h (List.mem_append_left _ z))⟩
theorem Off.wipe {l w : List Nat} {σ σ' : L2.St} (a : Off l σ σ') (h : ∀ j ∈ l, j ∈ w) : L2.wipe σ' w = L2.wipe σ w := by
  refine List.ext_getElem? fun i => ?_
  rw [wipe_get, wipe_get]
  by_cases c : i ∈ w
  · rw [if_pos c, if_pos c]
    by_cases z : i < σ.length
    · rw [List.getElem?_eq_getElem z, List.getElem?_eq_getElem (by rw [a.len]; exact z)]; rfl
    · rw [List.getElem?_eq_none (Nat.le_of_not_lt z), List.getElem?_eq_none (by rw [a.len]; exact Nat.le_of_not_lt z)]
  · rw [if_neg c, if_neg c]
    exact a.get i fun z => c (h i z)
section
variable {X : Cx} {k : Ck}
def tG (K : PySem.W.Frag) (tg : Tg) : TG := fun v σ H Q => ∃ ρ m al u ρ', (∀ c ∈ al, m c) ∧ SR K m al ρ σ H ∧ Sh K H m al u v ∧ bindTg tg u ρ = some ρ' ∧ ∀ σ', SR K m al ρ' σ' H → Off (tgSlots tg) σ σ' → Q σ' H
structure Names (k : Ck) (X : Cx) : Prop where
  N : X.N = k.N
  nd : k.N.Nodup
  sc : X.env.scope = k.sc
  fn : X.fn = k.fn
  calm : X.calm = true
theorem loc_of {x : Str} (O : Names k X) (h : locB k x = true) : L2.Loc X.env.scope x ∧ (X.fn x = true ∨ X.env.scope.names.lookup x = some .local) := by
  unfold locB at h
  unfold L2.Loc
  rw [O.sc, O.fn]
  cases q : k.sc.names.lookup x with
  | none => rw [q] at h; cases h
  | some c =>
    rw [q] at h
    cases c <;> first | (cases h; done) | skip
    · exact ⟨.inl rfl, .inr rfl⟩
    · exact ⟨.inr rfl, .inl h⟩
def gAny (K : PySem.W.Frag) (n : Nat) (t : TGs) : TG := fun v σ H Q => ∃ k a xs, v = .ref a ∧ SqK k K H a xs ∧ xs.length = n ∧ t xs σ H Q
theorem pg_any {es : List Expr} {kk : Nat} {t : TGs} {n : Nat} {pos : Pos} (hc : X.calm = true) (h : PGs X es t)
    (hn : (assignEach es X.env).length = n) (hst : (assignEach es X.env).findIdx? (·.1) = none) : PG X (.Tuple es kk pos) (gAny X.K n t) := by
  refine ⟨fun pins s σ H v u Q I r ⟨k, a, xs, e, hq, hl, q⟩ => ?_⟩
  cases k with
  | true => exact (pg_unl hc h hn hst).run pins s σ H v u Q I r ⟨a, xs, e, hq, hl, q⟩
  | false => exact (pg_tup hc h hn hst).run pins s σ H v u Q I r ⟨a, xs, e, hq, hl, q⟩
theorem PG.imp {e : Expr} {t t' : TG} (h : PG X e t) (i : ∀ v σ H Q, t' v σ H Q → t v σ H Q) : PG X e t' := ⟨fun pins s σ H v u Q I r q => h.run pins s σ H v u Q I r (i _ _ _ _ q)⟩
theorem asg_of {x : Expr} {es : List Expr} (h : noStar x = true) (env : PySem.Env) : assignEach (x :: es) env = (false, assign x env) :: assignEach es env := by
  cases x <;> first | rfl | cases h
theorem asg_map {x : Expr} {es : List Expr} (h : noStar x = true) (env : PySem.Env) : (assignEach (x :: es) env).map (·.2) = assign x env :: (assignEach es env).map (·.2) := by
  cases x <;> first | rfl | cases h
theorem tg_star {tg : Tg} {x : Expr} (h : chkTg tg k x = true) : noStar x = true := by
  cases tg <;> cases x <;> first | rfl | (simp [chkTg] at h; done)
theorem pg_of (O : Names k X) : ∀ (tg : Tg) (x : Expr), chkTg tg k x = true → PG X x (tG X.K tg)
  | .nm i, x, h => by
    cases x <;> simp only [chkTg] at h <;> try (cases h; done)
    have h := Bool.and_eq_true_iff.mp h
    obtain ⟨l, f⟩ := loc_of O h.2
    refine PG.imp (pg_name (i := i) (by rw [O.N]; exact O.nd) (by rw [O.N]; exact of_decide_eq_true h.1) l f) ?_
    rintro v σ H Q ⟨ρ, m, al, u, ρ', sb, r, sh, e, q⟩
    cases e
    exact q _ (r.setSh sh) ⟨List.length_set, fun j hj => List.getElem?_set_ne fun z => hj (by simp [tgSlots, z])⟩
  | .t2 a b, x, h => by
    cases x <;> simp only [chkTg] at h <;> try (cases h; done)
    rename_i es kk pos
    match es, h with
    | [x, y], h =>
      have h := Bool.and_eq_true_iff.mp h
      have s1 := tg_star h.1
      have s2 := tg_star h.2
      refine PG.imp (pg_any O.calm (pgs_cons (pg_of O a x h.1) (pgs_cons (pg_of O b y h.2) pgs_nil (asg_map s2 _)) (asg_map s1 _)) (by (rw [asg_of s1, asg_of s2]) <;> rfl) (by (rw [asg_of s1, asg_of s2]) <;> rfl)) ?_
      rintro v σ H Q ⟨ρ, m, al, u, ρ', sb, r, sh, e, q⟩
      simp only [bindTg] at e
      cases i1 : items u with
      | none => rw [i1] at e; cases e
      | some us =>
        rw [i1] at e
        match us, e with
        | [w1, w2], e =>
          obtain ⟨kd, p, vs, rfl, S⟩ := sh.src (md := .esc) sb i1
          have hs := S.sh
          cases hs with
          | cons v1 hs => cases hs with
            | cons v2 hs =>
              cases hs
              simp only at e
              cases e1 : bindTg a w1 ρ with
              | none => rw [e1] at e; cases e
              | some ρ1 =>
                rw [e1] at e
                exact ⟨kd, p, _, rfl, S.sq H PP.refl, rfl, _, _, rfl, ρ, m, al, w1, ρ1, sb, r, v1, e1, fun σ1 r1 o1 => ⟨_, _, rfl, ρ1, m, al, w2, ρ', sb, r1, v2, e, fun σ2 r2 o2 => ⟨rfl, q σ2 r2 (o1.trans o2)⟩⟩⟩
  | .t3 a b c, x, h => by
    cases x <;> simp only [chkTg] at h <;> try (cases h; done)
    rename_i es kk pos
    match es, h with
    | [x, y, z], h =>
      have h := Bool.and_eq_true_iff.mp h
      have h' := Bool.and_eq_true_iff.mp h.1
      have s1 := tg_star h'.1
      have s2 := tg_star h'.2
      have s3 := tg_star h.2
      refine PG.imp (pg_any O.calm (pgs_cons (pg_of O a x h'.1) (pgs_cons (pg_of O b y h'.2) (pgs_cons (pg_of O c z h.2) pgs_nil (asg_map s3 _)) (asg_map s2 _)) (asg_map s1 _)) (by (rw [asg_of s1, asg_of s2, asg_of s3]) <;> rfl) (by (rw [asg_of s1, asg_of s2, asg_of s3]) <;> rfl)) ?_
      rintro v σ H Q ⟨ρ, m, al, u, ρ', sb, r, sh, e, q⟩
      simp only [bindTg] at e
      cases i1 : items u with
      | none => rw [i1] at e; cases e
      | some us =>
        rw [i1] at e
        match us, e with
        | [w1, w2, w3], e =>
          obtain ⟨kd, p, vs, rfl, S⟩ := sh.src (md := .esc) sb i1
          have hs := S.sh
          cases hs with
          | cons v1 hs => cases hs with
            | cons v2 hs => cases hs with
              | cons v3 hs =>
                cases hs
                simp only at e
                cases e1 : bindTg a w1 ρ with
                | none => rw [e1] at e; cases e
                | some ρ1 =>
                  rw [e1] at e
                  simp only at e
                  cases e2 : bindTg b w2 ρ1 with
                  | none => rw [e2] at e; cases e
                  | some ρ2 =>
                    rw [e2] at e
                    exact ⟨kd, p, _, rfl, S.sq H PP.refl, rfl, _, _, rfl, ρ, m, al, w1, ρ1, sb, r, v1, e1, fun σ1 r1 o1 => ⟨_, _, rfl, ρ1, m, al, w2, ρ2, sb, r1, v2, e2, fun σ2 r2 o2 => ⟨_, _, rfl, ρ2, m, al, w3, ρ', sb, r2, v3, e, fun σ3 r3 o3 => ⟨rfl, q σ3 r3 (o1.trans (o2.trans o3))⟩⟩⟩⟩
  | .t4 a b c d, x, h => by
    cases x <;> simp only [chkTg] at h <;> try (cases h; done)
    rename_i es kk pos
    match es, h with
    | [x, y, z, t], h =>
      have h := Bool.and_eq_true_iff.mp h
      have h' := Bool.and_eq_true_iff.mp h.1
      have h'' := Bool.and_eq_true_iff.mp h'.1
      have s1 := tg_star h''.1
      have s2 := tg_star h''.2
      have s3 := tg_star h'.2
      have s4 := tg_star h.2
      refine PG.imp (pg_any O.calm (pgs_cons (pg_of O a x h''.1) (pgs_cons (pg_of O b y h''.2) (pgs_cons (pg_of O c z h'.2) (pgs_cons (pg_of O d t h.2) pgs_nil (asg_map s4 _)) (asg_map s3 _)) (asg_map s2 _)) (asg_map s1 _)) (by (rw [asg_of s1, asg_of s2, asg_of s3, asg_of s4]) <;> rfl) (by (rw [asg_of s1, asg_of s2, asg_of s3, asg_of s4]) <;> rfl)) ?_
      rintro v σ H Q ⟨ρ, m, al, u, ρ', sb, r, sh, e, q⟩
      simp only [bindTg] at e
      cases i1 : items u with
      | none => rw [i1] at e; cases e
      | some us =>
        rw [i1] at e
        match us, e with
        | [w1, w2, w3, w4], e =>
          obtain ⟨kd, p, vs, rfl, S⟩ := sh.src (md := .esc) sb i1
          have hs := S.sh
          cases hs with
          | cons v1 hs => cases hs with
            | cons v2 hs => cases hs with
              | cons v3 hs => cases hs with
                | cons v4 hs =>
                  cases hs
                  simp only at e
                  cases e1 : bindTg a w1 ρ with
                  | none => rw [e1] at e; cases e
                  | some ρ1 =>
                    rw [e1] at e
                    simp only at e
                    cases e2 : bindTg b w2 ρ1 with
                    | none => rw [e2] at e; cases e
                    | some ρ2 =>
                      rw [e2] at e
                      simp only at e
                      cases e3 : bindTg c w3 ρ2 with
                      | none => rw [e3] at e; cases e
                      | some ρ3 =>
                        rw [e3] at e
                        exact ⟨kd, p, _, rfl, S.sq H PP.refl, rfl, _, _, rfl, ρ, m, al, w1, ρ1, sb, r, v1, e1, fun σ1 r1 o1 => ⟨_, _, rfl, ρ1, m, al, w2, ρ2, sb, r1, v2, e2, fun σ2 r2 o2 => ⟨_, _, rfl, ρ2, m, al, w3, ρ3, sb, r2, v3, e3, fun σ3 r3 o3 => ⟨_, _, rfl, ρ3, m, al, w4, ρ', sb, r3, v4, e, fun σ4 r4 o4 => ⟨rfl, q σ4 r4 (o1.trans (o2.trans (o3.trans o4)))⟩⟩⟩⟩⟩
end
end Ev

end
section
set_option Elab.async false
set_option linter.all false
set_option maxRecDepth 100000
set_option maxHeartbeats 2000000
namespace Ev
open PySem L2
section
variable {K : PySem.W.Frag} {H H1 H2 : Hp} {m m1 m2 : Addr → Prop} {al al1 al2 : List Addr} {ρ : Env} {σ : L2.St} {s : Sto} {us : List U} {vs : List V} {u : U} {v : V}
theorem SR.over (r : SR K m1 al1 ρ σ H1) (st : Step H1 H al1 al) (sb : ∀ c ∈ al1, m1 c) (hm : ∀ b o, H1 b = some o → ¬ m1 b → ¬ m2 b) (md : ∀ b, m2 b → ∃ o, H b = some o) (w : ∀ b, m1 b → m2 b) : SR K m2 al ρ σ H :=
  ⟨r.len, md, fun i u e => by
      obtain ⟨v, e1, e2⟩ := r.sh i u e
      exact ⟨v, e1, e2.mono (fun b o e n => st.ext b o e fun z => n (sb b z)) hm st.nth⟩,
    fun i u e => by
      obtain ⟨us, a, vs, e1, e2, e3, e4, e5, e6⟩ := r.own i u e
      exact ⟨us, a, vs, e1, e2, st.ext _ _ e3 e6, e4.mono (fun b o e n => st.ext b o e fun z => n (sb b z)) hm st.nth, w _ e5, st.notin e3 e6⟩,
    r.inj⟩
/-- a write at an address of m (not the store's) -/
theorem Sh.write (h : Sh K H m al u v) {D : Addr} (hD : m D) {o : HO} : Sh K (upd H D o) m al u v := h.mono (fun b q e n => by rw [upd_ne fun z => n (by rw [z]; exact hD)]; exact e) (fun _ _ _ z => z) fun _ _ z => z
theorem Shs.write (h : Shs K H m al us vs) {D : Addr} (hD : m D) {o : HO} : Shs K (upd H D o) m al us vs := h.mono (fun b q e n => by rw [upd_ne fun z => n (by rw [z]; exact hD)]; exact e) (fun _ _ _ z => z) fun _ _ z => z
theorem ST.write (t : ST K m al s H) {D : Addr} (hD : m D) (hn : D ∉ al) {o : HO} : ST K m al s (upd H D o) := ⟨t.len, t.nd, t.sub, fun k us e => by
  obtain ⟨a, e1, e2⟩ := t.at_ k us e
  refine ⟨a, e1, ?_⟩
  rw [upd_ne fun z => hn (by rw [← z]; exact List.mem_of_getElem? e1)]
  exact e2⟩
end

theorem wipe_wipe {σ : L2.St} {w : List Nat} : L2.wipe (L2.wipe σ w) w = L2.wipe σ w := by
  refine List.ext_getElem? fun i => ?_
  rw [wipe_get, wipe_get]
  by_cases c : i ∈ w
  · simp only [if_pos c]
    cases σ[i]? <;> rfl
  · simp only [if_neg c]
def turnF (F : CallF) (KW : List (List Nat)) (tg : Tg) (t e : C) (ρw : Env) (u : U) (s : Sto) : RE (Option U) := match bindTg tg u ρw with
  | some r1 => (evE F KW t r1 s).bind fun x s => (ofO s (truth x.u)).bind fun k s => (match k with
    | true => (evE F KW e r1 s).bind fun y s => .ok (some y.u) s
    | false => .ok none s)
  | none => .bad
theorem turn_ok {F : CallF} {KW : List (List Nat)} {tg : Tg} {t e : C} {ρw : Env} {u : U} {s s' : Sto} {o : Option U} (h : turnF F KW tg t e ρw u s = .ok o s') : ∃ ρ1 ra s1 k, bindTg tg u ρw = some ρ1 ∧ evE F KW t ρ1 s = .ok ra s1 ∧ truth ra.u = some k ∧
    ((k = true ∧ ∃ rb, evE F KW e ρ1 s1 = .ok rb s' ∧ o = some rb.u) ∨ (k = false ∧ o = none ∧ s' = s1)) := by
  unfold turnF at h
  cases b : bindTg tg u ρw with
  | none => rw [b] at h; cases h
  | some ρ1 =>
    rw [b] at h
    simp only at h
    obtain ⟨ra, s1, e1, h⟩ := bind_ok h
    obtain ⟨k, e2, h⟩ := bindO_ok h
    refine ⟨ρ1, ra, s1, k, rfl, e1, e2, ?_⟩
    cases k with
    | true =>
      obtain ⟨rb, s2, e3, h⟩ := bind_ok h
      cases h
      exact .inl ⟨rfl, rb, e3, rfl⟩
    | false => cases h; exact .inr ⟨rfl, rfl, rfl⟩
theorem compL_cons {f : U → Sto → RE (Option U)} {u : U} {us ys : List U} {s s' : Sto} (h : compL f (u :: us) s = .ok ys s') : ∃ o s1 zs, f u s = .ok o s1 ∧ compL f us s1 = .ok zs s' ∧ ys = (match o with | some y => y :: zs | none => zs) := by
  simp only [compL] at h
  cases q : f u s with
  | bad => rw [q] at h; cases h
  | exc x s => rw [q] at h; cases h
  | ok o s1 =>
    rw [q] at h
    cases o with
    | none => exact ⟨none, s1, ys, rfl, h, rfl⟩
    | some y =>
      simp only at h
      cases q2 : compL f us s1 with
      | bad => rw [q2] at h; cases h
      | exc x s => rw [q2] at h; cases h
      | ok zs s2 =>
        rw [q2] at h
        cases h
        exact ⟨some y, s1, zs, rfl, q2, rfl⟩
section
variable {X : Cx} {F : CallF} {KW : List (List Nat)}
/-- the tests of a comprehension -/
def tTs (F : CallF) (KW : List (List Nat)) (K : PySem.W.Frag) (t : C) : TT := tT F KW K t
theorem lc_in {w vs : List Nat} {tg : Tg} {it : Ev.It} {t e : C} (hw : ∀ σ, L2.wipe σ w = L2.wipe σ vs) (hs : ∀ j ∈ tgSlots tg, j ∈ w) :
    ∀ σ H (Q : VK), tE F KW X.K (.comp w tg it t e) σ H Q → tLc (tI F KW X.K .brw it) (tG X.K tg) (tT F KW X.K t) (tE F KW X.K e) vs σ H Q := by
  rintro σ H Q ⟨ρ, s, m, al, r, s', sc, ev, q⟩
  simp only [evE] at ev
  obtain ⟨us, s1, e1, ev⟩ := bind_ok ev
  cases hl : inLim us with
  | false => rw [hl] at ev; cases ev
  | true =>
  rw [hl] at ev
  simp only at ev
  obtain ⟨ys, s2, e2, ev⟩ := bind_ok ev
  cases ev
  have e2 : compL (turnF F KW tg t e (wipeE w ρ)) us s1 = .ok ys s' := e2
  have hlim : us.length ≤ lim := of_decide_eq_true hl
  refine ⟨ρ, s, m, al, us, s1, sc, e1, fun J H1 al1 st1 t1 yl => fun D hD => ?_⟩
  have sc1 := sc.step st1 t1
  -- the turns
  let m' : List Addr → Addr → Prop := fun l a => mU m l a ∨ a = D
  have hm : ∀ {Hi : Hp} {ali : List Addr}, Step H1 Hi al1 ali → ∀ b o, H1 b = some o → ¬ mU m al1 b → ¬ m' ali b := fun st b o e n z => by
    rcases z with (z | z) | z
    · exact n (.inl z)
    · obtain ⟨g, eg, hg⟩ := st.pre
      rw [eg] at z
      rcases List.mem_append.mp z with z | z
      · exact n (.inr z)
      · rw [hg b z] at e; cases e
    · rw [z, hD] at e; cases e
  have pp : ∀ {Hi : Hp} {ali : List Addr}, Step H1 Hi al1 ali → PP (mU m al1) al1 .brw H1 Hi := fun st => st.ext
  have wk : ∀ {l1 l2 : List Addr} b, m' l2 b → mU (m' l1) l2 b := fun b z => by
    rcases z with (z | z) | z
    · exact .inl (.inl (.inl z))
    · exact .inr z
    · exact .inl (.inr z)
  let Iv : Nat → Hp → Prop := fun i Hi => ∃ si ali done rest acc, compL (turnF F KW tg t e (wipeE w ρ)) (us.drop i) si = .ok rest s' ∧ ys = done ++ rest ∧ done.length ≤ i ∧ Step H1 Hi al1 ali ∧ D ∉ ali ∧ ST X.K (m' ali) ali si Hi ∧ Hi D = some (.lst acc) ∧ Shs X.K Hi (m' ali) ali done acc
  refine ⟨fun i n Hi => n = us.length - i ∧ i ≤ us.length ∧ Iv i Hi, ⟨us.length, rfl, Nat.zero_le _, s1, al1, [], ys, [], e2, rfl, Nat.le_refl _, (Grow.new hD).step, ?_, ?_, upd_same, .nil⟩, ?_⟩
  · intro z
    obtain ⟨o, e⟩ := t1.trk z
    rw [hD] at e; cases e
  · have t2 : ST X.K (m' al1) al1 s1 H1 := ⟨t1.len, t1.nd, fun a ha => .inl (.inr ha), fun k us e => t1.at_ k us e⟩
    exact t2.grow (Grow.new hD)
  · rintro i n Hi ⟨hn, hi, si, ali, done, rest, acc, e3, ey, hd, st, hDa, t2, hDh, sh⟩
    by_cases lt : i < us.length
    · have dr : us.drop i = us[i] :: us.drop (i + 1) := List.drop_eq_getElem_cons lt
      rw [dr] at e3
      obtain ⟨o, sa0, zs, ef, ezs, er⟩ := compL_cons e3
      obtain ⟨ρ1, ra, sa, k, eb, et, etr, alt⟩ := turn_ok ef
      refine .inr ⟨yl.go i Hi (pp st) lt, Iv (i + 1), fun H' h' => ⟨us.length - (i + 1), by omega, rfl, lt, h'⟩, fun x H3 hy => ?_⟩
      obtain ⟨g3, hD3, hx⟩ : Grow Hi H3 ∧ H3 D = some (.lst acc) ∧ Sh X.K H3 (m' ali) ali us[i] x := by
        have key := yl.yl i Hi x H3 us[i] (pp st) (List.getElem?_eq_getElem lt) hy
        generalize us[i] = u0 at key
        cases key with
        | old h1 h2 =>
          subst h1
          exact ⟨Grow.refl, hDh, h2.mono (fun b o e n => st.ext b o e fun z => n (.inr z)) (hm st) st.nth⟩
        | new h1 h2 h3 =>
          subst h2
          refine ⟨Grow.new h1, Grow.new h1 _ _ hDh, .tup upd_same (fun z => ?_) ((h3.mono (fun b o e n => st.ext b o e fun z => n (.inr z)) (hm st) st.nth).grow (Grow.new h1))⟩
          rcases z with (z | z) | z
          · obtain ⟨o, e⟩ := sc1.r.md _ (.inl z)
            obtain ⟨o', e'⟩ := st.dom _ _ e
            rw [h1] at e'; cases e'
          · obtain ⟨o, e⟩ := t2.trk z
            rw [h1] at e; cases e
          · rw [z, hDh] at h1; cases h1
      have st3 : Step H1 H3 al1 ali := st.grow g3
      have t3 := t2.grow g3
      have r3 : SR X.K (m' ali) ali (wipeE w ρ) (L2.wipe σ vs) H3 := by
        rw [← hw]
        refine (sc1.r.over st3 t1.sub (hm st) (fun b z => ?_) fun b z => ?_).wipe w
        · rcases z with (z | z) | z
          · obtain ⟨o, e⟩ := sc1.r.md _ (.inl z)
            exact st3.dom _ _ e
          · exact t3.trk z
          · rw [z]; exact ⟨_, hD3⟩
        · rcases z with z | z
          · exact .inl (.inl z)
          · exact .inl (.inr (st.sub _ z))
      refine ⟨wipeE w ρ, m' ali, ali, us[i], ρ1, t3.sub, r3, hx, eb, fun σ2 r2 off => ⟨by rw [← hw σ2, off.wipe hs, hw, wipe_wipe], ?_⟩⟩
      have sc2 : SC X.K (m' ali) ali si ρ1 σ2 H3 := ⟨t3, r2⟩
      refine ⟨ρ1, si, m' ali, ali, ra, sa, k, sc2, et, etr, fun H4 al4 st4 t4 => ?_⟩
      have hD4 := st4.ext _ _ hD3 hDa
      have hDa4 := st4.notin hD3 hDa
      have sh4 := (sh.grow g3).step st4 t3.sub
      rcases alt with ⟨rfl, rb, ee, rfl⟩ | ⟨rfl, rfl, rfl⟩
      · show tE F KW X.K e σ2 H4 _
        refine ⟨ρ1, sa, mU (m' ali) al4, al4, rb, sa0, sc2.step st4 t4, ee, fun v H5 al5 st5 t5 vr => ?_⟩
        have hD5 := st5.ext _ _ hD4 hDa4
        have hDa5 := st5.notin hD4 hDa4
        have sh5 := sh4.step st5 t4.sub
        have w5 : ∀ b, m' al5 b → mU (mU (m' ali) al4) al5 b := fun b z => by
          rcases z with (z | z) | z
          · exact .inl (.inl (.inl (.inl z)))
          · exact .inr z
          · exact .inl (.inl (.inr z))
        have mD : m' al5 D := .inr rfl
        refine ⟨acc, hD5, ?_, sa0, al5, done ++ [rb.u], zs, acc ++ [v], ezs, ?_, ?_, ?_, hDa5, (t5.weak w5 fun a ha => .inl (.inr ha)).write mD hDa5, upd_same, ((sh5.weak w5).append (.cons (vr.sh.weak w5) .nil)).write mD⟩
        · rw [← sh.length]
          exact Nat.lt_of_le_of_lt (Nat.le_trans hd (Nat.le_trans hi hlim)) (by unfold lim; decide)
        · rw [ey, er, List.append_assoc]; rfl
        · rw [List.length_append]; exact Nat.succ_le_succ hd
        · have s15 := (st3.trans st4).trans st5
          refine ⟨s15.pre, fun b o e hb => ?_, fun b o e => ?_⟩
          · rw [upd_ne fun z => by rw [z, hD] at e; cases e]
            exact s15.ext b o e hb
          · rw [upd_ne fun z => by rw [z, hD] at e; cases e]
            exact s15.dom b o e
      · show Iv (i + 1) H4
        exact ⟨_, al4, done, zs, acc, ezs, by rw [ey, er], Nat.le_succ_of_le hd, st3.trans st4, hDa4, t4.weak wk fun a ha => .inl (.inr ha), hD4, sh4.weak wk⟩
    · have hi' : i = us.length := Nat.le_antisymm hi (Nat.le_of_not_lt lt)
      subst hi'
      rw [List.drop_length] at e3
      cases e3
      refine .inl ⟨yl.st Hi (pp st), ?_⟩
      have dn : H D = none := st1.none hD
      have nm : ¬ mU m ali D := fun z => by
        rcases z with z | z
        · obtain ⟨o, e⟩ := sc.md _ z
          rw [dn] at e; cases e
        · exact hDa z
      rw [List.append_nil] at ey
      subst ey
      refine q (.ref D) Hi ali (st1.trans st) (t2.weak (fun b z => .inl z) fun a ha => .inr ha) ⟨.lst hDh nm (sh.weak fun b z => .inl z), fun _ us' e' => ?_⟩
      cases e'
      exact ⟨D, acc, rfl, hDh, sh, dn, nm⟩
end
end Ev

end
section
set_option Elab.async false
set_option linter.all false
set_option maxRecDepth 100000
set_option maxHeartbeats 4000000
namespace Ev
open PySem L2
theorem and2 {a b : Bool} (h : (a && b) = true) : a = true ∧ b = true := Bool.and_eq_true_iff.mp h
section
variable {X : Cx} {F : CallF} {KW : List (List Nat)} {T : Tb} {k : Ck}
theorem pw_of {op : PySem.BoolOp} {es : List Expr} {pos : Pos} {t : TT} (h : PT X (.BoolOp op es pos) t) : PW X (.BoolOp op es pos) t := ⟨fun whole pins s σ H Q I hw => by
  have z := h.run pins s σ H Q I hw
  unfold PySem.isTrue at z ⊢
  exact z⟩
theorem pt_one (op : PySem.BoolOp) {x : Expr} {pos : Pos} {t : TT} (hop : op = .And ∨ op = .Or) (h : PT X x t) : PW X (.BoolOp op [x] pos) t := by
  rcases hop with rfl | rfl
  · exact pw_and1 h
  · exact pw_or1 h
theorem XOk.names (O : XOk T F KW k X) : Names k X := ⟨O.N, O.nd, O.sc, O.fn, O.calm⟩
theorem gl_of (O : XOk T F KW k X) {g : Expr} {n : Str} (h : isG k n g = true) : ∃ p, g = .Name n p ∧ Gl X n ∧ (n == ("__debug__" : Str)) = false ∧ n ≠ "__name__" := by
  obtain ⟨x, p, rfl⟩ : ∃ x p, g = .Name x p := by cases g <;> first | exact ⟨_, _, rfl⟩ | (cases h; done)
  unfold isG gName? at h
  simp only at h
  by_cases c : (glB k.sc x && plainN x) = true
  · rw [if_pos c] at h
    simp only [decide_eq_true_eq] at h
    subst h
    obtain ⟨c1, c2⟩ := and2 c
    refine ⟨p, rfl, ?_, ?_, ?_⟩
    · show X.env.scope.names.lookup x = _
      rw [O.sc]
      unfold glB at c1
      cases q : k.sc.names.lookup x with
      | none => rw [q] at c1; cases c1
      | some w => rw [q] at c1; cases w <;> first | rfl | cases c1
    · unfold plainN at c2
      have c3 := (and2 (and2 c2).1).1
      simpa using c3
    · unfold plainN at c2
      have c3 := (and2 c2).2
      simpa using c3
  · rw [if_neg c] at h; cases h
theorem gn_of (O : XOk T F KW k X) {g : Expr} {n : Str} (h : gName? k g = some n) : ∃ p, g = .Name n p ∧ Gl X n ∧ (n == ("__debug__" : Str)) = false ∧ n ≠ "__name__" :=
  gl_of O (by unfold isG; rw [h]; simp)
theorem pe_slot (O : XOk T F KW k X) {i : Nat} {e : Expr} (h : varOk k i e = true) : PE X e (tVar i) := by
  obtain ⟨x, p, rfl⟩ : ∃ x p, e = .Name x p := by cases e <;> first | exact ⟨_, _, rfl⟩ | (cases h; done)
  obtain ⟨h1, h3⟩ := and2 h
  obtain ⟨h1, h2⟩ := and2 h1
  refine pe_var (by rw [O.N]; exact of_decide_eq_true h1) ?_ ?_ ?_
  · unfold L2.Vis
    rw [O.sc]
    unfold visB at h2
    cases q : k.sc.names.lookup x with
    | none => rw [q] at h2; cases h2
    | some w => rw [q] at h2; cases w <;> first | exact .inl rfl | exact .inr (.inl rfl) | exact .inr (.inr rfl) | (cases h2; done)
  · unfold plainN at h3
    have c3 := (and2 (and2 h3).1).1
    simpa using c3
  · unfold plainN at h3
    have c3 := (and2 (and2 h3).1).2
    simpa using c3
theorem pe_con (O : XOk T F KW k X) {u : U} {e : Expr} (h : conOk T k u e = true) : PE X e (tE F KW X.K (.con u)) ∧ ∀ whole, isTrue e X.env whole = (do let v ← whole; standAt e.pos; holding [v] (truthy v)) := by
  cases e <;> first | (cases h; done) | skip
  · rename_i c j p
    refine ⟨?_, fun _ => rfl⟩
    cases c <;> cases u <;> simp only [conOk] at h <;> first | (cases h; done) | skip
    · exact snd_con pe_non fun _ _ _ => .non
    · rename_i b b'
      rw [eq_of_beq h]
      exact snd_con pe_bl fun _ _ _ => .bl _
    · rename_i i i'
      rw [eq_of_beq h]
      exact snd_con pe_int fun _ _ _ => .int _
    · rename_i x x'
      rw [of_decide_eq_true h]
      exact snd_con pe_str fun _ _ _ => .str _
  · rename_i x p
    refine ⟨?_, fun _ => rfl⟩
    have h : (match gName? k (.Name x p) with | some x => (match T.cons.lookup x with | some w => sameU u w | none => false) | none => false) = true := h
    cases q : gName? k (.Name x p) with
    | none => rw [q] at h; cases h
    | some n =>
      rw [q] at h
      simp only at h
      cases q2 : T.cons.lookup n with
      | none => rw [q2] at h; cases h
      | some w =>
        rw [q2] at h
        have e := sameU_eq u w h
        subst e
        obtain ⟨p', e, hg, hd, _⟩ := gn_of O q
        cases e
        obtain ⟨v, wv, hm, r, sh⟩ := O.cons _ _ q2
        exact snd_con (pe_glob hg hm r hd) sh
theorem nost {as : A} {md : Mo} : ∀ {es : List Expr}, chkA T as md k es = true → noStars es = true ∧ lenA as = es.length := by
  intro es h
  induction es generalizing as with
  | nil => cases as with
    | nil => exact ⟨rfl, rfl⟩
    | cons c r => simp [chkA] at h
  | cons e es ih => cases as with
    | nil => simp [chkA] at h
    | cons c r =>
      simp only [chkA] at h
      obtain ⟨h1, h2⟩ := and2 h
      obtain ⟨h1, _⟩ := and2 h1
      obtain ⟨i1, i2⟩ := ih h2
      exact ⟨by unfold noStars; rw [h1, i1]; rfl, by show lenA r + 1 = es.length + 1; rw [i2]⟩
/-- the one-word built-ins -/
theorem bi_tab (hc : X.calm = true) (b : Bi) (n : Str) (h : biName b = some n) : n ∈ bltNames ∧ ((∃ id, bootBuiltins n = some (.builtin id) ∧ CallR X (.builtin id) (rBi X.K b)) ∨ ∃ id, bootBuiltins n = some (.type id) ∧ CallR X (.type id) (rBi X.K b)) := by
  cases b <;> simp only [biName] at h <;> cases h
  · exact ⟨by decide +kernel, .inl ⟨_, by decide +kernel, biR_len⟩⟩
  · exact ⟨by decide +kernel, .inl ⟨_, by decide +kernel, biR_abs⟩⟩
  · exact ⟨by decide +kernel, .inr ⟨_, by decide +kernel, biR_int1⟩⟩
  · exact ⟨by decide +kernel, .inl ⟨_, by decide +kernel, biR_min2 hc⟩⟩
  · exact ⟨by decide +kernel, .inl ⟨_, by decide +kernel, biR_max2 hc⟩⟩
  · exact ⟨by decide +kernel, .inl ⟨_, by decide +kernel, biR_minS hc⟩⟩
  · exact ⟨by decide +kernel, .inl ⟨_, by decide +kernel, biR_maxS hc⟩⟩
  · exact ⟨by decide +kernel, .inl ⟨_, by decide +kernel, biR_sum hc⟩⟩
  · exact ⟨by decide +kernel, .inl ⟨_, by decide +kernel, biR_all hc⟩⟩
  · exact ⟨by decide +kernel, .inl ⟨_, by decide +kernel, biR_any hc⟩⟩
  · exact ⟨by decide +kernel, .inr ⟨_, by decide +kernel, biR_list⟩⟩
  · exact ⟨by decide +kernel, .inr ⟨_, by decide +kernel, biR_tuple⟩⟩
  · exact ⟨by decide +kernel, .inl ⟨_, by decide +kernel, biR_sorted⟩⟩
theorem fold_of {iter : Expr} (h : noSet iter = true) (env : PySem.Env) (x : Value) : foldedSetIterable iter env x = pure x := by
  cases iter <;> first | rfl | cases h
theorem plain_ix {y : Expr} (h : notSlice y = true) : PlainIx y := by
  cases y <;> first | (intro o i; rfl) | cases h
theorem nosl_of {y : Expr} (h : notSlice y = true) : NoSl y := by
  cases y <;> first | (intro o i; rfl) | cases h
theorem XOk.blk (O : XOk T F KW k X) (scope : Scope) (s : Shared) (H : Hp) (C : Addr) (cl : List (Str × Addr)) (fp : List Addr) : XOk T F KW (k.blk scope) (X.blk s H scope (compEnvC scope cl C X.env) fp) where
  N := O.N
  nd := O.nd
  sc := by
    show relabel scope X.env = relS scope k.sc
    rw [← O.sc]
    rfl
  fn := rfl
  calm := O.calm
  units := O.units
  blt := O.blt
  cons := O.cons
  fns := fun f fe h => ⟨(O.fns f fe h).ex⟩
  kws := fun kw ke fe h1 h2 => ⟨(O.kws kw ke fe h1 h2).ex⟩
  dfs := fun f fe j h1 h2 => ⟨(O.dfs f fe j h1 h2).ex⟩
end
end Ev

end
section
set_option Elab.async false
set_option linter.all false
set_option maxRecDepth 100000
set_option maxHeartbeats 8000000
namespace Ev
open PySem L2
def GoalA (F : CallF) (KW : List (List Nat)) (X : Cx) (a : A) (es : List Expr) : Mo → Prop
  | .esc => PA X es (tAs F KW X.K a)
  | _ => PA X es (tAb F KW X.K a)
mutual
theorem sndC {T : Tb} {F : CallF} {KW : List (List Nat)} : ∀ (c : C) (md : Mo) (k : Ck) (e : Expr) (X : Cx), XOk T F KW k X → chk T c md k e = true → Goal F KW X c e md
  | .con u, md, k, e, X, O, h => by
    simp only [chk] at h
    obtain ⟨h1, h2⟩ := pe_con O h
    exact Goal.of md h1 h2
  | .var i, md, k, e, X, O, h => by
    simp only [chk] at h
    have hp := pe_slot O h
    obtain ⟨x, p, rfl⟩ : ∃ x p, e = .Name x p := by cases e <;> first | exact ⟨_, _, rfl⟩ | (exact nomatch h)
    exact Goal.of md (snd_var hp) fun _ => rfl
  | .peek i, md, k, e, X, O, h => by
    cases md <;> simp only [chk] at h <;> first | (cases h; done) | skip
    · exact snd_peek (pe_slot O h)
    · have hp := pe_slot O h
      obtain ⟨x, p, rfl⟩ : ∃ x p, e = .Name x p := by cases e <;> first | exact ⟨_, _, rfl⟩ | (exact nomatch h)
      exact tB_tT (snd_peek hp) fun _ => rfl
  | .tup as, md, k, e, X, O, h => by
    simp only [chk] at h
    split at h
    · obtain ⟨h1, h2⟩ := and2 h
      exact Goal.of md (snd_tup (of_decide_eq_true h1) (sndA as .esc k _ X O (fun z => nomatch z) h2)) fun _ => rfl
    · cases h
  | .lst as, md, k, e, X, O, h => by
    simp only [chk] at h
    split at h
    · obtain ⟨h1, h2⟩ := and2 h
      exact Goal.of md (snd_lst (of_decide_eq_true h1) (sndA as .esc k _ X O (fun z => nomatch z) h2)) fun _ => rfl
    · cases h
  | .slst as, md, k, e, X, O, h => by
    simp only [chk] at h
    split at h
    · obtain ⟨h1, h2⟩ := and2 h
      exact Goal.of md (snd_slst (of_decide_eq_true h1) (sndA as .esc k _ X O (fun z => nomatch z) h2)) fun _ => rfl
    · cases h
  | .op o a b, md, k, e, X, O, h => by
    simp only [chk] at h
    split at h
    · obtain ⟨h1, h3⟩ := and2 h
      obtain ⟨h1, h2⟩ := and2 h1
      rw [opIs_eq h1]
      exact Goal.of md (snd_op (sndC a .brw k _ X O h2) (sndC b .brw k _ X O h3)) fun _ => rfl
    · cases h
  | .neg a, md, k, e, X, O, h => by
    simp only [chk] at h
    split at h
    · exact Goal.of md (snd_neg (sndC a .brw k _ X O h)) fun _ => rfl
    · cases h
  | .cmp o a b, md, k, e, X, O, h => by
    simp only [chk] at h
    split at h
    · obtain ⟨h1, h4⟩ := and2 h
      obtain ⟨h1, h3⟩ := and2 h1
      obtain ⟨h1, h2⟩ := and2 h1
      rw [cmpIs_eq h1]
      have hu : X.A.units + 65 < cLine := by have := O.units; omega
      have ha := sndC a .brw k _ X O h3
      have hb := sndC b .brw k _ X O h4
      cases md with
      | esc => exact snd_cmp hu h2 ha hb
      | brw => exact tE_tB (snd_cmp hu h2 ha hb)
      | tst => exact snd_cmpT hu h2 ha hb
    · cases h
  | .chain o q a b c, md, k, e, X, O, h => by
    simp only [chk] at h
    split at h
    · obtain ⟨h1, h7⟩ := and2 h
      obtain ⟨h1, h6⟩ := and2 h1
      obtain ⟨h1, h5⟩ := and2 h1
      obtain ⟨h1, h4⟩ := and2 h1
      obtain ⟨h1, h3⟩ := and2 h1
      obtain ⟨h1, h2⟩ := and2 h1
      rw [cmpIs_eq h1, cmpIs_eq h2]
      have hu : X.A.units + 65 < cLine := by have := O.units; omega
      have ha := sndC a .brw k _ X O h5
      have hb := sndC b .brw k _ X O h6
      have hc := sndC c .brw k _ X O h7
      cases md with
      | esc => exact snd_chain hu h4 ha hb hc
      | brw => exact tE_tB (snd_chain hu h4 ha hb hc)
      | tst => exact snd_chainT hu h4 ha hb hc
    · cases h
  | .not a, md, k, e, X, O, h => by
    simp only [chk] at h
    split at h
    · cases md with
      | esc => exact snd_not (sndC a .brw k _ X O h)
      | brw => exact tE_tB (snd_not (sndC a .brw k _ X O h))
      | tst => exact snd_notT (sndC a .tst k _ X O h)
    · cases h
  | .and a b, md, k, e, X, O, h => by
    simp only [chk] at h
    split at h
    · obtain ⟨h1, h2⟩ := and2 h
      have ha := sndC a md k _ X O h1
      have hb := sndC b md k _ X O h2
      cases md with
      | esc => exact snd_and ha (pe_one hb)
      | brw => exact snd_andB ha (pe_one hb)
      | tst => exact (snd_andT ha (pt_one .And (.inl rfl) hb)).pt
    · obtain ⟨h1, h2⟩ := and2 h
      have ha := sndC a md k _ X O h1
      have hb := sndC b md k _ X O h2
      cases md with
      | esc => exact snd_and ha hb
      | brw => exact snd_andB ha hb
      | tst => exact (snd_andT ha (pw_of hb)).pt
    · cases h
  | .or a b, md, k, e, X, O, h => by
    simp only [chk] at h
    split at h
    · obtain ⟨h1, h2⟩ := and2 h
      have ha := sndC a md k _ X O h1
      have hb := sndC b md k _ X O h2
      cases md with
      | esc => exact snd_or ha (pe_one hb)
      | brw => exact snd_orB ha (pe_one hb)
      | tst => exact (snd_orT ha (pt_one .Or (.inr rfl) hb)).pt
    · obtain ⟨h1, h2⟩ := and2 h
      have ha := sndC a md k _ X O h1
      have hb := sndC b md k _ X O h2
      cases md with
      | esc => exact snd_or ha hb
      | brw => exact snd_orB ha hb
      | tst => exact (snd_orT ha (pw_of hb)).pt
    · cases h
  | .ife t a b, md, k, e, X, O, h => by
    simp only [chk] at h
    split at h
    · obtain ⟨h1, h3⟩ := and2 h
      obtain ⟨h1, h2⟩ := and2 h1
      have ht := sndC t .tst k _ X O h1
      have ha := sndC a md k _ X O h2
      have hb := sndC b md k _ X O h3
      cases md with
      | esc => exact snd_ife ht ha hb
      | brw => exact snd_ifeB ht ha hb
      | tst => exact snd_ifeT ht ha hb
    · cases h
  | .ix a b, md, k, e, X, O, h => by
    simp only [chk] at h
    split at h
    · obtain ⟨h1, h3⟩ := and2 h
      obtain ⟨h1, h2⟩ := and2 h1
      exact Goal.of md (snd_ix (plain_ix h1) (sndC a .brw k _ X O h2) (sndC b .brw k _ X O h3)) fun _ => rfl
    · cases h
  | .sl a lo hi, md, k, e, X, O, h => by
    simp only [chk] at h
    split at h
    · obtain ⟨h1, h3⟩ := and2 h
      obtain ⟨h1, h2⟩ := and2 h1
      exact Goal.of md (snd_sl (sndC a .brw k _ X O h1) (sndC lo .brw k _ X O h2) (sndC hi .brw k _ X O h3)) fun _ => rfl
    · cases h
  | .slL a lo, md, k, e, X, O, h => by
    simp only [chk] at h
    split at h
    · obtain ⟨h1, h2⟩ := and2 h
      exact Goal.of md (snd_slL (sndC a .brw k _ X O h1) (sndC lo .brw k _ X O h2)) fun _ => rfl
    · cases h
  | .slH a hi, md, k, e, X, O, h => by
    simp only [chk] at h
    split at h
    · obtain ⟨h1, h2⟩ := and2 h
      exact Goal.of md (snd_slH (sndC a .brw k _ X O h1) (sndC hi .brw k _ X O h2)) fun _ => rfl
    · cases h
  | .rev a, md, k, e, X, O, h => by simp only [chk] at h; cases h
  | .call f as, md, k, e, X, O, h => by
    simp only [chk] at h
    split at h
    · split at h
      · rename_i x fe e1 e2
        obtain ⟨h1, h3⟩ := and2 h
        obtain ⟨h1, h2⟩ := and2 h1
        obtain ⟨p, rfl, hg, hd, _⟩ := gn_of O e1
        have h1 := of_decide_eq_true h1
        subst h1
        have h2 := of_decide_eq_true h2
        obtain ⟨n1, n2⟩ := nost h3
        exact Goal.of md (snd_call (n := fe.name) (O.fns _ _ e2) hg hd n1 (n2.trans h2) h2 (sndA as .esc k _ X O (fun z => nomatch z) h3)) fun _ => rfl
      · cases h
    · cases h
  | .callK f kw as bs, md, k, e, X, O, h => by
    simp only [chk] at h
    split at h
    · split at h
      · rename_i x fe ke e1 e2 e3
        obtain ⟨h1, h8⟩ := and2 h
        obtain ⟨h1, h7⟩ := and2 h1
        obtain ⟨h1, h6⟩ := and2 h1
        obtain ⟨h1, h5⟩ := and2 h1
        obtain ⟨h1, h4⟩ := and2 h1
        obtain ⟨h1, h3⟩ := and2 h1
        obtain ⟨h1, h2⟩ := and2 h1
        obtain ⟨p, rfl, hg, hd, _⟩ := gn_of O e1
        have h1 := of_decide_eq_true h1
        subst h1
        have h2 := of_decide_eq_true h2
        subst h2
        obtain ⟨n1, n2⟩ := nost h7
        exact Goal.of md (snd_callK (O.kws _ _ _ e3 e2) hg hd n1 (of_decide_eq_true h3) n2 (of_decide_eq_true h4) (of_decide_eq_true h5) (sndA as .esc k _ X O (fun z => nomatch z) h7) (sndK bs k _ X O h8)) fun _ => rfl
      · cases h
    · cases h
  | .bi b as, md, k, e, X, O, h => by
    rw [chk.eq_def] at h
    simp only at h
    split at h
    · split at h
      · rename_i n hn
        obtain ⟨h1, h3⟩ := and2 h
        obtain ⟨h1, h2⟩ := and2 h1
        obtain ⟨p, rfl, hg, hd, hnm⟩ := gl_of O h1
        obtain ⟨n1, n2⟩ := nost h2
        have ha := sndA as .brw k _ X O (fun z => nomatch z) h2
        obtain ⟨hb, ht⟩ := bi_tab O.calm b n hn
        rcases ht with ⟨id, hv, hc⟩ | ⟨id, hv, hc⟩
        · exact Goal.of md (snd_biB hc hg (O.blt n hb) hv hnm hd (of_decide_eq_true h3) n1 ha) fun _ => rfl
        · exact Goal.of md (snd_biT hc hg (O.blt n hb) hv hnm hd (of_decide_eq_true h3) n1 ha) fun _ => rfl
      · split at h
        · rename_i ts
          obtain ⟨h1, hq⟩ := and2 h
          clear h
          obtain ⟨p, rfl, hg, hd, hnm⟩ := gl_of O h1
          split at hq
          · obtain ⟨h20, h4⟩ := and2 hq
            obtain ⟨h2, h3⟩ := and2 h20
            clear hq h20
            have ha := sndC _ .brw k _ X O h3
            split at h4
            · obtain ⟨p2, e2, hg2, _, _⟩ := gl_of O h4
              cases e2
              exact Goal.of md (snd_isi1 hg (O.blt _ (by decide +kernel)) h2 ha hg2 (O.blt _ (ty_name _).2.2.2)) fun _ => rfl
            · obtain ⟨h40, h6⟩ := and2 h4
              obtain ⟨h41, h5⟩ := and2 h40
              exact Goal.of md (snd_isiT (of_decide_eq_true h5) hg (O.blt _ (by decide +kernel)) h2 ha (pa_tys k O.sc O.blt _ _ h41) (of_decide_eq_true h6)) fun _ => rfl
            · cases h4
          · cases hq
        · obtain ⟨h1, hq⟩ := and2 h
          clear h
          obtain ⟨p, rfl, hg, hd, hnm⟩ := gl_of O h1
          split at hq
          · obtain ⟨h20, h4⟩ := and2 hq
            obtain ⟨h2, h3⟩ := and2 h20
            clear hq h20
            obtain ⟨p2, rfl, hg2, _, _⟩ := gl_of O h2
            exact Goal.of md (snd_sortedSet (by have := O.units; omega) O.calm hg (O.blt _ (by decide +kernel)) hg2 (O.blt _ (by decide +kernel)) h3 (sndC _ .brw k _ X O h4)) fun _ => rfl
          · cases hq
        · obtain ⟨h1, hq⟩ := and2 h
          clear h
          obtain ⟨p, rfl, hg, hd, hnm⟩ := gl_of O h1
          split at hq
          · obtain ⟨h20, h4⟩ := and2 hq
            obtain ⟨h2, h3⟩ := and2 h20
            clear hq h20
            obtain ⟨p2, rfl, hg2, _, _⟩ := gl_of O h2
            exact Goal.of md (snd_listRange O.calm hg (O.blt _ (by decide +kernel)) hg2 (O.blt _ (by decide +kernel)) h3 (sndC _ .brw k _ X O h4)) fun _ => rfl
          · cases hq
        · cases h
    · cases h
  | .comp w tg it t e', md, k, e, X, O, h => by
    simp only [chk] at h
    split at h
    · rename_i elt tg' iter ifs scope pos
      obtain ⟨h1, h8⟩ := and2 h
      obtain ⟨h1, h7⟩ := and2 h1
      obtain ⟨h1, h6⟩ := and2 h1
      obtain ⟨h1, h5⟩ := and2 h1
      obtain ⟨h1, h4⟩ := and2 h1
      obtain ⟨h1, h3⟩ := and2 h1
      obtain ⟨h1, h2⟩ := and2 h1
      have hs : ∀ j ∈ tgSlots tg, j ∈ w := fun j hj => by
        have := List.all_eq_true.mp h2 j hj
        simpa using this
      have ok : BlkOk X.N X.env.scope scope (ownOf k.N scope) := by
        rw [O.N, O.sc]
        exact blkOk_by h4
      have hi := sndI it .brw k tg' iter X O (fun z => nomatch z) h5
      have ht : ∀ (s : Shared) (H : Hp) (C : Addr) (cl : List (Str × Addr)) (fp : List Addr), PTs (X.blk s H scope (compEnvC scope cl C X.env) fp) ifs (tT F KW X.K t) := fun s H C cl fp => by
        split at h7
        · refine ⟨fun pins s0 σ H Q I hw => pts_nil.run pins s0 σ H Q I ?_⟩
          obtain ⟨ρ, s, m, al, r, s', kb, sc, e, tr, q⟩ := hw
          split at h7
          · simp only [evE] at e
            cases e
            cases tr
            exact q H al Step.refl sc.t.up
          · cases h7
        · exact pts_one (sndC t .tst (k.blk scope) _ _ (O.blk scope s H C cl fp) h7)
        · cases h7
      exact Goal.of md (PE.imp (pe_lc O.calm (by rw [O.N]; exact O.nd) hi ok (fun s H C cl fp => pg_of (O.blk scope s H C cl fp).names tg tg' h6) ht (fun s H C cl fp => (show PE _ elt (tE F KW X.K e') from sndC e' .esc (k.blk scope) elt _ (O.blk scope s H C cl fp) h8)) (fold_of h1 _)) (lc_in (fun σ => wipe_same h3 σ) hs)) fun _ => rfl
    · cases h
  | .comp2 w tg it t tg2 it2 t2 e', md, k, e, X, O, h => by simp only [chk] at h; cases h
  | .refNe a, md, k, e, X, O, h => by
    simp only [chk] at h
    split at h
    · have hu : X.A.units + 65 < cLine := by have := O.units; omega
      have ha := sndC a .brw k _ X O h
      have hb : ∀ p2, PE X (.List [] p2) (tB F KW X.K (.lst .nil)) := fun p2 => tE_tB (snd_lst (by decide) snd_nil)
      cases md with
      | esc => exact snd_refNe hu ha (hb _)
      | brw => exact tE_tB (snd_refNe hu ha (hb _))
      | tst => exact snd_refNeT hu ha (hb _)
    · cases h
  | .dict1 a, md, k, e, X, O, h => by
    simp only [chk] at h
    split at h
    · obtain ⟨h1, h3⟩ := and2 h
      obtain ⟨h1, h2⟩ := and2 h1
      obtain ⟨p, rfl, hg, hd, hnm⟩ := gl_of O h1
      exact Goal.of md (snd_dict1 O.calm hg (O.blt _ (by decide +kernel)) h2 (sndC a .brw k _ X O h3)) fun _ => rfl
    · cases h
  | .dGet a b, md, k, e, X, O, h => by
    simp only [chk] at h
    split at h
    · obtain ⟨h1, h3⟩ := and2 h
      obtain ⟨h1, h2⟩ := and2 h1
      have hu : X.A.units + 65 < cLine := by have := O.units; omega
      exact Goal.of md (snd_dGet hu (nosl_of h1) (sndC a .brw k _ X O h2) (sndC b .brw k _ X O h3)) fun _ => rfl
    · cases h
  | .dIn neg a b, md, k, e, X, O, h => by
    simp only [chk] at h
    split at h
    · obtain ⟨h1, h4⟩ := and2 h
      obtain ⟨h1, h3⟩ := and2 h1
      obtain ⟨h1, h2⟩ := and2 h1
      have hu : X.A.units + 65 < cLine := by have := O.units; omega
      have ha := sndC a .brw k _ X O h3
      have hb := sndC b .brw k _ X O h4
      split at h1
      · have hn : neg = false := by simpa using h1
        subst hn
        cases md with
        | esc => exact snd_dIn hu h2 ha hb
        | brw => exact tE_tB (snd_dIn hu h2 ha hb)
        | tst => exact snd_dInT hu h2 ha hb
      · subst h1
        cases md with
        | esc => exact snd_dNotIn hu h2 ha hb
        | brw => exact tE_tB (snd_dNotIn hu h2 ha hb)
        | tst => exact snd_dNotInT hu h2 ha hb
      · cases h1
    · cases h
  | .callD f as ds, md, k, e, X, O, h => by
    simp only [chk] at h
    split at h
    · split at h
      · rename_i x fe e1 e2
        obtain ⟨h1, h6⟩ := and2 h
        obtain ⟨h1, h5⟩ := and2 h1
        obtain ⟨h1, h4⟩ := and2 h1
        obtain ⟨h1, h3⟩ := and2 h1
        obtain ⟨h1, h2⟩ := and2 h1
        obtain ⟨p, rfl, hg, hd, _⟩ := gn_of O e1
        have h1 := of_decide_eq_true h1
        subst h1
        obtain ⟨n1, n2⟩ := nost h6
        have h3 := of_decide_eq_true h3
        have h5 := sameUs_eq _ _ h5
        have hne : 0 < ds.length := by
          cases ds with
          | nil => simp at h4
          | cons a b => simp
        have hdf := O.dfs f fe ((dfOf T f).length - ds.length) e2 (by omega)
        rw [h5] at hdf
        exact Goal.of md (snd_callD hdf hg hd n1 n2 (of_decide_eq_true h2) (sndA as .esc k _ X O (fun z => nomatch z) h6)) fun _ => rfl
      · cases h
    · cases h
  | .sortedR a, md, k, e, X, O, h => by
    simp only [chk] at h
    split at h
    · obtain ⟨h1, h3⟩ := and2 h
      obtain ⟨h1, h2⟩ := and2 h1
      obtain ⟨p, rfl, hg, hd, hnm⟩ := gl_of O h1
      exact Goal.of md (snd_sortedR hg (O.blt _ (by decide +kernel)) h2 (sndC a .brw k _ X O h3)) fun _ => rfl
    · cases h
theorem sndA {T : Tb} {F : CallF} {KW : List (List Nat)} : ∀ (a : A) (md : Mo) (k : Ck) (es : List Expr) (X : Cx), XOk T F KW k X → md ≠ .tst → chkA T a md k es = true → GoalA F KW X a es md
  | .nil, md, k, es, X, O, hm, h => by
    simp only [chkA] at h
    split at h
    · cases md with
      | esc => exact snd_nil
      | brw => exact snd_nilB
      | tst => exact snd_nilB
    · cases h
  | .cons c r, md, k, es, X, O, hm, h => by
    simp only [chkA] at h
    split at h
    · obtain ⟨h0, h3⟩ := and2 h
      obtain ⟨h1, h2⟩ := and2 h0
      clear h0 h
      have hr := sndA r md k _ X O hm h3
      have hc := sndC c md k _ X O h2
      cases md with
      | esc => exact snd_cons h1 hc hr
      | brw => exact snd_consB h1 hc hr
      | tst => exact absurd rfl hm
    · cases h
theorem sndK {T : Tb} {F : CallF} {KW : List (List Nat)} : ∀ (a : A) (k : Ck) (ks : List Keyword) (X : Cx), XOk T F KW k X → chkA T a .esc k (ks.map (·.value)) = true → PK X ks (tAs F KW X.K a)
  | .nil, k, ks, X, O, h => by
    cases ks with
    | nil => exact snd_kNil
    | cons q r => simp [chkA] at h
  | .cons c r, k, ks, X, O, h => by
    cases ks with
    | nil => simp [chkA] at h
    | cons q ks =>
      simp only [chkA, List.map_cons] at h
      obtain ⟨h1, h3⟩ := and2 h
      obtain ⟨h1, h2⟩ := and2 h1
      obtain ⟨nm, x, kp⟩ := q
      exact snd_kCons (sndC c .esc k _ X O h2) (sndK r k _ X O h3)
theorem sndI {T : Tb} {F : CallF} {KW : List (List Nat)} : ∀ (it : Ev.It) (md : Mo) (k : Ck) (tg e : Expr) (X : Cx), XOk T F KW k X → md ≠ .tst → chkI T it md k tg e = true → GoalI F KW X it tg e md
  | .seq c, md, k, tg, e, X, O, hm, h => by
    simp only [chkI] at h
    exact snd_seq hm (sndC c md k e X O h)
  | .enum c, md, k, tg, e, X, O, hm, h => by
    simp only [chkI] at h
    split at h
    · obtain ⟨h1, h4⟩ := and2 h
      obtain ⟨h1, h3⟩ := and2 h1
      obtain ⟨h1, h2⟩ := and2 h1
      obtain ⟨p, rfl, hg, hd, hnm⟩ := gl_of O h2
      obtain ⟨es, kk, tp, rfl⟩ : ∃ es kk tp, tg = .Tuple es kk tp := by cases tg <;> first | exact ⟨_, _, _, rfl⟩ | (exact nomatch h1)
      exact snd_enum hm hg (O.blt _ (by decide +kernel)) h3 (sndC c md k _ X O h4)
    · cases h
  | .zip2 a b, md, k, tg, e, X, O, hm, h => by
    simp only [chkI] at h
    split at h
    · obtain ⟨h0, h6⟩ := and2 h
      obtain ⟨h0, h5⟩ := and2 h0
      obtain ⟨h0, h4⟩ := and2 h0
      obtain ⟨h0, h3⟩ := and2 h0
      obtain ⟨h1, h2⟩ := and2 h0
      obtain ⟨p, rfl, hg, hd, hnm⟩ := gl_of O h2
      obtain ⟨es, kk, tp, rfl⟩ : ∃ es kk tp, tg = .Tuple es kk tp := by cases tg <;> first | exact ⟨_, _, _, rfl⟩ | (exact nomatch h1)
      exact snd_zip2 hm hg (O.blt _ (by decide +kernel)) h3 h4 (sndC a md k _ X O h5) (sndC b md k _ X O h6)
    · cases h
  | .zips c, md, k, tg, e, X, O, hm, h => by
    simp only [chkI] at h
    split at h
    · obtain ⟨h0, h3⟩ := and2 h
      obtain ⟨h1, h2⟩ := and2 h0
      obtain ⟨p, rfl, hg, hd, hnm⟩ := gl_of O h2
      obtain ⟨nm, tp, rfl⟩ : ∃ nm tp, tg = .Name nm tp := by cases tg <;> first | exact ⟨_, _, rfl⟩ | (exact nomatch h1)
      exact snd_zips hm hg (O.blt _ (by decide +kernel)) (sndC c md k _ X O h3)
    · cases h
  | .rng1 c, md, k, tg, e, X, O, hm, h => by
    simp only [chkI] at h
    split at h
    · obtain ⟨h1, h3⟩ := and2 h
      obtain ⟨h1, h2⟩ := and2 h1
      obtain ⟨p, rfl, hg, hd, hnm⟩ := gl_of O h1
      exact snd_rng1 hg (O.blt _ (by decide +kernel)) h2 (sndC c .brw k _ X O h3)
    · cases h
  | .rng2 a b, md, k, tg, e, X, O, hm, h => by
    simp only [chkI] at h
    split at h
    · obtain ⟨h1, h5⟩ := and2 h
      obtain ⟨h1, h4⟩ := and2 h1
      obtain ⟨h1, h3⟩ := and2 h1
      obtain ⟨h1, h2⟩ := and2 h1
      obtain ⟨p, rfl, hg, hd, hnm⟩ := gl_of O h1
      exact snd_rng2 hg (O.blt _ (by decide +kernel)) h2 h3 (sndC a .brw k _ X O h4) (sndC b .brw k _ X O h5)
    · cases h
  | .rng3 _ _ _, md, k, tg, e, X, O, hm, h => by simp only [chkI] at h; cases h
end
end Ev

end
section
set_option Elab.async false
set_option linter.all false
set_option maxRecDepth 100000
set_option maxHeartbeats 4000000
namespace Ev
open PySem L2
theorem ST.any {K : PySem.W.Frag} {m m' : Addr → Prop} {al : List Addr} {s : Sto} {H : Hp} (t : ST K m al s H) (sb : ∀ a ∈ al, m' a) : ST K m' al s H := ⟨t.len, t.nd, sb, t.at_⟩
/-! ### the frame of a body -/
structure Fr (K : PySem.W.Frag) (m0 : Addr → Prop) (ρ : Env) (s : Sto) (m wr : Addr → Prop) (al : List Addr) (σ : L2.St) (H : Hp) : Prop where
  sc : SC K m al s ρ σ H
  ow : ∀ i u a, look i ρ = .own u → σ[i]? = some (some (.ref a)) → wr a ∧ ¬ m0 a
  ws : ∀ a ∈ al, wr a
  wm : ∀ a, wr a → m a
  up : ∀ a, m0 a → m a
/-- what changes between two points of a body -/
structure Mv (H : Hp) (m wr : Addr → Prop) (al : List Addr) (H' : Hp) (m' wr' : Addr → Prop) (al' : List Addr) : Prop where
  ext : ∀ b o, H b = some o → ¬ wr b → H' b = some o
  dom : ∀ b o, H b = some o → ∃ o', H' b = some o'
  wr : ∀ a, wr' a → wr a ∨ H a = none
  dn : ∀ a, m' a → m a ∨ H a = none
  pre : ∃ g, al' = al ++ g ∧ ∀ a ∈ g, H a = none
section
variable {K : PySem.W.Frag} {m0 m wr m1 wr1 m2 wr2 : Addr → Prop} {ρ : Env} {s s1 : Sto} {al al1 al2 : List Addr} {σ : L2.St} {H H1 H2 : Hp} {u : U} {v : V}
theorem Mv.refl : Mv H m wr al H m wr al := ⟨fun _ _ e _ => e, fun _ o e => ⟨o, e⟩, fun _ z => .inl z, fun _ z => .inl z, [], by simp, fun _ z => nomatch z⟩
theorem Mv.none (a : Mv H m wr al H1 m1 wr1 al1) {c : Addr} (z : H1 c = none) : H c = none := by
  cases q : H c with
  | none => rfl
  | some o => obtain ⟨o', q'⟩ := a.dom c o q; rw [z] at q'; cases q'
theorem Mv.trans (a : Mv H m wr al H1 m1 wr1 al1) (b : Mv H1 m1 wr1 al1 H2 m2 wr2 al2) : Mv H m wr al H2 m2 wr2 al2 := by
  obtain ⟨g, e, n⟩ := a.pre
  obtain ⟨g', e', n'⟩ := b.pre
  refine ⟨fun c o h hn => b.ext c o (a.ext c o h hn) fun z => ?_, fun c o h => ?_, fun c z => ?_, fun c z => ?_, ⟨g ++ g', by rw [e', e, List.append_assoc], fun c hc => ?_⟩⟩
  · rcases a.wr c z with z | z
    · exact hn z
    · rw [h] at z; cases z
  · obtain ⟨o', q⟩ := a.dom c o h
    exact b.dom c o' q
  · rcases b.wr c z with z | z
    · exact a.wr c z
    · exact .inr (a.none z)
  · rcases b.dn c z with z | z
    · exact a.dn c z
    · exact .inr (a.none z)
  · rcases List.mem_append.mp hc with hc | hc
    · exact n c hc
    · exact a.none (n' c hc)
theorem Mv.nth (a : Mv H m wr al H1 m1 wr1 al1) : ∀ k c, Ev.nth k al = some c → Ev.nth k al1 = some c := fun k c h => by
  obtain ⟨g, e, _⟩ := a.pre
  rw [nth_get] at h ⊢
  rw [e, List.getElem?_append_left (List.getElem?_eq_some_iff.mp h).1]
  exact h
theorem Mv.sub (a : Mv H m wr al H1 m1 wr1 al1) : ∀ c ∈ al, c ∈ al1 := fun c hc => by
  obtain ⟨g, e, _⟩ := a.pre
  rw [e]; exact List.mem_append_left _ hc
/-- a value that stood stands -/
theorem Mv.sh (a : Mv H m wr al H1 m1 wr1 al1) (wm : ∀ c, wr c → m c) (h : Sh K H m al u v) : Sh K H1 m1 al1 u v :=
  h.mono (fun b o e n => a.ext b o e fun z => n (wm b z)) (fun b o e n z => (a.dn b z).elim n fun z => by rw [e] at z; cases z) a.nth
theorem Mv.shs {us : List U} {vs : List V} (a : Mv H m wr al H1 m1 wr1 al1) (wm : ∀ c, wr c → m c) (h : Shs K H m al us vs) : Shs K H1 m1 al1 us vs :=
  h.mono (fun b o e n => a.ext b o e fun z => n (wm b z)) (fun b o e n z => (a.dn b z).elim n fun z => by rw [e] at z; cases z) a.nth
/-- after an expression -/
theorem Fr.eval (f : Fr K m0 ρ s m wr al σ H) (st : Step H H1 al al1) (t : ST K (mU m al1) al1 s1 H1) : Fr K m0 ρ s1 (mU m al1) (fun a => wr a ∨ a ∈ al1) al1 σ H1 :=
  ⟨f.sc.step st t, fun i u a e1 e2 => ⟨.inl (f.ow i u a e1 e2).1, (f.ow i u a e1 e2).2⟩, fun a ha => .inr ha, fun a z => z.elim (fun z => .inl (f.wm a z)) .inr, fun a z => .inl (f.up a z)⟩
theorem Fr.evalM (f : Fr K m0 ρ s m wr al σ H) (st : Step H H1 al al1) : Mv H m wr al H1 (mU m al1) (fun a => wr a ∨ a ∈ al1) al1 := by
  have hal : ∀ c ∈ al1, c ∈ al ∨ H c = none := fun c z => by
    obtain ⟨g, e, n⟩ := st.pre
    rw [e] at z
    rcases List.mem_append.mp z with z | z
    · exact .inl z
    · exact .inr (n c z)
  refine ⟨fun b o e n => st.ext b o e fun z => n (f.ws b z), st.dom, fun a z => ?_, fun a z => ?_, st.pre⟩
  · rcases z with z | z
    · exact .inl z
    · rcases hal a z with z | z
      · exact .inl (f.ws a z)
      · exact .inr z
  · rcases z with z | z
    · exact .inl z
    · rcases hal a z with z | z
      · exact .inl (f.sc.t.sub a z)
      · exact .inr z
/-- the frame, some new address D set aside -/
theorem Fr.evalD (f : Fr K m0 ρ s m wr al σ H) (st : Step H H1 al al1) (t : ST K (mU m al1) al1 s1 H1) {D : Addr} (h0 : H D = none) (h1 : ∃ o, H1 D = some o) :
    Fr K m0 ρ s1 (fun a => mU m al1 a ∨ a = D) (fun a => (wr a ∨ a ∈ al1) ∨ a = D) al1 σ H1 ∧ Mv H m wr al H1 (fun a => mU m al1 a ∨ a = D) (fun a => (wr a ∨ a ∈ al1) ∨ a = D) al1 := by
  have f1 := f.eval st t
  have mv := f.evalM st
  refine ⟨⟨⟨t.any fun a ha => .inl (.inr ha), f.sc.r.over st f.sc.t.sub (fun b o e n z => ?_) (fun b z => ?_) fun b z => .inl (.inl z)⟩, fun i u a e1 e2 => ⟨.inl (.inl (f.ow i u a e1 e2).1), (f.ow i u a e1 e2).2⟩, fun a ha => .inl (.inr ha), fun a z => ?_, fun a z => .inl (.inl (f.up a z))⟩, mv.ext, mv.dom, fun a z => ?_, fun a z => ?_, mv.pre⟩
  · rcases z with z | z
    · exact st.notm f.sc.t.sub e n z
    · rw [z, h0] at e; cases e
  · rcases z with z | z
    · exact f1.sc.r.md b z
    · rw [z]; exact h1
  · rcases z with z | z
    · exact .inl (f1.wm a z)
    · exact .inr z
  · rcases z with z | z
    · exact mv.wr a z
    · rw [z]; exact .inr h0
  · rcases z with z | z
    · exact mv.dn a z
    · rw [z]; exact .inr h0

/-! ### stores to slots -/
inductive Pend (K : PySem.W.Frag) (m0 m wr : Addr → Prop) (al : List Addr) (H : Hp) (ρ : Env) (σ : L2.St) : Slot → V → Prop
  | sh {u : U} {v : V} : Sh K H m al u v → Pend K m0 m wr al H ρ σ (.sh u) v
  | own {us : List U} {a : Addr} {vs : List V} : H a = some (.lst vs) → Shs K H m al us vs → wr a → ¬ m0 a → a ∉ al → (∀ i u, look i ρ = .own u → σ[i]? ≠ some (some (.ref a))) → Pend K m0 m wr al H ρ σ (.own (.lst us)) (.ref a)
theorem SR.setOwn (r : SR K m al ρ σ H) {i : Nat} {us : List U} {a : Addr} {vs : List V} (h1 : H a = some (.lst vs)) (h2 : Shs K H m al us vs) (h3 : m a) (h4 : a ∉ al) (h5 : ∀ j u, j ≠ i → look j ρ = .own u → σ[j]? ≠ some (some (.ref a))) :
    SR K m al (put i (.own (.lst us)) ρ) (σ.set i (some (.ref a))) H := by
  refine ⟨by rw [put_len, List.length_set]; exact r.len, r.md, fun j w e => ?_, fun j w e => ?_, fun j j' w w' c e1 e2 e3 e4 => ?_⟩
  · rcases look_put e with ⟨rfl, l, e⟩ | ⟨n, e⟩ | e
    · cases e
    · obtain ⟨x, e1, e2⟩ := r.sh j w e
      exact ⟨x, by rw [List.getElem?_set_ne (Ne.symm n)]; exact e1, e2⟩
    · cases e
  · rcases look_put e with ⟨rfl, l, e⟩ | ⟨n, e⟩ | e
    · cases e
      exact ⟨us, a, vs, rfl, List.getElem?_set_self (by rw [← r.len]; exact l), h1, h2, h3, h4⟩
    · obtain ⟨us, a, vs, e1, e2, e3⟩ := r.own j w e
      exact ⟨us, a, vs, e1, by rw [List.getElem?_set_ne (Ne.symm n)]; exact e2, e3⟩
    · cases e
  · have key : ∀ j w c, look j (put i (.own (.lst us)) ρ) = .own w → (σ.set i (some (.ref a)))[j]? = some (some (.ref c)) → (j = i ∧ c = a) ∨ (j ≠ i ∧ look j ρ = .own w ∧ σ[j]? = some (some (.ref c))) := fun j w c e1 e3 => by
      rcases look_put e1 with ⟨rfl, l, e⟩ | ⟨n, e⟩ | e
      · rw [List.getElem?_set_self (by rw [← r.len]; exact l)] at e3
        cases e3
        exact .inl ⟨rfl, rfl⟩
      · rw [List.getElem?_set_ne (Ne.symm n)] at e3
        exact .inr ⟨n, e, e3⟩
      · cases e
    rcases key j w c e1 e3 with ⟨rfl, rfl⟩ | ⟨n1, k1, k3⟩
    · rcases key j' w' c e2 e4 with ⟨rfl, _⟩ | ⟨n2, k2, k4⟩
      · rfl
      · exact absurd k4 (h5 j' w' n2 k2)
    · rcases key j' w' c e2 e4 with ⟨rfl, rfl⟩ | ⟨n2, k2, k4⟩
      · exact absurd k3 (h5 j w n1 k1)
      · exact r.inj j j' w w' c k1 k2 k3 k4
theorem Fr.put (f : Fr K m0 ρ s m wr al σ H) {i : Nat} {sl : Slot} (p : Pend K m0 m wr al H ρ σ sl v) : Fr K m0 (put i sl ρ) s m wr al (σ.set i (some v)) H := by
  have own' : ∀ j u a, look j (Ev.put i sl ρ) = .own u → (σ.set i (some v))[j]? = some (some (.ref a)) → wr a ∧ ¬ m0 a := fun j u a e1 e2 => by
    rcases look_put e1 with ⟨rfl, l, e⟩ | ⟨n, e⟩ | e
    · cases p with
      | sh h => cases e
      | own h1 h2 h3 h4 h5 h6 =>
        cases e
        rw [List.getElem?_set_self (by rw [← f.sc.r.len]; exact l)] at e2
        cases e2
        exact ⟨h3, h4⟩
    · rw [List.getElem?_set_ne (Ne.symm n)] at e2
      exact f.ow j u a e e2
    · cases e
  cases p with
  | sh h => exact ⟨⟨f.sc.t, f.sc.r.setSh h⟩, own', f.ws, f.wm, f.up⟩
  | own h1 h2 h3 h4 h5 h6 => exact ⟨⟨f.sc.t, f.sc.r.setOwn h1 h2 (f.wm _ h3) h5 fun j u _ e => h6 j u e⟩, own', f.ws, f.wm, f.up⟩
/-- the value of an expression, to be stored -/
theorem Fr.val (f : Fr K m0 ρ s m wr al σ H) (st : Step H H1 al al1) (t : ST K (mU m al1) al1 s1 H1) {r : Rv} (vr : VR K H H1 (mU m al1) al1 r v) (o : Bool) :
    ∃ m1 wr1, Fr K m0 ρ s1 m1 wr1 al1 σ H1 ∧ Mv H m wr al H1 m1 wr1 al1 ∧ Pend K m0 m1 wr1 al1 H1 ρ σ (r.slot o) v ∧ (∀ u a, r.slot o = .own u → v = .ref a → H a = none) ∧ ∀ a, wr a → wr1 a := by
  have sh : ∃ m1 wr1, Fr K m0 ρ s1 m1 wr1 al1 σ H1 ∧ Mv H m wr al H1 m1 wr1 al1 ∧ Pend K m0 m1 wr1 al1 H1 ρ σ (.sh r.u) v ∧ (∀ u a, Slot.sh r.u = .own u → v = .ref a → H a = none) ∧ ∀ a, wr a → wr1 a :=
    ⟨_, _, f.eval st t, f.evalM st, .sh vr.sh, (fun _ _ z => nomatch z), fun a z => .inl z⟩
  obtain ⟨u, fl⟩ := r
  cases o with
  | false => exact sh
  | true => cases fl with
    | false => exact sh
    | true =>
      cases u <;> try exact sh
      rename_i us
      obtain ⟨a, vs, rfl, e2, e3, e4, e5⟩ := vr.fr rfl us rfl
      obtain ⟨f1, mv⟩ := f.evalD st t e4 ⟨_, e2⟩
      refine ⟨_, _, f1, mv, .own e2 e3 (.inr rfl) (fun z => ?_) (fun z => e5 (.inr z)) (fun i u k1 k2 => ?_), (fun _ b _ z => by cases z; exact e4), fun b z => .inl (.inl z)⟩
      · obtain ⟨o, e⟩ := f.sc.md _ (f.up _ z)
        rw [e4] at e; cases e
      · obtain ⟨_, b, _, _, q2, q3, _⟩ := f.sc.r.own i u k1
        rw [k2] at q2; cases q2
        rw [e4] at q3; cases q3
/-! ### freezing -/
theorem put_look : ∀ (i : Nat) (ρ : Env), Ev.put i (look i ρ) ρ = ρ
  | 0, [] => rfl
  | _ + 1, [] => rfl
  | 0, _ :: _ => rfl
  | i + 1, t :: r => by show t :: Ev.put i (look i r) r = _; rw [put_look i r]
theorem Fr.fz1 (f : Fr K m0 ρ s m wr al σ H) (i : Nat) : ∃ m1 wr1, Fr K m0 (Ev.put i (look i ρ).fz ρ) s m1 wr1 al σ H ∧ Mv H m wr al H m1 wr1 al := by
  cases q : look i ρ with
  | un =>
    refine ⟨m, wr, ?_, Mv.refl⟩
    show Fr K m0 (Ev.put i .un ρ) s m wr al σ H
    rw [← q, put_look]; exact f
  | sh u =>
    refine ⟨m, wr, ?_, Mv.refl⟩
    show Fr K m0 (Ev.put i (.sh u) ρ) s m wr al σ H
    rw [← q, put_look]; exact f
  | own u =>
    obtain ⟨us, a, vs, rfl, e2, e3, e4, e5, e6⟩ := f.sc.r.own i u q
    have ne : ∀ j w b, j ≠ i → look j ρ = .own w → σ[j]? = some (some (.ref b)) → b ≠ a := fun j w b n k1 k2 z => n (f.sc.r.inj j i w _ a k1 q (by rw [← z]; exact k2) e2)
    refine ⟨fun b => m b ∧ b ≠ a, fun b => wr b ∧ b ≠ a, ⟨⟨f.sc.t.any fun b hb => ⟨f.sc.t.sub b hb, fun z => e6 (by rw [← z]; exact hb)⟩, ⟨?_, fun b z => f.sc.r.md b z.1, fun j w e => ?_, fun j w e => ?_, fun j j' w w' b k1 k2 k3 k4 => ?_⟩⟩, fun j w b k1 k2 => ?_, fun b hb => ⟨f.ws b hb, fun z => e6 (by rw [← z]; exact hb)⟩, fun b z => ⟨f.wm b z.1, z.2⟩, fun b z => ⟨f.up b z, fun y => (f.ow i _ a q e2).2 (by rw [← y]; exact z)⟩⟩, ⟨fun _ _ e _ => e, fun _ o e => ⟨o, e⟩, fun b z => .inl z.1, fun b z => .inl z.1, [], by simp, fun _ z => nomatch z⟩⟩
    · rw [put_len]; exact f.sc.r.len
    · rcases look_put e with ⟨rfl, l, e⟩ | ⟨n, e⟩ | e
      · cases e
        exact ⟨_, e2, .lst e3 (fun z => z.2 rfl) (e4.weak fun b z => z.1)⟩
      · obtain ⟨x, k1, k2⟩ := f.sc.r.sh j w e
        exact ⟨x, k1, k2.weak fun b z => z.1⟩
      · cases e
    · rcases look_put e with ⟨_, l, e⟩ | ⟨n, e⟩ | e
      · cases e
      · obtain ⟨ws, b, zs, k1, k2, k3, k4, k5, k6⟩ := f.sc.r.own j w e
        exact ⟨ws, b, zs, k1, k2, k3, k4.weak fun b z => z.1, ⟨k5, ne j w b n e k2⟩, k6⟩
      · cases e
    · rcases look_put k1 with ⟨_, l, e⟩ | ⟨n, e⟩ | e
      · cases e
      · rcases look_put k2 with ⟨_, l, e'⟩ | ⟨n', e'⟩ | e'
        · cases e'
        · exact f.sc.r.inj j j' w w' b e e' k3 k4
        · cases e'
      · cases e
    · rcases look_put k1 with ⟨_, l, e⟩ | ⟨n, e⟩ | e
      · cases e
      · obtain ⟨h1, h2⟩ := f.ow j w b e k2
        exact ⟨⟨h1, ne j w b n e k2⟩, h2⟩
      · cases e
theorem Fr.fz (is : List Nat) : ∀ {ρ : Env} {m wr : Addr → Prop}, Fr K m0 ρ s m wr al σ H → ∃ m1 wr1, Fr K m0 (freeze is ρ) s m1 wr1 al σ H ∧ Mv H m wr al H m1 wr1 al := by
  induction is with
  | nil => intro ρ m wr f; exact ⟨m, wr, f, Mv.refl⟩
  | cons i is ih =>
    intro ρ m wr f
    obtain ⟨m1, wr1, f1, mv1⟩ := f.fz1 i
    obtain ⟨m2, wr2, f2, mv2⟩ := ih f1
    exact ⟨m2, wr2, f2, mv1.trans mv2⟩
end
end Ev

end
section
set_option Elab.async false
set_option linter.all false
set_option maxRecDepth 100000
set_option maxHeartbeats 4000000
namespace Ev
open PySem L2
/-- what a body hands back -/
structure RetR (K : PySem.W.Frag) (m0 : Addr → Prop) (H : Hp) (m wr : Addr → Prop) (al : List Addr) (r : Rv) (s' : Sto) (v : V) (H' : Hp) (m' wr' : Addr → Prop) (al' : List Addr) : Prop where
  mv : Mv H m wr al H' m' wr' al'
  t : ST K m' al' s' H'
  up : ∀ a, m0 a → m' a
  sh : Sh K H' (fun b => m0 b ∨ b ∈ al') al' r.u v
  fr : r.f = true → ∀ us, r.u = .lst us → ∃ a vs, v = .ref a ∧ H' a = some (.lst vs) ∧ Shs K H' (fun b => (m0 b ∨ b ∈ al') ∨ b = a) al' us vs ∧ (H a = none ∨ wr a) ∧ a ∉ al' ∧ ¬ m0 a
def End (K : PySem.W.Frag) (m0 : Addr → Prop) (H : Hp) (m wr : Addr → Prop) (al : List Addr) (D : Ends) (fl : Fl) (ρ' : Env) (s' : Sto) : Prop := match fl with
  | .nx => ∀ σ' H' m' wr' al', Fr K m0 ρ' s' m' wr' al' σ' H' → Mv H m wr al H' m' wr' al' → D.nx σ' H'
  | .cont => ∀ σ' H' m' wr' al', Fr K m0 ρ' s' m' wr' al' σ' H' → Mv H m wr al H' m' wr' al' → D.ct σ' H'
  | .brk => ∀ σ' H' m' wr' al', Fr K m0 ρ' s' m' wr' al' σ' H' → Mv H m wr al H' m' wr' al' → D.bk σ' H'
  | .ret r => ∀ v H' m' wr' al', RetR K m0 H m wr al r s' v H' m' wr' al' → D.rt v H'
section
variable (F : CallF) (KW : List (List Nat)) (K : PySem.W.Frag)
def tS (c : S) : TS := fun D σ H => ∃ m0 ρ s m wr al fl ρ' s', Fr K m0 ρ s m wr al σ H ∧ evS F KW c ρ s = .ok fl ρ' s' ∧ End K m0 H m wr al D fl ρ' s'
def tSs (c : B) : TS := fun D σ H => ∃ m0 ρ s m wr al fl ρ' s', Fr K m0 ρ s m wr al σ H ∧ evB F KW c ρ s = .ok fl ρ' s' ∧ End K m0 H m wr al D fl ρ' s'
end
section
variable {K : PySem.W.Frag} {m0 m wr m1 wr1 m2 wr2 : Addr → Prop} {ρ ρ' : Env} {s s1 s' : Sto} {al al1 al2 : List Addr} {σ : L2.St} {H H1 H2 : Hp} {u : U} {v : V} {D : Ends} {fl : Fl} {r : Rv}
theorem RetR.back (a : Mv H m wr al H1 m1 wr1 al1) {H' : Hp} {m' wr' : Addr → Prop} {al' : List Addr} (h : RetR K m0 H1 m1 wr1 al1 r s' v H' m' wr' al') : RetR K m0 H m wr al r s' v H' m' wr' al' :=
  ⟨a.trans h.mv, h.t, h.up, h.sh, fun f us e => by
    obtain ⟨b, vs, e1, e2, e3, e4, e5⟩ := h.fr f us e
    refine ⟨b, vs, e1, e2, e3, ?_, e5⟩
    rcases e4 with z | z
    · exact .inl (a.none z)
    · rcases a.wr b z with z | z
      · exact .inr z
      · exact .inl z⟩
/-- an end, seen from later on -/
theorem End.fwd (a : Mv H m wr al H1 m1 wr1 al1) (e : End K m0 H m wr al D fl ρ' s') : End K m0 H1 m1 wr1 al1 D fl ρ' s' := by
  cases fl with
  | nx => exact fun σ' H' m' wr' al' f b => e σ' H' m' wr' al' f (a.trans b)
  | cont => exact fun σ' H' m' wr' al' f b => e σ' H' m' wr' al' f (a.trans b)
  | brk => exact fun σ' H' m' wr' al' f b => e σ' H' m' wr' al' f (a.trans b)
  | ret r => exact fun v H' m' wr' al' h => e v H' m' wr' al' (h.back a)
theorem st_ok {α : Type} {x : RE α} {ρ : Env} {f : α → Sto → RS} {fl : Fl} {ρ' : Env} {s' : Sto} (h : x.st ρ f = .ok fl ρ' s') : ∃ a s1, x = .ok a s1 ∧ f a s1 = .ok fl ρ' s' := by
  cases x with
  | ok a s1 => exact ⟨a, s1, rfl, h⟩
  | exc _ _ => cases h
  | bad => cases h
end
section
variable {X : Cx} {F : CallF} {KW : List (List Nat)} {a b c : C} {x y z : Expr} {pos p : Pos} {i j : Nat} {fz : List Nat}
theorem PS.imp {st : Stmt} {t t' : TS} (h : PS X st t) (i : ∀ D σ H, t' D σ H → t D σ H) : PS X st t' := ⟨fun pins s σ H D I q => h.run pins s σ H D I (i D σ H q)⟩
theorem PSs.imp {st : List Stmt} {t t' : TS} (h : PSs X st t) (i : ∀ D σ H, t' D σ H → t D σ H) : PSs X st t' := ⟨fun pins s σ H D I q => h.run pins s σ H D I (i D σ H q)⟩
/-- name = e -/
theorem asg_in {o : Bool} : ∀ D σ H, tS F KW X.K (.asg fz i o a) D σ H → tAsg (tE F KW X.K a) (gName i) D σ H := by
  rintro D σ H ⟨m0, ρ, s, m, wr, al, fl, ρ', s', f, e, q⟩
  simp only [evS] at e
  obtain ⟨r, s1, e1, e⟩ := st_ok e
  cases e
  obtain ⟨m1, wr1, f1, mv1⟩ := f.fz fz
  refine ⟨_, s, m1, al, r, _, f1.sc, e1, fun v H1 al1 st t vr => ?_⟩
  obtain ⟨m2, wr2, f2, mv2, pd, _, _⟩ := f1.val st t vr o
  exact q _ H1 m2 wr2 al1 (f2.put pd) (mv1.trans mv2)
theorem snd_ret (h : PE X x (tE F KW X.K a)) : PS X (.Return (some x) pos) (tS F KW X.K (.ret fz a)) := by
  refine PS.imp (ps_ret h) ?_
  rintro D σ H ⟨m0, ρ, s, m, wr, al, fl, ρ', s', f, e, q⟩
  simp only [evS] at e
  obtain ⟨r, s1, e1, e⟩ := st_ok e
  cases e
  obtain ⟨m1, wr1, f1, mv1⟩ := f.fz fz
  refine ⟨_, s, m1, al, r, _, f1.sc, e1, fun v H1 al1 st t vr => ?_⟩
  have w : ∀ b, (m0 b ∨ b ∈ al1) → mU m1 al1 b := fun b z => z.elim (fun z => .inl (f1.up b z)) .inr
  refine q v H1 (mU m1 al1) _ al1 ⟨mv1.trans (f1.evalM st), t, fun b z => .inl (f1.up b z), vr.sh.weak w, fun hf us e => ?_⟩
  obtain ⟨d, vs, e1, e2, e3, e4, e5⟩ := vr.fr hf us e
  exact ⟨d, vs, e1, e2, e3.weak fun b z => z.elim (fun z => .inl (w b z)) .inr, .inl e4, fun z => e5 (.inr z), fun z => e5 (.inl (f1.up _ z))⟩
theorem snd_retV (h : PE X x (tVar i)) : PS X (.Return (some x) pos) (tS F KW X.K (.retV i)) := by
  refine PS.imp (ps_ret h) ?_
  rintro D σ H ⟨m0, ρ, s, m, wr, al, fl, ρ', s', f, e, q⟩
  simp only [evS] at e
  have w : ∀ b, (m0 b ∨ b ∈ al) → m b := fun b z => z.elim (f.up b) (f.sc.t.sub b)
  cases l : look i ρ with
  | un => rw [l] at e; cases e
  | sh u =>
    rw [l] at e; cases e
    obtain ⟨v, e1, e2⟩ := f.sc.r.sh i u l
    exact ⟨v, e1, q v H m wr al ⟨Mv.refl, f.sc.t, f.up, e2.weak w, fun z => nomatch z⟩⟩
  | own u =>
    rw [l] at e; cases e
    obtain ⟨us, d, vs, rfl, e2, e3, e4, e5, e6⟩ := f.sc.r.own i u l
    obtain ⟨k1, k2⟩ := f.ow i _ d l e2
    refine ⟨_, e2, q _ H m wr al ⟨Mv.refl, f.sc.t, f.up, .lst e3 (fun z => z.elim k2 e6) (e4.weak w), fun _ us' e => ?_⟩⟩
    cases e
    exact ⟨d, vs, rfl, e3, e4.weak fun b z => z.elim (w b) (fun z => by rw [z]; exact e5), .inr k1, e6, k2⟩
theorem snd_retN : PS X (.Return none pos) (tS F KW X.K .retN) := by
  refine PS.imp ps_retN ?_
  rintro D σ H ⟨m0, ρ, s, m, wr, al, fl, ρ', s', f, e, q⟩
  simp only [evS] at e
  cases e
  exact q .non H m wr al ⟨Mv.refl, f.sc.t, f.up, .non, fun z => nomatch z⟩
theorem snd_pass : PS X (.Pass pos) (tS F KW X.K .pass) := by
  refine PS.imp ps_pass ?_
  rintro D σ H ⟨m0, ρ, s, m, wr, al, fl, ρ', s', f, e, q⟩
  simp only [evS] at e
  cases e
  exact q σ H m wr al f Mv.refl
theorem snd_cont : PS X (.Continue pos) (tS F KW X.K .cont) := by
  refine PS.imp ps_continue ?_
  rintro D σ H ⟨m0, ρ, s, m, wr, al, fl, ρ', s', f, e, q⟩
  simp only [evS] at e
  cases e
  exact q σ H m wr al f Mv.refl
theorem snd_brk : PS X (.Break pos) (tS F KW X.K .brk) := by
  refine PS.imp ps_break ?_
  rintro D σ H ⟨m0, ρ, s, m, wr, al, fl, ρ', s', f, e, q⟩
  simp only [evS] at e
  cases e
  exact q σ H m wr al f Mv.refl
theorem snd_never {st : Stmt} : PS X st (tS F KW X.K .never) := by
  refine PS.imp ps_never ?_
  rintro D σ H ⟨m0, ρ, s, m, wr, al, fl, ρ', s', f, e, q⟩
  simp only [evS] at e
  cases e
theorem snd_ex (hs : swapsWith x none pos.line X.env = pure false) (h : PE X x (tB F KW X.K a)) : PS X (.Expr x pos) (tS F KW X.K (.ex fz a)) := by
  refine PS.imp (ps_expr h hs) ?_
  rintro D σ H ⟨m0, ρ, s, m, wr, al, fl, ρ', s', f, e, q⟩
  simp only [evS] at e
  obtain ⟨r, s1, e1, e⟩ := st_ok e
  cases e
  obtain ⟨m1, wr1, f1, mv1⟩ := f.fz fz
  exact ⟨_, s, m1, al, r, _, f1.sc, e1, fun v H1 al1 st t vr => q σ H1 _ _ al1 (f1.eval st t) (mv1.trans (f1.evalM st))⟩
theorem snd_if {A B' : B} {ps qs : List Stmt} (h : PT X x (tT F KW X.K a)) (ha : PSs X ps (tSs F KW X.K A)) (hb : PSs X qs (tSs F KW X.K B')) : PS X (.If x ps qs pos) (tS F KW X.K (.ife fz a A B')) := by
  refine PS.imp (ps_if h ha hb) ?_
  rintro D σ H ⟨m0, ρ, s, m, wr, al, fl, ρ', s', f, e, q⟩
  simp only [evS] at e
  obtain ⟨r, s1, e1, e⟩ := st_ok e
  obtain ⟨m1, wr1, f1, mv1⟩ := f.fz fz
  cases k : truth r.u with
  | none => rw [k] at e; cases e
  | some t =>
    rw [k] at e
    refine ⟨_, s, m1, al, r, s1, t, f1.sc, e1, k, fun H1 al1 st t1 => ?_⟩
    cases t with
    | true => exact iteT ⟨m0, _, s1, _, _, al1, fl, ρ', s', f1.eval st t1, e, q.fwd (mv1.trans (f1.evalM st))⟩
    | false => exact iteF ⟨m0, _, s1, _, _, al1, fl, ρ', s', f1.eval st t1, e, q.fwd (mv1.trans (f1.evalM st))⟩
theorem snd_sNil : PSs X [] (tSs F KW X.K .nil) := by
  refine PSs.imp pss_nil ?_
  rintro D σ H ⟨m0, ρ, s, m, wr, al, fl, ρ', s', f, e, q⟩
  simp only [evB] at e
  cases e
  exact q σ H m wr al f Mv.refl
theorem snd_sCons {c : S} {B' : B} {st : Stmt} {sts : List Stmt} (h1 : PS X st (tS F KW X.K c)) (h2 : PSs X sts (tSs F KW X.K B')) : PSs X (st :: sts) (tSs F KW X.K (.cons c B')) := by
  refine PSs.imp (pss_cons h1 h2) ?_
  rintro D σ H ⟨m0, ρ, s, m, wr, al, fl, ρ', s', f, e, q⟩
  simp only [evB] at e
  cases e1 : evS F KW c ρ s with
  | bad => rw [e1] at e; cases e
  | exc x r s => rw [e1] at e; cases e
  | ok fl1 ρ1 s1 =>
    rw [e1] at e
    refine ⟨m0, ρ, s, m, wr, al, fl1, ρ1, s1, f, e1, ?_⟩
    cases fl1 with
    | nx => exact fun σ' H' m' wr' al' f' mv => ⟨m0, ρ1, s1, m', wr', al', fl, ρ', s', f', e, q.fwd mv⟩
    | cont => cases e; exact q
    | brk => cases e; exact q
    | ret r => cases e; exact q
end
end Ev

end
section
set_option Elab.async false
set_option linter.all false
set_option maxRecDepth 100000
set_option maxHeartbeats 4000000
namespace Ev
open PySem L2
theorem bind_own : ∀ (tg : Tg) (u : U) (ρ ρ' : Env), bindTg tg u ρ = some ρ' → ∀ i w, look i ρ' = .own w → look i ρ = .own w ∧ i ∉ tgSlots tg
  | .nm j, u, ρ, ρ', e, i, w, l => by
    cases e
    rcases look_put l with ⟨_, _, l⟩ | ⟨n, l⟩ | l
    · cases l
    · exact ⟨l, by simp [tgSlots, n]⟩
    · cases l
  | .t2 a b, u, ρ, ρ', e, i, w, l => by
    simp only [bindTg] at e
    cases i1 : items u with
    | none => rw [i1] at e; cases e
    | some us =>
      rw [i1] at e
      match us, e with
      | [w1, w2], e =>
        simp only at e
        cases e1 : bindTg a w1 ρ with
        | none => rw [e1] at e; cases e
        | some ρ1 =>
          rw [e1] at e
          obtain ⟨l1, n1⟩ := bind_own b w2 ρ1 ρ' e i w l
          obtain ⟨l2, n2⟩ := bind_own a w1 ρ ρ1 e1 i w l1
          exact ⟨l2, by simp [tgSlots, n1, n2]⟩
  | .t3 a b c, u, ρ, ρ', e, i, w, l => by
    simp only [bindTg] at e
    cases i1 : items u with
    | none => rw [i1] at e; cases e
    | some us =>
      rw [i1] at e
      match us, e with
      | [w1, w2, w3], e =>
        simp only at e
        cases e1 : bindTg a w1 ρ with
        | none => rw [e1] at e; cases e
        | some ρ1 =>
          rw [e1] at e
          simp only at e
          cases e2 : bindTg b w2 ρ1 with
          | none => rw [e2] at e; cases e
          | some ρ2 =>
            rw [e2] at e
            obtain ⟨l0, n0⟩ := bind_own c w3 ρ2 ρ' e i w l
            obtain ⟨l1, n1⟩ := bind_own b w2 ρ1 ρ2 e2 i w l0
            obtain ⟨l2, n2⟩ := bind_own a w1 ρ ρ1 e1 i w l1
            exact ⟨l2, by simp [tgSlots, n0, n1, n2]⟩
  | .t4 a b c d, u, ρ, ρ', e, i, w, l => by
    simp only [bindTg] at e
    cases i1 : items u with
    | none => rw [i1] at e; cases e
    | some us =>
      rw [i1] at e
      match us, e with
      | [w1, w2, w3, w4], e =>
        simp only at e
        cases e1 : bindTg a w1 ρ with
        | none => rw [e1] at e; cases e
        | some ρ1 =>
          rw [e1] at e
          simp only at e
          cases e2 : bindTg b w2 ρ1 with
          | none => rw [e2] at e; cases e
          | some ρ2 =>
            rw [e2] at e
            simp only at e
            cases e3 : bindTg c w3 ρ2 with
            | none => rw [e3] at e; cases e
            | some ρ3 =>
              rw [e3] at e
              obtain ⟨l9, n9⟩ := bind_own d w4 ρ3 ρ' e i w l
              obtain ⟨l0, n0⟩ := bind_own c w3 ρ2 ρ3 e3 i w l9
              obtain ⟨l1, n1⟩ := bind_own b w2 ρ1 ρ2 e2 i w l0
              obtain ⟨l2, n2⟩ := bind_own a w1 ρ ρ1 e1 i w l1
              exact ⟨l2, by simp [tgSlots, n9, n0, n1, n2]⟩
section
variable {K : PySem.W.Frag} {m0 m wr m1 wr1 m2 wr2 : Addr → Prop} {ρ ρ' : Env} {s s1 s' : Sto} {al al1 al2 : List Addr} {σ σ' : L2.St} {H H1 H2 : Hp} {u : U} {v : V} {D : Ends} {fl : Fl} {r : Rv}
theorem Fr.bind {tg : Tg} (f : Fr K m0 ρ s m wr al σ H) (e : bindTg tg u ρ = some ρ') (r : SR K m al ρ' σ' H) (o : Off (tgSlots tg) σ σ') : Fr K m0 ρ' s m wr al σ' H :=
  ⟨⟨f.sc.t, r⟩, fun i w a l e2 => by
    obtain ⟨l1, n⟩ := bind_own tg u ρ ρ' e i w l
    rw [o.get i n] at e2
    exact f.ow i w a l1 e2, f.ws, f.wm, f.up⟩
theorem Fr.grow (f : Fr K m0 ρ s m wr al σ H) (g : Grow H H1) : Fr K m0 ρ s m wr al σ H1 ∧ Mv H m wr al H1 m wr al :=
  ⟨⟨⟨f.sc.t.grow g, f.sc.r.over g.step f.sc.t.sub (fun _ _ _ n => n) (fun b z => by obtain ⟨o, e⟩ := f.sc.md b z; exact ⟨o, g b o e⟩) fun _ z => z⟩, f.ow, f.ws, f.wm, f.up⟩, fun b o e _ => g b o e, fun b o e => ⟨o, g b o e⟩, fun _ z => .inl z, fun _ z => .inl z, [], by simp, fun _ z => nomatch z⟩
/-- an iterator's item, later on -/
theorem Fr.item {Hi H3 : Hp} {mi wri : Addr → Prop} {ali : List Addr} {J : L2.It} {us : List U} {i : Nat} {x : V} (wm1 : ∀ a, wr1 a → m1 a) (yl : Yl K m1 al1 .esc H1 J us) (f : Fr K m0 ρ s mi wri ali σ Hi) (mv : Mv H1 m1 wr1 al1 Hi mi wri ali) (e : us[i]? = some u) (y : J.yld i Hi x H3) :
    Grow Hi H3 ∧ Sh K H3 mi ali u x := by
  have pp : PP m1 al1 .esc H1 Hi := fun b o e n => mv.ext b o e fun z => n (wm1 b z)
  cases yl.yl i Hi x H3 u pp e y with
  | old h1 h2 => subst h1; exact ⟨Grow.refl, mv.sh wm1 h2⟩
  | new h1 h2 h3 =>
    subst h2
    refine ⟨Grow.new h1, .tup upd_same (fun z => ?_) ((mv.shs wm1 h3).grow (Grow.new h1))⟩
    obtain ⟨o, e⟩ := f.sc.md _ z
    rw [h1] at e; cases e
end
def stepF (F : CallF) (KW : List (List Nat)) (tg : Tg) (b : B) (u : U) (r : Env) (s : Sto) : RS := match bindTg tg u r with
  | some r => evB F KW b r s
  | none => .bad
theorem forL_cons {f : U → Env → Sto → RS} {u : U} {us : List U} {ρ ρ' : Env} {s s' : Sto} {fl : Fl} (h : forL f (u :: us) ρ s = .ok fl ρ' s') : ∃ fl1 ρ1 s1, f u ρ s = .ok fl1 ρ1 s1 ∧ (match fl1 with
    | .nx => forL f us ρ1 s1 = .ok fl ρ' s'
    | .cont => forL f us ρ1 s1 = .ok fl ρ' s'
    | .brk => fl = .nx ∧ ρ' = ρ1 ∧ s' = s1
    | .ret v => fl = .ret v ∧ ρ' = ρ1 ∧ s' = s1) := by
  simp only [forL] at h
  cases q : f u ρ s with
  | bad => rw [q] at h; cases h
  | exc x r s => rw [q] at h; cases h
  | ok fl1 ρ1 s1 =>
    rw [q] at h
    refine ⟨fl1, ρ1, s1, rfl, ?_⟩
    cases fl1 with
    | nx => exact h
    | cont => exact h
    | brk => cases h; exact ⟨rfl, rfl, rfl⟩
    | ret v => cases h; exact ⟨rfl, rfl, rfl⟩
section
variable {X : Cx} {F : CallF} {KW : List (List Nat)} {a b c : C} {x y z : Expr} {pos p : Pos} {i j : Nat} {fz : List Nat}
theorem asgT_in {tg : Tg} : ∀ D σ H, tS F KW X.K (.asgT fz tg a) D σ H → tAsg (tE F KW X.K a) (tG X.K tg) D σ H := by
  rintro D σ H ⟨m0, ρ, s, m, wr, al, fl, ρ', s', f, e, q⟩
  simp only [evS] at e
  obtain ⟨r, s1, e1, e⟩ := st_ok e
  obtain ⟨m1, wr1, f1, mv1⟩ := f.fz fz
  cases eb : bindTg tg r.u (freeze fz ρ) with
  | none => rw [eb] at e; cases e
  | some ρ1 =>
    rw [eb] at e
    cases e
    refine ⟨_, s, m1, al, r, _, f1.sc, e1, fun v H1 al1 st t vr => ?_⟩
    have f2 := f1.eval st t
    exact ⟨_, _, al1, r.u, _, t.sub, f2.sc.r, vr.sh, eb, fun σ' r' off => q σ' H1 _ _ al1 (f2.bind eb r' off) (mv1.trans (f1.evalM st))⟩
theorem snd_for {tg : Tg} {it : Ev.It} {A : B} {t iter : Expr} {body : List Stmt} (hp : PassesOwn (model X.prog X.w) X.A X.env X.xe) (hc : X.calm = true) (hi : PI X t iter (tI F KW X.K .esc it)) (hg : PG X t (tG X.K tg)) (hb : PSs X body (tSs F KW X.K A))
    (hs : ∀ x, foldedSetIterable iter X.env x = pure x) : PS X (.For t iter body [] pos) (tS F KW X.K (.for_ fz tg it A)) := by
  refine PS.imp (ps_for hp hc hi hg hb hs) ?_
  rintro D σ H ⟨m0, ρ, s, m, wr, al, fl, ρ', s', f, e, q⟩
  simp only [evS] at e
  obtain ⟨us, s1, e1, e⟩ := st_ok e
  obtain ⟨m1, wr1, f1, mv1⟩ := f.fz fz
  cases hl : inLim us with
  | false => rw [hl] at e; cases e
  | true =>
  rw [hl] at e
  have e : forL (stepF F KW tg A) us (freeze fz ρ) s1 = .ok fl ρ' s' := e
  refine ⟨_, s, m1, al, us, s1, f1.sc, e1, fun J H1 al1 st t yl => ?_⟩
  have f2 := f1.eval st t
  have mv2 := mv1.trans (f1.evalM st)
  have q2 := q.fwd mv2
  generalize (mU m1 al1) = M at *
  generalize (fun a => wr1 a ∨ a ∈ al1) = WR at *
  have wm := f2.wm
  let Iv : Nat → L2.St → Hp → Prop := fun i σ Hi => ∃ ρi si mi wri ali, Fr X.K m0 ρi si mi wri ali σ Hi ∧ Mv H1 M WR al1 Hi mi wri ali ∧ forL (stepF F KW tg A) (us.drop i) ρi si = .ok fl ρ' s'
  refine ⟨fun i n σ Hi => n = us.length - i ∧ i ≤ us.length ∧ Iv i σ Hi, ⟨us.length, rfl, Nat.zero_le _, _, s1, M, WR, al1, f2, Mv.refl, e⟩, ?_⟩
  rintro i n σi Hi ⟨hn, hi, ρi, si, mi, wri, ali, fi, mvi, ei⟩
  have pp : PP M al1 .esc H1 Hi := fun b o e n => mvi.ext b o e fun z => n (wm b z)
  by_cases lt : i < us.length
  · rw [List.drop_eq_getElem_cons lt] at ei
    obtain ⟨fl1, ρ1, s2, ef, er⟩ := forL_cons ei
    refine .inr ⟨yl.go i Hi pp lt, Iv (i + 1), fun σ' H' h => ⟨us.length - (i + 1), by omega, rfl, lt, h⟩, fun x H3 hy => ?_⟩
    obtain ⟨g3, hx⟩ := fi.item wm yl mvi (List.getElem?_eq_getElem lt) hy
    obtain ⟨f3, mv3⟩ := fi.grow g3
    unfold stepF at ef
    cases eb : bindTg tg us[i] ρi with
    | none => rw [eb] at ef; cases ef
    | some ρb =>
      rw [eb] at ef
      have ef : evB F KW A ρb si = .ok fl1 ρ1 s2 := ef
      refine ⟨ρi, mi, ali, us[i], ρb, f3.sc.t.sub, f3.sc.r, hx, eb, fun σ2 r2 off => ?_⟩
      refine ⟨m0, ρb, si, mi, wri, ali, fl1, ρ1, s2, f3.bind eb r2 off, ef, ?_⟩
      cases fl1 with
      | nx => exact fun σ' H' m' wr' al' f' mv' => ⟨ρ1, s2, m', wr', al', f', (mvi.trans mv3).trans mv', er⟩
      | cont => exact fun σ' H' m' wr' al' f' mv' => ⟨ρ1, s2, m', wr', al', f', (mvi.trans mv3).trans mv', er⟩
      | brk =>
        obtain ⟨rfl, rfl, rfl⟩ := er
        exact fun σ' H' m' wr' al' f' mv' => q2 σ' H' m' wr' al' f' ((mvi.trans mv3).trans mv')
      | ret v =>
        obtain ⟨rfl, rfl, rfl⟩ := er
        exact fun v H' m' wr' al' h => q2 v H' m' wr' al' (h.back (mvi.trans mv3))
  · have hi' : i = us.length := Nat.le_antisymm hi (Nat.le_of_not_lt lt)
    subst hi'
    rw [List.drop_length] at ei
    cases ei
    exact .inl ⟨yl.st Hi pp, q2 σi Hi mi wri ali fi mvi⟩
theorem snd_while {A : B} {t : Expr} {body : List Stmt} (hp : PassesOwn (model X.prog X.w) X.A X.env X.xe) (hc : PT X t (tT F KW X.K a)) (hb : PSs X body (tSs F KW X.K A)) : PS X (.While t body [] pos) (tS F KW X.K (.while_ fz a A)) := by
  refine PS.imp (ps_while hp hc hb) ?_
  rintro D σ H ⟨m0, ρ, s, m, wr, al, fl, ρ', s', f, e, q⟩
  simp only [evS] at e
  generalize ht : (fun (r : Env) (s : Sto) => ((evE F KW a (freeze fz r) s).bind fun v s => (ofO s (truth v.u)).bind fun k s => RE.ok (k, freeze fz r) s)) = tf at e
  refine ⟨fun n σ Hi => ∃ ρi si mi wri ali, Fr X.K m0 ρi si mi wri ali σ Hi ∧ Mv H m wr al Hi mi wri ali ∧ whileL tf (fun r s => evB F KW A r s) n ρi si = .ok fl ρ' s', ⟨1000000, ρ, s, m, wr, al, f, Mv.refl, e⟩, ?_⟩
  rintro n σi Hi ⟨ρi, si, mi, wri, ali, fi, mvi, ei⟩
  cases n with
  | zero => cases ei
  | succ n =>
    simp only [whileL] at ei
    cases ht1 : tf ρi si with
    | bad => rw [ht1] at ei; cases ei
    | exc x s => rw [ht1] at ei; cases ei
    | ok kr s1 =>
      rw [ht1] at ei
      rw [← ht] at ht1
      obtain ⟨ra, s2, e2, ht1⟩ := bind_ok ht1
      obtain ⟨k, e3, ht1⟩ := bindO_ok ht1
      cases ht1
      obtain ⟨m1, wr1, f1, mv1⟩ := fi.fz fz
      refine ⟨_, si, m1, ali, ra, s1, k, f1.sc, e2, e3, fun H1 al1 st t1 => ?_⟩
      have f2 := f1.eval st t1
      have mv2 := (mvi.trans mv1).trans (f1.evalM st)
      cases k with
      | false =>
        cases ei
        exact iteF (q σi H1 _ _ al1 f2 mv2)
      | true =>
        simp only at ei
        refine iteT ⟨fun σ' H' => ∃ ρi si mi wri ali, Fr X.K m0 ρi si mi wri ali σ' H' ∧ Mv H m wr al H' mi wri ali ∧ whileL tf (fun r s => evB F KW A r s) n ρi si = .ok fl ρ' s', fun σ' H' h => ⟨n, Nat.lt_succ_self n, h⟩, ?_⟩
        cases eb : evB F KW A (freeze fz ρi) s1 with
        | bad => rw [eb] at ei; cases ei
        | exc x r s => rw [eb] at ei; cases ei
        | ok fl1 ρ1 s3 =>
          rw [eb] at ei
          refine ⟨m0, _, s1, _, _, al1, fl1, ρ1, s3, f2, eb, ?_⟩
          cases fl1 with
          | nx => exact fun σ' H' m' wr' al' f' mv' => ⟨ρ1, s3, m', wr', al', f', mv2.trans mv', ei⟩
          | cont => exact fun σ' H' m' wr' al' f' mv' => ⟨ρ1, s3, m', wr', al', f', mv2.trans mv', ei⟩
          | brk => cases ei; exact fun σ' H' m' wr' al' f' mv' => q σ' H' m' wr' al' f' (mv2.trans mv')
          | ret v => cases ei; exact fun v H' m' wr' al' h => q v H' m' wr' al' (h.back mv2)
end
end Ev

end
section
set_option Elab.async false
set_option linter.all false
set_option maxRecDepth 100000
set_option maxHeartbeats 4000000
namespace Ev
open PySem L2
section
variable {K : PySem.W.Frag} {m0 m wr m1 wr1 m2 wr2 : Addr → Prop} {ρ ρ' : Env} {s s1 s' : Sto} {al al1 al2 : List Addr} {σ σ' : L2.St} {H H1 H2 : Hp} {u : U} {v : V}
theorem Mv.write {a : Addr} {o : HO} (h : wr a) : Mv H m wr al (upd H a o) m wr al :=
  ⟨fun b q e n => by rw [upd_ne fun z => n (by rw [z]; exact h)]; exact e, fun b q e => by
    by_cases z : b = a
    · rw [z]; exact ⟨_, upd_same⟩
    · exact ⟨q, by rw [upd_ne z]; exact e⟩, fun _ z => .inl z, fun _ z => .inl z, [], by simp, fun _ z => nomatch z⟩
theorem Fr.writeOwn (f : Fr K m0 ρ s m wr al σ H) {i : Nat} {us us' : List U} {a : Addr} {vs' : List V} (l : look i ρ = .own (.lst us)) (e : σ[i]? = some (some (.ref a))) (sh : Shs K H m al us' vs') :
    Fr K m0 (Ev.put i (.own (.lst us')) ρ) s m wr al σ (upd H a (.lst vs')) ∧ Mv H m wr al (upd H a (.lst vs')) m wr al := by
  obtain ⟨hw, h0⟩ := f.ow i _ a l e
  have hm := f.wm _ hw
  obtain ⟨_, a', _, _, q2, _, _, _, q6⟩ := f.sc.r.own i _ l
  rw [e] at q2; cases q2
  have old : ∀ j w, look j (Ev.put i (.own (.lst us')) ρ) = .own w → ∃ w', look j ρ = .own w' := fun j w e => by
    rcases look_put e with ⟨rfl, _, e⟩ | ⟨n, e⟩ | e
    · exact ⟨_, l⟩
    · exact ⟨_, e⟩
    · cases e
  refine ⟨⟨⟨f.sc.t.write hm q6, ⟨by rw [put_len]; exact f.sc.r.len, fun b z => ?_, fun j w e => ?_, fun j w e1 => ?_, fun j j' w w' c e1 e2 e3 e4 => ?_⟩⟩, fun j w b e1 e2 => ?_, f.ws, f.wm, f.up⟩, Mv.write hw⟩
  · by_cases y : b = a
    · rw [y]; exact ⟨_, upd_same⟩
    · obtain ⟨o, q⟩ := f.sc.r.md b z
      exact ⟨o, by rw [upd_ne y]; exact q⟩
  · rcases look_put e with ⟨_, _, e⟩ | ⟨n, e⟩ | e
    · cases e
    · obtain ⟨x, e1, e2⟩ := f.sc.r.sh j w e
      exact ⟨x, e1, e2.write hm⟩
    · cases e
  · rcases look_put e1 with ⟨rfl, _, e1⟩ | ⟨n, e1⟩ | e1
    · cases e1
      exact ⟨us', a, vs', rfl, e, upd_same, sh.write hm, hm, q6⟩
    · obtain ⟨ws, b, zs, k1, k2, k3, k4, k5, k6⟩ := f.sc.r.own j w e1
      have nb : b ≠ a := fun z => n (f.sc.r.inj j i _ _ a e1 l (by rw [← z]; exact k2) e)
      exact ⟨ws, b, zs, k1, k2, by rw [upd_ne nb]; exact k3, k4.write hm, k5, k6⟩
    · cases e1
  · obtain ⟨w1, k1⟩ := old j w e1
    obtain ⟨w2, k2⟩ := old j' w' e2
    exact f.sc.r.inj j j' w1 w2 c k1 k2 e3 e4
  · obtain ⟨w1, k1⟩ := old j w e1
    exact f.ow j w1 b k1 e2
theorem Fr.writeSto (f : Fr K m0 ρ s m wr al σ H) {p : Nat} {is is' : List Int} {a : Addr} (e : s[p]? = some (.lst is)) (ea : al[p]? = some a) :
    Fr K m0 ρ (s.set p (.lst is')) m wr al σ (upd H a (.lst (is'.map V.int))) ∧ Mv H m wr al (upd H a (.lst (is'.map V.int))) m wr al := by
  have ha : a ∈ al := List.mem_of_getElem? ea
  have hm := f.sc.t.sub a ha
  refine ⟨⟨⟨⟨by rw [List.length_set]; exact f.sc.t.len, f.sc.t.nd, f.sc.t.sub, fun k ws q => ?_⟩, ⟨f.sc.r.len, fun b z => ?_, fun j w e => ?_, fun j w e1 => ?_, f.sc.r.inj⟩⟩, f.ow, f.ws, f.wm, f.up⟩, Mv.write (f.ws a ha)⟩
  · by_cases c : p = k
    · subst c
      rw [List.getElem?_set_self (List.getElem?_eq_some_iff.mp e).1] at q
      cases q
      exact ⟨a, ea, upd_same⟩
    · rw [List.getElem?_set_ne c] at q
      obtain ⟨b, e1, e2⟩ := f.sc.t.at_ k ws q
      refine ⟨b, e1, ?_⟩
      rw [upd_ne ?_]
      · exact e2
      · intro z
        subst z
        obtain ⟨h1, g1⟩ := List.getElem?_eq_some_iff.mp ea
        obtain ⟨h2, g2⟩ := List.getElem?_eq_some_iff.mp e1
        exact c ((List.getElem_inj f.sc.t.nd).mp (g1.trans g2.symm))
  · by_cases y : b = a
    · rw [y]; exact ⟨_, upd_same⟩
    · obtain ⟨o, q⟩ := f.sc.r.md b z
      exact ⟨o, by rw [upd_ne y]; exact q⟩
  · obtain ⟨x, e1, e2⟩ := f.sc.r.sh j w e
    exact ⟨x, e1, e2.write hm⟩
  · obtain ⟨ws, b, zs, k1, k2, k3, k4, k5, k6⟩ := f.sc.r.own j w e1
    exact ⟨ws, b, zs, k1, k2, by rw [upd_ne fun z => k6 (by rw [z]; exact ha)]; exact k3, k4.write hm, k5, k6⟩
end
section
variable {X : Cx} {F : CallF} {KW : List (List Nat)} {a b c : C} {x y z : Expr} {pos p : Pos} {i j l : Nat} {fz : List Nat} {as : A}
theorem aug_in {o : Op2} {g : Int → Int → Int} (hg : ∀ i j r, op2 o (.int i) j = some r → ∃ k, j = .int k ∧ r.u = .int (g i k)) : ∀ D σ H, tS F KW X.K (.aug fz i o a) D σ H → tAug i (tB F KW X.K a) (ipI g) D σ H := by
  rintro D σ H ⟨m0, ρ, s, m, wr, al, fl, ρ', s', f, e, q⟩
  simp only [evS] at e
  obtain ⟨r, s1, e1, e⟩ := st_ok e
  obtain ⟨m1, wr1, f1, mv1⟩ := f.fz fz
  cases l : look i (freeze fz ρ) with
  | un => rw [l] at e; cases e
  | own u => rw [l] at e; cases e
  | sh u =>
    rw [l] at e
    obtain ⟨n, hn⟩ : ∃ n, u = .int n := by cases u <;> first | exact ⟨_, rfl⟩ | (cases e; done)
    subst hn
    simp only at e
    cases eo : op2 o (.int n) r.u with
    | none => rw [eo] at e; cases e
    | some w =>
      rw [eo] at e
      cases e
      obtain ⟨k, hk, hw⟩ := hg _ _ _ eo
      obtain ⟨v, e2, e3⟩ := f1.sc.r.sh i _ l
      cases e3
      refine ⟨_, e2, _, s, m1, al, r, _, f1.sc, e1, fun y H1 al1 st t br => ?_⟩
      rw [hk] at br
      cases br.int
      refine ⟨n, k, rfl, rfl, ?_⟩
      have f2 := f1.eval st t
      refine q _ H1 _ _ al1 (f2.put (.sh ?_)) (mv1.trans (f1.evalM st))
      rw [hw]; exact .int _
theorem par3_in : ∀ D σ H, tS F KW X.K (.par3 fz i j l as) D σ H → tPar3 i j l (tAs F KW X.K as) D σ H := by
  rintro D σ H ⟨m0, ρ, s, m, wr, al, fl, ρ', s', f, e, q⟩
  simp only [evS] at e
  obtain ⟨us, s1, e1, e⟩ := st_ok e
  obtain ⟨m1, wr1, f1, mv1⟩ := f.fz fz
  match us, e, e1 with
  | [u1, u2, u3], e, e1 =>
    cases e
    refine ⟨_, s, m1, al, _, _, f1.sc, e1, fun vs H1 al1 st t sh => ?_⟩
    cases sh with
    | cons h1 sh => cases sh with
      | cons h2 sh => cases sh with
        | cons h3 sh =>
          cases sh
          exact ⟨_, _, _, rfl, q _ H1 _ _ al1 ((((f1.eval st t).put (.sh h1)).put (.sh h2)).put (.sh h3)) (mv1.trans (f1.evalM st))⟩
theorem par2_in {oi oj : Bool} : ∀ D σ H, tS F KW X.K (.par2 fz i oi a j oj b) D σ H → tPar i j (tCons (tE F KW X.K a) (tCons (tE F KW X.K b) tNil)) D σ H := by
  rintro D σ H ⟨m0, ρ, s, m, wr, al, fl, ρ', s', f, e, q⟩
  simp only [evS] at e
  obtain ⟨r1, s1, e1, e⟩ := st_ok e
  obtain ⟨r2, s2, e2, e⟩ := st_ok e
  cases e
  obtain ⟨m1, wr1, f1, mv1⟩ := f.fz fz
  refine ⟨_, s, m1, al, r1, s1, f1.sc, e1, fun v H1 al1 st t vr => ?_⟩
  obtain ⟨m2, wr2, f2, mv2, pd, _, _⟩ := f1.val st t vr oi
  refine ⟨_, s1, m2, al1, r2, _, f2.sc, e2, fun w H2 al2 st2 t2 vr2 => ⟨v, w, rfl, ?_⟩⟩
  obtain ⟨m3, wr3, f3, mv3, pd2, nw2, ww⟩ := f2.val st2 t2 vr2 oj
  have pd' : Pend X.K m0 m3 wr3 al2 H2 (freeze fz ρ) σ (r1.slot oi) v := by
    generalize r1.slot oi = sl at pd
    cases pd with
    | sh h => exact .sh (mv3.sh f2.wm h)
    | own h1 h2 h3 h4 h5 h6 => exact .own (st2.ext _ _ h1 h5) (mv3.shs f2.wm h2) (ww _ h3) h4 (st2.notin h1 h5) h6
  have f4 := f3.put (i := i) pd'
  have pd2' : Pend X.K m0 m3 wr3 al2 H2 (put i (r1.slot oi) (freeze fz ρ)) (σ.set i (some v)) (r2.slot oj) w := by
    generalize r2.slot oj = sl2 at pd2 nw2
    cases pd2 with
    | sh h => exact .sh h
    | own h1 h2 h3 h4 h5 h6 =>
      refine .own h1 h2 h3 h4 h5 fun k u k1 k2 => ?_
      have hn := nw2 _ _ rfl rfl
      rcases look_put k1 with ⟨rfl, ll, k1⟩ | ⟨n, k1⟩ | k1
      · rw [List.getElem?_set_self (by rw [← f3.sc.r.len]; exact ll)] at k2
        cases k2
        generalize r1.slot oi = sl at pd k1
        cases pd with
        | sh h => cases k1
        | own g1 => rw [hn] at g1; cases g1
      · rw [List.getElem?_set_ne (Ne.symm n)] at k2
        exact h6 k u k1 k2
      · cases k1
  exact q _ H2 m3 wr3 al2 (f4.put pd2') ((mv1.trans mv2).trans mv3)
end
end Ev

end
section
set_option Elab.async false
set_option linter.all false
set_option maxRecDepth 100000
set_option maxHeartbeats 4000000
namespace Ev
open PySem L2
section
variable {X : Cx} {F : CallF} {KW : List (List Nat)} {a b c : C} {pos p : Pos} {i j l : Nat} {fz : List Nat} {as : A}
theorem asgIx_in {x : Nat} : ∀ D σ H, tS F KW X.K (.asgIx fz x b a) D σ H → tAsg (tE F KW X.K a) (gSub (tVar x) (tB F KW X.K b) rSetL) D σ H := by
  rintro D σ H ⟨m0, ρ, s, m, wr, al, fl, ρ', s', f, e, q⟩
  simp only [evS] at e
  obtain ⟨r, s1, e1, e⟩ := st_ok e
  obtain ⟨r2, s2, e2, e⟩ := st_ok e
  obtain ⟨m1, wr1, f1, mv1⟩ := f.fz fz
  refine ⟨_, s, m1, al, r, _, f1.sc, e1, fun v H1 al1 st t vr => ?_⟩
  have f2 := f1.eval st t
  have mv2 := mv1.trans (f1.evalM st)
  unfold setIx at e
  cases lx : look x (freeze fz ρ) with
  | un => rw [lx] at e; cases e
  | own u =>
    rw [lx] at e
    obtain ⟨us, d, vs, rfl, g2, g3, g4, g5, g6⟩ := f2.sc.r.own x u lx
    obtain ⟨ui, fi⟩ := r2
    obtain ⟨n, hn⟩ : ∃ n, ui = .int n := by cases ui <;> first | exact ⟨_, rfl⟩ | (cases e; done)
    subst hn
    simp only at e
    cases hx : ixN us.length n with
    | none => rw [hx] at e; cases e
    | some jj =>
      rw [hx] at e
      cases e
      refine ⟨_, g2, _, s1, _, al1, _, _, f2.sc, e2, fun y H2 al2 st2 t2 br => ?_⟩
      cases br.int
      have f3 := f2.eval st2 t2
      have mv3 := mv2.trans (f2.evalM st2)
      have h2 := st2.ext _ _ g3 g6
      refine ⟨d, vs, n, jj, rfl, rfl, h2, by rw [← g4.length]; exact hx, ?_⟩
      obtain ⟨f4, mv4⟩ := f3.writeOwn lx g2 ((g4.step st2 t.sub).set (i := jj) (vr.sh.step st2 t.sub))
      exact q σ _ _ _ al2 f4 (mv3.trans mv4)
  | sh u =>
    rw [lx] at e
    obtain ⟨pp, hp⟩ : ∃ pp, u = .ref pp := by cases u <;> first | exact ⟨_, rfl⟩ | (cases e; done)
    subst hp
    obtain ⟨ui, fi⟩ := r2
    obtain ⟨n, hn⟩ : ∃ n, ui = .int n := by cases ui <;> first | exact ⟨_, rfl⟩ | (cases e; done)
    subst hn
    obtain ⟨uv, fv⟩ := r
    obtain ⟨w, hw⟩ : ∃ n, uv = .int n := by cases uv <;> first | exact ⟨_, rfl⟩ | (cases e; done)
    subst hw
    simp only at e
    cases hs : nth pp s2 with
    | none => rw [hs] at e; cases e
    | some ob =>
      rw [hs] at e
      obtain ⟨is⟩ := ob
      simp only at e
      cases hx : ixN is.length n with
      | none => rw [hx] at e; cases e
      | some jj =>
        rw [hx] at e
        cases e
        obtain ⟨v2, g1, g2⟩ := f2.sc.r.sh x _ lx
        cases g2 with
        | ref g2 =>
          rename_i d
          refine ⟨_, g1, _, s1, _, al1, _, _, f2.sc, e2, fun y H2 al2 st2 t2 br => ?_⟩
          cases br.int
          cases vr.sh
          have f3 := f2.eval st2 t2
          have mv3 := mv2.trans (f2.evalM st2)
          have g3 := st2.nth _ _ g2
          rw [nth_get] at hs g3
          obtain ⟨d', k1, k2⟩ := t2.at_ pp is hs
          rw [g3] at k1
          cases k1
          refine ⟨d, _, n, jj, rfl, rfl, k2, by rw [List.length_map]; exact hx, ?_⟩
          obtain ⟨f4, mv4⟩ := f3.writeSto (is' := is.set jj w) hs g3
          rw [← List.map_set]
          exact q σ _ _ _ al2 f4 (mv3.trans mv4)
theorem app_in {x : Nat} : ∀ D σ H, tS F KW X.K (.app fz x a) D σ H → tDrop (tBM X.K "list" rAppend (tVar x) (tCons (tE F KW X.K a) tNil)) D σ H := by
  rintro D σ H ⟨m0, ρ, s, m, wr, al, fl, ρ', s', f, e, q⟩
  simp only [evS] at e
  obtain ⟨r, s1, e1, e⟩ := st_ok e
  obtain ⟨m1, wr1, f1, mv1⟩ := f.fz fz
  cases lx : look x (freeze fz ρ) with
  | un => rw [lx] at e; cases e
  | sh u => rw [lx] at e; cases e
  | own u =>
    rw [lx] at e
    obtain ⟨us, d, vs, rfl, g2, g3, g4, g5, g6⟩ := f1.sc.r.own x u lx
    simp only at e
    by_cases hl : us.length < lim
    · rw [if_pos hl] at e
      cases e
      refine ⟨_, g2, .inl ⟨rfl, vs, SqL.of g3⟩, _, s, m1, al, r, _, f1.sc, e1, fun v H1 al1 st t vr => ?_⟩
      have f2 := f1.eval st t
      have mv2 := mv1.trans (f1.evalM st)
      refine ⟨d, vs, v, rfl, rfl, st.ext _ _ g3 g6, by rw [← g4.length]; exact Nat.lt_trans hl (by unfold lim; decide), ?_⟩
      obtain ⟨f4, mv4⟩ := f2.writeOwn lx g2 ((g4.step st f1.sc.t.sub).append (.cons vr.sh .nil))
      exact q σ _ _ _ al1 f4 (mv2.trans mv4)
    · rw [if_neg hl] at e; cases e
theorem appPop_in {x y : Nat} : ∀ D σ H, tS F KW X.K (.appPop fz x y a) D σ H → tDrop (tBM X.K "list" rAppend (tVar x) (tCons (tBM X.K "list" rPopAt (tVar y) (tCons (tB F KW X.K a) tNil)) tNil)) D σ H := by
  rintro D σ H ⟨m0, ρ, s, m, wr, al, fl, ρ', s', f, e, q⟩
  simp only [evS] at e
  obtain ⟨r, s1, e1, e⟩ := st_ok e
  obtain ⟨m1, wr1, f1, mv1⟩ := f.fz fz
  cases lx : look x (freeze fz ρ) with
  | un => rw [lx] at e; cases e
  | sh u => rw [lx] at e; cases e
  | own u =>
  obtain ⟨us, d, vs, rfl, g2, g3, g4, g5, g6⟩ := f1.sc.r.own x u lx
  cases ly : look y (freeze fz ρ) with
  | un => rw [lx, ly] at e; cases e
  | sh u => rw [lx, ly] at e; cases e
  | own u =>
  obtain ⟨ws, d', zs, rfl, k2, k3, k4, k5, k6⟩ := f1.sc.r.own y u ly
  rw [lx, ly] at e
  obtain ⟨ui, fi⟩ := r
  obtain ⟨n, hn⟩ : ∃ n, ui = .int n := by cases ui <;> first | exact ⟨_, rfl⟩ | (cases e; done)
  subst hn
  simp only at e
  by_cases hg : (x != y && decide (us.length < lim) && decide (ws.length ≤ lim)) = true
  · rw [if_pos hg] at e
    obtain ⟨h1, h3⟩ := and2 hg
    obtain ⟨h1, h2⟩ := and2 h1
    have hxy : x ≠ y := by simpa using h1
    have h2 : us.length < lim := of_decide_eq_true h2
    have h3 : ws.length ≤ lim := of_decide_eq_true h3
    cases hx : ixN ws.length n with
    | none => rw [hx] at e; cases e
    | some jj =>
      rw [hx] at e
      simp only at e
      cases hu : nth jj ws with
      | none => rw [hu] at e; cases e
      | some u =>
        rw [hu] at e
        cases e
        refine ⟨_, g2, .inl ⟨rfl, vs, SqL.of g3⟩, _, k2, .inl ⟨rfl, zs, SqL.of k3⟩, _, s, m1, al, _, _, f1.sc, e1, fun v H1 al1 st t br => ?_⟩
        cases br.int
        have f2 := f1.eval st t
        have mv2 := mv1.trans (f1.evalM st)
        have kd := st.ext _ _ k3 k6
        have gd := st.ext _ _ g3 g6
        have ksh := k4.step st f1.sc.t.sub
        have gsh := g4.step st f1.sc.t.sub
        rw [nth_get] at hu
        obtain ⟨w, w1, w2⟩ := ksh.nth hu
        obtain ⟨q1, q2, q3, q4⟩ := ixN_seq hx
        have hlen := k4.length
        have hb : (lim : Int) < 2 ^ 62 := by unfold lim; decide
        have nd : d ≠ d' := fun z => hxy (f1.sc.r.inj x y _ _ d lx ly g2 (by rw [z]; exact k2))
        refine ⟨d', zs, n, jj, w, rfl, rfl, kd, by omega, by omega, by rw [← hlen]; exact q1, w1, ?_⟩
        obtain ⟨f3, mv3⟩ := f2.writeOwn ly k2 (ksh.eraseIdx jj)
        refine ⟨d, vs, w, rfl, rfl, by rw [upd_ne nd]; exact gd, by rw [← g4.length]; exact Nat.lt_trans h2 (by unfold lim; decide), ?_⟩
        have lx3 : look x (Ev.put y (.own (.lst (ws.eraseIdx jj))) (freeze fz ρ)) = .own (.lst us) := by rw [look_put_ne hxy]; exact lx
        have hm' := f2.wm _ (f2.ow y _ d' ly k2).1
        obtain ⟨f4, mv4⟩ := f3.writeOwn lx3 g2 ((gsh.write hm').append (.cons (w2.write hm') .nil))
        exact q σ _ _ _ al1 f4 ((mv2.trans mv3).trans mv4)
  · rw [if_neg hg] at e; cases e
theorem popS_in {y : Nat} : ∀ D σ H, tS F KW X.K (.popS fz y a) D σ H → tDrop (tBM X.K "list" rPopAt (tVar y) (tCons (tB F KW X.K a) tNil)) D σ H := by
  rintro D σ H ⟨m0, ρ, s, m, wr, al, fl, ρ', s', f, e, q⟩
  simp only [evS] at e
  obtain ⟨r, s1, e1, e⟩ := st_ok e
  obtain ⟨m1, wr1, f1, mv1⟩ := f.fz fz
  cases ly : look y (freeze fz ρ) with
  | un => rw [ly] at e; cases e
  | sh u => rw [ly] at e; cases e
  | own u =>
  obtain ⟨ws, d', zs, rfl, k2, k3, k4, k5, k6⟩ := f1.sc.r.own y u ly
  rw [ly] at e
  obtain ⟨ui, fi⟩ := r
  obtain ⟨n, hn⟩ : ∃ n, ui = .int n := by cases ui <;> first | exact ⟨_, rfl⟩ | (cases e; done)
  subst hn
  simp only at e
  by_cases h3 : ws.length ≤ lim
  · rw [if_pos h3] at e
    cases hx : ixN ws.length n with
    | none => rw [hx] at e; cases e
    | some jj =>
      rw [hx] at e
      cases e
      refine ⟨_, k2, .inl ⟨rfl, zs, SqL.of k3⟩, _, s, m1, al, _, _, f1.sc, e1, fun v H1 al1 st t br => ?_⟩
      cases br.int
      have f2 := f1.eval st t
      have mv2 := mv1.trans (f1.evalM st)
      have kd := st.ext _ _ k3 k6
      have ksh := k4.step st f1.sc.t.sub
      obtain ⟨q1, q2, q3, q4⟩ := ixN_seq hx
      have hlen := k4.length
      have hb : (lim : Int) < 2 ^ 62 := by unfold lim; decide
      obtain ⟨w, w1⟩ : ∃ w, zs[jj]? = some w := ⟨zs[jj]'(by omega), List.getElem?_eq_getElem (by omega)⟩
      refine ⟨d', zs, n, jj, w, rfl, rfl, kd, by omega, by omega, by rw [← hlen]; exact q1, w1, ?_⟩
      obtain ⟨f3, mv3⟩ := f2.writeOwn ly k2 (ksh.eraseIdx jj)
      exact q σ _ _ _ al1 f3 (mv2.trans mv3)
  · rw [if_neg h3] at e; cases e
theorem appR_in : ∀ D σ H, tS F KW X.K (.appR fz b a) D σ H → tDrop (tBM X.K "list" rAppend (tB F KW X.K b) (tCons (tB F KW X.K a) tNil)) D σ H := by
  rintro D σ H ⟨m0, ρ, s, m, wr, al, fl, ρ', s', f, e, q⟩
  simp only [evS] at e
  obtain ⟨r1, s1, e1, e⟩ := st_ok e
  obtain ⟨r2, s2, e2, e⟩ := st_ok e
  obtain ⟨m1, wr1, f1, mv1⟩ := f.fz fz
  obtain ⟨u1, g1⟩ := r1
  obtain ⟨u2, g2⟩ := r2
  obtain ⟨pp, hp⟩ : ∃ pp, u1 = .ref pp := by cases u1 <;> first | exact ⟨_, rfl⟩ | (cases e; done)
  subst hp
  obtain ⟨w, hw⟩ : ∃ n, u2 = .int n := by cases u2 <;> first | exact ⟨_, rfl⟩ | (cases e; done)
  subst hw
  simp only at e
  cases hs : nth pp s2 with
  | none => rw [hs] at e; cases e
  | some ob =>
    rw [hs] at e
    obtain ⟨is⟩ := ob
    simp only at e
    by_cases hl : is.length < lim
    · rw [if_pos hl] at e
      cases e
      refine ⟨_, s, m1, al, _, s1, f1.sc, e1, fun v1 H1 al1 st1 t1 b1 => ?_⟩
      have f2 := f1.eval st1 t1
      have mv2 := mv1.trans (f1.evalM st1)
      cases b1 with
      | sh h =>
        cases h with
        | ref hk =>
          rename_i d
          have hd : ∃ xs, H1 d = some (.lst xs) := by
            obtain ⟨o, e⟩ : ∃ o, s1[pp]? = some o := by
              rw [nth_get] at hk
              have hlt : pp < al1.length := (List.getElem?_eq_some_iff.mp hk).1
              rw [t1.len] at hlt
              exact ⟨_, List.getElem?_eq_getElem hlt⟩
            obtain ⟨xs⟩ := o
            obtain ⟨d', k1, k2⟩ := t1.at_ pp xs e
            rw [nth_get] at hk
            rw [hk] at k1; cases k1
            exact ⟨_, k2⟩
          obtain ⟨xs0, hd⟩ := hd
          refine ⟨.inl ⟨rfl, xs0, SqL.of hd⟩, _, s1, _, al1, _, s2, f2.sc, e2, fun v2 H2 al2 st2 t2 b2 => ?_⟩
          cases b2.int
          have f3 := f2.eval st2 t2
          have mv3 := mv2.trans (f2.evalM st2)
          have g3 := st2.nth _ _ hk
          rw [nth_get] at hs g3
          obtain ⟨d', k1, k2⟩ := t2.at_ pp is hs
          rw [g3] at k1
          cases k1
          refine ⟨d, _, _, rfl, rfl, k2, by rw [List.length_map]; exact Nat.lt_trans hl (by unfold lim; decide), ?_⟩
          obtain ⟨f4, mv4⟩ := f3.writeSto (is' := is ++ [w]) hs g3
          rw [List.map_append] at f4 mv4
          exact q σ _ _ _ al2 f4 (mv3.trans mv4)
    · rw [if_neg hl] at e; cases e
end
end Ev

end
section
set_option Elab.async false
set_option linter.all false
set_option maxRecDepth 100000
set_option maxHeartbeats 4000000
namespace Ev
open PySem L2
theorem sameNames_eq : ∀ {xs ys : List Str}, sameNames xs ys = true → xs = ys
  | [], [], _ => rfl
  | [], _ :: _, h => nomatch h
  | _ :: _, [], h => nomatch h
  | x :: xs, y :: ys, h => by
    obtain ⟨h1, h2⟩ := and2 h
    rw [of_decide_eq_true h1, sameNames_eq h2]
section
variable {X : Cx} {F : CallF} {KW : List (List Nat)} {T : Tb} {k : Ck}
theorem sw_is (O : XOk T F KW k X) {ts vs : List Expr} {xs : List Str} {a c : Nat} {b d : Pos} (h : swIs k ts vs xs = true) : swappedStores [.Tuple ts a b] (.Tuple vs c d) X.env = pure (some xs) := by
  unfold swIs at h
  cases q : swM k ts vs with
  | none => rw [q] at h; cases h
  | some r => cases r with
    | none => rw [q] at h; cases h
    | some ys =>
      rw [q] at h
      rw [← sameNames_eq h]
      exact sw_eq O.sc q
theorem sw_no (O : XOk T F KW k X) {ts : List Expr} {ex : Expr} {a : Nat} {b : Pos} (h : swNo k (.Tuple ts a b) ex = true) : swappedStores [.Tuple ts a b] ex X.env = pure none := by
  cases ex <;> first
    | (rename_i vs c d
       unfold swNo at h
       simp only at h
       cases q : swM k ts vs with
       | none => rw [q] at h; cases h
       | some r => cases r with
         | some ys => rw [q] at h; cases h
         | none => exact sw_eq O.sc q)
    | rfl
theorem sw_name {ex : Expr} (h : isLC ex = false) (x : Option Expr) (line : Nat) (env : PySem.Env) : swapsWith ex x line env = pure false := by
  cases ex <;> first | rfl | cases h
theorem sw_sole {ex : Expr} (h : isLC ex = false) (t : Expr) (line : Nat) (env : PySem.Env) : swapsWithSole [t] ex line env = pure false := by
  unfold swapsWithSole
  exact sw_name h (some t) line env
theorem name_of (O : XOk T F KW k X) {i : Nat} {x : Str} (h : nameI k i x = true) : X.N[i]? = some x ∧ X.env.scope.names.lookup x = some .local := by
  obtain ⟨h1, h2⟩ := and2 h
  rw [O.N, O.sc]
  exact ⟨of_decide_eq_true h1, eq_of_beq h2⟩
theorem sw_lc (O : XOk T F KW k X) (hf : isFn k = true) {elt : Expr} {gs : List Comprehension} {scope : Scope} {cp p : Pos} {x : Str} {line : Nat} : swapsWith (.ListComp elt gs scope cp) (some (.Name x p)) line X.env = pure (swapOne k (.ListComp elt gs scope cp) x p) := by
  have hb : X.env.blockKind = .function := by
    unfold Env.blockKind
    rw [O.sc]
    unfold isFn at hf
    cases q : k.sc.kind <;> rw [q] at hf <;> first | rfl | cases hf
  have hn : X.env.kindOf x = k.sc.names.lookup x := by unfold Env.kindOf; rw [O.sc]
  unfold swapsWith swapOne
  simp only [hb, hn]
  rfl
end
mutual
theorem sndS {T : Tb} {F : CallF} {KW : List (List Nat)} : ∀ (c : S) (k : Ck) (st : Stmt) (X : Cx), XOk T F KW k X → PassesOwn (model X.prog X.w) X.A X.env X.xe → chkS T c k st = true → PS X st (tS F KW X.K c)
  | .asg fz i o e, k, st, X, O, hp, h => by
    rw [chkS.eq_def] at h
    simp only at h
    split at h
    · rename_i x p ex pos
      obtain ⟨h0, h5⟩ := and2 h
      obtain ⟨h0, h4⟩ := and2 h0
      obtain ⟨h0, h3⟩ := and2 h0
      obtain ⟨h1, h2⟩ := and2 h0
      have he := sndC e .esc k ex X O h4
      obtain ⟨hl, hf⟩ := loc_of O.names h3
      have hN : X.N.Nodup := by rw [O.N]; exact O.nd
      have hi : X.N[i]? = some x := by rw [O.N]; exact of_decide_eq_true h2
      by_cases lc : isLC ex = false
      · exact PS.imp (ps_set hN hi hl he (sw_name lc _ _ _) hf) asg_in
      · cases ex <;> first | exact absurd rfl lc | skip
        · rename_i elt gs scope cp
          by_cases sw : swapOne k (.ListComp elt gs scope cp) x p = false
          · exact PS.imp (ps_set hN hi hl he (by rw [sw_lc O h1, sw]) hf) asg_in
          · have sw : swapOne k (.ListComp elt gs scope cp) x p = true := by simpa using sw
            have hxl : X.env.scope.names.lookup x = some .local := by
              rw [O.sc]
              unfold swapOne at sw
              exact eq_of_beq (and2 (and2 sw).1).1
            cases e <;> simp only [isComp] at h5 <;> first | (cases h5; done) | skip
            rename_i w tg it t e'
            simp only [chk] at h4
            split at h4
            · rename_i elt' tg' iter ifs scope' pos' heq
              cases heq
              obtain ⟨g, g8⟩ := and2 h4
              obtain ⟨g, g7⟩ := and2 g
              obtain ⟨g, g6⟩ := and2 g
              obtain ⟨g, g5⟩ := and2 g
              obtain ⟨g, g4⟩ := and2 g
              obtain ⟨g, g3⟩ := and2 g
              obtain ⟨g1, g2⟩ := and2 g
              have hs : ∀ j ∈ tgSlots tg, j ∈ w := fun j hj => by
                have := List.all_eq_true.mp g2 j hj
                simpa using this
              have ok : BlkOk X.N X.env.scope scope (ownOf k.N scope) := by
                rw [O.N, O.sc]
                exact blkOk_by g4
              have hit := sndI it .brw k tg' iter X O (fun z => nomatch z) g5
              have ht : ∀ (s : Shared) (H : Hp) (C : Addr) (cl : List (Str × Addr)) (fp : List Addr), PTs (X.blk s H scope (compEnvC scope cl C X.env) fp) ifs (tT F KW X.K t) := fun s H C cl fp => by
                split at g7
                · refine ⟨fun pins s0 σ H Q I hw => pts_nil.run pins s0 σ H Q I ?_⟩
                  obtain ⟨ρ, s, m, al, r, s', kb, sc, e, tr, q⟩ := hw
                  split at g7
                  · simp only [evE] at e
                    cases e
                    cases tr
                    exact q H al Step.refl sc.t.up
                  · cases g7
                · exact pts_one (sndC t .tst (k.blk scope) _ _ (O.blk scope s H C cl fp) g7)
                · cases g7
              refine PS.imp (ps_setLc O.calm hN hi hxl (by rw [sw_lc O h1, sw]) hit ok (fun s H C cl fp => (show PG _ tg' (tG X.K tg) from pg_of (O.blk scope s H C cl fp).names tg tg' g6)) ht (fun s H C cl fp => (show PE _ elt (tE F KW X.K e') from sndC e' .esc (k.blk scope) elt _ (O.blk scope s H C cl fp) g8)) (fold_of g1 _)) fun D σ H hq => ?_
              have hq := asg_in D σ H hq
              exact lc_in (fun σ => wipe_same g3 σ) hs σ H _ hq
            · cases h4
        · cases h5
        · cases h5
    · cases h
  | .asgT fz tg e, k, st, X, O, hp, h => by
    rw [chkS.eq_def] at h
    simp only at h
    split at h
    · rename_i t ex pos
      obtain ⟨h0, h5⟩ := and2 h
      obtain ⟨h0, h4⟩ := and2 h0
      obtain ⟨h0, h3⟩ := and2 h0
      obtain ⟨h1, h2⟩ := and2 h0
      obtain ⟨es, kk, tp, rfl⟩ : ∃ es kk tp, t = .Tuple es kk tp := by cases t <;> first | exact ⟨_, _, _, rfl⟩ | (exact nomatch h1)
      have lc : isLC ex = false := by simpa using h4
      exact PS.imp (ps_asg (sndC e .esc k ex X O h3) (pg_of O.names tg _ h2) (sw_sole lc _ _ _) (sw_no O h5) rfl) asgT_in
    · cases h
  | .par2 fz i oi a j oj b, k, st, X, O, hp, h => by
    rw [chkS.eq_def] at h
    simp only at h
    split at h
    · obtain ⟨h0, h8⟩ := and2 h
      obtain ⟨h0, h7⟩ := and2 h0
      obtain ⟨h0, h6⟩ := and2 h0
      obtain ⟨h0, h5⟩ := and2 h0
      obtain ⟨h0, h4⟩ := and2 h0
      obtain ⟨h0, h3⟩ := and2 h0
      obtain ⟨h1, h2⟩ := and2 h0
      obtain ⟨hi, hx⟩ := name_of O h1
      obtain ⟨hj, hy⟩ := name_of O h2
      exact PS.imp (ps_par O.calm (by rw [O.N]; exact O.nd) hi hj (of_decide_eq_true h3) hx hy (pa_cons (sndC a .esc k _ X O h6) (pa_cons (sndC b .esc k _ X O h7) pa_nil (star_of h5 _)) (star_of h4 _)) (sw_is O h8) rfl) par2_in
    · cases h
  | .par3 fz i j l as, k, st, X, O, hp, h => by
    rw [chkS.eq_def] at h
    simp only at h
    split at h
    · obtain ⟨h0, h8⟩ := and2 h
      obtain ⟨h0, h7⟩ := and2 h0
      obtain ⟨h0, h6⟩ := and2 h0
      obtain ⟨h0, h5⟩ := and2 h0
      obtain ⟨h0, h4⟩ := and2 h0
      obtain ⟨h0, h3⟩ := and2 h0
      obtain ⟨h1, h2⟩ := and2 h0
      obtain ⟨hi, hx⟩ := name_of O h1
      obtain ⟨hj, hy⟩ := name_of O h2
      obtain ⟨hl, hz⟩ := name_of O h3
      exact PS.imp (ps_par3 O.calm (by rw [O.N]; exact O.nd) hi hj hl (of_decide_eq_true h4) (of_decide_eq_true h5) (of_decide_eq_true h6) hx hy hz (sndA as .esc k _ X O (fun z => nomatch z) h7) (sw_is O h8) rfl) par3_in
    · cases h
  | .asgIx fz x kx e, k, st, X, O, hp, h => by
    rw [chkS.eq_def] at h
    simp only at h
    split at h
    · rename_i o ix sp ex pos
      obtain ⟨h0, h5⟩ := and2 h
      obtain ⟨h0, h4⟩ := and2 h0
      obtain ⟨h0, h3⟩ := and2 h0
      obtain ⟨h1, h2⟩ := and2 h0
      have lc : isLC ex = false := by simpa using h5
      refine PS.imp (ps_asg (sndC e .esc k ex X O h4) (pg_sub (pe_slot O h1) (sndC kx .brw k ix X O h3) set_list ?_) (sw_sole lc _ _ _) ?_ rfl) asgIx_in
      · intro v
        cases ix <;> first | rfl | (cases h2; done)
      · cases ex <;> rfl
    · cases h
  | .aug fz i o e, k, st, X, O, hp, h => by
    rw [chkS.eq_def] at h
    simp only at h
    split at h
    · rename_i x p op ex pos
      obtain ⟨h0, h4⟩ := and2 h
      obtain ⟨h0, h3⟩ := and2 h0
      obtain ⟨h1, h2⟩ := and2 h0
      obtain ⟨hl, hf⟩ := loc_of O.names h3
      have hN : X.N.Nodup := by rw [O.N]; exact O.nd
      have hi : X.N[i]? = some x := by rw [O.N]; exact of_decide_eq_true h2
      have he := sndC e .brw k _ X O h4
      split at h1
      · exact PS.imp (ps_aug hN hi hl he ip_add hf) (aug_in fun i j r q => by
          cases j <;> simp only [op2] at q <;> first | (cases q; exact ⟨_, rfl, rfl⟩) | (cases q; done))
      · exact PS.imp (ps_aug hN hi hl he ip_sub hf) (aug_in fun i j r q => by
          cases j <;> simp only [op2] at q <;> first | (cases q; exact ⟨_, rfl, rfl⟩) | (cases q; done))
      · cases h1
    · cases h
  | .app fz x e, k, st, X, O, hp, h => by
    rw [chkS.eq_def] at h
    simp only at h
    split at h
    · rename_i o nm ap ex cp pos
      obtain ⟨h0, h5⟩ := and2 h
      obtain ⟨h0, h4⟩ := and2 h0
      obtain ⟨h0, h3⟩ := and2 h0
      obtain ⟨h1, h2⟩ := and2 h0
      have h1 := of_decide_eq_true h1
      subst h1
      have ho := pe_slot O h2
      obtain ⟨nn, pp, rfl⟩ : ∃ x p, o = .Name x p := by cases o <;> first | exact ⟨_, _, rfl⟩ | (cases h2; done)
      refine PS.imp (ps_expr (pe_bm PySem.F.plainAttrs_list PySem.F.slot_list_append PySem.F.type_list_append mt_append ho (pa_cons (sndC e .esc k ex X O h4) pa_nil (star_of h3 _)) rfl ?_ (by simpa using h5) (star_of h3 _) rfl) rfl) app_in
      rw [star_of h3]; rfl
    · cases h
  | .appPop fz x y kk, k, st, X, O, hp, h => by
    rw [chkS.eq_def] at h
    simp only at h
    split at h
    · rename_i o nm ap o2 nm2 ap2 ix cp2 cp pos
      obtain ⟨h0, h8⟩ := and2 h
      obtain ⟨h0, h7⟩ := and2 h0
      obtain ⟨h0, h6⟩ := and2 h0
      obtain ⟨h0, h5⟩ := and2 h0
      obtain ⟨h0, h4⟩ := and2 h0
      obtain ⟨h0, h3⟩ := and2 h0
      obtain ⟨h1, h2⟩ := and2 h0
      have h1 := of_decide_eq_true h1
      subst h1
      have h3 := of_decide_eq_true h3
      subst h3
      have ho := pe_slot O h2
      have ho2 := pe_slot O h4
      obtain ⟨nn, pp, rfl⟩ : ∃ x p, o = .Name x p := by cases o <;> first | exact ⟨_, _, rfl⟩ | (cases h2; done)
      obtain ⟨nn2, pp2, rfl⟩ : ∃ x p, o2 = .Name x p := by cases o2 <;> first | exact ⟨_, _, rfl⟩ | (cases h4; done)
      have hpop := pe_bm (cpos := cp2) (apos := ap2) PySem.F.plainAttrs_list PySem.F.slot_list_pop PySem.F.type_list_pop mt_popAt ho2 (pa_cons (sndC kk .brw k ix X O h6) pa_nil (star_of h5 _)) rfl (by rw [star_of h5]; rfl) (by simpa using h8) (star_of h5 _) rfl
      exact PS.imp (ps_expr (pe_bm PySem.F.plainAttrs_list PySem.F.slot_list_append PySem.F.type_list_append mt_append ho (pa_cons hpop pa_nil rfl) rfl rfl (by simpa using h7) rfl rfl) rfl) appPop_in
    · cases h
  | .ret fz e, k, st, X, O, hp, h => by
    rw [chkS.eq_def] at h
    simp only at h
    split at h
    · exact snd_ret (sndC e .esc k _ X O h)
    · cases h
  | .retV i, k, st, X, O, hp, h => by
    rw [chkS.eq_def] at h
    simp only at h
    split at h
    · exact snd_retV (pe_slot O h)
    · cases h
  | .retN, k, st, X, O, hp, h => by
    rw [chkS.eq_def] at h
    simp only at h
    split at h
    · exact snd_retN
    · cases h
  | .ife fz t a b, k, st, X, O, hp, h => by
    rw [chkS.eq_def] at h
    simp only at h
    split at h
    · obtain ⟨h0, h3⟩ := and2 h
      obtain ⟨h1, h2⟩ := and2 h0
      exact snd_if (sndC t .tst k _ X O h1) (sndB a k _ X O hp h2) (sndB b k _ X O hp h3)
    · cases h
  | .for_ fz tg it b, k, st, X, O, hp, h => by
    rw [chkS.eq_def] at h
    simp only at h
    split at h
    · obtain ⟨h0, h4⟩ := and2 h
      obtain ⟨h0, h3⟩ := and2 h0
      obtain ⟨h1, h2⟩ := and2 h0
      exact snd_for hp O.calm (sndI it .esc k _ _ X O (fun z => nomatch z) h2) (pg_of O.names tg _ h3) (sndB b k _ X O hp h4) (fold_of h1 _)
    · cases h
  | .while_ fz t b, k, st, X, O, hp, h => by
    rw [chkS.eq_def] at h
    simp only at h
    split at h
    · obtain ⟨h1, h2⟩ := and2 h
      exact snd_while hp (sndC t .tst k _ X O h1) (sndB b k _ X O hp h2)
    · cases h
  | .ex fz e, k, st, X, O, hp, h => by
    rw [chkS.eq_def] at h
    simp only at h
    split at h
    · obtain ⟨h1, h2⟩ := and2 h
      rename_i ex pos
      refine snd_ex ?_ (sndC e .brw k _ X O h2)
      cases ex <;> first | rfl | (cases h1; done)
    · cases h
  | .popS fz y kk, k, st, X, O, hp, h => by
    rw [chkS.eq_def] at h
    simp only at h
    split at h
    · rename_i o2 nm2 ap2 ix cp2 pos
      obtain ⟨h0, h5⟩ := and2 h
      obtain ⟨h0, h4⟩ := and2 h0
      obtain ⟨h0, h3⟩ := and2 h0
      obtain ⟨h1, h2⟩ := and2 h0
      have h1 := of_decide_eq_true h1
      subst h1
      have ho2 := pe_slot O h2
      obtain ⟨nn2, pp2, rfl⟩ : ∃ x p, o2 = .Name x p := by cases o2 <;> first | exact ⟨_, _, rfl⟩ | (cases h2; done)
      exact PS.imp (ps_expr (pe_bm (cpos := cp2) (apos := ap2) PySem.F.plainAttrs_list PySem.F.slot_list_pop PySem.F.type_list_pop mt_popAt ho2 (pa_cons (sndC kk .brw k ix X O h4) pa_nil (star_of h3 _)) rfl (by rw [star_of h3]; rfl) (by simpa using h5) (star_of h3 _) rfl) rfl) popS_in
    · cases h
  | .appR fz a e, k, st, X, O, hp, h => by
    rw [chkS.eq_def] at h
    simp only at h
    split at h
    · rename_i o ix sp nm ap ex cp pos
      obtain ⟨h0, h5⟩ := and2 h
      obtain ⟨h0, h4⟩ := and2 h0
      obtain ⟨h0, h3⟩ := and2 h0
      obtain ⟨h1, h2⟩ := and2 h0
      have h1 := of_decide_eq_true h1
      subst h1
      refine PS.imp (ps_expr (pe_bm PySem.F.plainAttrs_list PySem.F.slot_list_append PySem.F.type_list_append mt_append (sndC a .brw k _ X O h2) (pa_cons (sndC e .brw k ex X O h4) pa_nil (star_of h3 _)) rfl ?_ (by simpa using h5) (star_of h3 _) rfl) rfl) appR_in
      rw [star_of h3]; rfl
    · cases h
  | .pass, k, st, X, O, hp, h => by
    rw [chkS.eq_def] at h
    simp only at h
    split at h
    · exact snd_pass
    · cases h
  | .cont, k, st, X, O, hp, h => by
    rw [chkS.eq_def] at h
    simp only at h
    split at h
    · exact snd_cont
    · cases h
  | .brk, k, st, X, O, hp, h => by
    rw [chkS.eq_def] at h
    simp only at h
    split at h
    · exact snd_brk
    · cases h
  | .never, k, st, X, O, hp, h => snd_never
theorem sndB {T : Tb} {F : CallF} {KW : List (List Nat)} : ∀ (c : B) (k : Ck) (sts : List Stmt) (X : Cx), XOk T F KW k X → PassesOwn (model X.prog X.w) X.A X.env X.xe → chkB T c k sts = true → PSs X sts (tSs F KW X.K c)
  | .nil, k, sts, X, O, hp, h => by
    simp only [chkB] at h
    split at h
    · exact snd_sNil
    · cases h
  | .cons s b, k, sts, X, O, hp, h => by
    simp only [chkB] at h
    split at h
    · obtain ⟨h1, h2⟩ := and2 h
      exact snd_sCons (sndS s k _ X O hp h1) (sndB b k _ X O hp h2)
    · cases h
end
end Ev

end
section
set_option Elab.async false
set_option linter.all false
set_option maxRecDepth 100000
set_option maxHeartbeats 4000000
namespace Ev
open PySem L2
structure Dd where
  name : Str
  st : Stmt
  N : List Str
  np : Nat
def Ck0 (d : Dd) : Ck := ⟨d.N, defScope d.st, fun _ => true⟩
def nodupB : List Str → Bool
  | [] => true
  | x :: r => !r.contains x && nodupB r
theorem nodupB_ok : ∀ {l : List Str}, nodupB l = true → l.Nodup
  | [], _ => .nil
  | x :: r, h => by
    obtain ⟨h1, h2⟩ := and2 h
    exact List.nodup_cons.mpr ⟨fun z => by simp [z] at h1, nodupB_ok h2⟩
def scopeB (d : Dd) : Bool := isFn (Ck0 d) && !(defScope d.st).isCoroutine && !(defScope d.st).isGenerator && nodupB d.N && decide (d.np ≤ d.N.length) &&
  ((d.N.take d.np).all fun x => match (defScope d.st).names.lookup x with | some .local => true | some .cell => true | _ => false) && (defScope d.st).names.all fun y => match y.2 with | .free => false | _ => true
theorem scope_ok {d : Dd} (h : scopeB d = true) : FnScope d.N (d.N.take d.np) (defScope d.st) ∧ (d.N.take d.np).length = d.np := by
  obtain ⟨h0, h7⟩ := and2 h
  obtain ⟨h0, h6⟩ := and2 h0
  obtain ⟨h0, h5⟩ := and2 h0
  obtain ⟨h0, h4⟩ := and2 h0
  obtain ⟨h0, h3⟩ := and2 h0
  obtain ⟨h1, h2⟩ := and2 h0
  have hl : (d.N.take d.np).length = d.np := by rw [List.length_take]; exact Nat.min_eq_left (of_decide_eq_true h5)
  refine ⟨⟨?_, by simpa using h2, by simpa using h3, nodupB_ok h4, by rw [hl], fun x hx => ?_, fun y hy e => ?_⟩, hl⟩
  · unfold isFn Ck0 at h1
    simp only at h1
    cases q : (defScope d.st).kind <;> rw [q] at h1 <;> first | rfl | cases h1
  · have := List.all_eq_true.mp h6 x hx
    cases q : (defScope d.st).names.lookup x with
    | none => rw [q] at this; cases this
    | some c => rw [q] at this; cases c <;> first | exact .inl rfl | exact .inr rfl | cases this
  · have := List.all_eq_true.mp h7 y hy
    rw [e] at this; cases this
def chkD (T : Tb) (fe : FnE) (d : Dd) (fd : Fd) : Bool := decide (fe.name = d.name) && decide (fe.np = d.np) && decide (fd.np = d.np) && decide (d.N.length = fd.np + fd.nl) && scopeB d && chkB T fd.body (Ck0 d) (defBody d.st)
def chkAll (T : Tb) : List FnE → List Dd → List Fd → Bool
  | [], [], [] => true
  | fe :: fs, d :: ds, fd :: P => chkD T fe d fd && chkAll T fs ds P
  | _, _, _ => false
theorem chk_at {T : Tb} : ∀ {fs : List FnE} {ds : List Dd} {P : List Fd}, chkAll T fs ds P = true → ∀ {f : Nat} {fe : FnE}, nth f fs = some fe → ∃ d fd, nth f ds = some d ∧ nth f P = some fd ∧ chkD T fe d fd = true
  | [], [], [], _, f, fe, e => by cases f <;> cases e
  | [], _ :: _, _, h, _, _, _ => nomatch h
  | [], [], _ :: _, h, _, _, _ => nomatch h
  | _ :: _, [], _, h, _, _, _ => nomatch h
  | _ :: _, _ :: _, [], h, _, _, _ => nomatch h
  | x :: fs, d :: ds, fd :: P, h, f, fe, e => by
    obtain ⟨h1, h2⟩ := and2 h
    cases f with
    | zero => cases e; exact ⟨d, fd, rfl, rfl, h1⟩
    | succ f => exact chk_at (fs := fs) (ds := ds) (P := P) h2 (f := f) e
/-- what the head tells of the module -/
structure HdOk (T : Tb) (ds : List Dd) (KW : List (List Nat)) (K : PySem.W.Frag) (mg : Str → Option Value) : Prop where
  fn : ∀ f d, nth f ds = some d → ∃ a fdt, FunD K d.name d.name (defArgs d.st) (defBody d.st) (defScope d.st) ((dfOf T f).map dvV) [] a fdt ∧ mg d.name = some (.ref a) ∧ Binds K fdt (d.N.take d.np) [] ∧
    (∀ j, j < (dfOf T f).length → ∃ ws, Vals (((dfOf T f).drop j).map dvV) ws ∧ Binds K fdt (d.N.take d.np) ws) ∧
    ∀ kw ke fe, nth kw T.kws = some ke → ke.f = f → nth f T.fns = some fe → ∃ (g : List Value → List Value → List Value) (gV : List V → List V → List V), KBinds K fdt (d.N.take d.np) ke.ks g gV ∧
      ∃ p, nth kw KW = some p ∧ ∀ (K : PySem.W.Frag) (H : Hp) (m : Addr → Prop) (al : List Addr) us ws vs zs xs, us.length = ke.npos → ws.length = ke.ks.length → Shs K H m al us vs → Shs K H m al ws zs → permU p (us ++ ws) = some xs → xs.length = fe.np ∧ Shs K H m al xs (gV vs zs)
  pl : ∀ f, (dfOf T f).all plainDv = true
  blt : ∀ n ∈ bltNames, mg n = none
  cons : ∀ x u, T.cons.lookup x = some u → ∃ v w, mg x = some w ∧ RelV v w ∧ ∀ H m al, Sh K H m al u v
theorem look_eq : ∀ (i : Nat) (ρ : Env), look i ρ = (ρ[i]?).getD .un
  | 0, [] => rfl
  | _ + 1, [] => rfl
  | 0, _ :: _ => rfl
  | i + 1, t :: r => by show look i r = _; rw [look_eq i r]; simp
theorem rep_len (n : Nat) : (rep [Slot.un] n).length = n := by
  induction n with
  | zero => rfl
  | succ n ih => show ([Slot.un] ++ rep [Slot.un] n).length = n + 1; rw [List.length_append, ih]; simp; omega
theorem rep_un {n : Nat} {x : Slot} (h : x ∈ rep [Slot.un] n) : x = .un := by
  induction n with
  | zero => cases h
  | succ n ih =>
    have h : x ∈ [Slot.un] ++ rep [.un] n := h
    rcases List.mem_append.mp h with h | h
    · simpa using h
    · exact ih h
/-- the frame at a def's entry -/
theorem Fr.start {K : PySem.W.Frag} {m : Addr → Prop} {al : List Addr} {s : Sto} {H : Hp} {us : List U} {vs : List V} {N : List Str} {np nl : Nat} (md : Md m H) (t : ST K m al s H) (sh : Shs K H m al us vs) (hl : us.length = np) (hN : N.length = np + nl) :
    Fr K m (us.map .sh ++ rep [.un] nl) s m (fun a => a ∈ al) al (L2.start N vs) H := by
  have hvl := sh.length
  have key : ∀ i x, look i (us.map .sh ++ rep [.un] nl) = x → x = .un ∨ ∃ u, us[i]? = some u ∧ x = .sh u := fun i x e => by
    rw [look_eq] at e
    by_cases hi : i < us.length
    · rw [List.getElem?_append_left (by rw [List.length_map]; exact hi), List.getElem?_map, List.getElem?_eq_getElem hi] at e
      exact .inr ⟨us[i], List.getElem?_eq_getElem hi, e.symm⟩
    · rw [List.getElem?_append_right (by rw [List.length_map]; exact Nat.le_of_not_lt hi)] at e
      cases q : (rep [Slot.un] nl)[i - (us.map Slot.sh).length]? with
      | none => rw [q] at e; exact .inl e.symm
      | some y =>
        rw [q] at e
        have := rep_un (List.mem_of_getElem? q)
        rw [this] at e
        exact .inl e.symm
  refine ⟨⟨t, ⟨?_, md, fun i u e => ?_, fun i u e => ?_, fun i j u w a e => ?_⟩⟩, fun i u a e => ?_, fun a ha => ha, t.sub, fun a z => z⟩
  · unfold L2.start
    rw [List.length_append, List.length_append, List.length_map, List.length_map, rep_len, List.length_replicate]
    omega
  · rcases key i _ e with z | ⟨u', e1, z⟩
    · cases z
    · cases z
      obtain ⟨v, e2, r⟩ := sh.nth e1
      refine ⟨v, ?_, r⟩
      unfold L2.start
      rw [List.getElem?_append_left (by rw [List.length_map]; exact (List.getElem?_eq_some_iff.mp e2).1), List.getElem?_map, e2]
      rfl
  · rcases key i _ e with z | ⟨u', e1, z⟩ <;> cases z
  · rcases key i _ e with z | ⟨u', e1, z⟩ <;> cases z
  · rcases key i _ e with z | ⟨u', e1, z⟩ <;> cases z
section
variable {T : Tb} {ds : List Dd} {Pf : List Fd} {KW : List (List Nat)} {P : Program} {w : World} {K : PySem.W.Frag} {mg : Str → Option Value} {base : Heap}
/-- a def's promise at a depth -/
def FnAt (T : Tb) (Pf : List Fd) (KW : List (List Nat)) (P : Program) (w : World) (K : PySem.W.Frag) (mg : Str → Option Value) (base : Heap) (d : Nat) : Prop :=
  ∀ f fe dd a fdt dvs, nth f T.fns = some fe → FunD K dd.name dd.name (defArgs dd.st) (defBody dd.st) (defScope dd.st) dvs [] a fdt → ∀ fd, nth f Pf = some fd → chkD T fe dd fd = true → FnOk P w K mg base CX0 d a fdt (dd.N.take dd.np) (spF (run Pf KW d) K f fe.np)
theorem xok (hc : chkAll T T.fns ds Pf = true) (hd : HdOk T ds KW K mg) {d : Nat} (ih : FnAt T Pf KW P w K mg base d) {X : Cx} {dd : Dd} (e1 : X.prog = P) (e2 : X.w = w) (e3 : X.K = K) (e4 : X.mg = mg) (e5 : X.base = base) (hr : Room d X.A)
    (h1 : X.N = dd.N) (h2 : dd.N.Nodup) (h3 : X.env.scope = defScope dd.st) (h4 : X.fn = fun _ => true) (h5 : X.calm = true) : XOk T (run Pf KW d) KW (Ck0 dd) X := by
  subst e1 e2 e3 e4 e5
  refine ⟨h1, h2, h3, h4, h5, by have := hr.un; omega, hd.blt, hd.cons, fun f fe hf => ?_, fun kw ke fe hk hf => ?_, fun f fe j hf hj => ?_⟩
  · obtain ⟨d2, fd, q1, q2, q3⟩ := chk_at hc hf
    obtain ⟨a, fdt, F1, F2, F3, _⟩ := hd.fn f d2 q1
    obtain ⟨c0, c6⟩ := and2 q3
    obtain ⟨c0, c5⟩ := and2 c0
    obtain ⟨c0, c4⟩ := and2 c0
    obtain ⟨c0, c3⟩ := and2 c0
    obtain ⟨c1, c2⟩ := and2 c0
    refine ⟨a, fdt, _, d, ih f fe d2 a fdt _ hf F1 fd q2 q3, hr, ?_, F1.kp, F3, ?_⟩
    · rw [of_decide_eq_true c1]; exact F2
    · rw [(scope_ok c5).2, of_decide_eq_true c2]
  · obtain ⟨d2, fd, q1, q2, q3⟩ := chk_at hc hf
    obtain ⟨a, fdt, F1, F2, F3, _, F4⟩ := hd.fn ke.f d2 q1
    obtain ⟨g, gV, k1, k2⟩ := F4 kw ke fe hk rfl hf
    obtain ⟨c0, c6⟩ := and2 q3
    obtain ⟨c0, c5⟩ := and2 c0
    obtain ⟨c0, c4⟩ := and2 c0
    obtain ⟨c0, c3⟩ := and2 c0
    obtain ⟨c1, c2⟩ := and2 c0
    refine ⟨a, fdt, _, d, g, gV, ih ke.f fe d2 a fdt _ hf F1 fd q2 q3, hr, ?_, F1.kp, k1, ?_, k2⟩
    · rw [of_decide_eq_true c1]; exact F2
    · rw [(scope_ok c5).2, of_decide_eq_true c2]
  · obtain ⟨d2, fd, q1, q2, q3⟩ := chk_at hc hf
    obtain ⟨a, fdt, F1, F2, F3, F4, _⟩ := hd.fn f d2 q1
    obtain ⟨c0, c6⟩ := and2 q3
    obtain ⟨c0, c5⟩ := and2 c0
    obtain ⟨c0, c4⟩ := and2 c0
    obtain ⟨c0, c3⟩ := and2 c0
    obtain ⟨c1, c2⟩ := and2 c0
    obtain ⟨ws, w1, w2⟩ := F4 j hj
    refine ⟨a, fdt, _, d, ws, ih f fe d2 a fdt _ hf F1 fd q2 q3, hr, ?_, F1.kp, w2, w1, ?_⟩
    · rw [of_decide_eq_true c1]; exact F2
    · exact List.all_eq_true.mpr fun x hx => List.all_eq_true.mp (hd.pl f) x (List.mem_of_mem_drop hx)
theorem finish_ok {x : RS} {r : Rv} {s : Sto} (h : finish x = .ok r s) : ∃ ρ, (x = .ok (.ret r) ρ s) ∨ (x = .ok .nx ρ s ∧ r = ⟨.non, false⟩) := by
  cases x with
  | bad => cases h
  | exc _ _ _ => cases h
  | ok fl ρ s' => cases fl with
    | nx => cases h; exact ⟨ρ, .inr ⟨rfl, rfl⟩⟩
    | ret v => cases h; exact ⟨ρ, .inl rfl⟩
    | cont => cases h
    | brk => cases h
theorem Mv.step {m wr' m' : Addr → Prop} {al al' : List Addr} {H H' : Hp} (a : Mv H m (fun b => b ∈ al) al H' m' wr' al') : Step H H' al al' := ⟨a.pre, a.ext, a.dom⟩
theorem fn_at (hc : chkAll T T.fns ds Pf = true) (hd : HdOk T ds KW K mg) : ∀ d, FnAt T Pf KW P w K mg base d
  | 0 => fun f fe dd a fdt dvs hf FD fd hP hk => ⟨fun vs H Q E ⟨s, m, al, us, r, s', _, _, _, _, e, _⟩ => (by cases e), fun A outer s H args us vs Q E _ _ _ _ ⟨s, m, al, us, r, s', _, _, _, _, e, _⟩ => (by cases e)⟩
  | d + 1 => fun f fe dd a fdt dvs hf FD fd hP hk => by
    have ih := fn_at hc hd d
    obtain ⟨c0, c6⟩ := and2 hk
    obtain ⟨c0, c5⟩ := and2 c0
    obtain ⟨c0, c4⟩ := and2 c0
    obtain ⟨c0, c3⟩ := and2 c0
    obtain ⟨c1, c2⟩ := and2 c0
    obtain ⟨S, hl⟩ := scope_ok c5
    have c2 : fe.np = dd.np := of_decide_eq_true c2
    have c3 : fd.np = dd.np := of_decide_eq_true c3
    have c4 : dd.N.length = fd.np + fd.nl := of_decide_eq_true c4
    refine FD.ok S (fun vs H Q E ⟨s, m, al, us, r, s', _, _, sh, hu, _, _⟩ => ?_) (fun cdv A outer s0 H vs Q E hr h => ⟨tSs (run Pf KW d) KW K fd.body, PSs.nox ?_, ?_⟩)
    · rw [← sh.length, hu, hl, c2]
    · exact sndB fd.body (Ck0 dd) (defBody dd.st) _ (xok hc hd ih rfl rfl rfl rfl rfl hr rfl S.nd rfl rfl rfl) .never c6
    · obtain ⟨s, m, al, us, r, s', md, t, sh, hu, e, q⟩ := h
      simp only [run, hP] at e
      rw [if_pos (by rw [hu, c2, c3]; exact beq_self_eq_true _)] at e
      obtain ⟨ρ', hx⟩ := finish_ok e
      have f0 := Fr.start (N := dd.N) (nl := fd.nl) md t sh (by rw [hu, c2, ← c3]) c4
      rcases hx with hx | ⟨hx, rfl⟩
      · refine ⟨m, _, s, m, _, al, .ret r, ρ', s', f0, hx, fun v H' m' wr' al' h => ?_⟩
        refine q v H' al' h.mv.step (h.t.any fun a ha => .inr ha) ⟨h.sh, fun hf us e => ?_⟩
        obtain ⟨b, ws, e1, e2, e3, e4, e5, e6⟩ := h.fr hf us e
        refine ⟨b, ws, e1, e2, e3, ?_, fun z => z.elim e6 e5⟩
        rcases e4 with z | z
        · exact z
        · obtain ⟨g, eg, _⟩ := h.mv.pre
          exact absurd (by rw [eg]; exact List.mem_append_left _ z) e5
      · refine ⟨m, _, s, m, _, al, .nx, ρ', s', f0, hx, fun σ' H' m' wr' al' f' mv => ?_⟩
        exact q .non H' al' mv.step (f'.sc.t.any fun a ha => .inr ha) ⟨.non, fun z => nomatch z⟩
end
end Ev

end
section
set_option Elab.async false
set_option linter.all false
set_option maxRecDepth 100000
set_option maxHeartbeats 4000000
namespace Ev
open PySem L2
section
open PySem.Spec PyProof.Rows
/-- the law's promise at the heap behind the top (HandS.Ends' head, the script handed on as it stands) -/
theorem law_callL {P : Program} {w : World} {K : PySem.W.Frag} {mg mb : Str → Option Value} {CX : CXT} {k : Nat} {fa a : Addr} {fd : FuncData} {x : Str} {sp : Sp} {s₁ : Shared} {vs : List Value} {ns : List Int}
    (KX : K.In s₁.heap) (hns : s₁.heap.Ns mainGlobals mg) (hb : s₁.heap.Ns builtinsNs mb) (hbb : ∀ x : Str, x ≠ "__name__" → mb x = bootBuiltins x) (hlim : s₁.heap.NoLimit) (hg : s₁.gens = #[])
    (ha : s₁.heap.get? a = some { cls := .type "list", data := .seq vs.toArray }) (hi : IntsAre vs ns) (hl : ns.length ≤ sizeLine) (hr : Room k callerA)
    (F : ∀ base : Heap, K.In base → base.Ns mainGlobals mg → FnOk P w K mg base CX k fa fd [x] sp) (hbind : ∀ (s : Shared) (u : Value), BindsTo s fd ⟨[u], []⟩ [(x, u)])
    (hsp : ∀ H : Hp, Only H → LstAt K H a (ns.map V.int) → sp [.ref a] H (fun v _ => v = .bl true) fun _ _ _ => False)
    (hCX : ∀ H e s', CX [] H s₁ (fun _ _ _ => False) e s' → False) :
    codeAny (model P w) callerA (.call (.ref fa) ⟨[.ref a], []⟩) (fun r s' => r = .ok (.ret (.bool true)) ∧ OldK s₁.heap s'.heap ∧ s'.os = s₁.os ∧ AllBare s'.gens) s₁ := by
  have rv := vals_ints hi
  have lenV := hi.length
  -- from an abstract heap in which nothing but the script may be tracked
  have core : ∀ H : Hp, Only H → LstAt K H a (ns.map V.int) → HOk P w H s₁.heap → (∀ b, H b ≠ none → b = a) → (H a ≠ none → K.lookup a = none) →
      codeAny (model P w) callerA (.call (.ref fa) ⟨[.ref a], []⟩) (fun r s' => r = .ok (.ret (.bool true)) ∧ OldK s₁.heap s'.heap ∧ s'.os = s₁.os ∧ AllBare s'.gens) s₁ := by
    intro H hO hS hok hA hK
    have base_of : ∀ {b : Addr} {o : Obj}, s₁.heap.get? b = some o → H b = none → (hidT s₁.heap H).get? b = some o := fun e n => hidT_get e n
    have noA : ∀ {b : Addr} {o : Obj} {es : Array DictEntry} {ep : Nat}, s₁.heap.get? b = some o → o.data = .dict es ep → H b = none := fun {b o es ep} e d => by
      cases q : H b with
      | none => rfl
      | some u =>
        have e' : b = a := hA b (by rw [q]; simp)
        subst e'
        rw [ha] at e; cases e
        have d' : Data.seq vs.toArray _ = Data.dict es ep := d
        cases d'
    have nsK : ∀ {b : Addr} {m : Str → Option Value}, s₁.heap.Ns b m → (hidT s₁.heap H).Ns b m := fun {b m} ⟨o, es, ep, e, d, r⟩ => ⟨o, es, ep, base_of e (noA e d), d, r⟩
    have hKb : K.In (hidT s₁.heap H) := fun b o e => base_of (KX b o e) (by
      cases q : H b with
      | none => rfl
      | some u =>
        have e' : b = a := hA b (by rw [q]; simp)
        subst e'
        rw [hK (by rw [q]; simp)] at e; cases e)
    have hM : Mod K mg (hidT s₁.heap H) := ⟨hKb, nsK hns, ⟨mb, nsK hb, hbb⟩, let ⟨mc, h1, h2⟩ := hlim; ⟨mc, nsK h1, h2⟩⟩
    have e0 : Env0 P w K mg (hidT s₁.heap H) callerA [] s₁ H := ⟨rfl, hM, fun b o e => of_hidT e, Nat.le_of_eq (hidT_size _ _), trivial, fun b hb => absurd (show b ∈ ([] : List Addr) from hb) (by simp), hok, .of_eq hg⟩
    refine codeAny_mono ((F _ hKb (nsK hns)).run callerA [] s₁ H ⟨[.ref a], []⟩ [.ref a] [.ref a] _ _ hr e0 (hbind s₁ (.ref a)) (.cons rfl .nil) (hsp H hO hS)) fun r s' h => ?_
    cases r with
    | error e => exact (hCX H e s' h).elim
    | ok fl =>
      cases fl with
      | next => exact False.elim h
      | brk => exact False.elim h
      | cont => exact False.elim h
      | ret u =>
        obtain ⟨v, H', os, bare, un, hok', r', q⟩ := h
        have q' : v = .bl true := q
        subst q'
        obtain rfl : u = Value.bool true := r'
        refine ⟨rfl, OldK.of_keep fun b o e => ?_, os, bare⟩
        cases q : H b with
        | none => exact un.keep b o e q (by intro z; exact absurd (show b ∈ ([] : List Addr) from z) (by simp)) (by simp)
        | some u =>
          rcases hO b with z | ⟨ob, xs, z⟩
          · rw [q] at z; cases z
          · have z2 := un.frzs b ob _ z
            obtain ⟨e1, _⟩ := hok b _ z
            obtain ⟨e2, _⟩ := hok' b _ z2
            rw [e] at e1; cases e1
            exact e2
  cases hk : K.lookup a with
  | some o =>
    -- the script is one of the module's own objects
    have e := KX a o hk
    rw [ha] at e
    cases e
    refine core (fun _ => none) (fun _ => .inl rfl) (.inr (.inr ⟨vs, 0, hk, by rw [List.length_map]; exact hl, rv⟩)) (fun b u z => by have z' : (none : Option HO) = some u := z; cases z') (fun b z => absurd rfl z) fun z => absurd rfl z
  | none =>
    refine core (fun b => if b = a then some (.frz { cls := .type "list", data := .seq vs.toArray } (.lst (ns.map V.int))) else none) (fun b => ?_) (.inr (.inl ⟨vs, if_pos rfl⟩)) (fun b u z => ?_) (fun b z => ?_) fun _ => hk
    · by_cases hb : b = a
      · exact .inr ⟨_, _, if_pos hb⟩
      · exact .inl (if_neg hb)
    · by_cases hb : b = a
      · have z' := (if_pos hb).symm.trans z
        cases z'
        subst hb
        exact ⟨ha, by rw [List.length_map]; exact hl, vs, _, rv, ha⟩
      · have z' := (if_neg hb).symm.trans z
        cases z'
    · by_cases hb : b = a
      · exact hb
      · exact absurd (if_neg hb) z
end
theorem LstAt.sh {K : PySem.W.Frag} {H : Hp} {m : Addr → Prop} {al : List Addr} {a : Addr} {us : List U} {vs : List V} (h : LstAt K H a vs) (nm : ¬ m a) (r : Shs K H m al us vs) : Sh K H m al (.lst us) (.ref a) := by
  rcases h with h | ⟨its, h⟩ | ⟨its, n, h, z, q⟩
  · exact .lst h nm r
  · exact .lstF h nm r
  · exact .lstK h z q r
/-- THE END: a law's plain run says all -/
theorem walkR {l : PySem.W.OpenLaw} {n k : Nat} {q : Program} {loose : List Str} {XP : (Str → Option Value) → Heap → Prop} {YP : World → Heap → Prop} {d : DefRec} {T : Tb} {ds : List Dd} {Pf : List Fd} {KW : List (List Nat)} {f0 : Nat} {fe : FnE} {dd : Dd} {fd : Fd} {x : Str}
    (hn : l.most = some n) (hn2 : n ≤ sizeLine) (hdf : d.params.defaults = []) (hr : Room k callerA) (hc : chkAll T T.fns ds Pf = true)
    (h1 : nth f0 T.fns = some fe) (h2 : nth f0 ds = some dd) (h3 : dd.N.take dd.np = [x]) (h4 : dd.name = d.name) (h5 : dfOf T f0 = [])
    (F : ∀ (w : World) (mg : Str → Option Value) (fa : Addr) (h : Heap), YP w h → h.Ns mainGlobals mg → mg d.name = some (.ref fa) →
      ∃ K : PySem.W.Frag, K.In h ∧ HdOk T ds KW K mg ∧ ∀ a fdt, FunD K dd.name dd.name (defArgs dd.st) (defBody dd.st) (defScope dd.st) [] [] a fdt → ∀ (s : Shared) (u : Value), BindsTo s fdt ⟨[u], []⟩ [(x, u)])
    (hrun : ∀ ns : List Int, ns.length ≤ n → (∀ k ∈ ns, Builtin.Int.intBits k ≤ 1048576) → ∃ f s', run Pf KW k f0 [.lst (ns.map .int)] [] = .ok ⟨.bl true, f⟩ s') :
    PySem.W.WalkO q loose XP YP l.row.toRowW d [] (fun f vs => PySem.call f vs) := by
  refine Att.attach_callB hn hdf fun w s₀ s₁ mg mb fa o pm cd doc a vs ns G Y ho hd hcd hmg hobj hints hlen hbits hg => ?_
  obtain ⟨K, KX, hdo, hbind⟩ := F w mg fa _ Y G.T.g hmg
  obtain ⟨d2, fd2, q1, q2, q3⟩ := chk_at hc h1
  rw [h2] at q1
  cases q1
  obtain ⟨a2, fdt, F1, F2, F3, _⟩ := hdo.fn f0 dd h2
  rw [h5, List.map_nil] at F1
  rw [h4, hmg] at F2
  cases F2
  obtain ⟨c0, c6⟩ := and2 q3
  obtain ⟨c0, c5⟩ := and2 c0
  obtain ⟨c0, c4⟩ := and2 c0
  obtain ⟨c0, c3⟩ := and2 c0
  obtain ⟨c1, c2⟩ := and2 c0
  have hnp : fe.np = 1 := by
    rw [of_decide_eq_true c2, ← (scope_ok c5).2, h3]
    rfl
  refine law_callL (x := x) (CX := CX0) (k := k) (sp := spF (run Pf KW k) K f0 fe.np) KX G.T.g G.T.b G.T.builtins G.T.nolimit hg hobj hints (Nat.le_trans hlen hn2) hr (fun base _ _ => ?_) (hbind fa fdt F1) (fun H hO hS => ?_) fun H e s' z => z
  · have := fn_at (P := l.prog) (w := w) (base := base) hc hdo k f0 fe dd fa fdt _ h1 F1 fd2 q2 q3
    rw [h3] at this
    exact this
  · obtain ⟨f, s', e⟩ := hrun ns hlen hbits
    refine ⟨[], fun _ => False, [], _, _, s', fun _ z => z.elim, ⟨rfl, .nil, (fun _ z => nomatch z), (fun k us z => by cases k <;> cases z)⟩, .cons (hS.sh (fun z => z) Shs.ints) .nil, by rw [hnp]; rfl, e, fun v H' al' st t vr => ?_⟩
    cases vr.sh
    rfl
end Ev

end
section
set_option Elab.async false
set_option linter.all false
set_option maxRecDepth 100000
set_option maxHeartbeats 4000000
namespace Ev
open PySem L2
def dvD : U → He.Dv
  | .bl b => .bl b
  | .int i => .int i
  | _ => .non
theorem dvD_v (K : PySem.W.Frag) (u : U) : (dvD u).v K = dvV u := by cases u <;> rfl
def defAt (T : Tb) (f : Nat) (d : Dd) : He.DefD := ⟨(d.name, none), d.name, d.name, defArgs d.st, defBody d.st, defScope d.st, (dfOf T f).map dvD, []⟩
def defsFrom (T : Tb) : Nat → List Dd → List He.DefD
  | _, [] => []
  | i, d :: r => defAt T i d :: defsFrom T (i + 1) r
def defsOf (T : Tb) (ds : List Dd) : List He.DefD := defsFrom T 0 ds
theorem defs_mem {T : Tb} : ∀ {ds : List Dd} {i f : Nat} {d : Dd}, nth f ds = some d → defAt T (i + f) d ∈ defsFrom T i ds
  | [], i, f, d, h => by cases f <;> cases h
  | x :: ds, i, 0, d, h => by cases h; exact List.mem_cons_self
  | x :: ds, i, f + 1, d, h => by
    have := defs_mem (T := T) (i := i + 1) (ds := ds) (f := f) h
    rw [show i + (f + 1) = i + 1 + f by omega]
    exact List.mem_cons_of_mem _ this
def conFa : List (Str × U) → List He.Fa
  | [] => []
  | (x, .int i) :: r => .int x i :: conFa r
  | _ :: r => conFa r
def intsOnly : List (Str × U) → Bool
  | [] => true
  | (_, .int _) :: r => intsOnly r
  | _ :: _ => false
theorem con_fa : ∀ {l : List (Str × U)} {x : Str} {u : U}, intsOnly l = true → l.lookup x = some u → ∃ i, u = .int i ∧ He.Fa.int x i ∈ conFa l
  | [], x, u, _, h => by simp at h
  | (y, w) :: r, x, u, ho, h => by
    cases w <;> simp only [intsOnly] at ho <;> first | (cases ho; done) | skip
    rename_i i
    rw [List.lookup_cons] at h
    cases q : x == y with
    | true =>
      rw [q] at h
      cases h
      have e := eq_of_beq q
      subst e
      exact ⟨i, rfl, List.mem_cons_self⟩
    | false =>
      rw [q] at h
      obtain ⟨j, h1, h2⟩ := con_fa ho h
      exact ⟨j, h1, List.mem_cons_of_mem _ h2⟩
def faOf (T : Tb) (ds : List Dd) : List He.Fa := ds.map (fun d => .glo d.name) ++ (bltNames.map .free ++ conFa T.cons)
/-- how a def binds its arguments -/
structure Bn (d : Dd) : Prop where
  b : ∀ (kV doc pm : Value) (an : Option Addr) (cdv ct : Value) (us : List Value), us.length = (d.N.take d.np).length → bindArgs (PySem.W.fnOf d.name d.name (defArgs d.st) (defBody d.st) (defScope d.st) .none kV doc pm an cdv ct) ⟨us, []⟩ = pure ((d.N.take d.np).zip us)
/-- how a def with n defaults binds -/
structure BnD (d : Dd) (n : Nat) : Prop where
  b : ∀ (j : Nat), j ≤ n → ∀ (T : Addr) (kV doc pm : Value) (an : Option Addr) (cdv ct : Value) (us its : List Value), us.length + (n - j) = (d.N.take d.np).length → its.length = n →
    ∃ k, bindArgs (PySem.W.fnOf d.name d.name (defArgs d.st) (defBody d.st) (defScope d.st) (.ref T) kV doc pm an cdv ct) ⟨us, []⟩ = seqItems? (.ref T) >>= k ∧ k (some its.toArray) = pure ((d.N.take d.np).zip (us ++ its.drop j))
def BnX (T : Tb) (f : Nat) (d : Dd) : Prop := match dfOf T f with
  | [] => Bn d
  | u :: r => BnD d (r.length + 1) ∧ r.length + 1 ≤ (d.N.take d.np).length ∧ (u :: r).all plainDv = true
def AllX (T : Tb) : Nat → List Dd → Prop
  | _, [] => True
  | i, d :: r => BnX T i d ∧ AllX T (i + 1) r
theorem AllX.at {T : Tb} : ∀ {ds : List Dd} {i f : Nat} {d : Dd}, AllX T i ds → nth f ds = some d → BnX T (i + f) d
  | [], i, f, d, _, h => by cases f <;> cases h
  | x :: ds, i, 0, d, h, e => by cases e; exact h.1
  | x :: ds, i, f + 1, d, h, e => by
    have := AllX.at (ds := ds) (i := i + 1) (f := f) h.2 e
    rw [show i + (f + 1) = i + 1 + f by omega]
    exact this
/-- how a call with keywords binds -/
structure Kn (d : Dd) (ke : KwE) (p : List Nat) : Prop where
  ex : ∃ (g : List Value → List Value → List Value) (gV : List V → List V → List V),
    (∀ (kV doc pm : Value) (an : Option Addr) (cdv ct : Value) (us ws : List Value), (g us ws).length = (d.N.take d.np).length → bindArgs (PySem.W.fnOf d.name d.name (defArgs d.st) (defBody d.st) (defScope d.st) .none kV doc pm an cdv ct) ⟨us, ke.ks.zip ws⟩ = pure ((d.N.take d.np).zip (g us ws))) ∧
    (∀ {vs : List V} {us : List Value} {zs : List V} {ws : List Value}, Vals vs us → Vals zs ws → Vals (gV vs zs) (g us ws)) ∧
    ∀ (K : PySem.W.Frag) (H : Hp) (m : Addr → Prop) (al : List Addr) us ws vs zs xs, us.length = ke.npos → ws.length = ke.ks.length → Shs K H m al us vs → Shs K H m al ws zs → permU p (us ++ ws) = some xs → xs.length = d.np ∧ Shs K H m al xs (gV vs zs)
theorem nth_mem {α : Type} {n : Nat} {l : List α} {x : α} (h : nth n l = some x) : x ∈ l := by
  rw [nth_get] at h
  exact List.mem_of_getElem? h
theorem hdOk {T : Tb} {ds : List Dd} {Pf : List Fd} {KW : List (List Nat)} {K : PySem.W.Frag} {h : Heap} {mg : Str → Option Value} (hc : chkAll T T.fns ds Pf = true) (hi : intsOnly T.cons = true) (hb : AllX T 0 ds) (hdf : ∀ f, f ∉ T.dfs.map Prod.fst ∨ (dfOf T f).all plainDv = true) (hk : ∀ kw ke, nth kw T.kws = some ke → ∃ d p, nth ke.f ds = some d ∧ nth kw KW = some p ∧ dfOf T ke.f = [] ∧ Kn d ke p)
    (X : K.In h) (G : h.Ns mainGlobals mg) (c : He.SaysD (faOf T ds) (defsOf T ds) K) : HdOk T ds KW K mg := by
  refine ⟨fun f d hd => ?_, fun f => ?_, fun n hn => ?_, fun x u hx => ?_⟩
  · have hm := nth_mem hd
    obtain ⟨fdt, FD⟩ := c.defs (d := defAt T f d) (by have := defs_mem (T := T) (i := 0) hd; rw [Nat.zero_add] at this; exact this)
    have FD : FunD K d.name d.name (defArgs d.st) (defBody d.st) (defScope d.st) (((dfOf T f).map dvD).map (He.Dv.v K)) [] (He.ga K d.name) fdt := FD
    have em : ((dfOf T f).map dvD).map (He.Dv.v K) = (dfOf T f).map dvV := by
      rw [List.map_map]
      exact List.map_congr_left fun u _ => dvD_v K u
    rw [em] at FD
    have hg : mg d.name = some (.ref (He.ga K d.name)) := He.glo_ok X G (c.facts (f := .glo d.name) (List.mem_append_left _ (List.mem_map.mpr ⟨d, hm, rfl⟩)))
    have hbx := hb.at hd
    rw [Nat.zero_add] at hbx
    have bind : Binds K fdt (d.N.take d.np) [] ∧ ∀ j, j < (dfOf T f).length → ∃ ws, Vals (((dfOf T f).drop j).map dvV) ws ∧ Binds K fdt (d.N.take d.np) ws := by
      unfold BnX at hbx
      cases q : dfOf T f with
      | nil =>
        rw [q] at hbx FD
        exact ⟨FD.bindsN hbx.b, fun j hj => absurd hj (Nat.not_lt_zero _)⟩
      | cons u r =>
        rw [q] at hbx FD
        obtain ⟨B, hle, _⟩ := hbx
        have hlen : ((u :: r).map dvV).length = r.length + 1 := by rw [List.length_map, List.length_cons]
        have hne : (u :: r).map dvV ≠ [] := by simp
        refine ⟨?_, fun j hj => ?_⟩
        · obtain ⟨ws, w1, w2⟩ := FD.binds1 (d.N.take d.np).length (r.length + 1) hne (by rw [hlen]; omega) fun T kV doc pm an cdv ct us its h1 h2 => B.b (r.length + 1) (Nat.le_refl _) T kV doc pm an cdv ct us its (by omega) (by rw [h2, hlen])
          rw [List.drop_of_length_le (by rw [hlen]; exact Nat.le_refl _)] at w1
          cases w1
          exact w2
        · rw [List.length_cons] at hj
          obtain ⟨ws, w1, w2⟩ := FD.binds1 ((d.N.take d.np).length - (r.length + 1 - j)) j hne (by rw [hlen]; omega) fun T kV doc pm an cdv ct us its h1 h2 => B.b j (by omega) T kV doc pm an cdv ct us its (by omega) (by rw [h2, hlen])
          rw [← List.map_drop] at w1
          exact ⟨ws, w1, w2⟩
    refine ⟨_, fdt, FD, hg, bind.1, bind.2, fun kw ke fe h1 h2 h3 => ?_⟩
    obtain ⟨d2, p, e1, e2, e3, kn⟩ := hk kw ke h1
    rw [h2, hd] at e1
    rw [h2] at e3
    rw [e3] at FD
    cases e1
    obtain ⟨g, gV, k1, k2, k3⟩ := kn.ex
    obtain ⟨d3, fd3, q1, q2, q3⟩ := chk_at hc h3
    rw [hd] at q1
    cases q1
    have hnp : fe.np = d.np := by
      obtain ⟨c0, c6⟩ := and2 q3
      obtain ⟨c0, c5⟩ := and2 c0
      obtain ⟨c0, c4⟩ := and2 c0
      obtain ⟨c0, c3⟩ := and2 c0
      obtain ⟨c1, c2⟩ := and2 c0
      exact of_decide_eq_true c2
    refine ⟨g, gV, ⟨fun s us ws _ hl => ?_, k2⟩, p, e2, fun K H m al us ws vs zs xs a1 a2 a3 a4 a5 => ?_⟩
    · obtain ⟨oc, od, dV, kV, doc, pm, an, cdv, ct, osl, rfl, lk, hcd, hD, hK⟩ := FD.ex
      rcases hD with ⟨_, rfl⟩ | ⟨e, _⟩
      · exact .of_eq (k1 kV doc pm an cdv ct us ws hl)
      · exact absurd rfl e
    · obtain ⟨r1, r2⟩ := k3 K H m al us ws vs zs xs a1 a2 a3 a4 a5
      exact ⟨r1.trans hnp.symm, r2⟩
  · rcases hdf f with h | h
    · have : dfOf T f = [] := by
        unfold dfOf
        have : T.dfs.lookup f = none := by
          rw [List.lookup_eq_none_iff]
          intro p hp
          have : f ≠ p.1 := fun e => h (List.mem_map.mpr ⟨p, hp, e.symm⟩)
          simpa using this
        rw [this]
        rfl
      rw [this]
      rfl
    · exact h
  · exact He.free_ok X G (c.facts (f := .free n) (List.mem_append_right _ (List.mem_append_left _ (List.mem_map.mpr ⟨n, hn, rfl⟩))))
  · obtain ⟨i, rfl, hm⟩ := con_fa hi hx
    obtain ⟨t, ht⟩ := He.int_ok X G (c.facts (f := .int x i) (List.mem_append_right _ (List.mem_append_right _ hm)))
    exact ⟨.int i, _, ht, ⟨t, rfl⟩, fun H m al => .int i⟩
end Ev

end
section
set_option Elab.async false
set_option linter.all false
set_option maxRecDepth 100000
set_option maxHeartbeats 0
namespace K03
open Ev PySem
/-- is_number: thing -/
def d0 : Fd := ⟨1, 0, (.cons (.ret [] (.and (.bi (.isinst [.int]) (.cons (.var 0) .nil)) (.not (.bi (.isinst [.bool]) (.cons (.var 0) .nil))))) .nil)⟩
/-- is_within: thing least most -/
def d1 : Fd := ⟨3, 0, (.cons (.ret [] (.and (.call 0 (.cons (.var 0) .nil)) (.chain .le .le (.var 1) (.var 0) (.var 2)))) .nil)⟩
/-- is_long: thing length -/
def d2 : Fd := ⟨2, 0, (.cons (.ret [] (.and (.bi (.isinst [.tuple]) (.cons (.var 0) .nil)) (.cmp .eq (.bi .len (.cons (.var 0) .nil)) (.var 1)))) .nil)⟩
/-- tupled: value own -/
def d3 : Fd := ⟨1, 1, (.cons (.ret [] (.ife (.bi (.isinst [.list, .tuple]) (.cons (.var 0) .nil)) (.bi .tuple (.cons (.comp [1] (.nm 1) (.seq (.var 0)) (.con (.bl true)) (.call 3 (.cons (.var 1) .nil))) .nil)) (.var 0))) .nil)⟩
/-- ascends: row k -/
def d4 : Fd := ⟨1, 1, (.cons (.ret [] (.bi .all (.cons (.comp [1] (.nm 1) (.rng1 (.op .sub (.bi .len (.cons (.var 0) .nil)) (.con (.int 1)))) (.con (.bl true)) (.cmp .lt (.ix (.var 0) (.var 1)) (.ix (.var 0) (.op .add (.var 1) (.con (.int 1)))))) .nil))) .nil)⟩
/-- set_of: row -/
def d5 : Fd := ⟨1, 0, (.cons (.ret [] (.bi .tuple (.cons (.bi .sortedSet (.cons (.var 0) .nil)) .nil))) .nil)⟩
/-- are_numbers: thing own -/
def d6 : Fd := ⟨1, 1, (.cons (.ret [] (.and (.bi (.isinst [.tuple]) (.cons (.var 0) .nil)) (.bi .all (.cons (.comp [1] (.nm 1) (.seq (.var 0)) (.con (.bl true)) (.call 0 (.cons (.var 1) .nil))) .nil)))) .nil)⟩
/-- is_set_below: thing many own -/
def d7 : Fd := ⟨2, 1, (.cons (.ret [] (.and (.call 6 (.cons (.var 0) .nil)) (.and (.call 4 (.cons (.var 0) .nil)) (.bi .all (.cons (.comp [2] (.nm 2) (.seq (.var 0)) (.con (.bl true)) (.chain .le .lt (.con (.int 0)) (.var 2) (.var 1))) .nil))))) .nil)⟩
/-- are_unlike: thing many -/
def d8 : Fd := ⟨2, 0, (.cons (.ret [] (.and (.call 6 (.cons (.var 0) .nil)) (.call 7 (.cons (.bi .tuple (.cons (.bi .sorted (.cons (.var 0) .nil)) .nil)) (.cons (.var 1) .nil))))) .nil)⟩
/-- dotted: one other a b -/
def d9 : Fd := ⟨2, 2, (.cons (.ret [] (.bi .sum (.cons (.comp [2, 3] (.t2 (.nm 2) (.nm 3)) (.zip2 (.var 0) (.var 1)) (.con (.bl true)) (.op .mul (.var 2) (.var 3))) .nil))) .nil)⟩
/-- is_plan: thing own -/
def d10 : Fd := ⟨1, 1, (.cons (.ife [] (.or (.not (.bi (.isinst [.tuple]) (.cons (.var 0) .nil))) (.not (.chain .le .le (.con (.int 1)) (.bi .len (.cons (.var 0) .nil)) (.con (.int 40))))) (.cons (.ret [] (.con (.bl false))) .nil) .nil) (.cons (.ret [] (.bi .all (.cons (.comp [1] (.nm 1) (.seq (.var 0)) (.con (.bl true)) (.call 1 (.cons (.var 1) (.cons (.con (.int 0)) (.cons (.con (.int 1)) .nil))))) .nil))) .nil))⟩
/-- sure_plan: plan own -/
def d11 : Fd := ⟨1, 1, (.cons (.asg [] 1 true (.call 3 (.cons (.var 0) .nil))) (.cons (.ife [1] (.not (.call 10 (.cons (.var 1) .nil))) (.cons .never .nil) .nil) (.cons (.retV 1) .nil)))⟩
/-- sure_places: places many own -/
def d12 : Fd := ⟨2, 1, (.cons (.asg [] 2 true (.call 3 (.cons (.var 0) .nil))) (.cons (.ife [2] (.not (.call 7 (.cons (.var 2) (.cons (.var 1) .nil)))) (.cons .never .nil) .nil) (.cons (.retV 2) .nil)))⟩
/-- is_order_of: thing many -/
def d13 : Fd := ⟨2, 0, (.cons (.ret [] (.and (.call 2 (.cons (.var 0) (.cons (.var 1) .nil))) (.call 8 (.cons (.var 0) (.cons (.var 1) .nil))))) .nil)⟩
/-- sure_order: order many own -/
def d14 : Fd := ⟨2, 1, (.cons (.asg [] 2 true (.call 3 (.cons (.var 0) .nil))) (.cons (.ife [2] (.not (.call 13 (.cons (.var 2) (.cons (.var 1) .nil)))) (.cons .never .nil) .nil) (.cons (.retV 2) .nil)))⟩
/-- is_row: thing own -/
def d15 : Fd := ⟨1, 1, (.cons (.ife [] (.or (.not (.bi (.isinst [.tuple]) (.cons (.var 0) .nil))) (.or (.cmp .eq (.var 0) (.tup .nil)) (.not (.bi .all (.cons (.comp [1] (.nm 1) (.seq (.var 0)) (.con (.bl true)) (.call 10 (.cons (.var 1) .nil))) .nil))))) (.cons (.ret [] (.con (.bl false))) .nil) .nil) (.cons (.ret [] (.bi .all (.cons (.comp [1] (.nm 1) (.seq (.var 0)) (.con (.bl true)) (.cmp .eq (.bi .len (.cons (.var 1) .nil)) (.bi .len (.cons (.ix (.var 0) (.con (.int 0))) .nil)))) .nil))) .nil))⟩
/-- is_hold_of: thing many place bit own -/
def d16 : Fd := ⟨2, 3, (.cons (.ife [] (.or (.not (.bi (.isinst [.tuple]) (.cons (.var 0) .nil))) (.not (.bi .all (.cons (.comp [4] (.nm 4) (.seq (.var 0)) (.con (.bl true)) (.call 2 (.cons (.var 4) (.cons (.con (.int 2)) .nil)))) .nil)))) (.cons (.ret [] (.con (.bl false))) .nil) .nil) (.cons (.ife [] (.not (.bi .all (.cons (.comp [2, 3] (.t2 (.nm 2) (.nm 3)) (.seq (.var 0)) (.con (.bl true)) (.and (.call 1 (.cons (.var 2) (.cons (.con (.int 0)) (.cons (.op .sub (.var 1) (.con (.int 1))) .nil)))) (.call 1 (.cons (.var 3) (.cons (.con (.int 0)) (.cons (.con (.int 1)) .nil)))))) .nil))) (.cons (.ret [] (.con (.bl false))) .nil) .nil) (.cons (.ret [] (.call 4 (.cons (.comp [2, 3] (.t2 (.nm 2) (.nm 3)) (.seq (.var 0)) (.con (.bl true)) (.var 2)) .nil))) .nil)))⟩
/-- sure_hold: hold many own -/
def d17 : Fd := ⟨2, 1, (.cons (.asg [] 2 true (.call 3 (.cons (.var 0) .nil))) (.cons (.ife [2] (.not (.call 16 (.cons (.var 2) (.cons (.var 1) .nil)))) (.cons .never .nil) .nil) (.cons (.retV 2) .nil)))⟩
/-- plan_turned: plan places place bit -/
def d18 : Fd := ⟨2, 2, (.cons (.ret [] (.bi .tuple (.cons (.comp [2, 3] (.t2 (.nm 2) (.nm 3)) (.enum (.var 0)) (.con (.bl true)) (.ife (.cmp .isin (.var 2) (.var 1)) (.op .sub (.con (.int 1)) (.var 3)) (.var 3))) .nil))) .nil)⟩
/-- is_lot: thing -/
def d19 : Fd := ⟨1, 0, (.cons (.ret [] (.and (.call 15 (.cons (.var 0) .nil)) (.call 4 (.cons (.var 0) .nil)))) .nil)⟩
/-- sure_lot: lot own -/
def d20 : Fd := ⟨1, 1, (.cons (.asg [] 1 true (.call 3 (.cons (.var 0) .nil))) (.cons (.ife [1] (.not (.call 19 (.cons (.var 1) .nil))) (.cons .never .nil) .nil) (.cons (.retV 1) .nil)))⟩
/-- lot_by: plans -/
def d21 : Fd := ⟨1, 0, (.cons (.ret [] (.call 5 (.cons (.var 0) .nil))) .nil)⟩
/-- folded: plan places place -/
def d22 : Fd := ⟨2, 1, (.cons (.ret [] (.bi .tuple (.cons (.comp [2] (.nm 2) (.seq (.var 1)) (.con (.bl true)) (.ix (.var 0) (.var 2))) .nil))) .nil)⟩
/-- turned_lot: lot places own told plan -/
def d23 : Fd := ⟨2, 3, (.cons (.asg [] 2 false (.call 20 (.cons (.var 0) .nil))) (.cons (.asg [] 3 false (.call 12 (.cons (.var 1) (.cons (.bi .len (.cons (.ix (.var 2) (.con (.int 0))) .nil)) .nil)))) (.cons (.ret [] (.call 21 (.cons (.comp [4] (.nm 4) (.seq (.var 2)) (.con (.bl true)) (.call 18 (.cons (.var 4) (.cons (.var 3) .nil)))) .nil))) .nil)))⟩
/-- moved_lot: lot order own told plan -/
def d24 : Fd := ⟨2, 3, (.cons (.asg [] 2 false (.call 20 (.cons (.var 0) .nil))) (.cons (.asg [] 3 false (.call 14 (.cons (.var 1) (.cons (.bi .len (.cons (.ix (.var 2) (.con (.int 0))) .nil)) .nil)))) (.cons (.ret [] (.call 21 (.cons (.comp [4] (.nm 4) (.seq (.var 2)) (.con (.bl true)) (.call 22 (.cons (.var 4) (.cons (.var 3) .nil)))) .nil))) .nil)))⟩
/-- sure_prices: prices many own -/
def d25 : Fd := ⟨2, 1, (.cons (.asg [] 2 true (.call 3 (.cons (.var 0) .nil))) (.cons (.ife [2] (.or (.not (.call 6 (.cons (.var 2) .nil))) (.or (.not (.chain .le .le (.con (.int 1)) (.bi .len (.cons (.peek 2) .nil)) (.con (.int 40)))) (.and (.cmp .isnot (.var 1) (.con .non)) (.cmp .ne (.bi .len (.cons (.peek 2) .nil)) (.var 1))))) (.cons .never .nil) .nil) (.cons (.retV 2) .nil)))⟩
/-- best_by: lot prices worths most plan own -/
def d26 : Fd := ⟨2, 4, (.cons (.asg [] 2 false (.comp [4] (.nm 4) (.seq (.var 0)) (.con (.bl true)) (.call 9 (.cons (.var 4) (.cons (.var 1) .nil))))) (.cons (.asg [] 3 false (.bi .maxS (.cons (.var 2) .nil))) (.cons (.ret [] (.bi .tuple (.cons (.comp [4, 5] (.t2 (.nm 4) (.nm 5)) (.zip2 (.var 0) (.var 2)) (.cmp .eq (.var 5) (.var 3)) (.var 4)) .nil))) .nil)))⟩
/-- held_prices: hold prices most found place bit own -/
def d27 : Fd := ⟨2, 5, (.cons (.asg [] 2 false (.op .add (.con (.int 1)) (.bi .sum (.cons (.comp [6] (.nm 6) (.seq (.var 1)) (.con (.bl true)) (.bi .abs (.cons (.var 6) .nil))) .nil)))) (.cons (.asg [] 3 true (.bi .list (.cons (.var 1) .nil))) (.cons (.for_ [] (.t2 (.nm 4) (.nm 5)) (.seq (.var 0)) (.cons (.asgIx [] 3 (.var 4) (.op .add (.ix (.var 1) (.var 4)) (.ife (.cmp .eq (.var 5) (.con (.int 1))) (.var 2) (.neg (.var 2))))) .nil)) (.cons (.ret [] (.bi .tuple (.cons (.peek 3) .nil))) .nil))))⟩
/-- worth: plan prices own -/
def d28 : Fd := ⟨2, 1, (.cons (.asg [] 2 false (.call 11 (.cons (.var 0) .nil))) (.cons (.ret [] (.call 9 (.cons (.var 2) (.cons (.call 25 (.cons (.var 1) (.cons (.bi .len (.cons (.var 2) .nil)) .nil))) .nil)))) .nil))⟩
/-- best: lot prices own -/
def d29 : Fd := ⟨2, 1, (.cons (.asg [] 2 false (.call 20 (.cons (.var 0) .nil))) (.cons (.ret [] (.call 26 (.cons (.var 2) (.cons (.call 25 (.cons (.var 1) (.cons (.bi .len (.cons (.ix (.var 2) (.con (.int 0))) .nil)) .nil))) .nil)))) .nil))⟩
/-- gap: lot prices own told worths plan -/
def d30 : Fd := ⟨2, 4, (.cons (.asg [] 2 false (.call 20 (.cons (.var 0) .nil))) (.cons (.asg [] 3 false (.call 25 (.cons (.var 1) (.cons (.bi .len (.cons (.ix (.var 2) (.con (.int 0))) .nil)) .nil)))) (.cons (.asg [] 4 false (.bi .sortedSet (.cons (.comp [5] (.nm 5) (.seq (.var 2)) (.con (.bl true)) (.call 9 (.cons (.var 5) (.cons (.var 3) .nil)))) .nil))) (.cons (.ret [] (.ife (.cmp .gt (.bi .len (.cons (.var 4) .nil)) (.con (.int 1))) (.op .sub (.ix (.var 4) (.neg (.con (.int 1)))) (.ix (.var 4) (.neg (.con (.int 2))))) (.con .non))) .nil))))⟩
/-- alone_prices: plan bit -/
def d31 : Fd := ⟨1, 1, (.cons (.ret [] (.bi .tuple (.cons (.comp [1] (.nm 1) (.seq (.call 11 (.cons (.var 0) .nil))) (.con (.bl true)) (.op .sub (.op .mul (.con (.int 2)) (.var 1)) (.con (.int 1)))) .nil))) .nil)⟩
/-- holding: hold prices own -/
def d32 : Fd := ⟨2, 1, (.cons (.asg [] 2 false (.callD 25 (.cons (.var 1) .nil) [.non])) (.cons (.ret [] (.call 27 (.cons (.call 17 (.cons (.var 0) (.cons (.bi .len (.cons (.var 2) .nil)) .nil))) (.cons (.var 2) .nil)))) .nil))⟩
/-- turned_prices: prices places own told place price -/
def d33 : Fd := ⟨2, 4, (.cons (.asg [] 2 false (.callD 25 (.cons (.var 0) .nil) [.non])) (.cons (.asg [] 3 false (.call 12 (.cons (.var 1) (.cons (.bi .len (.cons (.var 2) .nil)) .nil)))) (.cons (.ret [] (.bi .tuple (.cons (.comp [4, 5] (.t2 (.nm 4) (.nm 5)) (.enum (.var 2)) (.con (.bl true)) (.ife (.cmp .isin (.var 4) (.var 3)) (.neg (.var 5)) (.var 5))) .nil))) .nil)))⟩
/-- moved_prices: prices order own -/
def d34 : Fd := ⟨2, 1, (.cons (.asg [] 2 false (.callD 25 (.cons (.var 0) .nil) [.non])) (.cons (.ret [] (.call 22 (.cons (.var 2) (.cons (.call 14 (.cons (.var 1) (.cons (.bi .len (.cons (.var 2) .nil)) .nil))) .nil)))) .nil))⟩
/-- added_prices: prices other own one two -/
def d35 : Fd := ⟨2, 3, (.cons (.asg [] 2 false (.callD 25 (.cons (.var 0) .nil) [.non])) (.cons (.ret [] (.bi .tuple (.cons (.comp [3, 4] (.t2 (.nm 3) (.nm 4)) (.zip2 (.var 2) (.call 25 (.cons (.var 1) (.cons (.bi .len (.cons (.var 2) .nil)) .nil)))) (.con (.bl true)) (.op .add (.var 3) (.var 4))) .nil))) .nil))⟩
/-- _law_box: script k bit_so -/
def d36 : Fd := ⟨2, 1, (.cons (.asg [] 2 false (.ife (.cmp .lt (.var 1) (.bi .len (.cons (.var 0) .nil))) (.ix (.var 0) (.var 1)) (.con (.int 0)))) (.cons (.ret [] (.slst (.cons (.op .mul (.bi .abs (.cons (.var 2) .nil)) (.bi .int1 (.cons (.cmp .ge (.bi .abs (.cons (.var 2) .nil)) (.op .pow (.con (.int 10)) (.con (.int 18)))) .nil))) (.cons (.op .add (.op .add (.op .mod (.bi .int1 (.cons (.var 2) .nil)) (.con (.int 2305843009213693951))) (.op .mul (.con (.int 39373)) (.var 1))) (.con (.int 7046003))) (.cons (.con (.int 0)) .nil))))) .nil))⟩
/-- _law_take: tin below_so once_so wide_so twice_so drawn_so -/
def d37 : Fd := ⟨2, 4, (.cons (.ife [] (.cmp .gt (.ix (.var 0) (.con (.int 0))) (.con (.int 0))) (.cons (.asg [] 5 true (.op .mod (.bi .int1 (.cons (.ix (.var 0) (.con (.int 0))) .nil)) (.var 1))) (.cons (.asgIx [] 0 (.con (.int 0)) (.op .fdiv (.ix (.var 0) (.con (.int 0))) (.var 1))) (.cons (.retV 5) .nil))) .nil) (.cons (.asgIx [] 0 (.con (.int 2)) (.op .add (.ix (.var 0) (.con (.int 2))) (.con (.int 1)))) (.cons (.asg [] 2 false (.op .mod (.bi .int1 (.cons (.op .mul (.op .add (.ix (.var 0) (.con (.int 1))) (.op .mul (.con (.int 48271)) (.ix (.var 0) (.con (.int 2))))) (.op .add (.con (.int 39373)) (.ix (.var 0) (.con (.int 2))))) .nil)) (.con (.int 2147483647)))) (.cons (.asg [] 3 false (.op .add (.op .mod (.bi .int1 (.cons (.var 2) .nil)) (.con (.int 40009))) (.con (.int 7)))) (.cons (.asg [] 4 false (.op .mod (.bi .int1 (.cons (.op .mul (.op .add (.op .add (.var 2) (.ix (.var 0) (.con (.int 2)))) (.op .fdiv (.ix (.var 0) (.con (.int 1))) (.con (.int 1000003)))) (.var 3)) .nil)) (.con (.int 2147483629)))) (.cons (.ret [] (.op .mod (.bi .int1 (.cons (.op .fdiv (.op .mod (.bi .int1 (.cons (.op .add (.op .mul (.var 4) (.con (.int 48271))) (.var 2)) .nil)) (.con (.int 2147483587))) (.con (.int 64))) .nil)) (.var 1))) .nil))))))⟩
/-- _law_cells: script most_so cells_so k bit_so at_so -/
def d38 : Fd := ⟨2, 4, (.cons (.asg [] 2 true (.or (.bi .list (.cons (.slH (.var 0) (.var 1)) .nil)) (.lst (.cons (.con (.int 0)) .nil)))) (.cons (.for_ [] (.t2 (.nm 3) (.nm 4)) (.enum (.sl (.var 0) (.var 1) (.con (.int 63)))) (.cons (.asg [] 5 false (.op .mod (.bi .int1 (.cons (.var 3) .nil)) (.var 1))) (.cons (.asgIx [] 2 (.var 5) (.op .add (.ix (.peek 2) (.var 5)) (.op .mul (.var 4) (.op .add (.var 3) (.con (.int 2)))))) .nil))) (.cons (.retV 2) .nil)))⟩
/-- _law_of: tin goods_so -/
def d39 : Fd := ⟨2, 0, (.cons (.ret [] (.ix (.var 1) (.call 37 (.cons (.var 0) (.cons (.bi .len (.cons (.var 1) .nil)) .nil))))) .nil)⟩
/-- _law_pick: tin goods_so count_so lap pool_so found -/
def d40 : Fd := ⟨3, 3, (.cons (.par2 [] 4 true (.bi .list (.cons (.var 1) .nil)) 5 true (.lst .nil)) (.cons (.for_ [] (.nm 3) (.rng1 (.bi .min2 (.cons (.bi .int1 (.cons (.var 2) .nil)) (.cons (.bi .len (.cons (.peek 4) .nil)) .nil)))) (.cons (.appPop [] 5 4 (.call 37 (.cons (.var 0) (.cons (.bi .len (.cons (.peek 4) .nil)) .nil)))) .nil)) (.cons (.retV 5) .nil)))⟩
/-- _law_lists: matter bit -/
def d41 : Fd := ⟨1, 1, (.cons (.ret [] (.ife (.bi (.isinst [.list, .tuple]) (.cons (.var 0) .nil)) (.comp [1] (.nm 1) (.seq (.var 0)) (.con (.bl true)) (.call 41 (.cons (.var 1) .nil))) (.var 0))) .nil)⟩
/-- _law_same: got due mine its -/
def d42 : Fd := ⟨2, 2, (.cons (.ife [] (.bi (.isinst [.list, .tuple]) (.cons (.var 1) .nil)) (.cons (.ife [] (.or (.cmp .ne (.bi (.isinst [.list]) (.cons (.var 0) .nil)) (.bi (.isinst [.list]) (.cons (.var 1) .nil))) (.cmp .ne (.bi (.isinst [.tuple]) (.cons (.var 0) .nil)) (.bi (.isinst [.tuple]) (.cons (.var 1) .nil)))) (.cons (.ret [] (.con (.bl false))) .nil) .nil) (.cons (.ret [] (.and (.cmp .eq (.bi .len (.cons (.var 0) .nil)) (.bi .len (.cons (.var 1) .nil))) (.bi .all (.cons (.comp [2, 3] (.t2 (.nm 2) (.nm 3)) (.zip2 (.var 0) (.var 1)) (.con (.bl true)) (.call 42 (.cons (.var 2) (.cons (.var 3) .nil)))) .nil)))) .nil)) .nil) (.cons (.ife [] (.cmp .is_ (.var 1) (.con .non)) (.cons (.ret [] (.cmp .is_ (.var 0) (.con .non))) .nil) .nil) (.cons (.ife [] (.bi (.isinst [.bool, .str]) (.cons (.var 1) .nil)) (.cons (.ret [] (.and (.cmp .eq (.bi (.isinst [.bool]) (.cons (.var 0) .nil)) (.bi (.isinst [.bool]) (.cons (.var 1) .nil))) (.and (.cmp .eq (.bi (.isinst [.str]) (.cons (.var 0) .nil)) (.bi (.isinst [.str]) (.cons (.var 1) .nil))) (.cmp .eq (.var 0) (.var 1))))) .nil) .nil) (.cons (.ret [] (.and (.bi (.isinst [.int]) (.cons (.var 0) .nil)) (.and (.not (.bi (.isinst [.bool]) (.cons (.var 0) .nil))) (.cmp .eq (.var 0) (.var 1))))) .nil))))⟩
/-- _law_set: goods_so -/
def d43 : Fd := ⟨1, 0, (.cons (.ret [] (.bi .tuple (.cons (.bi .sortedSet (.cons (.var 0) .nil)) .nil))) .nil)⟩
/-- _law_dot: one two a_so b_so -/
def d44 : Fd := ⟨2, 2, (.cons (.ret [] (.bi .sum (.cons (.comp [2, 3] (.t2 (.nm 2) (.nm 3)) (.zip2 (.var 0) (.var 1)) (.con (.bl true)) (.op .mul (.var 2) (.var 3))) .nil))) .nil)⟩
/-- _law_plan: bits_so many_so k -/
def d45 : Fd := ⟨2, 1, (.cons (.ret [] (.bi .tuple (.cons (.comp [2] (.nm 2) (.rng1 (.var 1)) (.con (.bl true)) (.op .band (.op .shr (.var 0) (.op .sub (.op .sub (.var 1) (.con (.int 1))) (.var 2))) (.con (.int 1)))) .nil))) .nil)⟩
/-- _law_every: many_so k -/
def d46 : Fd := ⟨1, 1, (.cons (.ret [] (.comp [1] (.nm 1) (.rng1 (.op .shl (.con (.int 1)) (.var 0))) (.con (.bl true)) (.call 45 (.cons (.var 1) (.cons (.var 0) .nil))))) .nil)⟩
/-- _law_turn: plan_so places_so k bit_so -/
def d47 : Fd := ⟨2, 2, (.cons (.ret [] (.bi .tuple (.cons (.comp [2, 3] (.t2 (.nm 2) (.nm 3)) (.enum (.var 0)) (.con (.bl true)) (.ife (.cmp .isin (.var 2) (.var 1)) (.op .sub (.con (.int 1)) (.var 3)) (.var 3))) .nil))) .nil)⟩
/-- _law_box_by: plan_so parts_so found own its -/
def d48 : Fd := ⟨2, 3, (.cons (.asg [] 2 false (.lst (.cons (.var 0) .nil))) (.cons (.for_ [] (.nm 3) (.seq (.var 1)) (.cons (.asg [] 2 false (.op .add (.var 2) (.comp [4] (.nm 4) (.seq (.var 2)) (.con (.bl true)) (.call 47 (.cons (.var 4) (.cons (.var 3) .nil)))))) .nil)) (.cons (.ret [] (.bi .tuple (.cons (.bi .sortedSet (.cons (.var 2) .nil)) .nil))) .nil)))⟩
/-- _law_drawn_parts: tin many_so most_so parts_so k at_so own -/
def d49 : Fd := ⟨3, 4, (.cons (.asg [] 3 false (.comp [4] (.nm 4) (.rng1 (.var 2)) (.con (.bl true)) (.slst .nil))) (.cons (.for_ [] (.nm 4) (.seq (.call 40 (.cons (.var 0) (.cons (.bi .listRange (.cons (.var 1) .nil)) (.cons (.var 1) .nil))))) (.cons (.asg [] 5 false (.call 37 (.cons (.var 0) (.cons (.op .add (.var 2) (.con (.int 1))) .nil)))) (.cons (.ife [] (.cmp .lt (.var 5) (.var 2)) (.cons (.appR [] (.ix (.var 3) (.var 5)) (.var 4)) .nil) .nil) .nil))) (.cons (.ret [] (.bi .tuple (.cons (.bi .sorted (.cons (.comp [6] (.nm 6) (.seq (.var 3)) (.refNe (.var 6)) (.bi .tuple (.cons (.sortedR (.var 6)) .nil))) .nil)) .nil))) .nil)))⟩
/-- _law_lot: tin many_so most_so kind_so all_so found parts_so turn_so many places_so own -/
def d50 : Fd := ⟨3, 8, (.cons (.par2 [] 3 false (.call 37 (.cons (.var 0) (.cons (.con (.int 6)) .nil))) 4 false (.call 46 (.cons (.var 1) .nil))) (.cons (.ife [] (.cmp .lt (.var 3) (.con (.int 3))) (.cons (.asg [] 5 true (.call 40 (.cons (.var 0) (.cons (.var 4) (.cons (.op .add (.con (.int 1)) (.call 37 (.cons (.var 0) (.cons (.bi .min2 (.cons (.var 2) (.cons (.bi .len (.cons (.var 4) .nil)) .nil))) .nil)))) .nil))))) .nil) (.cons (.ife [] (.cmp .lt (.var 3) (.con (.int 5))) (.cons (.asg [] 6 false (.call 49 (.cons (.var 0) (.cons (.var 1) (.cons (.op .add (.con (.int 1)) (.call 37 (.cons (.var 0) (.cons (.con (.int 3)) .nil)))) .nil))))) (.cons (.asg [] 5 true (.bi .list (.cons (.call 48 (.cons (.call 39 (.cons (.var 0) (.cons (.var 4) .nil))) (.cons (.var 6) .nil))) .nil))) (.cons (.asg [] 7 false (.call 37 (.cons (.var 0) (.cons (.con (.int 3)) .nil)))) (.cons (.ife [] (.and (.cmp .eq (.var 7) (.con (.int 1))) (.cmp .gt (.bi .len (.cons (.peek 5) .nil)) (.con (.int 1)))) (.cons (.popS [] 5 (.call 37 (.cons (.var 0) (.cons (.bi .len (.cons (.peek 5) .nil)) .nil)))) .nil) .nil) (.cons (.ife [] (.cmp .eq (.var 7) (.con (.int 2))) (.cons (.app [] 5 (.call 39 (.cons (.var 0) (.cons (.var 4) .nil)))) .nil) .nil) .nil))))) (.cons (.asg [] 8 false (.call 37 (.cons (.var 0) (.cons (.op .add (.var 1) (.con (.int 1))) .nil)))) (.cons (.asg [] 5 true (.comp [10] (.nm 10) (.seq (.var 4)) (.cmp .eq (.bi .sum (.cons (.var 10) .nil)) (.var 8)) (.var 10))) (.cons (.asg [] 9 false (.call 40 (.cons (.var 0) (.cons (.bi .listRange (.cons (.var 1) .nil)) (.cons (.call 37 (.cons (.var 0) (.cons (.op .add (.var 1) (.con (.int 1))) .nil))) .nil))))) (.cons (.asg [] 5 true (.op .add (.comp [10] (.nm 10) (.seq (.peek 5)) (.con (.bl true)) (.call 47 (.cons (.var 10) (.cons (.var 9) .nil)))) (.call 40 (.cons (.var 0) (.cons (.var 4) (.cons (.call 37 (.cons (.var 0) (.cons (.con (.int 2)) .nil))) .nil)))))) .nil))))) .nil)) (.cons (.ret [] (.bi .tuple (.cons (.bi .sortedSet (.cons (.call 40 (.cons (.var 0) (.cons (.bi .sortedSet (.cons (.peek 5) .nil)) (.cons (.var 2) .nil)))) .nil)) .nil))) .nil)))⟩
/-- _law_cost: tin many_so size_so k -/
def d51 : Fd := ⟨2, 2, (.cons (.asg [] 2 false (.ix (.lst (.cons (.con (.int 2)) (.cons (.con (.int 3)) (.cons (.con (.int 7)) (.cons (.con (.int 3)) (.cons (.op .pow (.con (.int 10)) (.con (.int 6))) (.cons (.op .pow (.con (.int 10)) (.con (.int 11))) .nil))))))) (.call 37 (.cons (.var 0) (.cons (.con (.int 6)) .nil))))) (.cons (.ret [] (.bi .tuple (.cons (.comp [3] (.nm 3) (.rng1 (.var 1)) (.con (.bl true)) (.op .sub (.call 37 (.cons (.var 0) (.cons (.op .add (.op .mul (.con (.int 2)) (.var 2)) (.con (.int 1))) .nil))) (.var 2))) .nil))) .nil))⟩
/-- _law_line: tin many_so -/
def d52 : Fd := ⟨2, 0, (.cons (.ret [] (.bi .tuple (.cons (.call 40 (.cons (.var 0) (.cons (.bi .listRange (.cons (.var 1) .nil)) (.cons (.var 1) .nil)))) .nil))) .nil)⟩
/-- _law_tops: lot_so cost_so worths_so own its -/
def d53 : Fd := ⟨2, 3, (.cons (.asg [] 2 false (.comp [3] (.nm 3) (.seq (.var 0)) (.con (.bl true)) (.call 44 (.cons (.var 3) (.cons (.var 1) .nil))))) (.cons (.ret [] (.bi .tuple (.cons (.comp [3, 4] (.t2 (.nm 3) (.nm 4)) (.zip2 (.var 0) (.var 2)) (.cmp .eq (.var 4) (.bi .maxS (.cons (.var 2) .nil))) (.var 3)) .nil))) .nil))⟩
/-- _law_by_hand_right: trio got due -/
def d54 : Fd := ⟨0, 3, (.cons (.asg [] 0 false (.tup (.cons (.tup (.cons (.con (.int 0)) (.cons (.con (.int 0)) (.cons (.con (.int 1)) .nil)))) (.cons (.tup (.cons (.con (.int 0)) (.cons (.con (.int 1)) (.cons (.con (.int 0)) .nil)))) (.cons (.tup (.cons (.con (.int 1)) (.cons (.con (.int 0)) (.cons (.con (.int 0)) .nil)))) .nil))))) (.cons (.asg [] 1 false (.lst (.cons (.call 28 (.cons (.tup (.cons (.con (.int 0)) (.cons (.con (.int 1)) (.cons (.con (.int 1)) .nil)))) (.cons (.tup (.cons (.con (.int 5)) (.cons (.con (.int 2)) (.cons (.neg (.con (.int 1))) .nil)))) .nil))) (.cons (.callK 28 5 .nil (.cons (.lst (.cons (.op .pow (.con (.int 10)) (.con (.int 40))) (.cons (.con (.int 1)) .nil))) (.cons (.lst (.cons (.con (.int 1)) (.cons (.con (.int 1)) .nil))) .nil))) (.cons (.call 29 (.cons (.var 0) (.cons (.tup (.cons (.con (.int 0)) (.cons (.con (.int 0)) (.cons (.con (.int 0)) .nil)))) .nil))) (.cons (.callK 29 6 .nil (.cons (.lst (.cons (.con (.int 1)) (.cons (.con (.int 0)) (.cons (.con (.int 1)) .nil)))) (.cons (.call 41 (.cons (.var 0) .nil)) .nil))) (.cons (.call 30 (.cons (.var 0) (.cons (.tup (.cons (.con (.int 1)) (.cons (.con (.int 0)) (.cons (.con (.int 1)) .nil)))) .nil))) (.cons (.callK 30 7 .nil (.cons (.lst (.cons (.con (.int 4)) (.cons (.con (.int 4)) (.cons (.con (.int 4)) .nil)))) (.cons (.var 0) .nil))) .nil)))))))) (.cons (.asg [] 2 false (.lst (.cons (.con (.int 1)) (.cons (.op .add (.op .pow (.con (.int 10)) (.con (.int 40))) (.con (.int 1))) (.cons (.var 0) (.cons (.tup (.cons (.ix (.var 0) (.con (.int 0))) (.cons (.ix (.var 0) (.con (.int 2))) .nil))) (.cons (.con (.int 1)) (.cons (.con .non) .nil)))))))) (.cons (.asg [] 1 false (.op .add (.var 1) (.lst (.cons (.call 31 (.cons (.tup (.cons (.con (.int 0)) (.cons (.con (.int 1)) .nil))) .nil)) (.cons (.callK 31 3 .nil (.cons (.op .mul (.lst (.cons (.con (.int 1)) .nil)) (.con (.int 40))) .nil)) (.cons (.call 32 (.cons (.tup (.cons (.tup (.cons (.con (.int 0)) (.cons (.con (.int 1)) .nil))) (.cons (.tup (.cons (.con (.int 2)) (.cons (.con (.int 0)) .nil))) .nil))) (.cons (.tup (.cons (.con (.int 0)) (.cons (.con (.int 3)) (.cons (.neg (.con (.int 2))) .nil)))) .nil))) (.cons (.callK 32 4 .nil (.cons (.lst (.cons (.con (.int 5)) .nil)) (.cons (.lst .nil) .nil))) (.cons (.call 32 (.cons (.tup .nil) (.cons (.tup (.cons (.con (.int 0)) (.cons (.con (.int 0)) .nil))) .nil))) .nil)))))))) (.cons (.asg [] 2 false (.op .add (.var 2) (.lst (.cons (.tup (.cons (.neg (.con (.int 1))) (.cons (.con (.int 1)) .nil))) (.cons (.op .mul (.tup (.cons (.con (.int 1)) .nil)) (.con (.int 40))) (.cons (.tup (.cons (.con (.int 6)) (.cons (.con (.int 3)) (.cons (.neg (.con (.int 8))) .nil)))) (.cons (.tup (.cons (.con (.int 5)) .nil)) (.cons (.tup (.cons (.con (.int 0)) (.cons (.con (.int 0)) .nil))) .nil)))))))) (.cons (.asg [] 1 false (.op .add (.var 1) (.lst (.cons (.call 33 (.cons (.tup (.cons (.con (.int 1)) (.cons (.con (.int 2)) (.cons (.con (.int 3)) .nil)))) (.cons (.tup (.cons (.con (.int 0)) (.cons (.con (.int 2)) .nil))) .nil))) (.cons (.callK 33 0 .nil (.cons (.lst .nil) (.cons (.lst (.cons (.con (.int 7)) .nil)) .nil))) (.cons (.call 34 (.cons (.tup (.cons (.con (.int 7)) (.cons (.con (.int 8)) (.cons (.con (.int 9)) .nil)))) (.cons (.tup (.cons (.con (.int 2)) (.cons (.con (.int 0)) (.cons (.con (.int 1)) .nil)))) .nil))) (.cons (.callK 34 1 .nil (.cons (.lst (.cons (.con (.int 0)) .nil)) (.cons (.lst (.cons (.con (.int 7)) .nil)) .nil))) (.cons (.call 35 (.cons (.tup (.cons (.con (.int 1)) (.cons (.con (.int 2)) .nil))) (.cons (.tup (.cons (.con (.int 0)) (.cons (.neg (.con (.int 5))) .nil))) .nil))) (.cons (.callK 35 2 .nil (.cons (.lst (.cons (.con (.int 1)) .nil)) (.cons (.lst (.cons (.con (.int 2)) .nil)) .nil))) .nil))))))))) (.cons (.asg [] 2 false (.op .add (.var 2) (.lst (.cons (.tup (.cons (.neg (.con (.int 1))) (.cons (.con (.int 2)) (.cons (.neg (.con (.int 3))) .nil)))) (.cons (.tup (.cons (.con (.int 7)) .nil)) (.cons (.tup (.cons (.con (.int 9)) (.cons (.con (.int 7)) (.cons (.con (.int 8)) .nil)))) (.cons (.tup (.cons (.con (.int 7)) .nil)) (.cons (.tup (.cons (.con (.int 1)) (.cons (.neg (.con (.int 3))) .nil))) (.cons (.tup (.cons (.con (.int 3)) .nil)) .nil))))))))) (.cons (.ret [] (.call 42 (.cons (.var 1) (.cons (.var 2) .nil)))) .nil))))))))⟩
/-- _law_drawn_right: tin many_so lot_so worths_so got due hold_so known_so own_so part_so line_so cost_so dear_so soft_so tops_so plan_so places_so held_so most_so far_so both_so own k price_so at_so a_so b_so bit_so -/
def d55 : Fd := ⟨2, 26, (.cons (.asg [] 2 false (.call 50 (.cons (.var 0) (.cons (.var 1) (.cons (.con (.int 20)) .nil))))) (.cons (.asgT [] (.t2 (.nm 11) (.nm 12)) (.tup (.cons (.call 51 (.cons (.var 0) (.cons (.var 1) .nil))) (.cons (.call 51 (.cons (.var 0) (.cons (.var 1) .nil))) .nil)))) (.cons (.par2 [] 13 false (.call 41 (.cons (.var 2) .nil)) 14 false (.call 53 (.cons (.var 2) (.cons (.var 11) .nil)))) (.cons (.asgT [] (.t2 (.nm 15) (.nm 16)) (.tup (.cons (.call 39 (.cons (.var 0) (.cons (.var 2) .nil))) (.cons (.call 43 (.cons (.call 40 (.cons (.var 0) (.cons (.bi .listRange (.cons (.var 1) .nil)) (.cons (.call 37 (.cons (.var 0) (.cons (.op .add (.var 1) (.con (.int 1))) .nil))) .nil)))) .nil)) .nil)))) (.cons (.asg [] 3 false (.bi .sortedSet (.cons (.comp [21] (.nm 21) (.seq (.var 2)) (.con (.bl true)) (.call 44 (.cons (.var 21) (.cons (.var 11) .nil)))) .nil))) (.cons (.asg [] 4 false (.lst (.cons (.call 28 (.cons (.var 15) (.cons (.bi .list (.cons (.var 11) .nil)) .nil))) (.cons (.call 29 (.cons (.var 13) (.cons (.var 11) .nil))) (.cons (.call 30 (.cons (.var 2) (.cons (.bi .list (.cons (.var 11) .nil)) .nil))) (.cons (.call 53 (.cons (.var 2) (.cons (.call 31 (.cons (.var 15) .nil)) .nil))) .nil)))))) (.cons (.asg [] 5 false (.lst (.cons (.call 44 (.cons (.var 15) (.cons (.var 11) .nil))) (.cons (.var 14) (.cons (.ife (.cmp .gt (.bi .len (.cons (.var 3) .nil)) (.con (.int 1))) (.op .sub (.ix (.var 3) (.neg (.con (.int 1)))) (.ix (.var 3) (.neg (.con (.int 2))))) (.con .non)) (.cons (.tup (.cons (.var 15) .nil)) .nil)))))) (.cons (.ife [] (.not (.call 42 (.cons (.var 4) (.cons (.var 5) .nil)))) (.cons (.ret [] (.con (.bl false))) .nil) .nil) (.cons (.asg [] 6 false (.bi .tuple (.cons (.comp [22] (.nm 22) (.seq (.var 16)) (.con (.bl true)) (.tup (.cons (.var 22) (.cons (.ife (.cmp .gt (.call 37 (.cons (.var 0) (.cons (.con (.int 4)) .nil))) (.con (.int 0))) (.ix (.var 15) (.var 22)) (.call 37 (.cons (.var 0) (.cons (.con (.int 2)) .nil)))) .nil)))) .nil))) (.cons (.asgT [] (.t2 (.nm 17) (.nm 18)) (.tup (.cons (.call 32 (.cons (.call 41 (.cons (.var 6) .nil)) (.cons (.var 11) .nil))) (.cons (.op .add (.con (.int 1)) (.bi .sum (.cons (.comp [22] (.nm 22) (.seq (.var 11)) (.con (.bl true)) (.bi .abs (.cons (.var 22) .nil))) .nil))) .nil)))) (.cons (.asg [] 7 false (.dict1 (.var 6))) (.cons (.asg [] 8 false (.comp [22, 23] (.t2 (.nm 22) (.nm 23)) (.enum (.var 11)) (.con (.bl true)) (.op .add (.var 23) (.ife (.dIn false (.var 22) (.var 7)) (.op .mul (.var 18) (.op .sub (.op .mul (.con (.int 2)) (.dGet (.var 7) (.var 22))) (.con (.int 1)))) (.con (.int 0)))))) (.cons (.asg [] 9 false (.comp [21] (.nm 21) (.seq (.var 2)) (.cmp .eq (.comp [22, 27] (.t2 (.nm 22) (.nm 27)) (.seq (.var 6)) (.cmp .ne (.ix (.var 21) (.var 22)) (.var 27)) (.con (.int 1))) (.lst .nil)) (.var 21))) (.cons (.ife [] (.or (.not (.call 42 (.cons (.var 17) (.cons (.bi .tuple (.cons (.var 8) .nil)) .nil)))) (.and (.cmp .ne (.var 9) (.lst .nil)) (.cmp .ne (.call 53 (.cons (.var 2) (.cons (.var 17) .nil))) (.call 53 (.cons (.var 9) (.cons (.var 11) .nil)))))) (.cons (.ret [] (.con (.bl false))) .nil) .nil) (.cons (.asg [] 10 false (.call 52 (.cons (.var 0) (.cons (.var 1) .nil)))) (.cons (.asg [] 4 false (.lst (.cons (.call 33 (.cons (.var 11) (.cons (.var 16) .nil))) (.cons (.call 34 (.cons (.var 11) (.cons (.var 10) .nil))) (.cons (.call 35 (.cons (.bi .list (.cons (.var 11) .nil)) (.cons (.var 12) .nil))) .nil))))) (.cons (.asg [] 5 false (.lst (.cons (.bi .tuple (.cons (.comp [24, 22] (.t2 (.nm 24) (.nm 22)) (.enum (.var 11)) (.con (.bl true)) (.ife (.cmp .isin (.var 24) (.var 16)) (.neg (.var 22)) (.var 22))) .nil)) (.cons (.bi .tuple (.cons (.comp [22] (.nm 22) (.seq (.var 10)) (.con (.bl true)) (.ix (.var 11) (.var 22))) .nil)) (.cons (.bi .tuple (.cons (.comp [25, 26] (.t2 (.nm 25) (.nm 26)) (.zip2 (.var 11) (.var 12)) (.con (.bl true)) (.op .add (.var 25) (.var 26))) .nil)) .nil))))) (.cons (.ife [] (.not (.call 42 (.cons (.var 4) (.cons (.var 5) .nil)))) (.cons (.ret [] (.con (.bl false))) .nil) .nil) (.cons (.asgT [] (.t2 (.nm 19) (.nm 20)) (.tup (.cons (.call 53 (.cons (.var 2) (.cons (.var 12) .nil))) (.cons (.call 53 (.cons (.var 2) (.cons (.ix (.var 4) (.con (.int 2))) .nil))) .nil)))) (.cons (.ife [] (.and (.cmp .ne (.comp [21] (.nm 21) (.seq (.var 14)) (.cmp .isin (.var 21) (.var 19)) (.var 21)) (.lst .nil)) (.cmp .ne (.bi .list (.cons (.var 20) .nil)) (.comp [21] (.nm 21) (.seq (.var 14)) (.cmp .isin (.var 21) (.var 19)) (.var 21)))) (.cons (.ret [] (.con (.bl false))) .nil) .nil) (.cons (.asg [] 4 false (.lst (.cons (.call 29 (.cons (.call 23 (.cons (.var 2) (.cons (.var 16) .nil))) (.cons (.ix (.var 4) (.con (.int 0))) .nil))) (.cons (.call 29 (.cons (.call 24 (.cons (.var 13) (.cons (.var 10) .nil))) (.cons (.ix (.var 4) (.con (.int 1))) .nil))) .nil)))) (.cons (.asg [] 5 false (.lst (.cons (.bi .tuple (.cons (.bi .sorted (.cons (.comp [21] (.nm 21) (.seq (.var 14)) (.con (.bl true)) (.call 47 (.cons (.var 21) (.cons (.var 16) .nil)))) .nil)) .nil)) (.cons (.bi .tuple (.cons (.bi .sorted (.cons (.comp [21] (.nm 21) (.seq (.var 14)) (.con (.bl true)) (.bi .tuple (.cons (.comp [22] (.nm 22) (.seq (.var 10)) (.con (.bl true)) (.ix (.var 21) (.var 22))) .nil))) .nil)) .nil)) .nil)))) (.cons (.ret [] (.call 42 (.cons (.var 4) (.cons (.var 5) .nil)))) .nil)))))))))))))))))))))))⟩
/-- law: script tin lap -/
def d56 : Fd := ⟨1, 2, (.cons (.ife [] (.not (.call 54 .nil)) (.cons (.ret [] (.con (.bl false))) .nil) .nil) (.cons (.asg [] 1 false (.call 36 (.cons (.call 38 (.cons (.var 0) (.cons (.con (.int 1)) .nil))) (.cons (.con (.int 0)) .nil)))) (.cons (.for_ [] (.nm 2) (.rng1 (.con (.int 4))) (.cons (.ife [] (.not (.call 55 (.cons (.var 1) (.cons (.op .add (.con (.int 1)) (.call 37 (.cons (.var 1) (.cons (.con (.int 5)) .nil)))) .nil)))) (.cons (.ret [] (.con (.bl false))) .nil) .nil) .nil)) (.cons (.ret [] (.con (.bl true))) .nil))))⟩
def prog : List Fd := [d0, d1, d2, d3, d4, d5, d6, d7, d8, d9, d10, d11, d12, d13, d14, d15, d16, d17, d18, d19, d20, d21, d22, d23, d24, d25, d26, d27, d28, d29, d30, d31, d32, d33, d34, d35, d36, d37, d38, d39, d40, d41, d42, d43, d44, d45, d46, d47, d48, d49, d50, d51, d52, d53, d54, d55, d56]
def kws : List (List Nat) := [[1, 0], [1, 0], [1, 0], [0], [1, 0], [1, 0], [1, 0], [1, 0]]
end K03

end
section
set_option Elab.async false
set_option linter.all false
set_option maxRecDepth 100000
set_option maxHeartbeats 0
namespace K03
open Ev PySem
def top (i : Nat) : PySem.Stmt := PySem.Challenge.pw_fromanytoany_k03_whole_prices.main.body.getD i (.Pass ⟨0, 0, 0, 0⟩)
def fns : List FnE := [⟨PySem.Str.ofString "is_number", 1⟩, ⟨PySem.Str.ofString "is_within", 3⟩, ⟨PySem.Str.ofString "is_long", 2⟩, ⟨PySem.Str.ofString "tupled", 1⟩, ⟨PySem.Str.ofString "ascends", 1⟩, ⟨PySem.Str.ofString "set_of", 1⟩, ⟨PySem.Str.ofString "are_numbers", 1⟩, ⟨PySem.Str.ofString "is_set_below", 2⟩, ⟨PySem.Str.ofString "are_unlike", 2⟩, ⟨PySem.Str.ofString "dotted", 2⟩, ⟨PySem.Str.ofString "is_plan", 1⟩, ⟨PySem.Str.ofString "sure_plan", 1⟩, ⟨PySem.Str.ofString "sure_places", 2⟩, ⟨PySem.Str.ofString "is_order_of", 2⟩, ⟨PySem.Str.ofString "sure_order", 2⟩, ⟨PySem.Str.ofString "is_row", 1⟩, ⟨PySem.Str.ofString "is_hold_of", 2⟩, ⟨PySem.Str.ofString "sure_hold", 2⟩, ⟨PySem.Str.ofString "plan_turned", 2⟩, ⟨PySem.Str.ofString "is_lot", 1⟩, ⟨PySem.Str.ofString "sure_lot", 1⟩, ⟨PySem.Str.ofString "lot_by", 1⟩, ⟨PySem.Str.ofString "folded", 2⟩, ⟨PySem.Str.ofString "turned_lot", 2⟩, ⟨PySem.Str.ofString "moved_lot", 2⟩, ⟨PySem.Str.ofString "sure_prices", 2⟩, ⟨PySem.Str.ofString "best_by", 2⟩, ⟨PySem.Str.ofString "held_prices", 2⟩, ⟨PySem.Str.ofString "worth", 2⟩, ⟨PySem.Str.ofString "best", 2⟩, ⟨PySem.Str.ofString "gap", 2⟩, ⟨PySem.Str.ofString "alone_prices", 1⟩, ⟨PySem.Str.ofString "holding", 2⟩, ⟨PySem.Str.ofString "turned_prices", 2⟩, ⟨PySem.Str.ofString "moved_prices", 2⟩, ⟨PySem.Str.ofString "added_prices", 2⟩, ⟨PySem.Str.ofString "_law_box", 2⟩, ⟨PySem.Str.ofString "_law_take", 2⟩, ⟨PySem.Str.ofString "_law_cells", 2⟩, ⟨PySem.Str.ofString "_law_of", 2⟩, ⟨PySem.Str.ofString "_law_pick", 3⟩, ⟨PySem.Str.ofString "_law_lists", 1⟩, ⟨PySem.Str.ofString "_law_same", 2⟩, ⟨PySem.Str.ofString "_law_set", 1⟩, ⟨PySem.Str.ofString "_law_dot", 2⟩, ⟨PySem.Str.ofString "_law_plan", 2⟩, ⟨PySem.Str.ofString "_law_every", 1⟩, ⟨PySem.Str.ofString "_law_turn", 2⟩, ⟨PySem.Str.ofString "_law_box_by", 2⟩, ⟨PySem.Str.ofString "_law_drawn_parts", 3⟩, ⟨PySem.Str.ofString "_law_lot", 3⟩, ⟨PySem.Str.ofString "_law_cost", 2⟩, ⟨PySem.Str.ofString "_law_line", 2⟩, ⟨PySem.Str.ofString "_law_tops", 2⟩, ⟨PySem.Str.ofString "_law_by_hand_right", 0⟩, ⟨PySem.Str.ofString "_law_drawn_right", 2⟩, ⟨PySem.Str.ofString "law", 1⟩]
def ds : List Dd := [⟨PySem.Str.ofString "is_number", top 3, [PySem.Str.ofString "thing"], 1⟩, ⟨PySem.Str.ofString "is_within", top 4, [PySem.Str.ofString "thing", PySem.Str.ofString "least", PySem.Str.ofString "most"], 3⟩, ⟨PySem.Str.ofString "is_long", top 5, [PySem.Str.ofString "thing", PySem.Str.ofString "length"], 2⟩, ⟨PySem.Str.ofString "tupled", top 6, [PySem.Str.ofString "value", PySem.Str.ofString "own"], 1⟩, ⟨PySem.Str.ofString "ascends", top 7, [PySem.Str.ofString "row", PySem.Str.ofString "k"], 1⟩, ⟨PySem.Str.ofString "set_of", top 8, [PySem.Str.ofString "row"], 1⟩, ⟨PySem.Str.ofString "are_numbers", top 9, [PySem.Str.ofString "thing", PySem.Str.ofString "own"], 1⟩, ⟨PySem.Str.ofString "is_set_below", top 10, [PySem.Str.ofString "thing", PySem.Str.ofString "many", PySem.Str.ofString "own"], 2⟩, ⟨PySem.Str.ofString "are_unlike", top 11, [PySem.Str.ofString "thing", PySem.Str.ofString "many"], 2⟩, ⟨PySem.Str.ofString "dotted", top 12, [PySem.Str.ofString "one", PySem.Str.ofString "other", PySem.Str.ofString "a", PySem.Str.ofString "b"], 2⟩, ⟨PySem.Str.ofString "is_plan", top 15, [PySem.Str.ofString "thing", PySem.Str.ofString "own"], 1⟩, ⟨PySem.Str.ofString "sure_plan", top 16, [PySem.Str.ofString "plan", PySem.Str.ofString "own"], 1⟩, ⟨PySem.Str.ofString "sure_places", top 17, [PySem.Str.ofString "places", PySem.Str.ofString "many", PySem.Str.ofString "own"], 2⟩, ⟨PySem.Str.ofString "is_order_of", top 18, [PySem.Str.ofString "thing", PySem.Str.ofString "many"], 2⟩, ⟨PySem.Str.ofString "sure_order", top 19, [PySem.Str.ofString "order", PySem.Str.ofString "many", PySem.Str.ofString "own"], 2⟩, ⟨PySem.Str.ofString "is_row", top 20, [PySem.Str.ofString "thing", PySem.Str.ofString "own"], 1⟩, ⟨PySem.Str.ofString "is_hold_of", top 21, [PySem.Str.ofString "thing", PySem.Str.ofString "many", PySem.Str.ofString "place", PySem.Str.ofString "bit", PySem.Str.ofString "own"], 2⟩, ⟨PySem.Str.ofString "sure_hold", top 22, [PySem.Str.ofString "hold", PySem.Str.ofString "many", PySem.Str.ofString "own"], 2⟩, ⟨PySem.Str.ofString "plan_turned", top 23, [PySem.Str.ofString "plan", PySem.Str.ofString "places", PySem.Str.ofString "place", PySem.Str.ofString "bit"], 2⟩, ⟨PySem.Str.ofString "is_lot", top 25, [PySem.Str.ofString "thing"], 1⟩, ⟨PySem.Str.ofString "sure_lot", top 26, [PySem.Str.ofString "lot", PySem.Str.ofString "own"], 1⟩, ⟨PySem.Str.ofString "lot_by", top 27, [PySem.Str.ofString "plans"], 1⟩, ⟨PySem.Str.ofString "folded", top 28, [PySem.Str.ofString "plan", PySem.Str.ofString "places", PySem.Str.ofString "place"], 2⟩, ⟨PySem.Str.ofString "turned_lot", top 29, [PySem.Str.ofString "lot", PySem.Str.ofString "places", PySem.Str.ofString "own", PySem.Str.ofString "told", PySem.Str.ofString "plan"], 2⟩, ⟨PySem.Str.ofString "moved_lot", top 30, [PySem.Str.ofString "lot", PySem.Str.ofString "order", PySem.Str.ofString "own", PySem.Str.ofString "told", PySem.Str.ofString "plan"], 2⟩, ⟨PySem.Str.ofString "sure_prices", top 32, [PySem.Str.ofString "prices", PySem.Str.ofString "many", PySem.Str.ofString "own"], 2⟩, ⟨PySem.Str.ofString "best_by", top 33, [PySem.Str.ofString "lot", PySem.Str.ofString "prices", PySem.Str.ofString "worths", PySem.Str.ofString "most", PySem.Str.ofString "plan", PySem.Str.ofString "own"], 2⟩, ⟨PySem.Str.ofString "held_prices", top 34, [PySem.Str.ofString "hold", PySem.Str.ofString "prices", PySem.Str.ofString "most", PySem.Str.ofString "found", PySem.Str.ofString "place", PySem.Str.ofString "bit", PySem.Str.ofString "own"], 2⟩, ⟨PySem.Str.ofString "worth", top 35, [PySem.Str.ofString "plan", PySem.Str.ofString "prices", PySem.Str.ofString "own"], 2⟩, ⟨PySem.Str.ofString "best", top 36, [PySem.Str.ofString "lot", PySem.Str.ofString "prices", PySem.Str.ofString "own"], 2⟩, ⟨PySem.Str.ofString "gap", top 37, [PySem.Str.ofString "lot", PySem.Str.ofString "prices", PySem.Str.ofString "own", PySem.Str.ofString "told", PySem.Str.ofString "worths", PySem.Str.ofString "plan"], 2⟩, ⟨PySem.Str.ofString "alone_prices", top 38, [PySem.Str.ofString "plan", PySem.Str.ofString "bit"], 1⟩, ⟨PySem.Str.ofString "holding", top 39, [PySem.Str.ofString "hold", PySem.Str.ofString "prices", PySem.Str.ofString "own"], 2⟩, ⟨PySem.Str.ofString "turned_prices", top 40, [PySem.Str.ofString "prices", PySem.Str.ofString "places", PySem.Str.ofString "own", PySem.Str.ofString "told", PySem.Str.ofString "place", PySem.Str.ofString "price"], 2⟩, ⟨PySem.Str.ofString "moved_prices", top 41, [PySem.Str.ofString "prices", PySem.Str.ofString "order", PySem.Str.ofString "own"], 2⟩, ⟨PySem.Str.ofString "added_prices", top 42, [PySem.Str.ofString "prices", PySem.Str.ofString "other", PySem.Str.ofString "own", PySem.Str.ofString "one", PySem.Str.ofString "two"], 2⟩, ⟨PySem.Str.ofString "_law_box", top 44, [PySem.Str.ofString "script", PySem.Str.ofString "k", PySem.Str.ofString "bit_so"], 2⟩, ⟨PySem.Str.ofString "_law_take", top 45, [PySem.Str.ofString "tin", PySem.Str.ofString "below_so", PySem.Str.ofString "once_so", PySem.Str.ofString "wide_so", PySem.Str.ofString "twice_so", PySem.Str.ofString "drawn_so"], 2⟩, ⟨PySem.Str.ofString "_law_cells", top 46, [PySem.Str.ofString "script", PySem.Str.ofString "most_so", PySem.Str.ofString "cells_so", PySem.Str.ofString "k", PySem.Str.ofString "bit_so", PySem.Str.ofString "at_so"], 2⟩, ⟨PySem.Str.ofString "_law_of", top 47, [PySem.Str.ofString "tin", PySem.Str.ofString "goods_so"], 2⟩, ⟨PySem.Str.ofString "_law_pick", top 48, [PySem.Str.ofString "tin", PySem.Str.ofString "goods_so", PySem.Str.ofString "count_so", PySem.Str.ofString "lap", PySem.Str.ofString "pool_so", PySem.Str.ofString "found"], 3⟩, ⟨PySem.Str.ofString "_law_lists", top 49, [PySem.Str.ofString "matter", PySem.Str.ofString "bit"], 1⟩, ⟨PySem.Str.ofString "_law_same", top 50, [PySem.Str.ofString "got", PySem.Str.ofString "due", PySem.Str.ofString "mine", PySem.Str.ofString "its"], 2⟩, ⟨PySem.Str.ofString "_law_set", top 51, [PySem.Str.ofString "goods_so"], 1⟩, ⟨PySem.Str.ofString "_law_dot", top 52, [PySem.Str.ofString "one", PySem.Str.ofString "two", PySem.Str.ofString "a_so", PySem.Str.ofString "b_so"], 2⟩, ⟨PySem.Str.ofString "_law_plan", top 53, [PySem.Str.ofString "bits_so", PySem.Str.ofString "many_so", PySem.Str.ofString "k"], 2⟩, ⟨PySem.Str.ofString "_law_every", top 54, [PySem.Str.ofString "many_so", PySem.Str.ofString "k"], 1⟩, ⟨PySem.Str.ofString "_law_turn", top 55, [PySem.Str.ofString "plan_so", PySem.Str.ofString "places_so", PySem.Str.ofString "k", PySem.Str.ofString "bit_so"], 2⟩, ⟨PySem.Str.ofString "_law_box_by", top 56, [PySem.Str.ofString "plan_so", PySem.Str.ofString "parts_so", PySem.Str.ofString "found", PySem.Str.ofString "own", PySem.Str.ofString "its"], 2⟩, ⟨PySem.Str.ofString "_law_drawn_parts", top 57, [PySem.Str.ofString "tin", PySem.Str.ofString "many_so", PySem.Str.ofString "most_so", PySem.Str.ofString "parts_so", PySem.Str.ofString "k", PySem.Str.ofString "at_so", PySem.Str.ofString "own"], 3⟩, ⟨PySem.Str.ofString "_law_lot", top 58, [PySem.Str.ofString "tin", PySem.Str.ofString "many_so", PySem.Str.ofString "most_so", PySem.Str.ofString "kind_so", PySem.Str.ofString "all_so", PySem.Str.ofString "found", PySem.Str.ofString "parts_so", PySem.Str.ofString "turn_so", PySem.Str.ofString "many", PySem.Str.ofString "places_so", PySem.Str.ofString "own"], 3⟩, ⟨PySem.Str.ofString "_law_cost", top 59, [PySem.Str.ofString "tin", PySem.Str.ofString "many_so", PySem.Str.ofString "size_so", PySem.Str.ofString "k"], 2⟩, ⟨PySem.Str.ofString "_law_line", top 60, [PySem.Str.ofString "tin", PySem.Str.ofString "many_so"], 2⟩, ⟨PySem.Str.ofString "_law_tops", top 61, [PySem.Str.ofString "lot_so", PySem.Str.ofString "cost_so", PySem.Str.ofString "worths_so", PySem.Str.ofString "own", PySem.Str.ofString "its"], 2⟩, ⟨PySem.Str.ofString "_law_by_hand_right", top 62, [PySem.Str.ofString "trio", PySem.Str.ofString "got", PySem.Str.ofString "due"], 0⟩, ⟨PySem.Str.ofString "_law_drawn_right", top 63, [PySem.Str.ofString "tin", PySem.Str.ofString "many_so", PySem.Str.ofString "lot_so", PySem.Str.ofString "worths_so", PySem.Str.ofString "got", PySem.Str.ofString "due", PySem.Str.ofString "hold_so", PySem.Str.ofString "known_so", PySem.Str.ofString "own_so", PySem.Str.ofString "part_so", PySem.Str.ofString "line_so", PySem.Str.ofString "cost_so", PySem.Str.ofString "dear_so", PySem.Str.ofString "soft_so", PySem.Str.ofString "tops_so", PySem.Str.ofString "plan_so", PySem.Str.ofString "places_so", PySem.Str.ofString "held_so", PySem.Str.ofString "most_so", PySem.Str.ofString "far_so", PySem.Str.ofString "both_so", PySem.Str.ofString "own", PySem.Str.ofString "k", PySem.Str.ofString "price_so", PySem.Str.ofString "at_so", PySem.Str.ofString "a_so", PySem.Str.ofString "b_so", PySem.Str.ofString "bit_so"], 2⟩, ⟨PySem.Str.ofString "law", top 64, [PySem.Str.ofString "script", PySem.Str.ofString "tin", PySem.Str.ofString "lap"], 1⟩]
def kwE : List KwE := [⟨33, 0, [PySem.Str.ofString "places", PySem.Str.ofString "prices"]⟩, ⟨34, 0, [PySem.Str.ofString "order", PySem.Str.ofString "prices"]⟩, ⟨35, 0, [PySem.Str.ofString "other", PySem.Str.ofString "prices"]⟩, ⟨31, 0, [PySem.Str.ofString "plan"]⟩, ⟨32, 0, [PySem.Str.ofString "prices", PySem.Str.ofString "hold"]⟩, ⟨28, 0, [PySem.Str.ofString "prices", PySem.Str.ofString "plan"]⟩, ⟨29, 0, [PySem.Str.ofString "prices", PySem.Str.ofString "lot"]⟩, ⟨30, 0, [PySem.Str.ofString "prices", PySem.Str.ofString "lot"]⟩]
def cons : List (PySem.Str × U) := [(PySem.Str.ofString "LONGEST", (.int 40))]
def dfs : List (Nat × List U) := [(25, [.non])]
def T : Tb := ⟨fns, kwE, cons, dfs⟩
theorem chk : chkAll T T.fns ds prog = true := by decide +kernel
end K03

end
section
set_option Elab.async false
set_option linter.all false
set_option maxRecDepth 100000
set_option maxHeartbeats 0
namespace K03
open Ev PySem
theorem b0 : Bn (ds[0]) := ⟨fun _ _ _ _ _ _ us hl => match us, hl with | [_], _ => rfl⟩
theorem b1 : Bn (ds[1]) := ⟨fun _ _ _ _ _ _ us hl => match us, hl with | [_, _, _], _ => rfl⟩
theorem b2 : Bn (ds[2]) := ⟨fun _ _ _ _ _ _ us hl => match us, hl with | [_, _], _ => rfl⟩
theorem b3 : Bn (ds[3]) := ⟨fun _ _ _ _ _ _ us hl => match us, hl with | [_], _ => rfl⟩
theorem b4 : Bn (ds[4]) := ⟨fun _ _ _ _ _ _ us hl => match us, hl with | [_], _ => rfl⟩
theorem b5 : Bn (ds[5]) := ⟨fun _ _ _ _ _ _ us hl => match us, hl with | [_], _ => rfl⟩
theorem b6 : Bn (ds[6]) := ⟨fun _ _ _ _ _ _ us hl => match us, hl with | [_], _ => rfl⟩
theorem b7 : Bn (ds[7]) := ⟨fun _ _ _ _ _ _ us hl => match us, hl with | [_, _], _ => rfl⟩
theorem b8 : Bn (ds[8]) := ⟨fun _ _ _ _ _ _ us hl => match us, hl with | [_, _], _ => rfl⟩
theorem b9 : Bn (ds[9]) := ⟨fun _ _ _ _ _ _ us hl => match us, hl with | [_, _], _ => rfl⟩
theorem b10 : Bn (ds[10]) := ⟨fun _ _ _ _ _ _ us hl => match us, hl with | [_], _ => rfl⟩
theorem b11 : Bn (ds[11]) := ⟨fun _ _ _ _ _ _ us hl => match us, hl with | [_], _ => rfl⟩
theorem b12 : Bn (ds[12]) := ⟨fun _ _ _ _ _ _ us hl => match us, hl with | [_, _], _ => rfl⟩
theorem b13 : Bn (ds[13]) := ⟨fun _ _ _ _ _ _ us hl => match us, hl with | [_, _], _ => rfl⟩
theorem b14 : Bn (ds[14]) := ⟨fun _ _ _ _ _ _ us hl => match us, hl with | [_, _], _ => rfl⟩
theorem b15 : Bn (ds[15]) := ⟨fun _ _ _ _ _ _ us hl => match us, hl with | [_], _ => rfl⟩
theorem b16 : Bn (ds[16]) := ⟨fun _ _ _ _ _ _ us hl => match us, hl with | [_, _], _ => rfl⟩
theorem b17 : Bn (ds[17]) := ⟨fun _ _ _ _ _ _ us hl => match us, hl with | [_, _], _ => rfl⟩
theorem b18 : Bn (ds[18]) := ⟨fun _ _ _ _ _ _ us hl => match us, hl with | [_, _], _ => rfl⟩
theorem b19 : Bn (ds[19]) := ⟨fun _ _ _ _ _ _ us hl => match us, hl with | [_], _ => rfl⟩
theorem b20 : Bn (ds[20]) := ⟨fun _ _ _ _ _ _ us hl => match us, hl with | [_], _ => rfl⟩
theorem b21 : Bn (ds[21]) := ⟨fun _ _ _ _ _ _ us hl => match us, hl with | [_], _ => rfl⟩
theorem b22 : Bn (ds[22]) := ⟨fun _ _ _ _ _ _ us hl => match us, hl with | [_, _], _ => rfl⟩
theorem b23 : Bn (ds[23]) := ⟨fun _ _ _ _ _ _ us hl => match us, hl with | [_, _], _ => rfl⟩
theorem b24 : Bn (ds[24]) := ⟨fun _ _ _ _ _ _ us hl => match us, hl with | [_, _], _ => rfl⟩
theorem b25 : BnX T 25 (ds[25]) := ⟨⟨fun j hj TT kV doc pm an cdv ct us its h1 h2 => by
  match j, hj, us, its, h1, h2 with
  | 0, _, [u0], [x0], _, _ => exact ⟨_, rfl, rfl⟩
  | 1, _, [u0, u1], [x0], _, _ => exact ⟨_, rfl, rfl⟩
  ⟩, by decide, rfl⟩
theorem b26 : Bn (ds[26]) := ⟨fun _ _ _ _ _ _ us hl => match us, hl with | [_, _], _ => rfl⟩
theorem b27 : Bn (ds[27]) := ⟨fun _ _ _ _ _ _ us hl => match us, hl with | [_, _], _ => rfl⟩
theorem b28 : Bn (ds[28]) := ⟨fun _ _ _ _ _ _ us hl => match us, hl with | [_, _], _ => rfl⟩
theorem b29 : Bn (ds[29]) := ⟨fun _ _ _ _ _ _ us hl => match us, hl with | [_, _], _ => rfl⟩
theorem b30 : Bn (ds[30]) := ⟨fun _ _ _ _ _ _ us hl => match us, hl with | [_, _], _ => rfl⟩
theorem b31 : Bn (ds[31]) := ⟨fun _ _ _ _ _ _ us hl => match us, hl with | [_], _ => rfl⟩
theorem b32 : Bn (ds[32]) := ⟨fun _ _ _ _ _ _ us hl => match us, hl with | [_, _], _ => rfl⟩
theorem b33 : Bn (ds[33]) := ⟨fun _ _ _ _ _ _ us hl => match us, hl with | [_, _], _ => rfl⟩
theorem b34 : Bn (ds[34]) := ⟨fun _ _ _ _ _ _ us hl => match us, hl with | [_, _], _ => rfl⟩
theorem b35 : Bn (ds[35]) := ⟨fun _ _ _ _ _ _ us hl => match us, hl with | [_, _], _ => rfl⟩
theorem b36 : Bn (ds[36]) := ⟨fun _ _ _ _ _ _ us hl => match us, hl with | [_, _], _ => rfl⟩
theorem b37 : Bn (ds[37]) := ⟨fun _ _ _ _ _ _ us hl => match us, hl with | [_, _], _ => rfl⟩
theorem b38 : Bn (ds[38]) := ⟨fun _ _ _ _ _ _ us hl => match us, hl with | [_, _], _ => rfl⟩
theorem b39 : Bn (ds[39]) := ⟨fun _ _ _ _ _ _ us hl => match us, hl with | [_, _], _ => rfl⟩
theorem b40 : Bn (ds[40]) := ⟨fun _ _ _ _ _ _ us hl => match us, hl with | [_, _, _], _ => rfl⟩
theorem b41 : Bn (ds[41]) := ⟨fun _ _ _ _ _ _ us hl => match us, hl with | [_], _ => rfl⟩
theorem b42 : Bn (ds[42]) := ⟨fun _ _ _ _ _ _ us hl => match us, hl with | [_, _], _ => rfl⟩
theorem b43 : Bn (ds[43]) := ⟨fun _ _ _ _ _ _ us hl => match us, hl with | [_], _ => rfl⟩
theorem b44 : Bn (ds[44]) := ⟨fun _ _ _ _ _ _ us hl => match us, hl with | [_, _], _ => rfl⟩
theorem b45 : Bn (ds[45]) := ⟨fun _ _ _ _ _ _ us hl => match us, hl with | [_, _], _ => rfl⟩
theorem b46 : Bn (ds[46]) := ⟨fun _ _ _ _ _ _ us hl => match us, hl with | [_], _ => rfl⟩
theorem b47 : Bn (ds[47]) := ⟨fun _ _ _ _ _ _ us hl => match us, hl with | [_, _], _ => rfl⟩
theorem b48 : Bn (ds[48]) := ⟨fun _ _ _ _ _ _ us hl => match us, hl with | [_, _], _ => rfl⟩
theorem b49 : Bn (ds[49]) := ⟨fun _ _ _ _ _ _ us hl => match us, hl with | [_, _, _], _ => rfl⟩
theorem b50 : Bn (ds[50]) := ⟨fun _ _ _ _ _ _ us hl => match us, hl with | [_, _, _], _ => rfl⟩
theorem b51 : Bn (ds[51]) := ⟨fun _ _ _ _ _ _ us hl => match us, hl with | [_, _], _ => rfl⟩
theorem b52 : Bn (ds[52]) := ⟨fun _ _ _ _ _ _ us hl => match us, hl with | [_, _], _ => rfl⟩
theorem b53 : Bn (ds[53]) := ⟨fun _ _ _ _ _ _ us hl => match us, hl with | [_, _], _ => rfl⟩
theorem b54 : Bn (ds[54]) := ⟨fun _ _ _ _ _ _ us hl => match us, hl with | [], _ => rfl⟩
theorem b55 : Bn (ds[55]) := ⟨fun _ _ _ _ _ _ us hl => match us, hl with | [_, _], _ => rfl⟩
theorem b56 : Bn (ds[56]) := ⟨fun _ _ _ _ _ _ us hl => match us, hl with | [_], _ => rfl⟩
theorem allB : AllX T 0 ds := ⟨b0, b1, b2, b3, b4, b5, b6, b7, b8, b9, b10, b11, b12, b13, b14, b15, b16, b17, b18, b19, b20, b21, b22, b23, b24, b25, b26, b27, b28, b29, b30, b31, b32, b33, b34, b35, b36, b37, b38, b39, b40, b41, b42, b43, b44, b45, b46, b47, b48, b49, b50, b51, b52, b53, b54, b55, b56, trivial⟩
def g0 {α : Type} : List α → List α → List α
  | [], [w0, w1] => [w1, w0]
  | _, _ => []
theorem kn0 : Kn (ds[33]) ⟨33, 0, [PySem.Str.ofString "places", PySem.Str.ofString "prices"]⟩ [1, 0] := ⟨g0, g0, fun _ _ _ _ _ _ us ws hl => by
  rcases us with _ | _
  all_goals rcases ws with _ | ⟨w0, _ | ⟨w1, _ | _⟩⟩
  all_goals first | (cases hl; done) | rfl,
  fun r1 r2 => by
  rcases r1 with _ | _
  all_goals rcases r2 with _ | ⟨_, _ | ⟨_, _ | _⟩⟩
  all_goals first | exact .nil | exact .cons (by assumption) (.cons (by assumption) .nil),
  fun K H m al us ws vs zs xs e1 e2 r1 r2 e3 => by
  match us, ws, e1, e2, r1, r2, e3 with
  | [], [w0, w1], _, _, .nil, .cons rw0 (.cons rw1 .nil), e3 =>
    cases e3
    exact ⟨rfl, .cons rw1 (.cons rw0 .nil)⟩⟩
def g1 {α : Type} : List α → List α → List α
  | [], [w0, w1] => [w1, w0]
  | _, _ => []
theorem kn1 : Kn (ds[34]) ⟨34, 0, [PySem.Str.ofString "order", PySem.Str.ofString "prices"]⟩ [1, 0] := ⟨g1, g1, fun _ _ _ _ _ _ us ws hl => by
  rcases us with _ | _
  all_goals rcases ws with _ | ⟨w0, _ | ⟨w1, _ | _⟩⟩
  all_goals first | (cases hl; done) | rfl,
  fun r1 r2 => by
  rcases r1 with _ | _
  all_goals rcases r2 with _ | ⟨_, _ | ⟨_, _ | _⟩⟩
  all_goals first | exact .nil | exact .cons (by assumption) (.cons (by assumption) .nil),
  fun K H m al us ws vs zs xs e1 e2 r1 r2 e3 => by
  match us, ws, e1, e2, r1, r2, e3 with
  | [], [w0, w1], _, _, .nil, .cons rw0 (.cons rw1 .nil), e3 =>
    cases e3
    exact ⟨rfl, .cons rw1 (.cons rw0 .nil)⟩⟩
def g2 {α : Type} : List α → List α → List α
  | [], [w0, w1] => [w1, w0]
  | _, _ => []
theorem kn2 : Kn (ds[35]) ⟨35, 0, [PySem.Str.ofString "other", PySem.Str.ofString "prices"]⟩ [1, 0] := ⟨g2, g2, fun _ _ _ _ _ _ us ws hl => by
  rcases us with _ | _
  all_goals rcases ws with _ | ⟨w0, _ | ⟨w1, _ | _⟩⟩
  all_goals first | (cases hl; done) | rfl,
  fun r1 r2 => by
  rcases r1 with _ | _
  all_goals rcases r2 with _ | ⟨_, _ | ⟨_, _ | _⟩⟩
  all_goals first | exact .nil | exact .cons (by assumption) (.cons (by assumption) .nil),
  fun K H m al us ws vs zs xs e1 e2 r1 r2 e3 => by
  match us, ws, e1, e2, r1, r2, e3 with
  | [], [w0, w1], _, _, .nil, .cons rw0 (.cons rw1 .nil), e3 =>
    cases e3
    exact ⟨rfl, .cons rw1 (.cons rw0 .nil)⟩⟩
def g3 {α : Type} : List α → List α → List α
  | [], [w0] => [w0]
  | _, _ => []
theorem kn3 : Kn (ds[31]) ⟨31, 0, [PySem.Str.ofString "plan"]⟩ [0] := ⟨g3, g3, fun _ _ _ _ _ _ us ws hl => by
  rcases us with _ | _
  all_goals rcases ws with _ | ⟨w0, _ | _⟩
  all_goals first | (cases hl; done) | rfl,
  fun r1 r2 => by
  rcases r1 with _ | _
  all_goals rcases r2 with _ | ⟨_, _ | _⟩
  all_goals first | exact .nil | exact .cons (by assumption) .nil,
  fun K H m al us ws vs zs xs e1 e2 r1 r2 e3 => by
  match us, ws, e1, e2, r1, r2, e3 with
  | [], [w0], _, _, .nil, .cons rw0 .nil, e3 =>
    cases e3
    exact ⟨rfl, .cons rw0 .nil⟩⟩
def g4 {α : Type} : List α → List α → List α
  | [], [w0, w1] => [w1, w0]
  | _, _ => []
theorem kn4 : Kn (ds[32]) ⟨32, 0, [PySem.Str.ofString "prices", PySem.Str.ofString "hold"]⟩ [1, 0] := ⟨g4, g4, fun _ _ _ _ _ _ us ws hl => by
  rcases us with _ | _
  all_goals rcases ws with _ | ⟨w0, _ | ⟨w1, _ | _⟩⟩
  all_goals first | (cases hl; done) | rfl,
  fun r1 r2 => by
  rcases r1 with _ | _
  all_goals rcases r2 with _ | ⟨_, _ | ⟨_, _ | _⟩⟩
  all_goals first | exact .nil | exact .cons (by assumption) (.cons (by assumption) .nil),
  fun K H m al us ws vs zs xs e1 e2 r1 r2 e3 => by
  match us, ws, e1, e2, r1, r2, e3 with
  | [], [w0, w1], _, _, .nil, .cons rw0 (.cons rw1 .nil), e3 =>
    cases e3
    exact ⟨rfl, .cons rw1 (.cons rw0 .nil)⟩⟩
def g5 {α : Type} : List α → List α → List α
  | [], [w0, w1] => [w1, w0]
  | _, _ => []
theorem kn5 : Kn (ds[28]) ⟨28, 0, [PySem.Str.ofString "prices", PySem.Str.ofString "plan"]⟩ [1, 0] := ⟨g5, g5, fun _ _ _ _ _ _ us ws hl => by
  rcases us with _ | _
  all_goals rcases ws with _ | ⟨w0, _ | ⟨w1, _ | _⟩⟩
  all_goals first | (cases hl; done) | rfl,
  fun r1 r2 => by
  rcases r1 with _ | _
  all_goals rcases r2 with _ | ⟨_, _ | ⟨_, _ | _⟩⟩
  all_goals first | exact .nil | exact .cons (by assumption) (.cons (by assumption) .nil),
  fun K H m al us ws vs zs xs e1 e2 r1 r2 e3 => by
  match us, ws, e1, e2, r1, r2, e3 with
  | [], [w0, w1], _, _, .nil, .cons rw0 (.cons rw1 .nil), e3 =>
    cases e3
    exact ⟨rfl, .cons rw1 (.cons rw0 .nil)⟩⟩
def g6 {α : Type} : List α → List α → List α
  | [], [w0, w1] => [w1, w0]
  | _, _ => []
theorem kn6 : Kn (ds[29]) ⟨29, 0, [PySem.Str.ofString "prices", PySem.Str.ofString "lot"]⟩ [1, 0] := ⟨g6, g6, fun _ _ _ _ _ _ us ws hl => by
  rcases us with _ | _
  all_goals rcases ws with _ | ⟨w0, _ | ⟨w1, _ | _⟩⟩
  all_goals first | (cases hl; done) | rfl,
  fun r1 r2 => by
  rcases r1 with _ | _
  all_goals rcases r2 with _ | ⟨_, _ | ⟨_, _ | _⟩⟩
  all_goals first | exact .nil | exact .cons (by assumption) (.cons (by assumption) .nil),
  fun K H m al us ws vs zs xs e1 e2 r1 r2 e3 => by
  match us, ws, e1, e2, r1, r2, e3 with
  | [], [w0, w1], _, _, .nil, .cons rw0 (.cons rw1 .nil), e3 =>
    cases e3
    exact ⟨rfl, .cons rw1 (.cons rw0 .nil)⟩⟩
def g7 {α : Type} : List α → List α → List α
  | [], [w0, w1] => [w1, w0]
  | _, _ => []
theorem kn7 : Kn (ds[30]) ⟨30, 0, [PySem.Str.ofString "prices", PySem.Str.ofString "lot"]⟩ [1, 0] := ⟨g7, g7, fun _ _ _ _ _ _ us ws hl => by
  rcases us with _ | _
  all_goals rcases ws with _ | ⟨w0, _ | ⟨w1, _ | _⟩⟩
  all_goals first | (cases hl; done) | rfl,
  fun r1 r2 => by
  rcases r1 with _ | _
  all_goals rcases r2 with _ | ⟨_, _ | ⟨_, _ | _⟩⟩
  all_goals first | exact .nil | exact .cons (by assumption) (.cons (by assumption) .nil),
  fun K H m al us ws vs zs xs e1 e2 r1 r2 e3 => by
  match us, ws, e1, e2, r1, r2, e3 with
  | [], [w0, w1], _, _, .nil, .cons rw0 (.cons rw1 .nil), e3 =>
    cases e3
    exact ⟨rfl, .cons rw1 (.cons rw0 .nil)⟩⟩
theorem allF : ∀ f, f ∉ T.dfs.map Prod.fst ∨ (dfOf T f).all plainDv = true := fun f => by
  by_cases h25 : f = 25
  · subst h25; exact .inr (by decide +kernel)
  exact .inl (by simp [T, dfs, h25])
theorem allK : ∀ kw ke, nth kw T.kws = some ke → ∃ d p, nth ke.f ds = some d ∧ nth kw kws = some p ∧ dfOf T ke.f = [] ∧ Kn d ke p
  | 0, ke, h => by cases h; exact ⟨_, _, rfl, rfl, rfl, kn0⟩
  | 1, ke, h => by cases h; exact ⟨_, _, rfl, rfl, rfl, kn1⟩
  | 2, ke, h => by cases h; exact ⟨_, _, rfl, rfl, rfl, kn2⟩
  | 3, ke, h => by cases h; exact ⟨_, _, rfl, rfl, rfl, kn3⟩
  | 4, ke, h => by cases h; exact ⟨_, _, rfl, rfl, rfl, kn4⟩
  | 5, ke, h => by cases h; exact ⟨_, _, rfl, rfl, rfl, kn5⟩
  | 6, ke, h => by cases h; exact ⟨_, _, rfl, rfl, rfl, kn6⟩
  | 7, ke, h => by cases h; exact ⟨_, _, rfl, rfl, rfl, kn7⟩
  | n + 8, ke, h => by
    rw [nth_get] at h
    have h1 := (List.getElem?_eq_some_iff.mp h).1
    exact absurd h1 (by show ¬ n + 8 < 8; omega)
end K03

end
section
set_option Elab.async false
set_option linter.all false
set_option maxRecDepth 100000
set_option maxHeartbeats 0
namespace K03
open PySem PySem.Spec PyProof.Rows L2 Ev
abbrev R : PySem.W.OpenRow := PySem.W.OpenLaw.row PySem.Challenge.rw_fromanytoany_k03_whole_prices
abbrev hk : PySem.W.Hook := He.hookD 4 (faOf T ds) (defsOf T ds)
def ob (s : PySem.W.SharedT) : He.AlD := He.obsDG 4 (faOf T ds) (defsOf T ds) (HandSHeadRun.getT s)
theorem ob_eq (s : PySem.W.SharedT) : ob s = hk.obs s.abs := He.obsDG_eq (HandSHeadRun.getT_eq s)
def names : List PySem.Str := R.prog.boundNames.filter fun n => n != ("law" : PySem.Str)
theorem run_head (w : World) : HandSHeadRun.RunEq R (PySem.W.view R.prog [64]) hk ob 4000 names w := by
  intro os
  kernel_rfl
end K03

end
section
set_option Elab.async false
set_option linter.all false
set_option maxRecDepth 100000
set_option maxHeartbeats 0
open PySem PySem.W PySem.Calls PyProof.Rows
/-- the law holds if the plain run says True -/
theorem k03_of (hrun : ∀ ns : List Int, ns.length ≤ 63 → (∀ k ∈ ns, Builtin.Int.intBits k ≤ 1048576) → ∃ f s', Ev.run K03.prog K03.kws 40 56 [.lst (ns.map .int)] [] = .ok ⟨.bl true, f⟩ s') : PySem.Challenge.rw_fromanytoany_k03_whole_prices.Holds := by
  w_on; o_law
  refine HandSHeadRun.head_any (r := OpenLaw.row PySem.Challenge.rw_fromanytoany_k03_whole_prices) (q := view (OpenLaw.row PySem.Challenge.rw_fromanytoany_k03_whole_prices).prog [64]) (H := K03.hk) (ob := K03.ob) (M := 4000) (loose := K03.names) (d := HandSHeadRun.topDef (OpenLaw.row PySem.Challenge.rw_fromanytoany_k03_whole_prices).prog 64) (kwd := []) K03.ob_eq
    (by kernel_rfl) (fun s => by kernel_rfl) K03.run_head (by kernel_rfl) (by kernel_rfl) (by kernel_rfl) (by rfl) (by first | assumption | decide +kernel) (by decide +kernel) ⟨rfl, rfl, rfl, rfl, rfl, by decide +kernel⟩ ?hw ?hc
  case hw => w_witness2
  case hc =>
    refine Ev.walkR (l := PySem.Challenge.rw_fromanytoany_k03_whole_prices) (n := 63) (k := 40) (x := "script") (T := K03.T) (ds := K03.ds) (Pf := K03.prog) (KW := K03.kws) (f0 := 56) (fe := K03.fns[56]) (dd := K03.ds[56]) (fd := ⟨0, 0, .nil⟩) rfl (by decide) (by kernel_rfl) ⟨rfl, by decide, by decide⟩ K03.chk rfl rfl (by decide +kernel) (by kernel_rfl) rfl ?F hrun
    intro w mg fa h Y G hmg0
    obtain ⟨K, KX, c⟩ := Y
    exact ⟨K, KX, Ev.hdOk K03.chk (by decide +kernel) K03.allB K03.allF K03.allK KX G c, fun a fdt FD s u => (L2.FunD.bindsA (ps := ["script"]) FD (K03.b56.b)) s [u] rfl⟩

end
section
set_option Elab.async false
set_option linter.all false
set_option maxRecDepth 100000
set_option maxHeartbeats 2000000
namespace Ev
open PySem
/-! ### the evaluator on values that are not known: rules -/
theorem run_at {P : List Fd} {KW : List (List Nat)} {d f : Nat} {us : List U} {s : Sto} {fd : Fd} (h : nth f P = some fd) (hl : (us.length == fd.np) = true) : run P KW (d + 1) f us s = finish (evB (run P KW d) KW fd.body (us.map .sh ++ rep [.un] fd.nl) s) := by
  simp only [run, h, hl, if_true]
theorem compL_pure {f : U → Sto → RE (Option U)} {g : U → Option U} {s : Sto} : ∀ {us : List U}, (∀ x ∈ us, f x s = .ok (g x) s) → compL f us s = .ok (us.filterMap g) s
  | [], _ => rfl
  | x :: us, h => by
    have h1 := h x List.mem_cons_self
    have h2 := compL_pure (us := us) fun y hy => h y (List.mem_cons_of_mem _ hy)
    simp only [compL, h1]
    cases q : g x with
    | none => rw [List.filterMap_cons_none q]; exact h2
    | some y => rw [List.filterMap_cons_some q]; simp only [h2]
theorem compL_map {f : U → Sto → RE (Option U)} {g : U → U} {s : Sto} {us : List U} (h : ∀ x ∈ us, f x s = .ok (some (g x)) s) : compL f us s = .ok (us.map g) s := by
  rw [compL_pure (g := fun x => some (g x)) h]
  congr 1
  induction us with
  | nil => rfl
  | cons x us ih => simp
theorem intsU_map (is : List Int) : intsU (is.map .int) = some is := by
  induction is with
  | nil => rfl
  | cons i is ih => simp only [List.map_cons, intsU, ih]
theorem boolsU_map (bs : List Bool) : boolsU (bs.map .bl) = some bs := by
  induction bs with
  | nil => rfl
  | cons i is ih => simp only [List.map_cons, boolsU, ih]
theorem all_id {α : Type} (l : List α) (p : α → Bool) : (l.map p).all id = l.all p := by
  induction l with
  | nil => rfl
  | cons x l ih => simp
/-- the value of a comprehension over known items -/
theorem ev_comp {F : CallF} {KW : List (List Nat)} {w : List Nat} {tg : Tg} {it : It} {t e : C} {ρ : Env} {s : Sto} {us : List U} {g : U → Option U} (h1 : evI F KW it ρ s = .ok us s) (hl : inLim us = true)
    (h2 : ∀ x ∈ us, ∃ ρ1, bindTg tg x (wipeE w ρ) = some ρ1 ∧ ∃ v k, evE F KW t ρ1 s = .ok v s ∧ truth v.u = some k ∧ (match k with | true => ∃ y, evE F KW e ρ1 s = .ok y s ∧ g x = some y.u | false => g x = none)) :
    evE F KW (.comp w tg it t e) ρ s = .ok ⟨.lst (us.filterMap g), true⟩ s := by
  simp only [evE, h1, RE.bind, hl]
  rw [compL_pure (g := g) fun x hx => ?_]
  obtain ⟨ρ1, e1, v, k, e2, e3, e4⟩ := h2 x hx
  simp only [e1, e2, RE.bind, e3, ofO]
  cases k with
  | true =>
    obtain ⟨y, e5, e6⟩ := e4
    simp only [e5, e6]
  | false =>
    simp only at e4
    simp only [e4]
section
variable {F : CallF} {KW : List (List Nat)} {ρ ρ1 : Env} {s s1 s2 : Sto} {v v2 r : Rv} {fz : List Nat} {e t a b : C} {st : S} {B1 B2 bb : B} {u : U}
theorem evB_nil : evB F KW .nil ρ s = .ok .nx ρ s := by simp only [evB]
theorem evB_nx (h : evS F KW st ρ s = .ok .nx ρ1 s1) : evB F KW (.cons st bb) ρ s = evB F KW bb ρ1 s1 := by simp only [evB, h]
theorem evB_ret (h : evS F KW st ρ s = .ok (.ret v) ρ1 s1) : evB F KW (.cons st bb) ρ s = .ok (.ret v) ρ1 s1 := by simp only [evB, h]
theorem evS_ret (h : evE F KW e (freeze fz ρ) s = .ok v s1) : evS F KW (.ret fz e) ρ s = .ok (.ret v) (freeze fz ρ) s1 := by simp only [evS, h, RE.st]
theorem evS_ifT (h : evE F KW t (freeze fz ρ) s = .ok v s1) (k : truth v.u = some true) : evS F KW (.ife fz t B1 B2) ρ s = evB F KW B1 (freeze fz ρ) s1 := by simp only [evS, h, RE.st, k]
theorem evS_ifF (h : evE F KW t (freeze fz ρ) s = .ok v s1) (k : truth v.u = some false) : evS F KW (.ife fz t B1 B2) ρ s = evB F KW B2 (freeze fz ρ) s1 := by simp only [evS, h, RE.st, k]
theorem evS_asg {i : Nat} {o : Bool} (h : evE F KW e (freeze fz ρ) s = .ok v s1) : evS F KW (.asg fz i o e) ρ s = .ok .nx (put i (v.slot o) (freeze fz ρ)) s1 := by simp only [evS, h, RE.st]
theorem ev_bi1 {b : Bi} (h : evE F KW e ρ s = .ok v s1) (k : biV b [v.u] = some r) : evE F KW (.bi b (.cons e .nil)) ρ s = .ok r s1 := by simp only [evE, evA, h, RE.bind, k, ofO]
theorem ev_call {f : Nat} {as : A} {us : List U} (h : evA F KW as ρ s = .ok us s1) : evE F KW (.call f as) ρ s = F f us s1 := by simp only [evE, h, RE.bind]
theorem evA_cons {as : A} {us : List U} (h : evE F KW e ρ s = .ok v s1) (k : evA F KW as ρ s1 = .ok us s2) : evA F KW (.cons e as) ρ s = .ok (v.u :: us) s2 := by simp only [evA, h, RE.bind, k]
theorem evA_nil : evA F KW .nil ρ s = .ok [] s := by simp only [evA]
theorem ev_var {i : Nat} (h : look i ρ = .sh u) : evE F KW (.var i) ρ s = .ok ⟨u, false⟩ s := by simp only [evE, h]
theorem ev_orF (h : evE F KW a ρ s = .ok v s1) (k : truth v.u = some false) : evE F KW (.or a b) ρ s = evE F KW b ρ s1 := by simp only [evE, h, RE.bind, k, ofO]
theorem ev_orT (h : evE F KW a ρ s = .ok v s1) (k : truth v.u = some true) : evE F KW (.or a b) ρ s = .ok v s1 := by simp only [evE, h, RE.bind, k, ofO]
theorem ev_andT (h : evE F KW a ρ s = .ok v s1) (k : truth v.u = some true) : evE F KW (.and a b) ρ s = evE F KW b ρ s1 := by simp only [evE, h, RE.bind, k, ofO]
theorem ev_andF (h : evE F KW a ρ s = .ok v s1) (k : truth v.u = some false) : evE F KW (.and a b) ρ s = .ok v s1 := by simp only [evE, h, RE.bind, k, ofO]
theorem ev_not {q : Bool} (h : evE F KW a ρ s = .ok v s1) (k : truth v.u = some q) : evE F KW (.not a) ρ s = .ok ⟨.bl (!q), false⟩ s1 := by simp only [evE, h, RE.bind, k, ofO]
theorem ev_cmp {o : Cmp} {q : Bool} (h : evE F KW a ρ s = .ok v s1) (h2 : evE F KW b ρ s1 = .ok v2 s2) (k : cmp2 o v.u v2.u = some q) : evE F KW (.cmp o a b) ρ s = .ok ⟨.bl q, false⟩ s2 := by simp only [evE, h, h2, RE.bind, k, ofO]
theorem ev_op {o : Op2} (h : evE F KW a ρ s = .ok v s1) (h2 : evE F KW b ρ s1 = .ok v2 s2) (k : op2 o v.u v2.u = some r) : evE F KW (.op o a b) ρ s = .ok r s2 := by simp only [evE, h, h2, RE.bind, k, ofO]
theorem ev_ifeT (h : evE F KW t ρ s = .ok v s1) (k : truth v.u = some true) : evE F KW (.ife t a b) ρ s = evE F KW a ρ s1 := by simp only [evE, h, RE.bind, k, ofO]
theorem ev_ifeF (h : evE F KW t ρ s = .ok v s1) (k : truth v.u = some false) : evE F KW (.ife t a b) ρ s = evE F KW b ρ s1 := by simp only [evE, h, RE.bind, k, ofO]
theorem evS_retV {i : Nat} (h : look i ρ = .sh u) : evS F KW (.retV i) ρ s = .ok (.ret ⟨u, false⟩) ρ s := by simp only [evS, h]
theorem evS_retO {i : Nat} (h : look i ρ = .own u) : evS F KW (.retV i) ρ s = .ok (.ret ⟨u, true⟩) ρ s := by simp only [evS, h]
theorem fin_of {x : RS} (h : x = .ok (.ret v) ρ s) : finish x = .ok v s := by rw [h]; rfl
theorem fin_ret {ρ : Env} : finish (.ok (.ret v) ρ s) = .ok v s := rfl
end
theorem ixN_nat {n j : Nat} (h : j < n) : L2.ixN n (j : Int) = some j := by
  unfold L2.ixN
  rw [if_pos (by omega), if_pos (by omega)]
  simp
theorem getIx_lst {xs : List U} {j : Nat} {u : U} {s : Sto} (h : xs[j]? = some u) : getIx (.lst xs) (.int j) s = some u := by
  have hj := (List.getElem?_eq_some_iff.mp h).1
  have e : nth j xs = some u := by
    rw [← h]
    clear h hj
    induction xs generalizing j with
    | nil => cases j <;> rfl
    | cons x xs ih => cases j with
      | zero => rfl
      | succ j => simpa [nth] using ih (j := j)
  simp only [getIx, ixN_nat hj, e]
theorem getIx_tup {xs : List U} {j : Nat} {u : U} {s : Sto} (h : xs[j]? = some u) : getIx (.tup xs) (.int j) s = some u := by
  have := getIx_lst (s := s) h
  simp only [getIx] at this ⊢
  exact this
theorem ev_ix {F : CallF} {KW : List (List Nat)} {ρ : Env} {s s1 s2 : Sto} {v v2 : Rv} {a b : C} {u : U} (h : evE F KW a ρ s = .ok v s1) (h2 : evE F KW b ρ s1 = .ok v2 s2) (k : getIx v.u v2.u s2 = some u) : evE F KW (.ix a b) ρ s = .ok ⟨u, false⟩ s2 := by simp only [evE, h, h2, RE.bind, k, ofO]
/-! ### small rules for simp -/
theorem x_ofO {α : Type} (s : Sto) (a : α) : ofO s (some a) = .ok a s := rfl
theorem x_bind {α β : Type} (a : α) (s : Sto) (f : α → Sto → RE β) : (RE.ok a s).bind f = f a s := rfl
theorem x_st {α : Type} (a : α) (s : Sto) (r : Env) (f : α → Sto → RS) : (RE.ok a s).st r f = f a s := rfl
theorem x_add (i j : Int) : op2 .add (.int i) (.int j) = some ⟨.int (i + j), false⟩ := rfl
theorem x_sub (i j : Int) : op2 .sub (.int i) (.int j) = some ⟨.int (i - j), false⟩ := rfl
theorem x_mul {i j : Int} (h : mulOk i j = true) : op2 .mul (.int i) (.int j) = some ⟨.int (i * j), false⟩ := by simp only [op2, h, if_true]
theorem x_fdiv {i j : Int} (h : divOk j = true) : op2 .fdiv (.int i) (.int j) = some ⟨.int (i.fdiv j), false⟩ := by simp [op2, h]
theorem x_mod {i j : Int} (h : (j == 0) = false) : op2 .mod (.int i) (.int j) = some ⟨.int (i.fmod j), false⟩ := by simp [op2, h]
theorem x_int1 (i : Int) : biV .int1 [.int i] = some ⟨.int i, false⟩ := rfl
theorem x_gt (i j : Int) : cmp2 .gt (.int i) (.int j) = some (decide (j < i)) := rfl
theorem x_ge (i j : Int) : cmp2 .ge (.int i) (.int j) = some (decide (j ≤ i)) := rfl
theorem x_lt (i j : Int) : cmp2 .lt (.int i) (.int j) = some (decide (i < j)) := rfl
theorem x_le (i j : Int) : cmp2 .le (.int i) (.int j) = some (decide (i ≤ j)) := rfl
theorem x_tb (b : Bool) : truth (.bl b) = some b := rfl
end Ev

end
section
set_option Elab.async false
set_option linter.all false
set_option maxRecDepth 100000
set_option maxHeartbeats 2000000
namespace K03
open Ev PySem
theorem is_number_int (d : Nat) (i : Int) (s : Sto) : run prog kws (d + 1) 0 [.int i] s = .ok ⟨.bl true, false⟩ s := rfl
theorem is_within_int (d : Nat) (i a b : Int) (s : Sto) : run prog kws (d + 2) 1 [.int i, .int a, .int b] s = .ok ⟨.bl (decide (a ≤ i) && decide (i ≤ b)), false⟩ s := by
  rw [run_at (fd := d1) rfl rfl]
  simp only [d1, evB, evS, evE, evA, freeze, RE.st, RE.bind, List.map_cons, List.map_nil, rep, List.append_nil, look, is_number_int, ofO, truth, cmp2]
  cases decide (a ≤ i) <;> rfl
def bi (b : Bool) : U := .int (if b then 1 else 0)
def pl (p : List Bool) : U := .tup (p.map bi)
theorem bi_within (d : Nat) (b : Bool) (s : Sto) : run prog kws (d + 2) 1 [bi b, .int 0, .int 1] s = .ok ⟨.bl true, false⟩ s := by
  unfold bi
  rw [is_within_int]
  cases b <;> rfl
theorem all_true (n : Nat) (l : List U) : biV .all [.lst (l.filterMap fun _ => some (.bl true))] = some ⟨.bl true, false⟩ := by
  have e : (l.filterMap fun _ => some (U.bl true)) = (l.map fun _ => true).map U.bl := by
    induction l with
    | nil => rfl
    | cons x l ih => simp
  rw [e]
  simp only [biV, boolsU_map]
  congr 2
  induction l with
  | nil => rfl
  | cons x l ih => simp
theorem is_plan_pl (d : Nat) (p : List Bool) (s : Sto) (h1 : 1 ≤ p.length) (h2 : p.length ≤ 40) : run prog kws (d + 3) 10 [pl p] s = .ok ⟨.bl true, false⟩ s := by
  rw [run_at (fd := d10) rfl rfl]
  have hl : (p.map bi).length = p.length := List.length_map _
  have hc : evE (run prog kws (d + 2)) kws (.comp [1] (.nm 1) (.seq (.var 0)) (.con (.bl true)) (.call 1 (.cons (.var 1) (.cons (.con (.int 0)) (.cons (.con (.int 1)) .nil))))) [.sh (pl p), .un] s = .ok ⟨.lst ((p.map bi).filterMap fun _ => some (.bl true)), true⟩ s := by
    refine ev_comp (us := p.map bi) rfl (decide_eq_true (by rw [hl]; unfold lim; omega)) fun x hx => ?_
    obtain ⟨b, _, rfl⟩ := List.mem_map.mp hx
    exact ⟨_, rfl, ⟨.bl true, false⟩, true, rfl, rfl, _, by simp only [evE, evA, RE.bind, look, put, wipeE]; exact bi_within d b s, rfl⟩
  have e1 : decide ((1 : Int) ≤ ((p.map bi).length : Int)) = true := decide_eq_true (by rw [hl]; omega)
  have e2 : decide (((p.map bi).length : Int) ≤ 40) = true := decide_eq_true (by rw [hl]; omega)
  have hp : pl p = .tup (p.map bi) := rfl
  have ht : evE (run prog kws (d + 2)) kws (.or (.not (.bi (.isinst [.tuple]) (.cons (.var 0) .nil))) (.not (.chain .le .le (.con (.int 1)) (.bi .len (.cons (.var 0) .nil)) (.con (.int 40))))) [.sh (pl p), .un] s = .ok ⟨.bl false, false⟩ s := by
    refine (ev_orF (v := ⟨.bl false, false⟩) rfl rfl).trans (ev_not (q := true) (v := ⟨.bl true, false⟩) ?_ rfl)
    rw [hp]
    simp only [evE, evA, RE.bind, look, biV, ofO, cmp2, e1, e2]
  exact congrArg Ev.finish ((evB_nx (ρ1 := [.sh (pl p), .un]) (s1 := s) ((evS_ifF (fz := []) ht rfl).trans evB_nil)).trans (evB_ret (evS_ret (fz := []) (ev_bi1 hc (all_true 0 _)))))
/-! ### tupled -/
inductive Tp : Nat → U → U → Prop
  | int (n : Nat) (i : Int) : Tp n (.int i) (.int i)
  | seq {n : Nat} {u : U} {us : List U} (g : U → U) : items u = some us → us.length ≤ lim → (∀ x ∈ us, Tp n x (g x)) → Tp (n + 1) u (.tup (us.map g))
theorem tupled_ok {n : Nat} {u w : U} (h : Tp n u w) : ∀ (d : Nat) (s : Sto), run prog kws (d + n + 1) 3 [u] s = .ok ⟨w, false⟩ s := by
  induction h with
  | int n i => intro d s; rfl
  | @seq n u us g hi hl hx ih =>
    intro d s
    rw [run_at (fd := d3) rfl rfl]
    have hc : evE (run prog kws (d + (n + 1))) kws (.comp [1] (.nm 1) (.seq (.var 0)) (.con (.bl true)) (.call 3 (.cons (.var 1) .nil))) [.sh u, .un] s = .ok ⟨.lst (us.filterMap fun x => some (g x)), true⟩ s := by
      refine ev_comp (us := us) (by simp only [evI, evE, look, RE.bind, hi, ofO]) (decide_eq_true hl) fun x hm => ?_
      exact ⟨_, rfl, ⟨.bl true, false⟩, true, rfl, rfl, ⟨g x, false⟩, (ev_call (evA_cons (ev_var rfl) evA_nil)).trans (ih x hm d s), rfl⟩
    have ht : evE (run prog kws (d + (n + 1))) kws (.bi (.isinst [.list, .tuple]) (.cons (.var 0) .nil)) [.sh u, .un] s = .ok ⟨.bl true, false⟩ s := by
      cases u <;> simp only [items] at hi <;> first | (cases hi; done) | rfl
    have hm : (us.filterMap fun x => some (g x)) = us.map g := by
      clear hi hl hx ih hc
      induction us with
      | nil => rfl
      | cons x us ih => simp
    rw [hm] at hc
    exact congrArg Ev.finish (evB_ret (evS_ret (fz := []) ((ev_ifeT ht rfl).trans (ev_bi1 hc rfl))))
theorem tp_pl (p : List Bool) (h : p.length ≤ lim) : Tp 1 (pl p) (pl p) := by
  have h1 : Tp 1 (pl p) (.tup ((p.map bi).map id)) := .seq (us := p.map bi) id rfl (by rw [List.length_map]; exact h) fun x hx => by
    obtain ⟨b, _, rfl⟩ := List.mem_map.mp hx
    exact .int 0 _
  rw [List.map_id] at h1
  exact h1
/-- a plan as a list -/
def pll (p : List Bool) : U := .lst (p.map bi)
theorem tp_pll (p : List Bool) (h : p.length ≤ lim) : Tp 1 (pll p) (pl p) := by
  have h1 : Tp 1 (pll p) (.tup ((p.map bi).map id)) := .seq (us := p.map bi) id rfl (by rw [List.length_map]; exact h) fun x hx => by
    obtain ⟨b, _, rfl⟩ := List.mem_map.mp hx
    exact .int 0 _
  rw [List.map_id] at h1
  exact h1
/-- a plan, as a tuple or as a list -/
def IsPl (u : U) (p : List Bool) : Prop := (u = pl p ∨ u = pll p) ∧ 1 ≤ p.length ∧ p.length ≤ 40
theorem IsPl.tp {u : U} {p : List Bool} (h : IsPl u p) : Tp 1 u (pl p) := by
  have hl : p.length ≤ lim := Nat.le_trans h.2.2 (by unfold lim; decide)
  rcases h.1 with e | e
  · rw [e]; exact tp_pl p hl
  · rw [e]; exact tp_pll p hl
theorem sure_plan_ok {u : U} {p : List Bool} (h : IsPl u p) (d : Nat) (s : Sto) : run prog kws (d + 4) 11 [u] s = .ok ⟨pl p, false⟩ s := by
  rw [run_at (fd := d11) rfl rfl]
  have h1 : run prog kws (d + 3) 3 [u] s = .ok ⟨pl p, false⟩ s := tupled_ok h.tp (d + 1) s
  have h2 := is_plan_pl d p s h.2.1 h.2.2
  have a1 : evE (run prog kws (d + 3)) kws (.call 3 (.cons (.var 0) .nil)) [.sh u, .un] s = .ok ⟨pl p, false⟩ s := (ev_call (evA_cons (ev_var (u := u) rfl) evA_nil)).trans h1
  have a2 : evE (run prog kws (d + 3)) kws (.not (.call 10 (.cons (.var 1) .nil))) [.sh u, .sh (pl p)] s = .ok ⟨.bl false, false⟩ s := ev_not (q := true) ((ev_call (evA_cons (ev_var (u := pl p) rfl) evA_nil)).trans h2) rfl
  refine fin_of (ρ := [.sh u, .sh (pl p)]) ((evB_nx (ρ := [.sh u, .un]) (ρ1 := [.sh u, .sh (pl p)]) (s1 := s) (evS_asg (fz := []) (i := 1) (o := true) a1)).trans ?_)
  refine (evB_nx (ρ1 := [.sh u, .sh (pl p)]) (s1 := s) ((evS_ifF (fz := [1]) a2 rfl).trans evB_nil)).trans ?_
  exact evB_ret (evS_retV rfl)
/-- the plan of a value -/
def toPl : U → U
  | .lst xs => .tup xs
  | u => u
theorem IsPl.to {u : U} {p : List Bool} (h : IsPl u p) : toPl u = pl p := by
  rcases h.1 with e | e <;> rw [e] <;> rfl
theorem fm_some {α β : Type} (g : α → β) (l : List α) : (l.filterMap fun x => some (g x)) = l.map g := by
  induction l with
  | nil => rfl
  | cons x l ih => simp
theorem any_false (l : List U) : biV .any [.lst (l.filterMap fun _ => some (.bl false))] = some ⟨.bl false, false⟩ := by
  have e : (l.filterMap fun _ => some (U.bl false)) = (l.map fun _ => false).map U.bl := by
    induction l with
    | nil => rfl
    | cons x l ih => simp
  rw [e]
  simp only [biV, boolsU_map]
  congr 2
  induction l with
  | nil => rfl
  | cons x l ih => simp
end K03

end
section
set_option Elab.async false
set_option linter.all false
set_option maxRecDepth 100000
set_option maxHeartbeats 2000000
namespace K03
open Ev PySem
variable {sr : Sto}
theorem log_small {n : Nat} (h : n < 2 ^ 200) : n.log2 < 200 := by
  by_cases h0 : n = 0
  · subst h0; decide
  · exact (Nat.log2_lt h0).mpr h
theorem mul_small {i j : Int} (hi : i.natAbs < 2 ^ 200) (hj : j.natAbs < 2 ^ 200) : mulOk i j = true := by
  have h1 := log_small hi
  have h2 := log_small hj
  unfold mulOk
  exact decide_eq_true (by omega)
theorem div_small {j : Int} (h0 : j ≠ 0) (hj : j.natAbs < 2 ^ 200) : divOk j = true := by
  have h2 := log_small hj
  unfold divOk
  simp [h0]
  omega
/-- the box that all draws come from -/
structure Box (a b c : Int) (m : Nat) : Prop where
  a0 : 0 ≤ a
  b0 : 0 ≤ b
  b1 : b < 2 ^ 63
  c0 : 0 ≤ c
  c1 : c + m ≤ 1000000
def sto (sr : Sto) (a b c : Int) : Sto := .lst [a, b, c] :: sr
theorem gz0 (a b c : Int) : getIx (.ref 0) (.int 0) (sto sr a b c) = some (.int a) := rfl
theorem gz1 (a b c : Int) : getIx (.ref 0) (.int 1) (sto sr a b c) = some (.int b) := rfl
theorem gz2 (a b c : Int) : getIx (.ref 0) (.int 2) (sto sr a b c) = some (.int c) := rfl
theorem s0 (a b c w : Int) (r : Ev.Env) : setIx 0 (.int 0) (.int w) (.sh (.ref 0) :: r) (sto sr a b c) = .ok .nx (.sh (.ref 0) :: r) (sto sr w b c) := rfl
theorem s2 (a b c w : Int) (r : Ev.Env) : setIx 0 (.int 2) (.int w) (.sh (.ref 0) :: r) (sto sr a b c) = .ok .nx (.sh (.ref 0) :: r) (sto sr a b w) := rfl
theorem take_ok {a b c n : Int} {m : Nat} (B : Box a b c (m + 1)) (h0 : 0 < n) (h1 : n < 2 ^ 60) (d : Nat) : ∃ x a' c' f, run prog kws (d + 1) 37 [.ref 0, .int n] (sto sr a b c) = .ok ⟨.int x, f⟩ (sto sr a' b c') ∧ 0 ≤ x ∧ x < n ∧ Box a' b c' m := by
  have hn : (n == 0) = false := by simp; omega
  have hd : divOk n = true := div_small (by omega) (by have : (2 : Nat) ^ 60 < 2 ^ 200 := by decide
                                                       omega)
  by_cases ha : 0 < a
  · refine ⟨a.fmod n, a.fdiv n, c, false, ?_, Int.fmod_nonneg_of_pos _ h0, Int.fmod_lt_of_pos _ h0, Int.fdiv_nonneg B.a0 (Int.le_of_lt h0), B.b0, B.b1, B.c0, by have := B.c1; omega⟩
    rw [run_at (fd := d37) rfl rfl]
    have e : decide (0 < a) = true := decide_eq_true ha
    simp only [d37, List.map_cons, List.map_nil, rep, List.append_nil, List.cons_append, List.nil_append, evB, evS, evE, evA, freeze, x_st, x_bind, look, put, x_ofO, gz0, s0, x_gt, e, x_tb, x_int1, x_mod hn, x_fdiv hd, Rv.slot]
    rfl
  · have e : decide (0 < a) = false := decide_eq_false ha
    have c0 := B.c0
    have c1 := B.c1
    have b0 := B.b0
    have b1 := B.b1
    have m1 : mulOk 48271 (c + 1) = true := mul_small (by decide) (by omega)
    have m2 : mulOk (b + 48271 * (c + 1)) (39373 + (c + 1)) = true := mul_small (by omega) (by omega)
    have o0 := Int.fmod_nonneg_of_pos ((b + 48271 * (c + 1)) * (39373 + (c + 1))) (b := 2147483647) (by decide)
    have o1 := Int.fmod_lt_of_pos ((b + 48271 * (c + 1)) * (39373 + (c + 1))) (b := 2147483647) (by decide)
    generalize honce : ((b + 48271 * (c + 1)) * (39373 + (c + 1))).fmod 2147483647 = once at o0 o1
    have w0 := Int.fmod_nonneg_of_pos once (b := 40009) (by decide)
    have w1 := Int.fmod_lt_of_pos once (b := 40009) (by decide)
    generalize hwide : once.fmod 40009 = wide at w0 w1
    have q0 := Int.fdiv_nonneg b0 (show (0 : Int) ≤ 1000003 by decide)
    have q1 : b.fdiv 1000003 ≤ b := by rw [Int.fdiv_eq_ediv_of_nonneg _ (by decide)]; exact Int.ediv_le_self _ b0
    generalize hquot : b.fdiv 1000003 = quot at q0 q1
    have m3 : mulOk (once + (c + 1) + quot) (wide + 7) = true := mul_small (by omega) (by omega)
    have t0 := Int.fmod_nonneg_of_pos ((once + (c + 1) + quot) * (wide + 7)) (b := 2147483629) (by decide)
    have t1 := Int.fmod_lt_of_pos ((once + (c + 1) + quot) * (wide + 7)) (b := 2147483629) (by decide)
    generalize htw : ((once + (c + 1) + quot) * (wide + 7)).fmod 2147483629 = tw at t0 t1
    have m4 : mulOk tw 48271 = true := mul_small (by omega) (by decide)
    refine ⟨_, a, c + 1, false, ?_, Int.fmod_nonneg_of_pos (((tw * 48271 + once).fmod 2147483587).fdiv 64) h0, Int.fmod_lt_of_pos _ h0, B.a0, b0, b1, by omega, by omega⟩
    rw [run_at (fd := d37) rfl rfl]
    simp only [d37, List.map_cons, List.map_nil, rep, List.append_nil, List.cons_append, List.nil_append, evB, evS, evE, evA, freeze, x_st, x_bind, look, put, x_ofO, gz0, gz1, gz2, s2, x_gt, e, x_tb, x_int1, x_add, x_mul m1, x_mul m2, x_mul m3, x_mul m4, x_mod hn, x_mod (show ((2147483647 : Int) == 0) = false by decide), x_mod (show ((40009 : Int) == 0) = false by decide), x_mod (show ((2147483629 : Int) == 0) = false by decide), x_mod (show ((2147483587 : Int) == 0) = false by decide), x_fdiv (show divOk 1000003 = true by decide), x_fdiv (show divOk 64 = true by decide), Rv.slot, honce, hwide, hquot, htw]
    rfl
end K03

end
section
set_option Elab.async false
set_option linter.all false
set_option maxRecDepth 100000
set_option maxHeartbeats 2000000
namespace K03
open Ev PySem
theorem log_lt {n k : Nat} (hk : 0 < k) (h : n < 2 ^ k) : n.log2 < k := by
  by_cases h0 : n = 0
  · subst h0; simpa using hk
  · exact (Nat.log2_lt h0).mpr h
/-- few enough bits -/
def Few (k : Nat) (i : Int) : Prop := i.natAbs < 2 ^ k
theorem few_mul {i j : Int} {k l : Nat} (hi : Few k i) (hj : Few l j) (hk : 0 < k) (hl : 0 < l) (h : k + l < 100000000) : mulOk i j = true := by
  have h1 := log_lt hk hi
  have h2 := log_lt hl hj
  unfold mulOk
  exact decide_eq_true (by omega)
/-- a loop over pairs that keeps an invariant -/
theorem forL_all {f : U → Ev.Env → Sto → RS} {s : Sto} (I : Nat → Ev.Env → Prop) : ∀ (us : List U) (n : Nat) (ρ : Ev.Env), I n ρ → (∀ k ρ, I k ρ → n ≤ k → ∀ x, us[k - n]? = some x → ∃ ρ', f x ρ s = .ok .nx ρ' s ∧ I (k + 1) ρ') → ∃ ρ', forL f us ρ s = .ok .nx ρ' s ∧ I (n + us.length) ρ'
  | [], n, ρ, h, _ => ⟨ρ, rfl, h⟩
  | x :: us, n, ρ, h, step => by
    obtain ⟨ρ1, e1, h1⟩ := step n ρ h (Nat.le_refl _) x (by simp)
    obtain ⟨ρ2, e2, h2⟩ := forL_all I us (n + 1) ρ1 h1 fun k ρ hk hn y hy => step k ρ hk (by omega) y (by
      rw [show k - n = (k - (n + 1)) + 1 by omega]
      simpa using hy)
    refine ⟨ρ2, ?_, ?_⟩
    · simp only [forL, e1, e2]
    · rw [List.length_cons, show n + (us.length + 1) = n + 1 + us.length by omega]
      exact h2
theorem cut_first (x : U) (r : List U) : cutL (x :: r) none (some 1) = [x] := by
  unfold cutL HT.sIx
  simp
theorem cut_rest (x : U) (r : List U) (h : r.length ≤ 62) : cutL (x :: r) (some 1) (some 63) = r := by
  have e1 : HT.sIx (x :: r).length 0 (some 1) = 1 := by
    have := HT.sIx_nat (x :: r).length 0 1
    rw [List.length_cons] at this ⊢
    exact this.trans (by omega)
  have e2 : HT.sIx (x :: r).length (x :: r).length (some 63) = r.length + 1 := by
    have := HT.sIx_nat (x :: r).length (x :: r).length 63
    rw [List.length_cons] at this ⊢
    exact this.trans (by omega)
  unfold cutL
  rw [e1, e2, List.drop_succ_cons, List.drop_zero, Nat.add_sub_cancel, List.take_length]
theorem cell_step {B : Nat} {scr x3 x4 x5 : U} {w y : Int} {k : Nat} {F : CallF} {s : Sto} (hk : k ≤ 63) (hy : y.natAbs.log2 < 2000000) (r3 r4 r5 : Slot) :
    evB F kws (.cons (.asg [] 5 false (.op .mod (.bi .int1 (.cons (.var 3) .nil)) (.var 1))) (.cons (.asgIx [] 2 (.var 5) (.op .add (.ix (.peek 2) (.var 5)) (.op .mul (.var 4) (.op .add (.var 3) (.con (.int 2)))))) .nil)) [.sh scr, .sh (.int 1), .own (.lst [.int w]), .sh (.int k), .sh (.int y), r5] s =
      .ok .nx [.sh scr, .sh (.int 1), .own (.lst [.int (w + y * (k + 2))]), .sh (.int k), .sh (.int y), .sh (.int 0)] s := by
  have m1 : mulOk y ((k : Int) + 2) = true := by
    have h1 : ((k : Int) + 2).natAbs.log2 < 7 := log_lt (by decide) (by omega)
    unfold mulOk
    exact decide_eq_true (by omega)
  have f1 : (k : Int).fmod 1 = 0 := by rw [Int.fmod_eq_emod_of_nonneg _ (by decide)]; exact Int.emod_one _
  simp only [evB, evS, evE, evA, freeze, x_st, x_bind, look, put, x_ofO, x_int1, x_mod (show ((1 : Int) == 0) = false by decide), f1, Rv.slot, x_add, x_mul m1]
  rfl
theorem grow_ok {w y : Int} {k B : Nat} (hw : w.natAbs ≤ (1 + k * 100) * B) (hy : y.natAbs ≤ B) (hk : k ≤ 63) : (w + y * (k + 2)).natAbs ≤ (1 + (k + 1) * 100) * B := by
  have h1 := Int.natAbs_add_le w (y * (k + 2))
  rw [Int.natAbs_mul] at h1
  have h2 : ((k : Int) + 2).natAbs = k + 2 := by omega
  rw [h2] at h1
  have h3 : y.natAbs * (k + 2) ≤ B * 100 := Nat.mul_le_mul hy (by omega)
  have h4 : (1 + (k + 1) * 100) * B = (1 + k * 100) * B + B * 100 := by
    rw [show 1 + (k + 1) * 100 = (1 + k * 100) + 100 by omega, Nat.add_mul, Nat.mul_comm 100 B]
  omega
theorem cells_ok {B : Nat} (ns : List Int) (hl : ns.length ≤ 63) (hb : ∀ y ∈ ns, y.natAbs ≤ B) (hL : ∀ y ∈ ns, y.natAbs.log2 < 2000000) (d : Nat) (s : Sto) : ∃ v : Int, run prog kws (d + 1) 38 [.lst (ns.map .int), .int 1] s = .ok ⟨.lst [.int v], true⟩ s ∧ v.natAbs ≤ 100 * 100 * B := by
  cases ns with
  | nil => exact ⟨0, rfl, Nat.zero_le _⟩
  | cons y0 r =>
    have hr : (r.map U.int).length ≤ 62 := by rw [List.length_map]; simpa using hl
    rw [run_at (fd := d38) rfl rfl]
    have a1 : evE (run prog kws d) kws (.or (.bi .list (.cons (.slH (.var 0) (.var 1)) .nil)) (.lst (.cons (.con (.int 0)) .nil))) [.sh (.lst ((y0 :: r).map .int)), .sh (.int 1), .un, .un, .un, .un] s = .ok ⟨.lst [.int y0], true⟩ s := by
      refine ev_orT (ev_bi1 (v := ⟨.lst [.int y0], true⟩) ?_ rfl) rfl
      simp only [evE, look, x_bind, bnd, x_ofO, List.map_cons, getSl, cut_first]
    have a2 : evI (run prog kws d) kws (.enum (.sl (.var 0) (.var 1) (.con (.int 63)))) [.sh (.lst ((y0 :: r).map .int)), .sh (.int 1), .own (.lst [.int y0]), .un, .un, .un] s = .ok (enumU 0 (r.map .int)) s := by
      simp only [evI, evE, look, x_bind, bnd, x_ofO, List.map_cons, getSl, cut_rest _ _ hr, items]
    obtain ⟨ρ', e, w, x3, x4, x5, rfl, hw⟩ := forL_all (s := s) (f := fun u r s => match bindTg (.t2 (.nm 3) (.nm 4)) u r with | some r => evB (run prog kws d) kws (.cons (.asg [] 5 false (.op .mod (.bi .int1 (.cons (.var 3) .nil)) (.var 1))) (.cons (.asgIx [] 2 (.var 5) (.op .add (.ix (.peek 2) (.var 5)) (.op .mul (.var 4) (.op .add (.var 3) (.con (.int 2)))))) .nil)) r s | none => .bad)
      (fun k ρ => ∃ (w : Int) (x3 x4 x5 : Slot), ρ = [.sh (.lst ((y0 :: r).map .int)), .sh (.int 1), .own (.lst [.int w]), x3, x4, x5] ∧ w.natAbs ≤ (1 + k * 100) * B) (enumU 0 (r.map .int)) 0 [.sh (.lst ((y0 :: r).map .int)), .sh (.int 1), .own (.lst [.int y0]), .un, .un, .un] ⟨y0, _, _, _, rfl, by have := hb y0 List.mem_cons_self; omega⟩ fun k ρ hI _ x hx => by
        obtain ⟨w, x3, x4, x5, rfl, hw⟩ := hI
        rw [Nat.sub_zero] at hx
        obtain ⟨u, e1, rfl⟩ := enumU_get _ 0 k x hx
        rw [List.getElem?_map] at e1
        cases e2 : r[k]? with
        | none => rw [e2] at e1; cases e1
        | some y =>
          rw [e2] at e1
          cases e1
          have hy := List.mem_cons_of_mem y0 (List.mem_of_getElem? e2)
          have hk : k ≤ 63 := by have := (List.getElem?_eq_some_iff.mp e2).1; simp at hl; omega
          refine ⟨_, ?_, w + y * (k + 2), .sh (.int k), .sh (.int y), .sh (.int 0), rfl, ?_⟩
          · have := cell_step (B := B) (scr := .lst ((y0 :: r).map .int)) (x3 := .non) (x4 := .non) (x5 := .non) (w := w) (F := run prog kws d) (s := s) hk (hL y hy) x3 x4 x5
            rw [Nat.zero_add]
            exact this
          · exact grow_ok hw (hb y hy) hk
    have a3 := e
    refine ⟨w, ?_, ?_⟩
    · refine fin_of (ρ := [.sh (.lst ((y0 :: r).map .int)), .sh (.int 1), .own (.lst [.int w]), x3, x4, x5]) ((evB_nx (ρ := [.sh (.lst ((y0 :: r).map .int)), .sh (.int 1), .un, .un, .un, .un]) (ρ1 := [.sh (.lst ((y0 :: r).map .int)), .sh (.int 1), .own (.lst [.int y0]), .un, .un, .un]) (s1 := s) (evS_asg (fz := []) (i := 2) (o := true) a1)).trans ?_)
      refine (evB_nx (ρ1 := [.sh (.lst ((y0 :: r).map .int)), .sh (.int 1), .own (.lst [.int w]), x3, x4, x5]) (s1 := s) ?_).trans (evB_ret (evS_retO rfl))
      simp only [evS, freeze, a2, x_st]
      rw [show inLim (enumU 0 (r.map U.int)) = true from decide_eq_true (by rw [enumU_len]; unfold lim; omega)]
      exact a3
    · have hlen : 0 + (enumU 0 (r.map U.int)).length ≤ 62 := by rw [enumU_len]; omega
      exact Nat.le_trans hw (Nat.mul_le_mul_right B (by omega))
end K03

end
section
set_option Elab.async false
set_option linter.all false
set_option maxRecDepth 100000
set_option maxHeartbeats 2000000
namespace K03
open Ev PySem
theorem box_ok (v : Int) (hv : v.natAbs.log2 < 50000000) (d m : Nat) (hm : m ≤ 1000000) : ∃ a b, run prog kws (d + 1) 36 [.lst [.int v], .int 0] [] = .ok ⟨.ref 0, false⟩ (sto [] a b 0) ∧ Box a b 0 m := by
  have b0 := Int.fmod_nonneg_of_pos v (b := 2305843009213693951) (by decide)
  have b1 := Int.fmod_lt_of_pos v (b := 2305843009213693951) (by decide)
  have ha : ∃ w : Int, (if v < 0 then -v else v) = w ∧ 0 ≤ w ∧ w.natAbs = v.natAbs := ⟨_, rfl, by split <;> omega, by split <;> omega⟩
  obtain ⟨w, hw, w0, w1⟩ := ha
  have hq : ∃ q : Int, (if decide ((10 : Int) ^ 18 ≤ w) = true then (1 : Int) else 0) = q ∧ (q = 0 ∨ q = 1) := ⟨_, rfl, by split <;> simp⟩
  obtain ⟨q, hq, hq2⟩ := hq
  have mq : mulOk w q = true := by
    have h1 : q.natAbs.log2 = 0 := by rcases hq2 with e | e <;> rw [e] <;> decide
    unfold mulOk
    rw [w1, h1]
    exact decide_eq_true (by omega)
  refine ⟨w * q, v.fmod 2305843009213693951 + 39373 * 0 + 7046003, ?_, ⟨Int.mul_nonneg w0 (by rcases hq2 with e | e <;> rw [e] <;> decide), by omega, by omega, by decide, by omega⟩⟩
  rw [run_at (fd := d36) rfl rfl]
  have x_abs : biV .abs [.int v] = some ⟨.int w, false⟩ := by simp only [biV, hw]
  have x_pow : op2 .pow (.int 10) (.int 18) = some ⟨.int (10 ^ 18), false⟩ := rfl
  have x_b : biV .int1 [.bl (decide ((10 : Int) ^ 18 ≤ w))] = some ⟨.int q, false⟩ := by simp only [biV, hq]
  have x_len : biV .len [.lst [.int v]] = some ⟨.int 1, false⟩ := rfl
  have x_ix : getIx (.lst [.int v]) (.int 0) [] = some (.int v) := rfl
  have x_01 : truth (.bl (decide ((0 : Int) < 1))) = some true := rfl
  simp only [d36, List.map_cons, List.map_nil, rep, List.append_nil, List.cons_append, List.nil_append, evB, evS, evE, evA, freeze, x_st, x_bind, look, put, x_ofO, x_len, x_lt, x_01, x_ix, Rv.slot, x_abs, x_pow, x_ge, x_b, x_mul mq, x_int1, x_mod (show ((2305843009213693951 : Int) == 0) = false by decide), x_mul (show mulOk 39373 0 = true by decide), x_add, intsU]
  rfl
end K03

end
section
set_option Elab.async false
set_option linter.all false
set_option maxRecDepth 100000
set_option maxHeartbeats 2000000
namespace K03
open Ev PySem
/-- trees of ints and flags, no deeper than n -/
inductive Tr : Nat → U → Prop
  | int (n : Nat) (i : Int) : Tr n (.int i)
  | bl (n : Nat) (b : Bool) : Tr n (.bl b)
  | non (n : Nat) : Tr n .non
  | lst {n : Nat} {us : List U} : us.length ≤ lim → (∀ x ∈ us, Tr n x) → Tr (n + 1) (.lst us)
  | tup {n : Nat} {us : List U} : us.length ≤ lim → (∀ x ∈ us, Tr n x) → Tr (n + 1) (.tup us)
theorem zipU_mem : ∀ {us : List U} {y : U}, y ∈ zipU us us → ∃ x ∈ us, y = .tup [x, x]
  | [], y, h => by simp [zipU] at h
  | x :: us, y, h => by
    simp only [zipU, List.mem_cons] at h
    rcases h with h | h
    · exact ⟨x, List.mem_cons_self, h⟩
    · obtain ⟨z, hz, e⟩ := zipU_mem h
      exact ⟨z, List.mem_cons_of_mem _ hz, e⟩
theorem zipU_len : ∀ (us : List U), (zipU us us).length = us.length
  | [] => rfl
  | x :: us => by simp only [zipU, List.length_cons, zipU_len us]
theorem same_seq {n d : Nat} {s : Sto} {u : U} {us : List U} (hi : items u = some us) (hl : us.length ≤ lim) (h45 : ∀ x ∈ us, run prog kws d 42 [x, x] s = .ok ⟨.bl true, false⟩ s)
    (hlen : biV .len [u] = some ⟨.int us.length, false⟩) :
    evE (run prog kws d) kws (.and (.cmp .eq (.bi .len (.cons (.var 0) .nil)) (.bi .len (.cons (.var 1) .nil))) (.bi .all (.cons (.comp [2, 3] (.t2 (.nm 2) (.nm 3)) (.zip2 (.var 0) (.var 1)) (.con (.bl true)) (.call 42 (.cons (.var 2) (.cons (.var 3) .nil)))) .nil))) [.sh u, .sh u, .un, .un] s = .ok ⟨.bl true, false⟩ s := by
  have h0 : ∀ i, i = 0 ∨ i = 1 → evE (run prog kws d) kws (.bi .len (.cons (.var i) .nil)) [.sh u, .sh u, .un, .un] s = .ok ⟨.int us.length, false⟩ s := by
    intro i hi
    refine ev_bi1 (v := ⟨u, false⟩) (ev_var ?_) hlen
    rcases hi with rfl | rfl <;> rfl
  have hq : cmp2 .eq (.int us.length) (.int us.length) = some true := by simp [cmp2, shp, eqU]
  refine (ev_andT (ev_cmp (h0 0 (.inl rfl)) (h0 1 (.inr rfl)) hq) rfl).trans ?_
  refine ev_bi1 (ev_comp (us := zipU us us) (g := fun _ => some (.bl true)) ?_ (decide_eq_true (by rw [zipU_len]; exact hl)) fun y hy => ?_) (all_true 0 _)
  · simp only [evI, evE, look, x_bind, hi, x_ofO]
  · obtain ⟨x, hx, rfl⟩ := zipU_mem hy
    exact ⟨[.sh u, .sh u, .sh x, .sh x], rfl, ⟨.bl true, false⟩, true, rfl, rfl, ⟨.bl true, false⟩, (ev_call (evA_cons (ev_var (u := x) rfl) (evA_cons (ev_var (u := x) rfl) evA_nil))).trans (h45 x hx), rfl⟩
theorem same_ok {n : Nat} {u : U} (h : Tr n u) : ∀ (d : Nat) (s : Sto), run prog kws (d + n + 1) 42 [u, u] s = .ok ⟨.bl true, false⟩ s := by
  induction h with
  | int n i =>
    intro d s
    rw [run_at (fd := d42) rfl rfl]
    have hq : cmp2 .eq (.int i) (.int i) = some true := by simp [cmp2, shp, eqU]
    simp only [d42, List.map_cons, List.map_nil, rep, List.append_nil, List.cons_append, List.nil_append, evB, evS, evE, evA, freeze, x_st, x_bind, look, x_ofO, biV, isPlain, isTy, List.any_cons, List.any_nil, Bool.or_false, if_true, truth, cmp2, isNon, hq]
    simp [Ev.finish, shp, eqU, isTy, isPlain, ofO, RE.bind, RE.st]
  | bl n b => intro d s; cases b <;> rfl
  | non n => intro d s; rfl
  | @lst n us hl hx ih =>
    intro d s
    rw [run_at (fd := d42) rfl rfl]
    exact congrArg Ev.finish ((evB_ret (ρ1 := [.sh (.lst us), .sh (.lst us), .un, .un]) (s1 := s) ((evS_ifT (v := ⟨.bl true, false⟩) (s1 := s) (fz := []) rfl rfl).trans ((evB_nx (ρ1 := [.sh (.lst us), .sh (.lst us), .un, .un]) (s1 := s) ((evS_ifF (v := ⟨.bl false, false⟩) (s1 := s) (fz := []) rfl rfl).trans evB_nil)).trans (evB_ret (evS_ret (fz := []) (same_seq (n := n) rfl hl (fun x hm => ih x hm d s) rfl)))))))
  | @tup n us hl hx ih =>
    intro d s
    rw [run_at (fd := d42) rfl rfl]
    exact congrArg Ev.finish ((evB_ret (ρ1 := [.sh (.tup us), .sh (.tup us), .un, .un]) (s1 := s) ((evS_ifT (v := ⟨.bl true, false⟩) (s1 := s) (fz := []) rfl rfl).trans ((evB_nx (ρ1 := [.sh (.tup us), .sh (.tup us), .un, .un]) (s1 := s) ((evS_ifF (v := ⟨.bl false, false⟩) (s1 := s) (fz := []) rfl rfl).trans evB_nil)).trans (evB_ret (evS_ret (fz := []) (same_seq (n := n) rfl hl (fun x hm => ih x hm d s) rfl)))))))
end K03

end
section
set_option Elab.async false
set_option linter.all false
set_option maxRecDepth 100000
set_option maxHeartbeats 2000000
namespace K03
open Ev PySem
theorem band_one (i : Int) (h : 0 ≤ i) : ∃ b : Bool, Builtin.bitAnd i 1 = (if b then 1 else 0) := by
  obtain ⟨k, rfl⟩ := Int.eq_ofNat_of_zero_le h
  refine ⟨decide (k % 2 = 1), ?_⟩
  have e : Builtin.bitAnd (k : Int) 1 = ((k &&& 1 : Nat) : Int) := rfl
  rw [e, Nat.and_one_is_mod]
  have := Nat.mod_two_eq_zero_or_one k
  rcases this with h | h <;> simp [h]
/-- the bits of x, as `_law_plan` takes them -/
def bitf (x : Int) (n : Nat) (k : Nat) : Int := Builtin.bitAnd (x / 2 ^ (n - 1 - k)) 1
theorem law_plan_ok (d : Nat) (x : Int) (n : Nat) (hx : 0 ≤ x) (h1 : 1 ≤ n) (h2 : n ≤ 40) (s : Sto) : ∃ p : List Bool, p.length = n ∧ run prog kws (d + 1) 45 [.int x, .int n] s = .ok ⟨pl p, false⟩ s := by
  have hb : ∀ k : Nat, ∃ b : Bool, Builtin.bitAnd (x / 2 ^ (n - 1 - k)) 1 = (if b then 1 else 0) := fun k => band_one _ (Int.ediv_nonneg hx (by exact_mod_cast Nat.zero_le _))
  let q : Nat → Bool := fun k => decide (bitf x n k = 1)
  have hq : ∀ k, U.int (bitf x n k) = bi (q k) := fun k => by
    obtain ⟨b, e⟩ := hb k
    have e' : bitf x n k = (if b then 1 else 0) := e
    show U.int (bitf x n k) = bi (decide (bitf x n k = 1))
    rw [e']
    cases b <;> rfl
  refine ⟨(List.range n).map q, by simp, ?_⟩
  rw [run_at (fd := d45) rfl rfl]
  let g : U → Option U := fun u => match u with | .int k => some (bi (q k.toNat)) | _ => none
  have hi : evI (run prog kws d) kws (.rng1 (.var 1)) [.sh (.int x), .sh (.int n), .un] s = .ok (rngU 0 n 1) s := by
    simp only [evI, evE, look, x_bind]
    rw [decide_eq_true (show (n : Int) ≤ 1000000 by omega), decide_eq_true (show (-1000000 : Int) ≤ n by omega)]
    rfl
  have hc : evE (run prog kws d) kws (.comp [2] (.nm 2) (.rng1 (.var 1)) (.con (.bl true)) (.op .band (.op .shr (.var 0) (.op .sub (.op .sub (.var 1) (.con (.int 1))) (.var 2))) (.con (.int 1)))) [.sh (.int x), .sh (.int n), .un] s = .ok ⟨.lst ((rngU 0 n 1).filterMap g), true⟩ s := by
    refine ev_comp hi (decide_eq_true (by unfold rngU lim; simp; omega)) fun y hy => ?_
    unfold rngU at hy
    obtain ⟨k, hk, rfl⟩ := List.mem_map.mp hy
    have hk := List.mem_range.mp hk
    refine ⟨[.sh (.int x), .sh (.int n), .sh (.int (0 + k * 1))], rfl, ⟨.bl true, false⟩, true, rfl, rfl, ⟨.int (bitf x n k), false⟩, ?_, ?_⟩
    · have h3 : (n : Int) - 1 - (0 + k * 1) = ((n - 1 - k : Nat) : Int) := by omega
      have h4 : op2 .shr (.int x) (.int ((n - 1 - k : Nat) : Int)) = some ⟨.int (x / 2 ^ (n - 1 - k)), false⟩ := by
        simp only [op2, decide_eq_true (Int.natCast_nonneg (n - 1 - k)), if_true, Int.toNat_natCast]
      have h5 : ∀ i : Int, op2 .band (.int i) (.int 1) = some ⟨.int (Builtin.bitAnd i 1), false⟩ := fun _ => rfl
      simp only [evE, look, x_bind, x_sub, x_ofO, h3, h4, h5, bitf]
    · show some (bi (q ((0 + (k : Int) * 1).toNat))) = some (U.int (bitf x n k))
      rw [hq k, show (0 + (k : Int) * 1).toNat = k by omega]
  have hg : (rngU 0 n 1).filterMap g = ((List.range n).map q).map bi := by
    unfold rngU
    rw [List.filterMap_map, List.map_map]
    have he : (g ∘ fun k : Nat => U.int (0 + (k : Int) * 1)) = fun k => some ((bi ∘ q) k) := by
      funext k
      show some (bi (q ((0 + (k : Int) * 1).toNat))) = some (bi (q k))
      rw [show (0 + (k : Int) * 1).toNat = k by omega]
    rw [he, fm_some]
  rw [hg] at hc
  exact congrArg Ev.finish (evB_ret (evS_ret (fz := []) (ev_bi1 (r := ⟨pl ((List.range n).map q), false⟩) hc rfl)))
end K03

end
section
set_option Elab.async false
set_option linter.all false
set_option maxRecDepth 100000
set_option maxHeartbeats 2000000
namespace K03
open Ev PySem
theorem enumU_mem : ∀ {us : List U} {n : Nat} {x : U}, x ∈ enumU n us → ∃ k y, us[k]? = some y ∧ x = .tup [.int ((n + k : Nat) : Int), y]
  | [], n, x, h => by simp [enumU] at h
  | y :: us, n, x, h => by
    simp only [enumU, List.mem_cons] at h
    rcases h with h | h
    · exact ⟨0, y, rfl, h⟩
    · obtain ⟨k, z, e, rfl⟩ := enumU_mem h
      exact ⟨k + 1, z, by simpa using e, by rw [show n + 1 + k = n + (k + 1) by omega]⟩
theorem enumU_len : ∀ (us : List U) (n : Nat), (enumU n us).length = us.length
  | [], n => rfl
  | x :: us, n => by simp only [enumU, List.length_cons, enumU_len us]
theorem eqU_bi (a b : Bool) : cmp2 .ne (bi a) (bi b) = some (a != b) := by cases a <;> cases b <;> rfl
/-- a place where the two plans part -/
def gl (q : List Bool) : U → Option U
  | .tup [.int k, .int y] => if y == (if q[k.toNat]?.getD false then 1 else 0) then none else some (.int k)
  | _ => none
theorem diff_comp (F : CallF) (p q : List Bool) (h : p.length = q.length) (h2 : p.length ≤ 40) (s : Sto) : evE F kws (.comp [2, 3] (.t2 (.nm 2) (.nm 3)) (.enum (.var 0)) (.cmp .ne (.var 3) (.ix (.var 1) (.var 2))) (.var 2)) [.sh (pl p), .sh (pl q), .un, .un] s = .ok ⟨.lst ((enumU 0 (p.map bi)).filterMap (gl q)), true⟩ s := by
  refine ev_comp (us := enumU 0 (p.map bi)) rfl (decide_eq_true (by rw [enumU_len, List.length_map]; unfold lim; omega)) fun x hx => ?_
  obtain ⟨k, y, e, rfl⟩ := enumU_mem hx
  rw [Nat.zero_add]
  rw [List.getElem?_map] at e
  cases e1 : p[k]? with
  | none => rw [e1] at e; cases e
  | some b =>
    rw [e1] at e
    cases e
    have hk : k < q.length := by have := (List.getElem?_eq_some_iff.mp e1).1; omega
    have e2 : q[k]? = some q[k] := List.getElem?_eq_getElem hk
    have e3 : (q.map bi)[k]? = some (bi q[k]) := by rw [List.getElem?_map, e2]; rfl
    refine ⟨[.sh (pl p), .sh (pl q), .sh (.int k), .sh (bi b)], rfl, ⟨.bl (b != q[k]), false⟩, b != q[k], ev_cmp (ev_var (u := bi b) rfl) (ev_ix (v := ⟨pl q, false⟩) (v2 := ⟨.int k, false⟩) (ev_var (u := pl q) rfl) (ev_var (u := .int k) rfl) (getIx_tup e3)) (eqU_bi b _), rfl, ?_⟩
    have hg : gl q (.tup [.int k, bi b]) = if b == q[k] then none else some (.int k) := by
      show (if (if b then (1 : Int) else 0) == (if q[(k : Int).toNat]?.getD false then 1 else 0) then none else some (U.int k)) = _
      rw [Int.toNat_natCast, e2]
      cases b <;> cases q[k] <;> rfl
    rw [hg]
    cases b <;> cases q[k] <;> first | rfl | exact ⟨⟨.int k, false⟩, rfl, rfl⟩
end K03

end
section
set_option Elab.async false
set_option linter.all false
set_option maxRecDepth 100000
set_option maxHeartbeats 2000000
namespace K03
open Ev PySem
theorem evS_asgT {F : CallF} {KW : List (List Nat)} {fz : List Nat} {tg : Tg} {e : C} {ρ ρ1 : Ev.Env} {s s1 : Sto} {v : Rv} (h : evE F KW e (freeze fz ρ) s = .ok v s1) (k : bindTg tg v.u (freeze fz ρ) = some ρ1) : evS F KW (.asgT fz tg e) ρ s = .ok .nx ρ1 s1 := by simp only [evS, h, RE.st, k]
end K03

end
section
set_option Elab.async false
set_option linter.all false
set_option maxRecDepth 100000
set_option maxHeartbeats 2000000
namespace K03
open Ev PySem
/-- a place where the two plans agree, with its bit -/
def ge (q : List Bool) : U → Option U
  | .tup [.int k, .int y] => if y == (if q[k.toNat]?.getD false then 1 else 0) then some (.tup [.int k, .int y]) else none
  | _ => none
theorem eqU_bi' (a b : Bool) : cmp2 .eq (bi a) (bi b) = some (a == b) := by cases a <;> cases b <;> rfl
theorem same_comp (F : CallF) (p q : List Bool) (h : p.length = q.length) (h2 : p.length ≤ 40) (s : Sto) : evE F kws (.comp [2, 3] (.t2 (.nm 2) (.nm 3)) (.enum (.var 0)) (.cmp .eq (.var 3) (.ix (.var 1) (.var 2))) (.tup (.cons (.var 2) (.cons (.var 3) .nil)))) [.sh (pl p), .sh (pl q), .un, .un] s = .ok ⟨.lst ((enumU 0 (p.map bi)).filterMap (ge q)), true⟩ s := by
  refine ev_comp (us := enumU 0 (p.map bi)) rfl (decide_eq_true (by rw [enumU_len, List.length_map]; unfold lim; omega)) fun x hx => ?_
  obtain ⟨k, y, e, rfl⟩ := enumU_mem hx
  rw [Nat.zero_add]
  rw [List.getElem?_map] at e
  cases e1 : p[k]? with
  | none => rw [e1] at e; cases e
  | some b =>
    rw [e1] at e
    cases e
    have hk : k < q.length := by have := (List.getElem?_eq_some_iff.mp e1).1; omega
    have e2 : q[k]? = some q[k] := List.getElem?_eq_getElem hk
    have e3 : (q.map bi)[k]? = some (bi q[k]) := by rw [List.getElem?_map, e2]; rfl
    refine ⟨[.sh (pl p), .sh (pl q), .sh (.int k), .sh (bi b)], rfl, ⟨.bl (b == q[k]), false⟩, b == q[k], ev_cmp (ev_var (u := bi b) rfl) (ev_ix (v := ⟨pl q, false⟩) (v2 := ⟨.int k, false⟩) (ev_var (u := pl q) rfl) (ev_var (u := .int k) rfl) (getIx_tup e3)) (eqU_bi' b _), rfl, ?_⟩
    have hg : ge q (.tup [.int k, bi b]) = if b == q[k] then some (.tup [.int k, bi b]) else none := by
      show (if (if b then (1 : Int) else 0) == (if q[(k : Int).toNat]?.getD false then 1 else 0) then some (U.tup [.int k, .int (if b then 1 else 0)]) else none) = _
      rw [Int.toNat_natCast, e2]
      cases b <;> cases q[k] <;> rfl
    rw [hg]
    cases b <;> cases q[k] <;> first | rfl | exact ⟨⟨.tup [.int k, _], false⟩, rfl, rfl⟩
end K03

end
section
set_option Elab.async false
set_option linter.all false
set_option maxRecDepth 100000
set_option maxHeartbeats 2000000
namespace K03
open Ev PySem
/-- the bit of a plan at a place -/
def bt (p : List Bool) (k : Nat) : Bool := p[k]?.getD false
theorem bt_at {p : List Bool} {k : Nat} (h : k < p.length) : p[k]? = some (bt p k) := by
  unfold bt
  rw [List.getElem?_eq_getElem h]
  rfl
theorem bt_ix {p : List Bool} {k : Nat} (h : k < p.length) (s : Sto) : getIx (pl p) (.int k) s = some (bi (bt p k)) := getIx_tup (by rw [List.getElem?_map, bt_at h]; rfl)
theorem enumU_range : ∀ (us : List U) (n : Nat), enumU n us = (List.range us.length).map fun k : Nat => U.tup [.int ((n + k : Nat) : Int), us[k]?.getD .non]
  | [], n => rfl
  | x :: us, n => by
    rw [enumU, enumU_range us (n + 1), List.length_cons, List.range_succ_eq_map, List.map_cons, List.map_map]
    congr 1
    apply List.map_congr_left
    intro k _
    simp only [Function.comp, Nat.succ_eq_add_one, List.getElem?_cons_succ]
    rw [show n + 1 + k = n + (k + 1) by omega]
theorem enum_pl (p : List Bool) : enumU 0 (p.map bi) = (List.range p.length).map fun k : Nat => U.tup [.int k, bi (bt p k)] := by
  rw [enumU_range, List.length_map]
  apply List.map_congr_left
  intro k hk
  rw [List.getElem?_map, bt_at (List.mem_range.mp hk), Nat.zero_add]
  rfl
theorem fm_map {α β γ : Type} (f : α → β) (g : β → Option γ) (l : List α) : (l.map f).filterMap g = l.filterMap fun x => g (f x) := by
  induction l with
  | nil => rfl
  | cons x l ih => simp only [List.map_cons, List.filterMap_cons, ih]
theorem fm_congr {α β : Type} {f g : α → Option β} : ∀ {l : List α}, (∀ x ∈ l, f x = g x) → l.filterMap f = l.filterMap g
  | [], _ => rfl
  | x :: l, h => by simp only [List.filterMap_cons, h x List.mem_cons_self, fm_congr (l := l) fun y hy => h y (List.mem_cons_of_mem _ hy)]
theorem fm_if {α β : Type} (c : α → Bool) (f : α → β) (l : List α) : (l.filterMap fun x => if c x then some (f x) else none) = (l.filter c).map f := by
  induction l with
  | nil => rfl
  | cons x l ih => cases h : c x <;> simp [h, ih]
/-- a comprehension over an enumerated plan -/
theorem ev_cE {F : CallF} {KW : List (List Nat)} {w : List Nat} {a b : Nat} {e t c : C} {ρ : Ev.Env} {s : Sto} {v : Rv} {p : List Bool} {g : Nat → Option U} (he : evE F KW e ρ s = .ok v s) (hu : items v.u = some (p.map bi)) (hl : p.length ≤ 40)
    (h2 : ∀ k < p.length, ∃ v kk, evE F KW t (put b (.sh (bi (bt p k))) (put a (.sh (.int k)) (wipeE w ρ))) s = .ok v s ∧ truth v.u = some kk ∧ (match kk with | true => ∃ y, evE F KW c (put b (.sh (bi (bt p k))) (put a (.sh (.int k)) (wipeE w ρ))) s = .ok y s ∧ g k = some y.u | false => g k = none)) :
    evE F KW (.comp w (.t2 (.nm a) (.nm b)) (.enum e) t c) ρ s = .ok ⟨.lst ((List.range p.length).filterMap g), true⟩ s := by
  have hi : evI F KW (.enum e) ρ s = .ok (enumU 0 (p.map bi)) s := by simp only [evI, he, x_bind, hu, x_ofO]
  have key := ev_comp (w := w) (tg := .t2 (.nm a) (.nm b)) (t := t) (e := c) (g := fun u => match u with | .tup (.int i :: _) => g i.toNat | _ => none) hi (decide_eq_true (by rw [enumU_len, List.length_map]; unfold lim; omega)) fun x hx => by
    rw [enum_pl] at hx
    obtain ⟨k, hk, rfl⟩ := List.mem_map.mp hx
    obtain ⟨v, kk, e1, e2, e3⟩ := h2 k (List.mem_range.mp hk)
    exact ⟨_, rfl, v, kk, e1, e2, e3⟩
  rw [key, enum_pl, fm_map]
  rfl
theorem ev_cEm {F : CallF} {KW : List (List Nat)} {w : List Nat} {a b : Nat} {e c : C} {ρ : Ev.Env} {s : Sto} {v : Rv} {p : List Bool} {h : Nat → U} (he : evE F KW e ρ s = .ok v s) (hu : items v.u = some (p.map bi)) (hl : p.length ≤ 40)
    (h2 : ∀ k < p.length, ∃ f, evE F KW c (put b (.sh (bi (bt p k))) (put a (.sh (.int k)) (wipeE w ρ))) s = .ok ⟨h k, f⟩ s) :
    evE F KW (.comp w (.t2 (.nm a) (.nm b)) (.enum e) (.con (.bl true)) c) ρ s = .ok ⟨.lst ((List.range p.length).map h), true⟩ s := by
  rw [← fm_some]
  refine ev_cE he hu hl fun k hk => ?_
  obtain ⟨f, e1⟩ := h2 k hk
  exact ⟨⟨.bl true, false⟩, true, by simp only [evE], rfl, _, e1, rfl⟩
theorem rngU_zero (n : Nat) : rngU 0 n 1 = (List.range n).map fun k : Nat => U.int k := by
  unfold rngU
  apply List.map_congr_left
  intro k _
  rw [show (0 + (k : Int) * 1) = k by omega]
/-- a comprehension over a range -/
theorem ev_cR {F : CallF} {KW : List (List Nat)} {w : List Nat} {a : Nat} {e t c : C} {ρ : Ev.Env} {s : Sto} {f : Bool} {n : Nat} {g : Nat → Option U} (he : evE F KW e ρ s = .ok ⟨.int n, f⟩ s) (hl : n ≤ 1000000)
    (h2 : ∀ k < n, ∃ v kk, evE F KW t (put a (.sh (.int k)) (wipeE w ρ)) s = .ok v s ∧ truth v.u = some kk ∧ (match kk with | true => ∃ y, evE F KW c (put a (.sh (.int k)) (wipeE w ρ)) s = .ok y s ∧ g k = some y.u | false => g k = none)) :
    evE F KW (.comp w (.nm a) (.rng1 e) t c) ρ s = .ok ⟨.lst ((List.range n).filterMap g), true⟩ s := by
  have hi : evI F KW (.rng1 e) ρ s = .ok (rngU 0 n 1) s := by
    simp only [evI, he, x_bind]
    rw [decide_eq_true (show (n : Int) ≤ 1000000 by omega), decide_eq_true (show (-1000000 : Int) ≤ n by omega)]
    rfl
  have key := ev_comp (w := w) (tg := .nm a) (t := t) (e := c) (g := fun u => match u with | .int i => g i.toNat | _ => none) hi (decide_eq_true (by unfold rngU lim; simp; omega)) fun x hx => by
    rw [rngU_zero] at hx
    obtain ⟨k, hk, rfl⟩ := List.mem_map.mp hx
    obtain ⟨v, kk, e1, e2, e3⟩ := h2 k (List.mem_range.mp hk)
    exact ⟨_, rfl, v, kk, e1, e2, e3⟩
  rw [key, rngU_zero, fm_map]
  rfl
theorem ev_cRm {F : CallF} {KW : List (List Nat)} {w : List Nat} {a : Nat} {e c : C} {ρ : Ev.Env} {s : Sto} {f : Bool} {n : Nat} {h : Nat → U} (he : evE F KW e ρ s = .ok ⟨.int n, f⟩ s) (hl : n ≤ 1000000)
    (h2 : ∀ k < n, ∃ f, evE F KW c (put a (.sh (.int k)) (wipeE w ρ)) s = .ok ⟨h k, f⟩ s) :
    evE F KW (.comp w (.nm a) (.rng1 e) (.con (.bl true)) c) ρ s = .ok ⟨.lst ((List.range n).map h), true⟩ s := by
  rw [← fm_some]
  refine ev_cR he hl fun k hk => ?_
  obtain ⟨f, e1⟩ := h2 k hk
  exact ⟨⟨.bl true, false⟩, true, by simp only [evE], rfl, _, e1, rfl⟩
/-- a comprehension over a sequence -/
theorem ev_cSm {F : CallF} {KW : List (List Nat)} {w : List Nat} {tg : Tg} {e c : C} {ρ : Ev.Env} {s : Sto} {v : Rv} {us : List U} {h : U → U} (he : evE F KW e ρ s = .ok v s) (hu : items v.u = some us) (hl : us.length ≤ lim)
    (h2 : ∀ x ∈ us, ∃ ρ1, bindTg tg x (wipeE w ρ) = some ρ1 ∧ ∃ f, evE F KW c ρ1 s = .ok ⟨h x, f⟩ s) :
    evE F KW (.comp w tg (.seq e) (.con (.bl true)) c) ρ s = .ok ⟨.lst (us.map h), true⟩ s := by
  rw [← fm_some]
  refine ev_comp (us := us) (by simp only [evI, he, x_bind, hu, x_ofO]) (decide_eq_true hl) fun x hx => ?_
  obtain ⟨ρ1, e1, f, e2⟩ := h2 x hx
  exact ⟨ρ1, e1, ⟨.bl true, false⟩, true, by simp only [evE], rfl, _, e2, rfl⟩
theorem all_map {α : Type} (l : List α) (c : α → Bool) : biV .all [.lst (l.map fun x => .bl (c x))] = some ⟨.bl (l.all c), false⟩ := by
  have e : (l.map fun x => U.bl (c x)) = (l.map c).map U.bl := by rw [List.map_map]; rfl
  rw [e]
  simp only [biV, boolsU_map, all_id]
/-- places as values -/
def nU (ps : List Nat) : List U := ps.map fun k : Nat => U.int k
theorem shp_nU (ps : List Nat) : (nU ps).all (shp 60) = true := by
  unfold nU
  rw [List.all_map]
  exact List.all_eq_true.mpr fun _ _ => rfl
theorem any_nU (k : Nat) (ps : List Nat) : ((nU ps).any fun y => eqU y (.int k)) = decide (k ∈ ps) := by
  unfold nU
  rw [List.any_map]
  induction ps with
  | nil => rfl
  | cons x ps ih =>
    rw [List.any_cons, ih]
    have e : ((fun y => eqU y (.int k)) ∘ fun k : Nat => U.int k) x = decide (k = x) := by
      show ((x : Int) == (k : Int)) = decide (k = x)
      by_cases h : k = x
      · subst h; simp
      · rw [decide_eq_false h]
        have : ¬ ((x : Int) = (k : Int)) := by omega
        simp [this]
    rw [e]
    by_cases h : k = x <;> simp [h]
theorem isin_t (k : Nat) (ps : List Nat) : cmp2 .isin (.int k) (.tup (nU ps)) = some (decide (k ∈ ps)) := by
  have e : shp 60 (.int (k : Int)) = true := rfl
  simp only [cmp2, shp_nU, any_nU, e, Bool.and_self, if_true]
theorem notin_l (k : Nat) (ps : List Nat) : cmp2 .notin (.int k) (.lst (nU ps)) = some (!decide (k ∈ ps)) := by
  have e : shp 60 (.int (k : Int)) = true := rfl
  simp only [cmp2, shp_nU, any_nU, e, Bool.and_self, if_true]
/-- the places at which two plans part -/
def diff (p q : List Bool) : List Nat := (List.range p.length).filter fun k => bt p k != bt q k
theorem diff_eq (p q : List Bool) : (enumU 0 (p.map bi)).filterMap (gl q) = nU (diff p q) := by
  rw [enum_pl, fm_map]
  unfold nU diff
  rw [← fm_if]
  congr 1
  funext k
  show (if (if bt p k then (1 : Int) else 0) == (if q[(k : Int).toNat]?.getD false then 1 else 0) then none else some (U.int k)) = _
  rw [Int.toNat_natCast]
  show (if (if bt p k then (1 : Int) else 0) == (if bt q k then 1 else 0) then none else some (U.int k)) = _
  cases bt p k <;> cases bt q k <;> rfl
/-- a hold as a value -/
def hU (h : List (Nat × Bool)) : List U := h.map fun x => U.tup [.int x.1, bi x.2]
/-- where two plans agree -/
def agr (p q : List Bool) : List (Nat × Bool) := ((List.range p.length).filter fun k => bt p k == bt q k).map fun k => (k, bt p k)
theorem agr_eq (p q : List Bool) : (enumU 0 (p.map bi)).filterMap (ge q) = hU (agr p q) := by
  rw [enum_pl, fm_map]
  unfold hU agr
  rw [List.map_map, ← fm_if]
  congr 1
  funext k
  show (if (if bt p k then (1 : Int) else 0) == (if q[(k : Int).toNat]?.getD false then 1 else 0) then some (U.tup [.int k, bi (bt p k)]) else none) = _
  rw [Int.toNat_natCast]
  show (if (if bt p k then (1 : Int) else 0) == (if bt q k then 1 else 0) then some (U.tup [.int k, bi (bt p k)]) else none) = if bt p k == bt q k then some (U.tup [.int k, bi (bt p k)]) else none
  cases bt p k <;> cases bt q k <;> rfl
theorem mem_diff {p q : List Bool} {k : Nat} : k ∈ diff p q ↔ k < p.length ∧ bt p k ≠ bt q k := by
  unfold diff
  rw [List.mem_filter, List.mem_range]
  cases bt p k <;> cases bt q k <;> simp
/-- places in order, all below n -/
structure Asc (n : Nat) (ps : List Nat) : Prop where
  up : ps.Pairwise (· < ·)
  lt : ∀ k ∈ ps, k < n
theorem asc_diff (p q : List Bool) : Asc p.length (diff p q) :=
  ⟨(List.pairwise_lt_range).filter _, fun k hk => (mem_diff.mp hk).1⟩
/-! ### the set of places -/
theorem insS_mem (x y : Int) : ∀ (l : List Int), y ∈ insS x l ↔ y = x ∨ y ∈ l
  | [] => by simp [insS]
  | z :: r => by
    unfold insS
    split
    · simp
    · split
      · rename_i h
        have : x = z := by simpa using h
        subst this
        simp
      · simp only [List.mem_cons, insS_mem x y r]
        constructor
        · rintro (h | h | h) <;> simp [h]
        · rintro (h | h | h) <;> simp [h]
theorem insS_up (x : Int) : ∀ (l : List Int), l.Pairwise (· < ·) → (insS x l).Pairwise (· < ·)
  | [], _ => by simp [insS]
  | z :: r, h => by
    have hz : ∀ {y}, y ∈ r → z < y := fun hy => List.rel_of_pairwise_cons h hy
    unfold insS
    split
    · rename_i hx
      refine List.pairwise_cons.mpr ⟨fun y hy => ?_, h⟩
      rcases List.mem_cons.mp hy with rfl | hy
      · exact hx
      · exact Int.lt_trans hx (hz hy)
    · split
      · exact h
      · rename_i h1 h2
        refine List.pairwise_cons.mpr ⟨fun y hy => ?_, insS_up x r (List.Pairwise.of_cons h)⟩
        rcases (insS_mem x y r).mp hy with rfl | hy
        · have : ¬ y = z := by simpa using h2
          omega
        · exact hz hy
theorem sortS_mem (y : Int) : ∀ (l : List Int), y ∈ sortS l ↔ y ∈ l
  | [] => by simp [sortS]
  | x :: r => by rw [sortS, insS_mem, sortS_mem y r, List.mem_cons]
theorem sortS_up : ∀ (l : List Int), (sortS l).Pairwise (· < ·)
  | [] => by simp [sortS]
  | x :: r => insS_up x _ (sortS_up r)
theorem int_nat : ∀ (l : List Int), (∀ x ∈ l, 0 ≤ x) → ∃ ps : List Nat, l = ps.map fun k : Nat => (k : Int)
  | [], _ => ⟨[], rfl⟩
  | x :: r, h => by
    obtain ⟨ps, e⟩ := int_nat r fun y hy => h y (List.mem_cons_of_mem _ hy)
    exact ⟨x.toNat :: ps, by rw [List.map_cons, ← e, Int.toNat_of_nonneg (h x List.mem_cons_self)]⟩
theorem nU_int (ps : List Nat) : nU ps = (ps.map fun k : Nat => (k : Int)).map .int := by
  unfold nU
  rw [List.map_map]
  rfl
theorem asc_of {n : Nat} {l : List Int} (h : l.Pairwise (· < ·)) (h2 : ∀ x ∈ l, 0 ≤ x ∧ x < n) : ∃ ps, Asc n ps ∧ l.map U.int = nU ps := by
  obtain ⟨ps, rfl⟩ := int_nat l fun x hx => (h2 x hx).1
  refine ⟨ps, ⟨?_, fun k hk => ?_⟩, (nU_int ps).symm⟩
  · rw [List.pairwise_map] at h
    exact h.imp fun h => by omega
  · have := (h2 k (List.mem_map_of_mem hk)).2
    omega
theorem law_set_ok {n : Nat} {ps : List Nat} (hl : ps.length < 64) (h : ∀ k ∈ ps, k < n) (d : Nat) (s : Sto) : ∃ qs, Asc n qs ∧ run prog kws (d + 1) 43 [.lst (nU ps)] s = .ok ⟨.tup (nU qs), false⟩ s := by
  obtain ⟨qs, h1, h2⟩ := asc_of (n := n) (sortS_up (ps.map fun k : Nat => (k : Int))) fun x hx => by
    rw [sortS_mem] at hx
    obtain ⟨k, hk, rfl⟩ := List.mem_map.mp hx
    have := h k hk
    omega
  refine ⟨qs, h1, ?_⟩
  rw [run_at (fd := d43) rfl rfl]
  refine congrArg Ev.finish (evB_ret (evS_ret (fz := []) (ev_bi1 (v := ⟨.lst (nU qs), true⟩) (ev_bi1 (ev_var (u := .lst (nU ps)) rfl) ?_) rfl)))
  rw [nU_int]
  simp only [biV, items, intsU_map, List.length_map, if_pos hl]
  rw [h2]
end K03

end
section
set_option Elab.async false
set_option linter.all false
set_option maxRecDepth 100000
set_option maxHeartbeats 2000000
namespace K03
open Ev PySem
variable {sr : Sto}
theorem nU_len (ps : List Nat) : (nU ps).length = ps.length := by unfold nU; rw [List.length_map]
theorem nU_nth : ∀ {ps : List Nat} {j : Nat} (h : j < ps.length), nth j (nU ps) = some (.int (ps[j] : Nat))
  | x :: ps, 0, h => rfl
  | x :: ps, j + 1, h => by
    have h1 : j < ps.length := by simpa using h
    have := nU_nth h1
    simpa [nth, nU] using this
theorem nU_erase : ∀ (ps : List Nat) (j : Nat), (nU ps).eraseIdx j = nU (ps.eraseIdx j)
  | [], j => rfl
  | x :: ps, 0 => rfl
  | x :: ps, j + 1 => by
    have := nU_erase ps j
    simpa [nU] using this
theorem erase_perm : ∀ (ps : List Nat) (j : Nat) (h : j < ps.length), (ps[j] :: ps.eraseIdx j).Perm ps
  | x :: ps, 0, h => .refl _
  | x :: ps, j + 1, h => by
    have h1 : j < ps.length := by simpa using h
    have := erase_perm ps j h1
    simp only [List.getElem_cons_succ, List.eraseIdx_cons_succ]
    exact (List.Perm.swap _ _ _).trans (this.cons x)
def pickB : B := .cons (.appPop [] 5 4 (.call 37 (.cons (.var 0) (.cons (.bi .len (.cons (.peek 4) .nil)) .nil)))) .nil
theorem nU_snoc (ps : List Nat) (k : Nat) : nU ps ++ [.int k] = nU (ps ++ [k]) := by unfold nU; simp
theorem pick_step {a b c : Int} {m : Nat} (Bx : Box a b c (m + 1)) (g t : U) (x3 : Slot) (found pool : List Nat) (h0 : 0 < pool.length) (h1 : pool.length ≤ 40) (h2 : found.length ≤ 40) (d : Nat) :
    ∃ found' pool' a' c', evB (run prog kws (d + 1)) kws pickB [.sh (.ref 0), .sh g, .sh t, x3, .own (.lst (nU pool)), .own (.lst (nU found))] (sto sr a b c) = .ok .nx [.sh (.ref 0), .sh g, .sh t, x3, .own (.lst (nU pool')), .own (.lst (nU found'))] (sto sr a' b c') ∧ Box a' b c' m ∧ found'.length = found.length + 1 ∧ (found' ++ pool').Perm (found ++ pool) := by
  obtain ⟨x, a1, c1, f, e, x0, x1, B1⟩ := take_ok (n := pool.length) Bx (by omega) (by omega) d
  obtain ⟨j, rfl⟩ := Int.eq_ofNat_of_zero_le x0
  have hj : j < pool.length := by omega
  refine ⟨found ++ [pool[j]], pool.eraseIdx j, a1, c1, ?_, B1, by simp, ?_⟩
  · have e1 : evE (run prog kws (d + 1)) kws (.call 37 (.cons (.var 0) (.cons (.bi .len (.cons (.peek 4) .nil)) .nil))) [.sh (.ref 0), .sh g, .sh t, x3, .own (.lst (nU pool)), .own (.lst (nU found))] (sto sr a b c) = .ok ⟨.int j, f⟩ (sto sr a1 b c1) := by
      refine (ev_call (evA_cons (ev_var (u := .ref 0) rfl) (evA_cons (v := ⟨.int pool.length, false⟩) (s1 := sto sr a b c) (ev_bi1 (v := ⟨.lst (nU pool), false⟩) (by simp only [evE, look]) (by simp only [biV, nU_len])) evA_nil))).trans e
    have c2 : ((5 : Nat) != 4 && decide (found.length < lim) && decide (pool.length ≤ lim)) = true := by
      rw [decide_eq_true (show found.length < lim by unfold lim; omega), decide_eq_true (show pool.length ≤ lim by unfold lim; omega)]
      rfl
    simp only [pickB, evB, evS, freeze, e1, x_st, look, c2, if_true, nU_len, ixN_nat hj, nU_nth hj, nU_snoc, nU_erase, put]
  · rw [List.append_assoc]
    exact (erase_perm pool j hj).append_left found
theorem pick_loop {d : Nat} {g t : U} {b : Int} : ∀ (ks : List Nat) (a c : Int) (m : Nat) (x3 : Slot) (found pool : List Nat), Box a b c (m + ks.length) → ks.length ≤ pool.length → found.length + pool.length ≤ 40 →
    ∃ x3' found' pool' a' c', forL (fun u r s => match bindTg (.nm 3) u r with | some r => evB (run prog kws (d + 1)) kws pickB r s | none => .bad) (nU ks) [.sh (.ref 0), .sh g, .sh t, x3, .own (.lst (nU pool)), .own (.lst (nU found))] (sto sr a b c) = .ok .nx [.sh (.ref 0), .sh g, .sh t, x3', .own (.lst (nU pool')), .own (.lst (nU found'))] (sto sr a' b c') ∧ Box a' b c' m ∧ found'.length = found.length + ks.length ∧ (found' ++ pool').Perm (found ++ pool)
  | [], a, c, m, x3, found, pool, Bx, h1, h2 => ⟨x3, found, pool, a, c, rfl, Bx, rfl, .refl _⟩
  | k :: ks, a, c, m, x3, found, pool, Bx, h1, h2 => by
    rw [List.length_cons] at h1 Bx
    obtain ⟨f1, p1, a1, c1, e1, B1, l1, q1⟩ := pick_step (m := m + ks.length) (by rw [Nat.add_assoc]; exact Bx) g t (.sh (.int k)) found pool (by omega) (by omega) (by omega) d
    have hlen := q1.length_eq
    rw [List.length_append, List.length_append] at hlen
    obtain ⟨x3', f2, p2, a2, c2, e2, B2, l2, q2⟩ := pick_loop (d := d) (g := g) (t := t) ks a1 c1 m (.sh (.int k)) f1 p1 B1 (by omega) (by omega)
    refine ⟨x3', f2, p2, a2, c2, ?_, B2, by rw [l2, l1, List.length_cons]; omega, q2.trans q1⟩
    show forL _ (U.int k :: nU ks) _ _ = _
    have e1' : evB (run prog kws (d + 1)) kws pickB (put 3 (.sh (.int k)) [.sh (.ref 0), .sh g, .sh t, x3, .own (.lst (nU pool)), .own (.lst (nU found))]) (sto sr a b c) = _ := e1
    simp only [forL, bindTg, e1']
    exact e2
theorem pick_ok {a b c : Int} {m : Nat} (Bx : Box a b c (m + 40)) (ps : List Nat) (hp : ps.length ≤ 40) (t : Nat) (d : Nat) : ∃ found rest a' c', run prog kws (d + 2) 40 [.ref 0, .lst (nU ps), .int t] (sto sr a b c) = .ok ⟨.lst (nU found), true⟩ (sto sr a' b c') ∧ Box a' b c' m ∧ found.length = min t ps.length ∧ (found ++ rest).Perm ps := by
  rw [run_at (fd := d40) rfl rfl]
  have hb : Box a b c (m + (List.range (min t ps.length)).length) := by
    refine ⟨Bx.a0, Bx.b0, Bx.b1, Bx.c0, ?_⟩
    have := Bx.c1
    rw [List.length_range]
    omega
  obtain ⟨x3', f2, p2, a2, c2, e2, B2, l2, q2⟩ := pick_loop (d := d) (g := .lst (nU ps)) (t := .int t) (List.range (min t ps.length)) a c m .un [] ps hb (by rw [List.length_range]; omega) (by simpa using hp)
  refine ⟨f2, p2, a2, c2, ?_, B2, by simpa using l2, q2⟩
  have s1 : evS (run prog kws (d + 1)) kws (.par2 [] 4 true (.bi .list (.cons (.var 1) .nil)) 5 true (.lst .nil)) [.sh (.ref 0), .sh (.lst (nU ps)), .sh (.int t), .un, .un, .un] (sto sr a b c) = .ok .nx [.sh (.ref 0), .sh (.lst (nU ps)), .sh (.int t), .un, .own (.lst (nU ps)), .own (.lst (nU []))] (sto sr a b c) := by
    simp only [evS, evE, evA, freeze, x_st, x_bind, look, biV, items, x_ofO, Rv.slot, put]
    rfl
  have hm : (if (ps.length : Int) < (t : Int) then (ps.length : Int) else t) = ((min t ps.length : Nat) : Int) := by
    split <;> omega
  have hi : evI (run prog kws (d + 1)) kws (.rng1 (.bi .min2 (.cons (.bi .int1 (.cons (.var 2) .nil)) (.cons (.bi .len (.cons (.peek 4) .nil)) .nil)))) [.sh (.ref 0), .sh (.lst (nU ps)), .sh (.int t), .un, .own (.lst (nU ps)), .own (.lst (nU []))] (sto sr a b c) = .ok (nU (List.range (min t ps.length))) (sto sr a b c) := by
    simp only [evI, evE, evA, look, x_bind, biV, x_ofO, nU_len, hm]
    rw [decide_eq_true (show ((min t ps.length : Nat) : Int) ≤ 1000000 by omega), decide_eq_true (show (-1000000 : Int) ≤ ((min t ps.length : Nat) : Int) by omega)]
    show RE.ok (rngU 0 (min t ps.length) 1) _ = _
    rw [rngU_zero]
    rfl
  have s2 : evS (run prog kws (d + 1)) kws (.for_ [] (.nm 3) (.rng1 (.bi .min2 (.cons (.bi .int1 (.cons (.var 2) .nil)) (.cons (.bi .len (.cons (.peek 4) .nil)) .nil)))) pickB) [.sh (.ref 0), .sh (.lst (nU ps)), .sh (.int t), .un, .own (.lst (nU ps)), .own (.lst (nU []))] (sto sr a b c) = .ok .nx [.sh (.ref 0), .sh (.lst (nU ps)), .sh (.int t), x3', .own (.lst (nU p2)), .own (.lst (nU f2))] (sto sr a2 b c2) := by
    have hl : inLim (nU (List.range (min t ps.length))) = true := decide_eq_true (by rw [nU_len, List.length_range]; unfold lim; omega)
    simp only [evS, freeze, hi, x_st, hl]
    exact e2
  exact congrArg Ev.finish ((evB_nx s1).trans ((evB_nx s2).trans (evB_ret (evS_retO rfl))))
theorem range_nU (n : Nat) (h : n ≤ 40) : biV .listRange [.int n] = some ⟨.lst (nU (List.range n)), true⟩ := by
  have h1 : (decide ((n : Int) ≤ 1000000) && decide ((-1000000 : Int) ≤ n)) = true := by
    rw [decide_eq_true (show (n : Int) ≤ 1000000 by omega), decide_eq_true (show (-1000000 : Int) ≤ n by omega)]; rfl
  have h2 : (n : Int) ≤ 1000000 := by omega
  have h3 : (-1000000 : Int) ≤ n := by omega
  simp [biV, h2, h3, nU]
theorem line_ok {a b c : Int} {m : Nat} (Bx : Box a b c (m + 40)) (n : Nat) (h : n ≤ 40) (d : Nat) : ∃ l a' c', run prog kws (d + 3) 52 [.ref 0, .int n] (sto sr a b c) = .ok ⟨.tup (nU l), false⟩ (sto sr a' b c') ∧ Box a' b c' m ∧ l.Perm (List.range n) := by
  obtain ⟨f, r, a1, c1, e1, B1, l1, q1⟩ := pick_ok Bx (List.range n) (by simpa using h) n d
  have hl := q1.length_eq
  rw [List.length_append, l1, List.length_range, Nat.min_self] at hl
  have : r = [] := List.eq_nil_of_length_eq_zero (by omega)
  subst this
  rw [List.append_nil] at q1
  refine ⟨f, a1, c1, ?_, B1, q1⟩
  rw [run_at (fd := d52) rfl rfl]
  refine congrArg Ev.finish (evB_ret (evS_ret (fz := []) (ev_bi1 (v := ⟨.lst (nU f), true⟩) ((ev_call (evA_cons (ev_var (u := .ref 0) rfl) (evA_cons (v := ⟨.lst (nU (List.range n)), true⟩) (s1 := sto sr a b c) (ev_bi1 (ev_var (u := .int n) rfl) (range_nU n h)) (evA_cons (ev_var (u := .int n) rfl) evA_nil)))).trans e1) rfl)))
/-! ### sorted orders -/
theorem insI_perm (x : Int) : ∀ (l : List Int), (insI x l).Perm (x :: l)
  | [] => .refl _
  | z :: r => by
    unfold insI
    split
    · exact .refl _
    · exact ((insI_perm x r).cons z).trans (List.Perm.swap _ _ _)
theorem sortI_perm : ∀ (l : List Int), (sortI l).Perm l
  | [] => .refl _
  | x :: r => (insI_perm x _).trans ((sortI_perm r).cons x)
theorem insI_up (x : Int) : ∀ (l : List Int), l.Pairwise (· ≤ ·) → (insI x l).Pairwise (· ≤ ·)
  | [], _ => by simp [insI]
  | z :: r, h => by
    have hz : ∀ {y}, y ∈ r → z ≤ y := fun hy => List.rel_of_pairwise_cons h hy
    unfold insI
    split
    · rename_i hx
      refine List.pairwise_cons.mpr ⟨fun y hy => ?_, h⟩
      rcases List.mem_cons.mp hy with rfl | hy
      · exact hx
      · exact Int.le_trans hx (hz hy)
    · rename_i h1
      refine List.pairwise_cons.mpr ⟨fun y hy => ?_, insI_up x r (List.Pairwise.of_cons h)⟩
      rcases List.mem_cons.mp ((insI_perm x r).mem_iff.mp hy) with rfl | hy
      · omega
      · exact hz hy
theorem sortI_up : ∀ (l : List Int), (sortI l).Pairwise (· ≤ ·)
  | [] => by simp [sortI]
  | x :: r => insI_up x _ (sortI_up r)
theorem sorted_line {l : List Nat} {n : Nat} (h : l.Perm (List.range n)) : ∃ ps, Asc n ps ∧ biV .sorted [.tup (nU l)] = some ⟨.lst (nU ps), true⟩ := by
  have hp := sortI_perm (l.map fun k : Nat => (k : Int))
  have h1 : (sortI (l.map fun k : Nat => (k : Int))).Pairwise (· < ·) := by
    have hn : (sortI (l.map fun k : Nat => (k : Int))).Nodup := by
      refine hp.nodup_iff.mpr ?_
      have : l.Nodup := h.nodup_iff.mpr List.nodup_range
      unfold List.Nodup at this ⊢
      rw [List.pairwise_map]
      exact this.imp fun h => by omega
    refine (List.Pairwise.and (sortI_up _) hn).imp fun h => ?_
    have := h.1
    have h2 := h.2
    omega
  obtain ⟨ps, h2, h3⟩ := asc_of (n := n) h1 fun x hx => by
    obtain ⟨k, hk, rfl⟩ := List.mem_map.mp (hp.mem_iff.mp hx)
    have := List.mem_range.mp (h.mem_iff.mp hk)
    omega
  refine ⟨ps, h2, ?_⟩
  rw [nU_int]
  simp only [biV, items, intsU_map]
  rw [h3]
end K03

end
section
set_option Elab.async false
set_option linter.all false
set_option maxRecDepth 100000
set_option maxHeartbeats 2000000
namespace K03
open Ev PySem
theorem nU_at {ps : List Nat} {k : Nat} (h : k < ps.length) : (nU ps)[k]? = some (.int (ps[k]?.getD 0 : Nat)) := by
  unfold nU
  rw [List.getElem?_map, List.getElem?_eq_getElem h]
  rfl
theorem seq_ix {u : U} {ps : List Nat} (hu : u = .tup (nU ps) ∨ u = .lst (nU ps)) {k : Nat} (h : k < ps.length) (s : Sto) : getIx u (.int k) s = some (.int (ps[k]?.getD 0 : Nat)) := by
  rcases hu with rfl | rfl
  · exact getIx_tup (nU_at h)
  · exact getIx_lst (nU_at h)
theorem seq_len {u : U} {ps : List Nat} (hu : u = .tup (nU ps) ∨ u = .lst (nU ps)) : biV .len [u] = some ⟨.int ps.length, false⟩ := by
  rcases hu with rfl | rfl <;> simp only [biV, nU_len]
def ascB (ps : List Nat) : Bool := (List.range (ps.length - 1)).all fun k => decide (ps[k]?.getD 0 < ps[k + 1]?.getD 0)
theorem asc_ok {u : U} {ps : List Nat} (hu : u = .tup (nU ps) ∨ u = .lst (nU ps)) (hl : ps.length ≤ 100) (d : Nat) (s : Sto) : run prog kws (d + 1) 4 [u] s = .ok ⟨.bl (ascB ps), false⟩ s := by
  cases ps with
  | nil => rcases hu with rfl | rfl <;> rfl
  | cons x r =>
    rw [run_at (fd := d4) rfl rfl]
    have e0 : evE (run prog kws d) kws (.op .sub (.bi .len (.cons (.var 0) .nil)) (.con (.int 1))) [.sh u, .un] s = .ok ⟨.int r.length, false⟩ s := by
      refine ev_op (v2 := ⟨.int 1, false⟩) (ev_bi1 (ev_var (u := u) rfl) (seq_len hu)) rfl ?_
      rw [x_sub, List.length_cons]
      congr 3
      omega
    refine congrArg Ev.finish (evB_ret (evS_ret (fz := []) (ev_bi1 (ev_cRm (h := fun k => .bl (decide ((x :: r)[k]?.getD 0 < (x :: r)[k + 1]?.getD 0))) e0 (by rw [List.length_cons] at hl; omega) fun k hk => ⟨false, ?_⟩) (all_map _ _))))
    refine ev_cmp (ev_ix (v := ⟨u, false⟩) (v2 := ⟨.int k, false⟩) (ev_var (u := u) rfl) (ev_var (u := .int k) rfl) (seq_ix hu (by rw [List.length_cons]; omega) s)) (ev_ix (v := ⟨u, false⟩) (v2 := ⟨.int ((k + 1 : Nat) : Int), false⟩) (ev_var (u := u) rfl) (ev_op (v := ⟨.int k, false⟩) (v2 := ⟨.int 1, false⟩) (ev_var (u := .int k) rfl) rfl rfl) (seq_ix hu (by rw [List.length_cons]; omega) s)) ?_
    rw [x_lt]
    congr 1
    exact decide_eq_decide.mpr (by omega)
theorem ascB_up {ps : List Nat} (h : ps.Pairwise (· < ·)) : ascB ps = true := by
  unfold ascB
  refine List.all_eq_true.mpr fun k hk => decide_eq_true ?_
  have hk := List.mem_range.mp hk
  have h1 : k < ps.length := by omega
  have h2 : k + 1 < ps.length := by omega
  rw [List.getElem?_eq_getElem h1, List.getElem?_eq_getElem h2]
  exact List.pairwise_iff_getElem.mp h k (k + 1) h1 h2 (by omega)
theorem ascB_turn {j : Nat} {r : List Nat} (h : (j :: r).Pairwise (· < ·)) : ascB ((j :: r) ++ [j]) = false := by
  unfold ascB
  refine List.all_eq_false.mpr ⟨r.length, List.mem_range.mpr (by simp), ?_⟩
  have h1 : ((j :: r) ++ [j])[r.length + 1]? = some j := by simp
  have h2 : r.length < (j :: r).length := by simp
  have h3 : ((j :: r) ++ [j])[r.length]? = some (j :: r)[r.length] := by
    rw [List.getElem?_append_left h2, List.getElem?_eq_getElem h2]
  rw [h1, h3]
  have : j ≤ (j :: r)[r.length] := by
    have hm : (j :: r)[r.length] ∈ j :: r := List.getElem_mem h2
    rcases List.mem_cons.mp hm with e | e
    · omega
    · exact Nat.le_of_lt (List.rel_of_pairwise_cons h e)
  simp only [Option.getD_some, decide_eq_true_eq]
  omega
theorem all_true' (l : List U) : biV .all [.lst (l.map fun _ => .bl true)] = some ⟨.bl true, false⟩ := by
  rw [all_map l fun _ => true]
  congr 2
  simp
theorem nU_mem {ps : List Nat} {x : U} (h : x ∈ nU ps) : ∃ k ∈ ps, x = .int (k : Nat) := by
  obtain ⟨k, hk, rfl⟩ := List.mem_map.mp h
  exact ⟨k, hk, rfl⟩
theorem nU_lim {ps : List Nat} (h : ps.length ≤ 100) : (nU ps).length ≤ lim := by rw [nU_len]; unfold lim; omega
theorem nums_ok (ps : List Nat) (hl : ps.length ≤ 100) (d : Nat) (s : Sto) : run prog kws (d + 2) 6 [.tup (nU ps)] s = .ok ⟨.bl true, false⟩ s := by
  rw [run_at (fd := d6) rfl rfl]
  refine congrArg Ev.finish (evB_ret (evS_ret (fz := []) ((ev_andT (v := ⟨.bl true, false⟩) (s1 := s) (ev_bi1 (ev_var (u := .tup (nU ps)) rfl) rfl) rfl).trans (ev_bi1 (ev_cSm (v := ⟨.tup (nU ps), false⟩) (us := nU ps) (h := fun _ => .bl true) (ev_var (u := .tup (nU ps)) rfl) rfl (nU_lim hl) fun x hx => ?_) (all_true' _)))))
  obtain ⟨k, _, rfl⟩ := nU_mem hx
  exact ⟨[.sh (.tup (nU ps)), .sh (.int k)], rfl, false, rfl⟩
theorem places_ok {ps : List Nat} {n : Nat} (h : Asc n ps) (hl : ps.length ≤ 100) (d : Nat) (s : Sto) : run prog kws (d + 3) 7 [.tup (nU ps), .int n] s = .ok ⟨.bl true, false⟩ s := by
  rw [run_at (fd := d7) rfl rfl]
  have a1 : evE (run prog kws (d + 2)) kws (.call 6 (.cons (.var 0) .nil)) [.sh (.tup (nU ps)), .sh (.int n), .un] s = .ok ⟨.bl true, false⟩ s := (ev_call (evA_cons (ev_var (u := .tup (nU ps)) rfl) evA_nil)).trans (nums_ok ps hl d s)
  have a2 : evE (run prog kws (d + 2)) kws (.call 4 (.cons (.var 0) .nil)) [.sh (.tup (nU ps)), .sh (.int n), .un] s = .ok ⟨.bl true, false⟩ s := (ev_call (evA_cons (ev_var (u := .tup (nU ps)) rfl) evA_nil)).trans (by rw [← ascB_up h.up]; exact asc_ok (.inl rfl) hl (d + 1) s)
  refine congrArg Ev.finish (evB_ret (evS_ret (fz := []) ((ev_andT a1 rfl).trans ((ev_andT a2 rfl).trans (ev_bi1 (ev_cSm (v := ⟨.tup (nU ps), false⟩) (us := nU ps) (h := fun _ => .bl true) (ev_var (u := .tup (nU ps)) rfl) rfl (nU_lim hl) fun x hx => ?_) (all_true' _))))))
  obtain ⟨k, hk, rfl⟩ := nU_mem hx
  have hk := h.lt k hk
  refine ⟨[.sh (.tup (nU ps)), .sh (.int n), .sh (.int k)], rfl, false, ?_⟩
  simp only [evE, look, x_bind, x_le, x_ofO, x_lt, decide_eq_true (show (0 : Int) ≤ k by omega), decide_eq_true (show (k : Int) < n by omega)]
theorem tp_nU {u : U} {ps : List Nat} (hu : u = .tup (nU ps) ∨ u = .lst (nU ps)) (hl : ps.length ≤ 100) : Tp 1 u (.tup (nU ps)) := by
  have h1 : Tp 1 u (.tup ((nU ps).map id)) := .seq (us := nU ps) id (by rcases hu with rfl | rfl <;> rfl) (nU_lim hl) fun x hx => by
    obtain ⟨k, _, rfl⟩ := nU_mem hx
    exact .int 0 _
  rw [List.map_id] at h1
  exact h1
theorem sure_places_ok {u : U} {ps : List Nat} {n : Nat} (hu : u = .tup (nU ps) ∨ u = .lst (nU ps)) (h : Asc n ps) (hl : ps.length ≤ 100) (d : Nat) (s : Sto) : run prog kws (d + 4) 12 [u, .int n] s = .ok ⟨.tup (nU ps), false⟩ s := by
  rw [run_at (fd := d12) rfl rfl]
  have h1 : run prog kws (d + 3) 3 [u] s = .ok ⟨.tup (nU ps), false⟩ s := tupled_ok (tp_nU hu hl) (d + 1) s
  have h2 := places_ok h hl d s
  have a1 : evE (run prog kws (d + 3)) kws (.call 3 (.cons (.var 0) .nil)) [.sh u, .sh (.int n), .un] s = .ok ⟨.tup (nU ps), false⟩ s := (ev_call (evA_cons (ev_var (u := u) rfl) evA_nil)).trans h1
  have a2 : evE (run prog kws (d + 3)) kws (.not (.call 7 (.cons (.var 2) (.cons (.var 1) .nil)))) [.sh u, .sh (.int n), .sh (.tup (nU ps))] s = .ok ⟨.bl false, false⟩ s := ev_not (q := true) ((ev_call (evA_cons (ev_var (u := .tup (nU ps)) rfl) (evA_cons (ev_var (u := .int n) rfl) evA_nil))).trans h2) rfl
  refine fin_of (ρ := [.sh u, .sh (.int n), .sh (.tup (nU ps))]) ((evB_nx (ρ := [.sh u, .sh (.int n), .un]) (ρ1 := [.sh u, .sh (.int n), .sh (.tup (nU ps))]) (s1 := s) (evS_asg (fz := []) (i := 2) (o := true) a1)).trans ?_)
  refine (evB_nx (ρ1 := [.sh u, .sh (.int n), .sh (.tup (nU ps))]) (s1 := s) ((evS_ifF (fz := [2]) a2 rfl).trans evB_nil)).trans ?_
  exact evB_ret (evS_retV rfl)
theorem perm_ok {l : List Nat} {n : Nat} (h : l.Perm (List.range n)) (hn : n ≤ 40) (d : Nat) (s : Sto) : run prog kws (d + 4) 8 [.tup (nU l), .int n] s = .ok ⟨.bl true, false⟩ s := by
  have hl : l.length ≤ 100 := by have := h.length_eq; rw [List.length_range] at this; omega
  obtain ⟨ps, h1, h2⟩ := sorted_line h
  have hps : ps.length ≤ 100 := by
    have h3 := h2
    rw [nU_int] at h3
    simp only [biV, items, intsU_map, Option.some.injEq, Rv.mk.injEq, U.lst.injEq, and_true] at h3
    have h4 := congrArg List.length h3
    rw [nU_len, List.length_map, (sortI_perm _).length_eq, List.length_map] at h4
    omega
  rw [run_at (fd := d8) rfl rfl]
  have a1 : evE (run prog kws (d + 3)) kws (.call 6 (.cons (.var 0) .nil)) [.sh (.tup (nU l)), .sh (.int n)] s = .ok ⟨.bl true, false⟩ s := (ev_call (evA_cons (ev_var (u := .tup (nU l)) rfl) evA_nil)).trans (nums_ok l hl (d + 1) s)
  exact congrArg Ev.finish (evB_ret (evS_ret (fz := []) ((ev_andT a1 rfl).trans ((ev_call (evA_cons (v := ⟨.tup (nU ps), false⟩) (ev_bi1 (v := ⟨.lst (nU ps), true⟩) (ev_bi1 (ev_var (u := .tup (nU l)) rfl) h2) rfl) (evA_cons (ev_var (u := .int n) rfl) evA_nil))).trans (places_ok h1 hps d s)))))
theorem eqI (i : Int) : cmp2 .eq (.int i) (.int i) = some true := by simp [cmp2, shp, eqU]
theorem tup_of_ok (us : List U) (n : Nat) (h : us.length = n) (d : Nat) (s : Sto) : run prog kws (d + 1) 2 [.tup us, .int n] s = .ok ⟨.bl true, false⟩ s := by
  rw [run_at (fd := d2) rfl rfl]
  exact congrArg Ev.finish (evB_ret (evS_ret (fz := []) ((ev_andT (v := ⟨.bl true, false⟩) (s1 := s) (ev_bi1 (ev_var (u := .tup us) rfl) rfl) rfl).trans (ev_cmp (v := ⟨.int n, false⟩) (v2 := ⟨.int n, false⟩) (ev_bi1 (ev_var (u := .tup us) rfl) (by simp only [biV, h])) (ev_var (u := .int n) rfl) (eqI _)))))
theorem order_ok {l : List Nat} {n : Nat} (h : l.Perm (List.range n)) (hn : n ≤ 40) (d : Nat) (s : Sto) : run prog kws (d + 5) 13 [.tup (nU l), .int n] s = .ok ⟨.bl true, false⟩ s := by
  rw [run_at (fd := d13) rfl rfl]
  have hl := h.length_eq
  rw [List.length_range] at hl
  have a1 : evE (run prog kws (d + 4)) kws (.call 2 (.cons (.var 0) (.cons (.var 1) .nil))) [.sh (.tup (nU l)), .sh (.int n)] s = .ok ⟨.bl true, false⟩ s := (ev_call (evA_cons (ev_var (u := .tup (nU l)) rfl) (evA_cons (ev_var (u := .int n) rfl) evA_nil))).trans (tup_of_ok (nU l) n (by rw [nU_len, hl]) (d + 3) s)
  exact congrArg Ev.finish (evB_ret (evS_ret (fz := []) ((ev_andT a1 rfl).trans ((ev_call (evA_cons (ev_var (u := .tup (nU l)) rfl) (evA_cons (ev_var (u := .int n) rfl) evA_nil))).trans (perm_ok h hn d s)))))
theorem sure_order_ok {u : U} {l : List Nat} {n : Nat} (hu : u = .tup (nU l) ∨ u = .lst (nU l)) (h : l.Perm (List.range n)) (hn : n ≤ 40) (d : Nat) (s : Sto) : run prog kws (d + 6) 14 [u, .int n] s = .ok ⟨.tup (nU l), false⟩ s := by
  have hl : l.length ≤ 100 := by have := h.length_eq; rw [List.length_range] at this; omega
  rw [run_at (fd := d14) rfl rfl]
  have h1 : run prog kws (d + 5) 3 [u] s = .ok ⟨.tup (nU l), false⟩ s := tupled_ok (tp_nU hu hl) (d + 3) s
  have a1 : evE (run prog kws (d + 5)) kws (.call 3 (.cons (.var 0) .nil)) [.sh u, .sh (.int n), .un] s = .ok ⟨.tup (nU l), false⟩ s := (ev_call (evA_cons (ev_var (u := u) rfl) evA_nil)).trans h1
  have a2 : evE (run prog kws (d + 5)) kws (.not (.call 13 (.cons (.var 2) (.cons (.var 1) .nil)))) [.sh u, .sh (.int n), .sh (.tup (nU l))] s = .ok ⟨.bl false, false⟩ s := ev_not (q := true) ((ev_call (evA_cons (ev_var (u := .tup (nU l)) rfl) (evA_cons (ev_var (u := .int n) rfl) evA_nil))).trans (order_ok h hn d s)) rfl
  refine fin_of (ρ := [.sh u, .sh (.int n), .sh (.tup (nU l))]) ((evB_nx (ρ := [.sh u, .sh (.int n), .un]) (ρ1 := [.sh u, .sh (.int n), .sh (.tup (nU l))]) (s1 := s) (evS_asg (fz := []) (i := 2) (o := true) a1)).trans ?_)
  refine (evB_nx (ρ1 := [.sh u, .sh (.int n), .sh (.tup (nU l))]) (s1 := s) ((evS_ifF (fz := [2]) a2 rfl).trans evB_nil)).trans ?_
  exact evB_ret (evS_retV rfl)
theorem within_n {n : Nat} (h1 : 1 ≤ n) (h2 : n ≤ 40) (d : Nat) (s : Sto) : run prog kws (d + 2) 1 [.int n, .int 1, .int 40] s = .ok ⟨.bl true, false⟩ s := by
  rw [is_within_int, decide_eq_true (show (1 : Int) ≤ n by omega), decide_eq_true (show (n : Int) ≤ 40 by omega)]
  rfl
end K03

end
section
set_option Elab.async false
set_option linter.all false
set_option maxRecDepth 100000
set_option maxHeartbeats 2000000
namespace K03
open Ev PySem
theorem pl_len {u : U} {p : List Bool} (hu : u = pl p ∨ u = pll p) : biV .len [u] = some ⟨.int p.length, false⟩ := by
  rcases hu with rfl | rfl <;> simp only [biV, pl, pll, List.length_map]
theorem bi_not (b : Bool) : op2 .sub (.int 1) (bi b) = some ⟨bi (!b), false⟩ := by cases b <;> rfl
/-- p turned at the places -/
def tw (p : List Bool) (ps : List Nat) : List Bool := (List.range p.length).map fun k => if decide (k ∈ ps) then !bt p k else bt p k
theorem tw_comp {F : CallF} {a b i : Nat} {w : List Nat} {e : C} {ρ : Ev.Env} {s : Sto} {p : List Bool} {ps : List Nat} {v : Rv} (he : evE F kws e ρ s = .ok v s) (hu : items v.u = some (p.map bi)) (hl : p.length ≤ 40)
    (ha : ∀ k < p.length, look a (put b (.sh (bi (bt p k))) (put a (.sh (.int k)) (wipeE w ρ))) = .sh (.int k))
    (hb : ∀ k < p.length, look b (put b (.sh (bi (bt p k))) (put a (.sh (.int k)) (wipeE w ρ))) = .sh (bi (bt p k)))
    (hi : ∀ k < p.length, look i (put b (.sh (bi (bt p k))) (put a (.sh (.int k)) (wipeE w ρ))) = .sh (.tup (nU ps))) :
    evE F kws (.bi .tuple (.cons (.comp w (.t2 (.nm a) (.nm b)) (.enum e) (.con (.bl true)) (.ife (.cmp .isin (.var a) (.var i)) (.op .sub (.con (.int 1)) (.var b)) (.var b))) .nil)) ρ s = .ok ⟨pl (tw p ps), false⟩ s := by
  refine ev_bi1 (ev_cEm (h := fun k => bi (if decide (k ∈ ps) then !bt p k else bt p k)) he hu hl fun k hk => ⟨false, ?_⟩) ?_
  · have ht := ev_cmp (F := F) (KW := kws) (s := s) (o := .isin) (ev_var (u := .int k) (ha k hk)) (ev_var (u := .tup (nU ps)) (hi k hk)) (isin_t k ps)
    by_cases hm : k ∈ ps
    · rw [decide_eq_true hm] at ht ⊢
      exact (ev_ifeT ht rfl).trans (ev_op (v := ⟨.int 1, false⟩) rfl (ev_var (hb k hk)) (bi_not _))
    · rw [decide_eq_false hm] at ht ⊢
      exact (ev_ifeF ht rfl).trans (ev_var (hb k hk))
  · show some (Rv.mk (.tup _) false) = _
    unfold pl tw
    rw [List.map_map]
    rfl
theorem bt_range {n : Nat} {f : Nat → Bool} {k : Nat} (h : k < n) : bt ((List.range n).map f) k = f k := by
  unfold bt
  rw [List.getElem?_map, List.getElem?_range h]
  rfl
theorem bt_ext {p q : List Bool} (h : p.length = q.length) (h2 : ∀ k < p.length, bt p k = bt q k) : p = q := by
  refine List.ext_getElem? fun k => ?_
  by_cases hk : k < p.length
  · rw [bt_at hk, bt_at (by omega), h2 k hk]
  · rw [List.getElem?_eq_none (by omega), List.getElem?_eq_none (by omega)]
theorem tw_diff {p q : List Bool} (h : p.length = q.length) : tw p (diff p q) = q := by
  refine bt_ext (by unfold tw; simp [h]) fun k hk => ?_
  have hk : k < p.length := by unfold tw at hk; simpa using hk
  unfold tw
  rw [bt_range hk]
  by_cases hm : k ∈ diff p q
  · rw [decide_eq_true hm]
    have := (mem_diff.mp hm).2
    cases h1 : bt p k <;> cases h2 : bt q k <;> simp_all
  · rw [decide_eq_false hm]
    have : ¬ (bt p k ≠ bt q k) := fun hne => hm (mem_diff.mpr ⟨hk, hne⟩)
    cases h1 : bt p k <;> cases h2 : bt q k <;> simp_all
/-- p at the places, q elsewhere -/
def mx (p q : List Bool) (ps : List Nat) : List Bool := (List.range p.length).map fun k => if decide (k ∈ ps) then bt p k else bt q k
theorem mx_comp {F : CallF} {a b i j : Nat} {w : List Nat} {e : C} {ρ : Ev.Env} {s : Sto} {p q : List Bool} {ps : List Nat} {v : Rv} (he : evE F kws e ρ s = .ok v s) (hu : items v.u = some (p.map bi)) (hl : p.length ≤ 40) (hq : p.length = q.length)
    (ha : ∀ k < p.length, look a (put b (.sh (bi (bt p k))) (put a (.sh (.int k)) (wipeE w ρ))) = .sh (.int k))
    (hb : ∀ k < p.length, look b (put b (.sh (bi (bt p k))) (put a (.sh (.int k)) (wipeE w ρ))) = .sh (bi (bt p k)))
    (hi : ∀ k < p.length, look i (put b (.sh (bi (bt p k))) (put a (.sh (.int k)) (wipeE w ρ))) = .sh (.tup (nU ps)))
    (hj : ∀ k < p.length, look j (put b (.sh (bi (bt p k))) (put a (.sh (.int k)) (wipeE w ρ))) = .sh (pl q)) :
    evE F kws (.bi .tuple (.cons (.comp w (.t2 (.nm a) (.nm b)) (.enum e) (.con (.bl true)) (.ife (.cmp .isin (.var a) (.var i)) (.var b) (.ix (.var j) (.var a)))) .nil)) ρ s = .ok ⟨pl (mx p q ps), false⟩ s := by
  refine ev_bi1 (ev_cEm (h := fun k => bi (if decide (k ∈ ps) then bt p k else bt q k)) he hu hl fun k hk => ⟨false, ?_⟩) ?_
  · have ht := ev_cmp (F := F) (KW := kws) (s := s) (o := .isin) (ev_var (u := .int k) (ha k hk)) (ev_var (u := .tup (nU ps)) (hi k hk)) (isin_t k ps)
    by_cases hm : k ∈ ps
    · rw [decide_eq_true hm] at ht ⊢
      exact (ev_ifeT ht rfl).trans (ev_var (hb k hk))
    · rw [decide_eq_false hm] at ht ⊢
      exact (ev_ifeF ht rfl).trans (ev_ix (ev_var (hj k hk)) (ev_var (ha k hk)) (bt_ix (by omega) s))
  · show some (Rv.mk (.tup _) false) = _
    unfold pl mx
    rw [List.map_map]
    rfl
/-! ### holds -/
theorem hU_len (h : List (Nat × Bool)) : (hU h).length = h.length := by unfold hU; rw [List.length_map]
theorem hU_mem {h : List (Nat × Bool)} {x : U} (hx : x ∈ hU h) : ∃ k b, (k, b) ∈ h ∧ x = .tup [.int (k : Nat), bi b] := by
  obtain ⟨⟨k, b⟩, hk, rfl⟩ := List.mem_map.mp hx
  exact ⟨k, b, hk, rfl⟩
def kept (p : List Bool) (h : List (Nat × Bool)) : Bool := h.all fun x => bt p x.1 == x.2
/-- the places of a hold -/
def hp (h : List (Nat × Bool)) : List Nat := h.map Prod.fst
theorem within0 {k n : Nat} (h : k < n) (d : Nat) (s : Sto) : run prog kws (d + 2) 1 [.int k, .int 0, .int ((n : Int) - 1)] s = .ok ⟨.bl true, false⟩ s := by
  rw [is_within_int, decide_eq_true (show (0 : Int) ≤ k by omega), decide_eq_true (show (k : Int) ≤ (n : Int) - 1 by omega)]
  rfl
theorem hold_ok {h : List (Nat × Bool)} {n : Nat} (hk : ∀ x ∈ h, x.1 < n) (hl : h.length ≤ 100) (d : Nat) (s : Sto) : run prog kws (d + 3) 16 [.tup (hU h), .int n] s = .ok ⟨.bl (ascB (hp h)), false⟩ s := by
  rw [run_at (fd := d16) rfl rfl]
  have hL : (hU h).length ≤ lim := by rw [hU_len]; unfold lim; omega
  have c1 : evE (run prog kws (d + 2)) kws (.comp [4] (.nm 4) (.seq (.var 0)) (.con (.bl true)) (.call 2 (.cons (.var 4) (.cons (.con (.int 2)) .nil)))) [.sh (.tup (hU h)), .sh (.int n), .un, .un, .un] s = .ok ⟨.lst ((hU h).map fun _ => .bl true), true⟩ s := by
    refine ev_cSm (v := ⟨.tup (hU h), false⟩) (ev_var (u := .tup (hU h)) rfl) rfl hL fun x hx => ?_
    obtain ⟨k, b, hm, rfl⟩ := hU_mem hx
    exact ⟨[.sh (.tup (hU h)), .sh (.int n), .un, .un, .sh (.tup [.int k, bi b])], rfl, false, (ev_call (evA_cons (ev_var (u := .tup [.int k, bi b]) rfl) (evA_cons (v := ⟨.int 2, false⟩) (s1 := s) rfl evA_nil))).trans (tup_of_ok [.int k, bi b] 2 rfl (d + 1) s)⟩
  have c2 : evE (run prog kws (d + 2)) kws (.comp [2, 3] (.t2 (.nm 2) (.nm 3)) (.seq (.var 0)) (.con (.bl true)) (.and (.call 1 (.cons (.var 2) (.cons (.con (.int 0)) (.cons (.op .sub (.var 1) (.con (.int 1))) .nil)))) (.call 1 (.cons (.var 3) (.cons (.con (.int 0)) (.cons (.con (.int 1)) .nil)))))) [.sh (.tup (hU h)), .sh (.int n), .un, .un, .un] s = .ok ⟨.lst ((hU h).map fun _ => .bl true), true⟩ s := by
    refine ev_cSm (v := ⟨.tup (hU h), false⟩) (ev_var (u := .tup (hU h)) rfl) rfl hL fun x hx => ?_
    obtain ⟨k, b, hm, rfl⟩ := hU_mem hx
    refine ⟨[.sh (.tup (hU h)), .sh (.int n), .sh (.int k), .sh (bi b), .un], rfl, false, ?_⟩
    refine (ev_andT ((ev_call (evA_cons (ev_var (u := .int k) rfl) (evA_cons (v := ⟨.int 0, false⟩) (s1 := s) rfl (evA_cons (v := ⟨.int ((n : Int) - 1), false⟩) (s1 := s) rfl evA_nil)))).trans (within0 (hk _ hm) d s)) rfl).trans ?_
    exact (ev_call (evA_cons (ev_var (u := bi b) rfl) (evA_cons (v := ⟨.int 0, false⟩) (s1 := s) rfl (evA_cons (v := ⟨.int 1, false⟩) (s1 := s) rfl evA_nil)))).trans (bi_within d b s)
  have c3 : evE (run prog kws (d + 2)) kws (.comp [2, 3] (.t2 (.nm 2) (.nm 3)) (.seq (.var 0)) (.con (.bl true)) (.var 2)) [.sh (.tup (hU h)), .sh (.int n), .un, .un, .un] s = .ok ⟨.lst (nU (hp h)), true⟩ s := by
    have e : nU (hp h) = (hU h).map fun u => match u with | .tup (x :: _) => x | _ => .non := by
      unfold nU hp hU
      rw [List.map_map, List.map_map]
      rfl
    rw [e]
    refine ev_cSm (v := ⟨.tup (hU h), false⟩) (ev_var (u := .tup (hU h)) rfl) rfl hL fun x hx => ?_
    obtain ⟨k, b, hm, rfl⟩ := hU_mem hx
    exact ⟨[.sh (.tup (hU h)), .sh (.int n), .sh (.int k), .sh (bi b), .un], rfl, false, rfl⟩
  have t1 : evE (run prog kws (d + 2)) kws (.or (.not (.bi (.isinst [.tuple]) (.cons (.var 0) .nil))) (.not (.bi .all (.cons (.comp [4] (.nm 4) (.seq (.var 0)) (.con (.bl true)) (.call 2 (.cons (.var 4) (.cons (.con (.int 2)) .nil)))) .nil)))) [.sh (.tup (hU h)), .sh (.int n), .un, .un, .un] s = .ok ⟨.bl false, false⟩ s :=
    (ev_orF (v := ⟨.bl false, false⟩) (s1 := s) rfl rfl).trans (ev_not (q := true) (ev_bi1 c1 (all_true' _)) rfl)
  have t2 : evE (run prog kws (d + 2)) kws (.not (.bi .all (.cons (.comp [2, 3] (.t2 (.nm 2) (.nm 3)) (.seq (.var 0)) (.con (.bl true)) (.and (.call 1 (.cons (.var 2) (.cons (.con (.int 0)) (.cons (.op .sub (.var 1) (.con (.int 1))) .nil)))) (.call 1 (.cons (.var 3) (.cons (.con (.int 0)) (.cons (.con (.int 1)) .nil)))))) .nil))) [.sh (.tup (hU h)), .sh (.int n), .un, .un, .un] s = .ok ⟨.bl false, false⟩ s := ev_not (q := true) (ev_bi1 c2 (all_true' _)) rfl
  have e5 := asc_ok (u := .lst (nU (hp h))) (.inr rfl) (by unfold hp; rw [List.length_map]; exact hl) (d + 1) s
  exact congrArg Ev.finish ((evB_nx (ρ1 := [.sh (.tup (hU h)), .sh (.int n), .un, .un, .un]) (s1 := s) ((evS_ifF (fz := []) t1 rfl).trans evB_nil)).trans ((evB_nx (ρ1 := [.sh (.tup (hU h)), .sh (.int n), .un, .un, .un]) (s1 := s) ((evS_ifF (fz := []) t2 rfl).trans evB_nil)).trans (evB_ret (evS_ret (fz := []) ((ev_call (evA_cons c3 evA_nil)).trans e5)))))
/-- a hold as lists -/
def hL (h : List (Nat × Bool)) : List U := h.map fun x => U.lst [.int x.1, bi x.2]
def toT : U → U
  | .lst xs => .tup xs
  | u => u
theorem tp_bit (x : U) (i : Int) (b : Bool) (hx : x = .tup [.int i, bi b] ∨ x = .lst [.int i, bi b]) : Tp 1 x (.tup [.int i, bi b]) := by
  have h1 : Tp 1 x (.tup ([U.int i, bi b].map id)) := .seq (us := [.int i, bi b]) id (by rcases hx with rfl | rfl <;> rfl) (by unfold lim; simp) fun y hy => by
    rcases List.mem_cons.mp hy with rfl | hy
    · exact .int 0 _
    · rcases List.mem_cons.mp hy with rfl | hy
      · exact .int 0 _
      · cases hy
  exact h1
theorem hL_toT (h : List (Nat × Bool)) : (hL h).map toT = hU h := by unfold hL hU; rw [List.map_map]; rfl
theorem hU_toT (h : List (Nat × Bool)) : (hU h).map toT = hU h := by unfold hU; rw [List.map_map]; rfl
theorem tp_hold {u : U} {h : List (Nat × Bool)} (hu : u = .tup (hU h) ∨ u = .lst (hL h)) (hl : h.length ≤ 100) : Tp 2 u (.tup (hU h)) := by
  rcases hu with rfl | rfl
  · have := Tp.seq (n := 1) (u := .tup (hU h)) (us := hU h) toT rfl (by rw [hU_len]; unfold lim; omega) fun x hx => by
      obtain ⟨k, b, hm, rfl⟩ := hU_mem hx
      exact tp_bit _ k b (.inl rfl)
    rw [hU_toT] at this
    exact this
  · have := Tp.seq (n := 1) (u := .lst (hL h)) (us := hL h) toT rfl (by unfold hL; rw [List.length_map]; unfold lim; omega) fun x hx => by
      obtain ⟨⟨k, b⟩, hm, rfl⟩ := List.mem_map.mp hx
      exact tp_bit _ k b (.inr rfl)
    rw [hL_toT] at this
    exact this
theorem sure_hold_ok {u : U} {h : List (Nat × Bool)} {n : Nat} (hu : u = .tup (hU h) ∨ u = .lst (hL h)) (ha : (hp h).Pairwise (· < ·)) (hk : ∀ x ∈ h, x.1 < n) (hl : h.length ≤ 100) (d : Nat) (s : Sto) : run prog kws (d + 4) 17 [u, .int n] s = .ok ⟨.tup (hU h), false⟩ s := by
  rw [run_at (fd := d17) rfl rfl]
  have h1 : run prog kws (d + 3) 3 [u] s = .ok ⟨.tup (hU h), false⟩ s := tupled_ok (tp_hold hu hl) d s
  have h2 := hold_ok hk hl d s
  rw [ascB_up ha] at h2
  have a1 : evE (run prog kws (d + 3)) kws (.call 3 (.cons (.var 0) .nil)) [.sh u, .sh (.int n), .un] s = .ok ⟨.tup (hU h), false⟩ s := (ev_call (evA_cons (ev_var (u := u) rfl) evA_nil)).trans h1
  have a2 : evE (run prog kws (d + 3)) kws (.not (.call 16 (.cons (.var 2) (.cons (.var 1) .nil)))) [.sh u, .sh (.int n), .sh (.tup (hU h))] s = .ok ⟨.bl false, false⟩ s := ev_not (q := true) ((ev_call (evA_cons (ev_var (u := .tup (hU h)) rfl) (evA_cons (ev_var (u := .int n) rfl) evA_nil))).trans h2) rfl
  refine fin_of (ρ := [.sh u, .sh (.int n), .sh (.tup (hU h))]) ((evB_nx (ρ := [.sh u, .sh (.int n), .un]) (ρ1 := [.sh u, .sh (.int n), .sh (.tup (hU h))]) (s1 := s) (evS_asg (fz := []) (i := 2) (o := true) a1)).trans ?_)
  refine (evB_nx (ρ1 := [.sh u, .sh (.int n), .sh (.tup (hU h))]) (s1 := s) ((evS_ifF (fz := [2]) a2 rfl).trans evB_nil)).trans ?_
  exact evB_ret (evS_retV rfl)
theorem int_self (d : Nat) (i : Int) (s : Sto) : run prog kws (d + 1) 41 [.int i] s = .ok ⟨.int i, false⟩ s := rfl
theorem lists_seq {u : U} {us : List U} {h : U → U} (hi : items u = some us) (hl : us.length ≤ lim) (d : Nat) (s : Sto) (hx : ∀ x ∈ us, ∃ f, run prog kws d 41 [x] s = .ok ⟨h x, f⟩ s) : run prog kws (d + 1) 41 [u] s = .ok ⟨.lst (us.map h), true⟩ s := by
  rw [run_at (fd := d41) rfl rfl]
  have ht : evE (run prog kws d) kws (.bi (.isinst [.list, .tuple]) (.cons (.var 0) .nil)) [.sh u, .un] s = .ok ⟨.bl true, false⟩ s := by
    cases u <;> simp only [items] at hi <;> first | (cases hi; done) | rfl
  refine congrArg Ev.finish (evB_ret (evS_ret (fz := []) ((ev_ifeT ht rfl).trans (ev_cSm (v := ⟨u, false⟩) (ev_var (u := u) rfl) hi hl fun x hm => ?_))))
  obtain ⟨f, e⟩ := hx x hm
  exact ⟨[.sh u, .sh x], rfl, f, (ev_call (evA_cons (ev_var (u := x) rfl) evA_nil)).trans e⟩
def toL : U → U
  | .tup xs => .lst xs
  | u => u
theorem lists_ok (h : List (Nat × Bool)) (hl : h.length ≤ 100) (d : Nat) (s : Sto) : run prog kws (d + 3) 41 [.tup (hU h)] s = .ok ⟨.lst (hL h), true⟩ s := by
  have e := lists_seq (u := .tup (hU h)) (us := hU h) (h := toL) rfl (by rw [hU_len]; unfold lim; omega) (d + 2) s fun x hx => by
    obtain ⟨k, b, hm, rfl⟩ := hU_mem hx
    exact ⟨true, lists_seq (u := .tup [.int k, bi b]) (us := [.int k, bi b]) (h := id) rfl (by unfold lim; simp) (d + 1) s fun y hy => by
      rcases List.mem_cons.mp hy with rfl | hy
      · exact ⟨false, int_self d _ s⟩
      · rcases List.mem_cons.mp hy with rfl | hy
        · exact ⟨false, int_self d _ s⟩
        · cases hy⟩
  have e2 : (hU h).map toL = hL h := by unfold hL hU; rw [List.map_map]; rfl
  rw [e2] at e
  exact e
/-! ### between -/
theorem agr_len (p q : List Bool) : (agr p q).length ≤ p.length := by
  unfold agr
  rw [List.length_map]
  exact Nat.le_trans (List.length_filter_le _ _) (by rw [List.length_range]; exact Nat.le_refl _)
theorem agr_lt {p q : List Bool} : ∀ x ∈ agr p q, x.1 < p.length := by
  intro x hx
  obtain ⟨k, hk, rfl⟩ := List.mem_map.mp hx
  exact List.mem_range.mp (List.mem_filter.mp hk).1
end K03

end
section
set_option Elab.async false
set_option linter.all false
set_option maxRecDepth 100000
set_option maxHeartbeats 2000000
namespace K03
open Ev PySem
section
variable {sr : Sto}
/-! ### the drawn part, statement by statement -/
theorem Box.mono {a b c : Int} {m k : Nat} (B : Box a b c m) (h : k ≤ m) : Box a b c k := ⟨B.a0, B.b0, B.b1, B.c0, by have := B.c1; omega⟩
def All2 (Q : U → U → Prop) : List U → List U → Prop
  | [], [] => True
  | x :: xs, y :: ys => Q x y ∧ All2 Q xs ys
  | _, _ => False
theorem compL_box {f : U → Sto → RE (Option U)} {b : Int} (Q : U → U → Prop) : ∀ (us : List U) (a c : Int) (m : Nat), Box a b c (m + 2 * us.length) → (∀ x ∈ us, ∀ (a c : Int) (m : Nat), Box a b c (m + 2) → ∃ y a' c', f x (sto sr a b c) = .ok (some y) (sto sr a' b c') ∧ Box a' b c' m ∧ Q x y) → ∃ ys a' c', compL f us (sto sr a b c) = .ok ys (sto sr a' b c') ∧ Box a' b c' m ∧ All2 Q us ys
  | [], a, c, m, B, _ => ⟨[], a, c, rfl, B, trivial⟩
  | x :: us, a, c, m, B, h => by
    obtain ⟨y, a1, c1, e1, B1, q1⟩ := h x List.mem_cons_self a c (m + 2 * us.length) (B.mono (by rw [List.length_cons]; omega))
    obtain ⟨ys, a2, c2, e2, B2, q2⟩ := compL_box Q us a1 c1 m B1 fun z hz => h z (List.mem_cons_of_mem _ hz)
    exact ⟨y :: ys, a2, c2, by simp only [compL, e1, e2], B2, q1, q2⟩
theorem ev_comp_box {F : CallF} {KW : List (List Nat)} {w : List Nat} {tg : Tg} {it : It} {e : C} {ρ : Ev.Env} {a b c : Int} {us : List U} {m : Nat} (Q : U → U → Prop) (h1 : evI F KW it ρ (sto sr a b c) = .ok us (sto sr a b c)) (hl : inLim us = true) (B : Box a b c (m + 2 * us.length))
    (h2 : ∀ x ∈ us, ∀ (a c : Int) (m : Nat), Box a b c (m + 2) → ∃ ρ1, bindTg tg x (wipeE w ρ) = some ρ1 ∧ ∃ y a' c', evE F KW e ρ1 (sto sr a b c) = .ok y (sto sr a' b c') ∧ Box a' b c' m ∧ Q x y.u) :
    ∃ ys a' c', evE F KW (.comp w tg it (.con (.bl true)) e) ρ (sto sr a b c) = .ok ⟨.lst ys, true⟩ (sto sr a' b c') ∧ Box a' b c' m ∧ All2 Q us ys := by
  simp only [evE, h1, x_bind, hl]
  obtain ⟨ys, a', c', e1, B1, q⟩ := compL_box (sr := sr) (f := fun u s => match bindTg tg u (wipeE w ρ) with
        | some r1 => (ofO s (truth (.bl true))).bind fun k s => (match k with
          | true => (evE F KW e r1 s).bind fun y s => .ok (some y.u) s
          | false => .ok none s)
        | none => .bad) Q us a c m B fun x hx a c m B => by
    obtain ⟨ρ1, e1, y, a', c', e2, B2, q⟩ := h2 x hx a c m B
    exact ⟨y.u, a', c', by simp only [e1, truth, x_ofO, x_bind, e2], B2, q⟩
  exact ⟨ys, a', c', congrArg (fun z => RE.bind z fun ys s => RE.ok (Rv.mk (.lst ys) true) s) e1, B1, q⟩
theorem eq_int (x y : Int) : cmp2 .eq (.int x) (.int y) = some (x == y) := by simp [cmp2, shp, eqU]

theorem bits_of : ∀ {us ys : List U}, All2 (fun _ y => ∃ k, y = bi k) us ys → ∃ r : List Bool, ys = r.map bi ∧ r.length = us.length
  | [], [], _ => ⟨[], rfl, rfl⟩
  | x :: us, y :: ys, h => by
    obtain ⟨⟨k, rfl⟩, h2⟩ := h
    obtain ⟨r, rfl, hl⟩ := bits_of h2
    exact ⟨k :: r, rfl, by simp [hl]⟩
  | [], _ :: _, h => h.elim
  | _ :: _, [], h => h.elim
end
theorem evS_asg' {F : CallF} {KW : List (List Nat)} {fz : List Nat} {i : Nat} {o : Bool} {e : C} {ρ ρ1 : Ev.Env} {s s1 : Sto} {v : Rv} (h : evE F KW e (freeze fz ρ) s = .ok v s1) (k : put i (v.slot o) (freeze fz ρ) = ρ1) : evS F KW (.asg fz i o e) ρ s = .ok .nx ρ1 s1 := by rw [← k]; exact evS_asg h
theorem ev_lst {F : CallF} {KW : List (List Nat)} {as : A} {ρ : Ev.Env} {s s1 : Sto} {us : List U} (h : evA F KW as ρ s = .ok us s1) : evE F KW (.lst as) ρ s = .ok ⟨.lst us, true⟩ s1 := by simp only [evE, h, x_bind]
theorem ev_tup {F : CallF} {KW : List (List Nat)} {as : A} {ρ : Ev.Env} {s s1 : Sto} {us : List U} (h : evA F KW as ρ s = .ok us s1) : evE F KW (.tup as) ρ s = .ok ⟨.tup us, false⟩ s1 := by simp only [evE, h, x_bind]
theorem x_cat {xs ys : List U} (h : xs.length + ys.length ≤ 200) : op2 .add (.lst xs) (.lst ys) = some ⟨.lst (xs ++ ys), true⟩ := by
  have h1 : xs.length + ys.length ≤ lim := by unfold lim; omega
  simp only [op2, if_pos h1]
theorem x_catT {xs ys : List U} (h : xs.length + ys.length ≤ 200) : op2 .add (.tup xs) (.tup ys) = some ⟨.tup (xs ++ ys), false⟩ := by
  have h1 : xs.length + ys.length ≤ lim := by unfold lim; omega
  simp only [op2, if_pos h1]
theorem asc_len' {n : Nat} : ∀ (ps : List Nat) (lo : Nat), ps.Pairwise (· < ·) → (∀ k ∈ ps, lo ≤ k ∧ k < n) → ps.length ≤ n - lo
  | [], lo, _, _ => Nat.zero_le _
  | k :: r, lo, h, h2 => by
    have h3 := h2 k List.mem_cons_self
    have h4 := asc_len' (n := n) r (k + 1) (List.Pairwise.of_cons h) fun j hj => ⟨List.rel_of_pairwise_cons h hj, (h2 j (List.mem_cons_of_mem _ hj)).2⟩
    rw [List.length_cons]
    omega
theorem asc_len {n : Nat} {ps : List Nat} (h : Asc n ps) : ps.length ≤ n := asc_len' ps 0 h.up fun k hk => ⟨Nat.zero_le _, h.lt k hk⟩
theorem eq_nil {xs : List U} (h : xs.all (shp 59) = true) : cmp2 .eq (.lst xs) (.lst []) = some xs.isEmpty := by
  have e1 : shp 60 (.lst xs) = true := h
  have e2 : shp 60 (.lst []) = true := rfl
  show (if shp 60 (.lst xs) && shp 60 (.lst []) then some (eqU (.lst xs) (.lst [])) else none) = _
  rw [e1, e2]
  cases xs <;> rfl
theorem eq_nilT {xs : List U} (h : xs.all (shp 59) = true) : cmp2 .eq (.tup xs) (.tup []) = some xs.isEmpty := by
  have e1 : shp 60 (.tup xs) = true := h
  have e2 : shp 60 (.tup []) = true := rfl
  show (if shp 60 (.tup xs) && shp 60 (.tup []) then some (eqU (.tup xs) (.tup [])) else none) = _
  rw [e1, e2]
  cases xs <;> rfl
theorem shp_nU' (ps : List Nat) : (nU ps).all (shp 59) = true := by
  unfold nU
  rw [List.all_map]
  exact List.all_eq_true.mpr fun _ _ => rfl
/-! ### the ends of orders -/
/-! ### numbers -/
/-! ### sums -/
def b2i (b : Bool) : Int := if b then 1 else 0
theorem shp_pl (p : List Bool) : shp 59 (pl p) = true := by
  show (p.map bi).all (shp 58) = true
  rw [List.all_map]
  exact List.all_eq_true.mpr fun _ _ => rfl
theorem row_ok {ps : List (List Bool)} {n : Nat} (h0 : ps ≠ []) (h : ∀ p ∈ ps, p.length = n) (h1 : 1 ≤ n) (h2 : n ≤ 40) (hl : ps.length ≤ 100) (d : Nat) (s : Sto) : run prog kws (d + 4) 15 [.tup (ps.map pl)] s = .ok ⟨.bl true, false⟩ s := by
  rw [run_at (fd := d15) rfl rfl]
  have hL : (ps.map pl).length ≤ lim := by rw [List.length_map]; unfold lim; omega
  obtain ⟨p0, r, rfl⟩ : ∃ p0 r, ps = p0 :: r := by cases ps with
    | nil => exact absurd rfl h0
    | cons a b => exact ⟨a, b, rfl⟩
  have t1 : evE (run prog kws (d + 3)) kws (.cmp .eq (.var 0) (.tup .nil)) [.sh (.tup ((p0 :: r).map pl)), .un] s = .ok ⟨.bl false, false⟩ s := by
    refine ev_cmp (v2 := ⟨.tup [], false⟩) (s2 := s) (ev_var (u := .tup ((p0 :: r).map pl)) rfl) rfl ?_
    have e1 : shp 60 (.tup ((p0 :: r).map pl)) = true := by
      show ((p0 :: r).map pl).all (shp 59) = true
      rw [List.all_map]
      exact List.all_eq_true.mpr fun p _ => shp_pl p
    have e2 : shp 60 (.tup []) = true := rfl
    show (if shp 60 (.tup ((p0 :: r).map pl)) && shp 60 (.tup []) then some (eqU (.tup ((p0 :: r).map pl)) (.tup [])) else none) = some false
    rw [e1, e2]
    rfl
  have c2 : evE (run prog kws (d + 3)) kws (.comp [1] (.nm 1) (.seq (.var 0)) (.con (.bl true)) (.call 10 (.cons (.var 1) .nil))) [.sh (.tup ((p0 :: r).map pl)), .un] s = .ok ⟨.lst (((p0 :: r).map pl).map fun _ => .bl true), true⟩ s := by
    refine ev_cSm (v := ⟨.tup ((p0 :: r).map pl), false⟩) (ev_var (u := .tup ((p0 :: r).map pl)) rfl) rfl hL fun x hx => ?_
    obtain ⟨p, hp, rfl⟩ := List.mem_map.mp hx
    have := h p hp
    exact ⟨[.sh (.tup ((p0 :: r).map pl)), .sh (pl p)], rfl, false, (ev_call (evA_cons (ev_var (u := pl p) rfl) evA_nil)).trans (is_plan_pl d p s (by omega) (by omega))⟩
  have t : evE (run prog kws (d + 3)) kws (.or (.not (.bi (.isinst [.tuple]) (.cons (.var 0) .nil))) (.or (.cmp .eq (.var 0) (.tup .nil)) (.not (.bi .all (.cons (.comp [1] (.nm 1) (.seq (.var 0)) (.con (.bl true)) (.call 10 (.cons (.var 1) .nil))) .nil))))) [.sh (.tup ((p0 :: r).map pl)), .un] s = .ok ⟨.bl false, false⟩ s :=
    (ev_orF (v := ⟨.bl false, false⟩) (s1 := s) rfl rfl).trans ((ev_orF t1 rfl).trans (ev_not (q := true) (ev_bi1 c2 (all_true' _)) rfl))
  have c3 : evE (run prog kws (d + 3)) kws (.comp [1] (.nm 1) (.seq (.var 0)) (.con (.bl true)) (.cmp .eq (.bi .len (.cons (.var 1) .nil)) (.bi .len (.cons (.ix (.var 0) (.con (.int 0))) .nil)))) [.sh (.tup ((p0 :: r).map pl)), .un] s = .ok ⟨.lst (((p0 :: r).map pl).map fun _ => .bl true), true⟩ s := by
    refine ev_cSm (v := ⟨.tup ((p0 :: r).map pl), false⟩) (ev_var (u := .tup ((p0 :: r).map pl)) rfl) rfl hL fun x hx => ?_
    obtain ⟨p, hp, rfl⟩ := List.mem_map.mp hx
    have e1 := h p hp
    have e2 := h p0 List.mem_cons_self
    refine ⟨[.sh (.tup ((p0 :: r).map pl)), .sh (pl p)], rfl, false, ?_⟩
    exact ev_cmp (v := ⟨.int p.length, false⟩) (v2 := ⟨.int p0.length, false⟩) (ev_bi1 (ev_var (u := pl p) rfl) (pl_len (.inl rfl))) (ev_bi1 (ev_ix (v2 := ⟨.int ((0 : Nat) : Int), false⟩) (s2 := s) (ev_var (u := .tup ((p0 :: r).map pl)) rfl) rfl (getIx_tup (u := pl p0) rfl)) (pl_len (.inl rfl))) (by rw [e1, e2]; exact eqI _)
  exact congrArg Ev.finish ((evB_nx (ρ1 := [.sh (.tup ((p0 :: r).map pl)), .un]) (s1 := s) ((evS_ifF (fz := []) t rfl).trans evB_nil)).trans (evB_ret (evS_ret (fz := []) (ev_bi1 c3 (all_true' _)))))
end K03

end
section
set_option Elab.async false
set_option linter.all false
set_option maxRecDepth 100000
set_option maxHeartbeats 2000000
namespace K03
open Ev PySem
/-! ### worths -/
def dot : List Bool → List Int → Int
  | b :: p, x :: c => (if b then x else 0) + dot p c
  | _, _ => 0
def zI : List Bool → List Int → List Int
  | b :: p, x :: c => (if b then x else 0) :: zI p c
  | _, _ => []
theorem zI_sum : ∀ (p : List Bool) (c : List Int), (zI p c).sum = dot p c
  | [], _ => by simp [zI, dot]
  | _ :: _, [] => by simp [zI, dot]
  | b :: p, x :: c => by rw [zI, dot, List.sum_cons, zI_sum p c]
/-- numbers that are small enough -/
def Sm (c : List Int) : Prop := ∀ x ∈ c, x.natAbs < 2 ^ 100
theorem mul_bi (b : Bool) (x : Int) (h : x.natAbs < 2 ^ 100) : op2 .mul (bi b) (.int x) = some ⟨.int (if b then x else 0), false⟩ := by
  have hx : x.natAbs < 2 ^ 200 := Nat.lt_trans h (by decide)
  cases b
  · have m : mulOk 0 x = true := mul_small (by decide) hx
    show op2 .mul (.int 0) (.int x) = _
    rw [x_mul m]; simp
  · have m : mulOk 1 x = true := mul_small (by decide) hx
    show op2 .mul (.int 1) (.int x) = _
    rw [x_mul m]; simp
theorem zip_mul : ∀ {p : List Bool} {c : List Int}, Sm c → ∀ (g : U → U), (∀ (b : Bool) (x : Int), x.natAbs < 2 ^ 100 → g (.tup [bi b, .int x]) = .int (if b then x else 0)) → (zipU (p.map bi) (c.map .int)).map g = (zI p c).map .int
  | [], c, _, g, _ => by cases c <;> rfl
  | b :: p, [], _, g, _ => rfl
  | b :: p, x :: c, h, g, hg => by
    have ih := zip_mul (p := p) (c := c) (fun y hy => h y (List.mem_cons_of_mem _ hy)) g hg
    show g (.tup [bi b, .int x]) :: (zipU (p.map bi) (c.map .int)).map g = _
    rw [ih, hg b x (h x List.mem_cons_self)]
    rfl
theorem zip_mem : ∀ {p : List Bool} {c : List Int} {x : U}, x ∈ zipU (p.map bi) (c.map .int) → ∃ b y, y ∈ c ∧ x = .tup [bi b, .int y]
  | [], c, x, h => by cases c <;> simp [zipU] at h
  | b :: p, [], x, h => by simp [zipU] at h
  | b :: p, y :: c, x, h => by
    simp only [List.map_cons, zipU, List.mem_cons] at h
    rcases h with rfl | h
    · exact ⟨b, y, List.mem_cons_self, rfl⟩
    · obtain ⟨b', y', h1, h2⟩ := zip_mem h
      exact ⟨b', y', List.mem_cons_of_mem _ h1, h2⟩
theorem zip_len : ∀ (p : List Bool) (c : List Int), (zipU (p.map bi) (c.map .int)).length ≤ p.length
  | [], c => by cases c <;> simp [zipU]
  | b :: p, [] => by simp [zipU]
  | b :: p, y :: c => by
    have := zip_len p c
    simp only [List.map_cons, zipU, List.length_cons]
    omega
/-- prices, as a tuple or as a list -/
def IsC (u : U) (c : List Int) : Prop := u = .tup (c.map .int) ∨ u = .lst (c.map .int)
theorem IsC.items {u : U} {c : List Int} (h : IsC u c) : items u = some (c.map .int) := by rcases h with rfl | rfl <;> rfl
theorem dot_body {F : CallF} {u v : U} {p : List Bool} {c : List Int} (hu : items u = some (p.map bi)) (hv : items v = some (c.map .int)) (hp : p.length ≤ 40) (hc : Sm c) (s : Sto) :
    evE F kws (.bi .sum (.cons (.comp [2, 3] (.t2 (.nm 2) (.nm 3)) (.zip2 (.var 0) (.var 1)) (.con (.bl true)) (.op .mul (.var 2) (.var 3))) .nil)) [.sh u, .sh v, .un, .un] s = .ok ⟨.int (dot p c), false⟩ s := by
  let g : U → U := fun x => match x with | .tup [.int b, .int y] => .int (b * y) | _ => .non
  have hg : ∀ (b : Bool) (x : Int), x.natAbs < 2 ^ 100 → g (.tup [bi b, .int x]) = .int (if b then x else 0) := fun b x _ => by
    show U.int ((if b then 1 else 0) * x) = _
    cases b <;> simp
  have hi : evI F kws (.zip2 (.var 0) (.var 1)) [.sh u, .sh v, .un, .un] s = .ok (zipU (p.map bi) (c.map .int)) s := by
    simp only [evI, evE, look, x_bind, hu, hv, x_ofO]
  have hc1 := ev_comp (F := F) (KW := kws) (w := [2, 3]) (tg := .t2 (.nm 2) (.nm 3)) (t := .con (.bl true)) (e := .op .mul (.var 2) (.var 3)) (g := fun x => some (g x)) hi (decide_eq_true (by have := zip_len p c; unfold lim; omega)) fun x hx => by
    obtain ⟨b, y, hy, rfl⟩ := zip_mem hx
    refine ⟨[.sh u, .sh v, .sh (bi b), .sh (.int y)], rfl, ⟨.bl true, false⟩, true, by simp only [evE], rfl, ⟨.int (if b then y else 0), false⟩, ev_op (ev_var (u := bi b) rfl) (ev_var (u := .int y) rfl) (mul_bi b y (hc y hy)), ?_⟩
    show some (g (.tup [bi b, .int y])) = _
    rw [hg b y (hc y hy)]
  rw [fm_some, zip_mul hc g hg] at hc1
  refine ev_bi1 hc1 ?_
  simp only [biV, intsU_map, zI_sum]
theorem dotted_ok {u v : U} {p : List Bool} {c : List Int} (hu : items u = some (p.map bi)) (hv : items v = some (c.map .int)) (hp : p.length ≤ 40) (hc : Sm c) (d : Nat) (s : Sto) : run prog kws (d + 1) 9 [u, v] s = .ok ⟨.int (dot p c), false⟩ s := by
  rw [run_at (fd := d9) rfl rfl]
  exact congrArg Ev.finish (evB_ret (evS_ret (fz := []) (dot_body hu hv hp hc s)))
theorem law_dot_ok {u v : U} {p : List Bool} {c : List Int} (hu : items u = some (p.map bi)) (hv : items v = some (c.map .int)) (hp : p.length ≤ 40) (hc : Sm c) (d : Nat) (s : Sto) : run prog kws (d + 1) 44 [u, v] s = .ok ⟨.int (dot p c), false⟩ s := by
  rw [run_at (fd := d44) rfl rfl]
  exact congrArg Ev.finish (evB_ret (evS_ret (fz := []) (dot_body hu hv hp hc s)))
/-! ### the best ones -/
def worths (L : List (List Bool)) (c : List Int) : List Int := L.map fun p => dot p c
def topw (L : List (List Bool)) (c : List Int) : Int := match worths L c with
  | [] => 0
  | i :: r => maxI i r
def tops (L : List (List Bool)) (c : List Int) : List (List Bool) := L.filter fun p => dot p c == topw L c
def lotU (L : List (List Bool)) : List U := L.map pl
theorem lot_mem {L : List (List Bool)} {x : U} (h : x ∈ lotU L) : ∃ p ∈ L, x = pl p := by
  obtain ⟨p, hp, rfl⟩ := List.mem_map.mp h
  exact ⟨p, hp, rfl⟩
theorem lot_len (L : List (List Bool)) : (lotU L).length = L.length := by unfold lotU; rw [List.length_map]
theorem worths_comp {F : CallF} {f : Nat} {i j k : Nat} {w : List Nat} {ρ : Ev.Env} {s : Sto} {u v : U} {L : List (List Bool)} {c : List Int} (hi : look i ρ = .sh u) (hu : items u = some (lotU L)) (hl : L.length ≤ 100)
    (hk : ∀ p ∈ L, look k (put k (.sh (pl p)) (wipeE w ρ)) = .sh (pl p)) (hj : ∀ p ∈ L, look j (put k (.sh (pl p)) (wipeE w ρ)) = .sh v)
    (hF : ∀ p ∈ L, F f [pl p, v] s = .ok ⟨.int (dot p c), false⟩ s) :
    evE F kws (.comp w (.nm k) (.seq (.var i)) (.con (.bl true)) (.call f (.cons (.var k) (.cons (.var j) .nil)))) ρ s = .ok ⟨.lst ((worths L c).map .int), true⟩ s := by
  let g : U → U := fun x => match x with | .tup bs => .int (dot (bs.map fun b => match b with | .int i => i == 1 | _ => false) c) | _ => .non
  have hg : ∀ p : List Bool, g (pl p) = .int (dot p c) := fun p => by
    show U.int (dot ((p.map bi).map _) c) = _
    rw [List.map_map]
    congr 2
    conv => rhs; rw [← List.map_id p]
    apply List.map_congr_left
    intro b _
    cases b <;> rfl
  have e : (worths L c).map U.int = (lotU L).map g := by
    unfold worths lotU
    rw [List.map_map, List.map_map]
    exact List.map_congr_left fun p _ => (hg p).symm
  rw [e]
  refine ev_cSm (v := ⟨u, false⟩) (ev_var hi) hu (by rw [lot_len]; unfold lim; omega) fun x hx => ?_
  obtain ⟨p, hp, rfl⟩ := lot_mem hx
  refine ⟨_, rfl, false, ?_⟩
  rw [hg]
  exact (ev_call (evA_cons (ev_var (hk p hp)) (evA_cons (ev_var (hj p hp)) evA_nil))).trans (hF p hp)
theorem max_worths {L : List (List Bool)} {c : List Int} (h : L ≠ []) : biV .maxS [.lst ((worths L c).map .int)] = some ⟨.int (topw L c), false⟩ := by
  cases L with
  | nil => exact absurd rfl h
  | cons p L =>
    have e : worths (p :: L) c = dot p c :: worths L c := rfl
    unfold topw
    rw [e]
    have i := intsU_map (dot p c :: worths L c)
    simp only [biV, i]
theorem tops_comp {F : CallF} {a b : Nat} {w : List Nat} {e1 e2 t : C} {ρ : Ev.Env} {s : Sto} {L : List (List Bool)} {c : List Int} {v1 v2 : Rv} (h1 : evE F kws e1 ρ s = .ok v1 s) (h2 : evE F kws e2 ρ s = .ok v2 s) (i1 : items v1.u = some (lotU L)) (i2 : items v2.u = some ((worths L c).map .int)) (hl : L.length ≤ 100)
    (ht : ∀ p ∈ L, evE F kws t (put b (.sh (.int (dot p c))) (put a (.sh (pl p)) (wipeE w ρ))) s = .ok ⟨.bl (dot p c == topw L c), false⟩ s) (ha : ∀ p ∈ L, look a (put b (.sh (.int (dot p c))) (put a (.sh (pl p)) (wipeE w ρ))) = .sh (pl p)) :
    evE F kws (.bi .tuple (.cons (.comp w (.t2 (.nm a) (.nm b)) (.zip2 e1 e2) t (.var a)) .nil)) ρ s = .ok ⟨.tup (lotU (tops L c)), false⟩ s := by
  have hz : ∀ M : List (List Bool), zipU (lotU M) ((worths M c).map .int) = M.map fun p => U.tup [pl p, .int (dot p c)] := fun M => by
    induction M with
    | nil => rfl
    | cons p M ih => show U.tup [pl p, .int (dot p c)] :: zipU (lotU M) ((worths M c).map .int) = _; rw [ih]; rfl
  have hi : evI F kws (.zip2 e1 e2) ρ s = .ok (L.map fun p => U.tup [pl p, .int (dot p c)]) s := by
    simp only [evI, h1, h2, x_bind, i1, i2, x_ofO, hz]
  let g : U → Option U := fun x => match x with | .tup [q, .int y] => if y == topw L c then some q else none | _ => none
  have key := ev_comp (F := F) (KW := kws) (w := w) (tg := .t2 (.nm a) (.nm b)) (t := t) (e := .var a) (g := g) hi (decide_eq_true (by rw [List.length_map]; unfold lim; omega)) fun x hx => by
    obtain ⟨p, hp, rfl⟩ := List.mem_map.mp hx
    refine ⟨_, rfl, ⟨.bl (dot p c == topw L c), false⟩, dot p c == topw L c, ht p hp, rfl, ?_⟩
    have hgp : g (.tup [pl p, .int (dot p c)]) = if dot p c == topw L c then some (pl p) else none := rfl
    rw [hgp]
    cases dot p c == topw L c
    · rfl
    · exact ⟨⟨pl p, false⟩, ev_var (ha p hp), rfl⟩
  refine ev_bi1 key ?_
  rw [fm_map]
  have hgp : (fun p : List Bool => g (.tup [pl p, .int (dot p c)])) = fun p => if dot p c == topw L c then some (pl p) else none := rfl
  rw [hgp, fm_if]
  rfl
end K03

end
section
set_option Elab.async false
set_option linter.all false
set_option maxRecDepth 100000
set_option maxHeartbeats 2000000
namespace K03
open Ev PySem
theorem ev_chainT {F : CallF} {KW : List (List Nat)} {o q : Cmp} {a b c : C} {ρ : Ev.Env} {s s1 s2 s3 : Sto} {v v2 v3 : Rv} {r : Bool} (ha : evE F KW a ρ s = .ok v s1) (hb : evE F KW b ρ s1 = .ok v2 s2) (k : cmp2 o v.u v2.u = some true) (hc : evE F KW c ρ s2 = .ok v3 s3) (k2 : cmp2 q v2.u v3.u = some r) : evE F KW (.chain o q a b c) ρ s = .ok ⟨.bl r, false⟩ s3 := by
  simp only [evE, ha, hb, RE.bind, k, ofO, hc, k2]
/-! ### prices made sure -/
theorem ints_nums (c : List Int) (hl : c.length ≤ 100) (d : Nat) (s : Sto) : run prog kws (d + 2) 6 [.tup (c.map .int)] s = .ok ⟨.bl true, false⟩ s := by
  rw [run_at (fd := d6) rfl rfl]
  refine congrArg Ev.finish (evB_ret (evS_ret (fz := []) ((ev_andT (v := ⟨.bl true, false⟩) (s1 := s) (ev_bi1 (ev_var (u := .tup (c.map .int)) rfl) rfl) rfl).trans (ev_bi1 (ev_cSm (v := ⟨.tup (c.map .int), false⟩) (us := c.map .int) (h := fun _ => .bl true) (ev_var (u := .tup (c.map .int)) rfl) rfl (by rw [List.length_map]; unfold lim; omega) fun x hx => ?_) (all_true' _)))))
  obtain ⟨k, _, rfl⟩ := List.mem_map.mp hx
  exact ⟨[.sh (.tup (c.map .int)), .sh (.int k)], rfl, false, rfl⟩
theorem IsC.tp {u : U} {c : List Int} (hu : IsC u c) (hl : c.length ≤ 100) : Tp 1 u (.tup (c.map .int)) := by
  have h1 : Tp 1 u (.tup ((c.map U.int).map id)) := .seq (us := c.map .int) id hu.items (by rw [List.length_map]; unfold lim; omega) fun x hx => by
    obtain ⟨k, _, rfl⟩ := List.mem_map.mp hx
    exact .int 0 _
  rw [List.map_id] at h1
  exact h1
theorem c_len {u : U} {c : List Int} (hu : IsC u c) : biV .len [u] = some ⟨.int c.length, false⟩ := by
  rcases hu with rfl | rfl <;> simp only [biV, List.length_map]
theorem sure_prices_ok {u m : U} {c : List Int} (hu : IsC u c) (h1 : 1 ≤ c.length) (h2 : c.length ≤ 40) (hm : m = .non ∨ m = .int c.length) (d : Nat) (s : Sto) : run prog kws (d + 4) 25 [u, m] s = .ok ⟨.tup (c.map .int), false⟩ s := by
  rw [run_at (fd := d25) rfl rfl]
  have t1 : run prog kws (d + 3) 3 [u] s = .ok ⟨.tup (c.map .int), false⟩ s := tupled_ok (hu.tp (by omega)) (d + 1) s
  have t2 := ints_nums c (by omega) (d + 1) s
  have a1 : evE (run prog kws (d + 3)) kws (.call 3 (.cons (.var 0) .nil)) [.sh u, .sh m, .un] s = .ok ⟨.tup (c.map .int), false⟩ s := (ev_call (evA_cons (ev_var (u := u) rfl) evA_nil)).trans t1
  have ln : evE (run prog kws (d + 3)) kws (.bi .len (.cons (.peek 2) .nil)) [.sh u, .sh m, .sh (.tup (c.map .int))] s = .ok ⟨.int c.length, false⟩ s := ev_bi1 (v := ⟨.tup (c.map .int), false⟩) (by simp only [evE, look]) (c_len (.inl rfl))
  have b1 : evE (run prog kws (d + 3)) kws (.not (.call 6 (.cons (.var 2) .nil))) [.sh u, .sh m, .sh (.tup (c.map .int))] s = .ok ⟨.bl false, false⟩ s := ev_not (q := true) ((ev_call (evA_cons (ev_var (u := .tup (c.map .int)) rfl) evA_nil)).trans t2) rfl
  have b2 : evE (run prog kws (d + 3)) kws (.not (.chain .le .le (.con (.int 1)) (.bi .len (.cons (.peek 2) .nil)) (.con (.int 40)))) [.sh u, .sh m, .sh (.tup (c.map .int))] s = .ok ⟨.bl false, false⟩ s := by
    refine ev_not (q := true) (v := ⟨.bl true, false⟩) ?_ rfl
    have e1 : decide ((1 : Int) ≤ (c.length : Int)) = true := decide_eq_true (by omega)
    have e2 : decide ((c.length : Int) ≤ 40) = true := decide_eq_true (by omega)
    exact ev_chainT (v := ⟨.int 1, false⟩) (s1 := s) (v3 := ⟨.int 40, false⟩) (s3 := s) rfl ln (by rw [x_le, e1]) rfl (by rw [x_le, e2])
  have b3 : evE (run prog kws (d + 3)) kws (.and (.cmp .isnot (.var 1) (.con .non)) (.cmp .ne (.bi .len (.cons (.peek 2) .nil)) (.var 1))) [.sh u, .sh m, .sh (.tup (c.map .int))] s = .ok ⟨.bl false, false⟩ s := by
    rcases hm with rfl | rfl
    · exact ev_andF (v := ⟨.bl false, false⟩) rfl rfl
    · refine (ev_andT (v := ⟨.bl true, false⟩) (s1 := s) rfl rfl).trans (ev_cmp ln (ev_var (u := .int c.length) rfl) ?_)
      simp [cmp2, shp, eqU]
  refine fin_of (ρ := [.sh u, .sh m, .sh (.tup (c.map .int))]) ((evB_nx (ρ1 := [.sh u, .sh m, .sh (.tup (c.map .int))]) (evS_asg' (v := ⟨.tup (c.map .int), false⟩) a1 rfl)).trans ?_)
  refine (evB_nx (ρ1 := [.sh u, .sh m, .sh (.tup (c.map .int))]) (s1 := s) ((evS_ifF (fz := [2]) ((ev_orF b1 rfl).trans ((ev_orF b2 rfl).trans b3)) rfl).trans evB_nil)).trans ?_
  exact evB_ret (evS_retV rfl)
/-! ### lots made sure -/
def ib (p : List Bool) : List Int := p.map b2i
theorem pl_ib (p : List Bool) : p.map bi = (ib p).map U.int := by unfold ib; rw [List.map_map]; rfl
def up (L : List (List Bool)) : Prop := L.Pairwise fun p q => HT.lexLt (ib p) (ib q) = true
theorem lt_pl (p q : List Bool) : cmp2 .lt (pl p) (pl q) = some (HT.lexLt (ib p) (ib q)) := by
  show (match intsU (p.map bi), intsU (q.map bi) with | some a, some b => some (HT.lexLt a b) | _, _ => none) = _
  rw [pl_ib, pl_ib, intsU_map, intsU_map]
theorem lot_ix {L : List (List Bool)} {k : Nat} (h : k < L.length) (s : Sto) : getIx (.tup (lotU L)) (.int k) s = some (pl (L[k]?.getD [])) := by
  refine getIx_tup ?_
  unfold lotU
  rw [List.getElem?_map, List.getElem?_eq_getElem h]
  rfl
theorem asc_lot {L : List (List Bool)} (h0 : L ≠ []) (hu : up L) (hl : L.length ≤ 100) (d : Nat) (s : Sto) : run prog kws (d + 1) 4 [.tup (lotU L)] s = .ok ⟨.bl true, false⟩ s := by
  rw [run_at (fd := d4) rfl rfl]
  obtain ⟨x, r, rfl⟩ : ∃ x r, L = x :: r := by cases L with
    | nil => exact absurd rfl h0
    | cons a b => exact ⟨a, b, rfl⟩
  have e0 : evE (run prog kws d) kws (.op .sub (.bi .len (.cons (.var 0) .nil)) (.con (.int 1))) [.sh (.tup (lotU (x :: r))), .un] s = .ok ⟨.int r.length, false⟩ s := by
    refine ev_op (v := ⟨.int (x :: r).length, false⟩) (v2 := ⟨.int 1, false⟩) (ev_bi1 (ev_var (u := .tup (lotU (x :: r))) rfl) (by simp only [biV, lot_len])) rfl ?_
    rw [x_sub, List.length_cons]
    congr 3
    omega
  refine congrArg Ev.finish (evB_ret (evS_ret (fz := []) (ev_bi1 (ev_cRm (h := fun _ => .bl true) e0 (by rw [List.length_cons] at hl; omega) fun k hk => ⟨false, ?_⟩) (by rw [all_map _ fun _ => true]; congr 2; simp))))
  have k1 : k < (x :: r).length := by rw [List.length_cons]; omega
  have k2 : k + 1 < (x :: r).length := by rw [List.length_cons]; omega
  have hlt : HT.lexLt (ib ((x :: r)[k]?.getD [])) (ib ((x :: r)[k + 1]?.getD [])) = true := by
    rw [List.getElem?_eq_getElem k1, List.getElem?_eq_getElem k2]
    exact List.pairwise_iff_getElem.mp hu k (k + 1) k1 k2 (by omega)
  refine ev_cmp (ev_ix (v := ⟨.tup (lotU (x :: r)), false⟩) (v2 := ⟨.int k, false⟩) (ev_var (u := .tup (lotU (x :: r))) rfl) (ev_var (u := .int k) rfl) (lot_ix k1 s)) (ev_ix (v := ⟨.tup (lotU (x :: r)), false⟩) (v2 := ⟨.int ((k + 1 : Nat) : Int), false⟩) (ev_var (u := .tup (lotU (x :: r))) rfl) (ev_op (v := ⟨.int k, false⟩) (v2 := ⟨.int 1, false⟩) (ev_var (u := .int k) rfl) rfl rfl) (lot_ix k2 s)) ?_
  rw [lt_pl, hlt]
/-- a lot of plans of n places -/
structure Lot (n : Nat) (L : List (List Bool)) : Prop where
  ne : L ≠ []
  len : ∀ p ∈ L, p.length = n
  up : up L
  few : L.length ≤ 63
  n1 : 1 ≤ n
  n2 : n ≤ 40
def IsLot (u : U) (L : List (List Bool)) : Prop := u = .tup (lotU L) ∨ u = .lst (L.map pll)
theorem IsLot.tp {n : Nat} {u : U} {L : List (List Bool)} (hu : IsLot u L) (h : Lot n L) : Tp 2 u (.tup (lotU L)) := by
  have hl : L.length ≤ lim := by have := h.few; unfold lim; omega
  have hp : ∀ p ∈ L, p.length ≤ lim := fun p hp => by rw [h.len p hp]; have := h.n2; unfold lim; omega
  rcases hu with rfl | rfl
  · have h1 : Tp 2 (.tup (lotU L)) (.tup ((lotU L).map id)) := .seq (us := lotU L) id rfl (by rw [lot_len]; exact hl) fun x hx => by
      obtain ⟨p, hm, rfl⟩ := lot_mem hx
      exact tp_pl p (hp p hm)
    rw [List.map_id] at h1
    exact h1
  · have h1 : Tp 2 (.lst (L.map pll)) (.tup ((L.map pll).map toPl)) := .seq (us := L.map pll) toPl rfl (by rw [List.length_map]; exact hl) fun x hx => by
      obtain ⟨p, hm, rfl⟩ := List.mem_map.mp hx
      exact tp_pll p (hp p hm)
    have e : (L.map pll).map toPl = lotU L := by rw [List.map_map]; rfl
    rw [e] at h1
    exact h1
theorem sure_lot_ok {n : Nat} {u : U} {L : List (List Bool)} (hu : IsLot u L) (h : Lot n L) (d : Nat) (s : Sto) : run prog kws (d + 6) 20 [u] s = .ok ⟨.tup (lotU L), false⟩ s := by
  have e19 : run prog kws (d + 5) 19 [.tup (lotU L)] s = .ok ⟨.bl true, false⟩ s := by
    rw [run_at (fd := d19) rfl rfl]
    have r15 := row_ok (ps := L) (n := n) h.ne h.len h.n1 h.n2 (by have := h.few; omega) d s
    have r4 := asc_lot h.ne h.up (by have := h.few; omega) (d + 3) s
    exact congrArg Ev.finish (evB_ret (evS_ret (fz := []) ((ev_andT ((ev_call (evA_cons (ev_var (u := .tup (lotU L)) rfl) evA_nil)).trans r15) rfl).trans ((ev_call (evA_cons (ev_var (u := .tup (lotU L)) rfl) evA_nil)).trans r4))))
  rw [run_at (fd := d20) rfl rfl]
  have t1 : run prog kws (d + 5) 3 [u] s = .ok ⟨.tup (lotU L), false⟩ s := tupled_ok (hu.tp h) (d + 2) s
  have a1 : evE (run prog kws (d + 5)) kws (.call 3 (.cons (.var 0) .nil)) [.sh u, .un] s = .ok ⟨.tup (lotU L), false⟩ s := (ev_call (evA_cons (ev_var (u := u) rfl) evA_nil)).trans t1
  have a2 : evE (run prog kws (d + 5)) kws (.not (.call 19 (.cons (.var 1) .nil))) [.sh u, .sh (.tup (lotU L))] s = .ok ⟨.bl false, false⟩ s := ev_not (q := true) ((ev_call (evA_cons (ev_var (u := .tup (lotU L)) rfl) evA_nil)).trans e19) rfl
  refine fin_of (ρ := [.sh u, .sh (.tup (lotU L))]) ((evB_nx (ρ1 := [.sh u, .sh (.tup (lotU L))]) (evS_asg' (v := ⟨.tup (lotU L), false⟩) a1 rfl)).trans ?_)
  refine (evB_nx (ρ1 := [.sh u, .sh (.tup (lotU L))]) (s1 := s) ((evS_ifF (fz := [1]) a2 rfl).trans evB_nil)).trans ?_
  exact evB_ret (evS_retV rfl)
/-! ### best, tops -/
theorem best_by_ok {n : Nat} {L : List (List Bool)} {c : List Int} (h : Lot n L) (hc : Sm c) (d : Nat) (s : Sto) : run prog kws (d + 2) 26 [.tup (lotU L), .tup (c.map .int)] s = .ok ⟨.tup (lotU (tops L c)), false⟩ s := by
  have hf : L.length ≤ 100 := by have := h.few; omega
  have hp : ∀ p ∈ L, p.length ≤ 40 := fun p hp => by rw [h.len p hp]; exact h.n2
  rw [run_at (fd := d26) rfl rfl]
  have a1 := worths_comp (F := run prog kws (d + 1)) (f := 9) (i := 0) (j := 1) (k := 4) (w := [4]) (ρ := [.sh (.tup (lotU L)), .sh (.tup (c.map .int)), .un, .un, .un, .un]) (s := s) (u := .tup (lotU L)) (v := .tup (c.map .int)) (L := L) (c := c) rfl rfl hf (fun _ _ => rfl) (fun _ _ => rfl) fun p hm => dotted_ok (p := p) rfl rfl (hp p hm) hc d s
  have a2 : evE (run prog kws (d + 1)) kws (.bi .maxS (.cons (.var 2) .nil)) [.sh (.tup (lotU L)), .sh (.tup (c.map .int)), .sh (.lst ((worths L c).map .int)), .un, .un, .un] s = .ok ⟨.int (topw L c), false⟩ s := ev_bi1 (ev_var (u := .lst ((worths L c).map .int)) rfl) (max_worths h.ne)
  have a3 := tops_comp (F := run prog kws (d + 1)) (a := 4) (b := 5) (w := [4, 5]) (e1 := .var 0) (e2 := .var 2) (t := .cmp .eq (.var 5) (.var 3)) (ρ := [.sh (.tup (lotU L)), .sh (.tup (c.map .int)), .sh (.lst ((worths L c).map .int)), .sh (.int (topw L c)), .un, .un]) (s := s) (L := L) (c := c) (v1 := ⟨.tup (lotU L), false⟩) (v2 := ⟨.lst ((worths L c).map .int), false⟩) (ev_var rfl) (ev_var rfl) rfl rfl hf (fun p hm => ev_cmp (ev_var (u := .int (dot p c)) rfl) (ev_var (u := .int (topw L c)) rfl) (eq_int _ _)) fun _ _ => rfl
  exact congrArg Ev.finish ((evB_nx (evS_asg' (v := ⟨.lst ((worths L c).map .int), true⟩) a1 rfl)).trans ((evB_nx (evS_asg' (v := ⟨.int (topw L c), false⟩) a2 rfl)).trans (evB_ret (evS_ret (fz := []) a3))))
theorem law_tops_ok {n : Nat} {L : List (List Bool)} {v : U} {c : List Int} (h : Lot n L) (hv : IsC v c) (hc : Sm c) (d : Nat) (s : Sto) : run prog kws (d + 2) 53 [.tup (lotU L), v] s = .ok ⟨.tup (lotU (tops L c)), false⟩ s := by
  have hf : L.length ≤ 100 := by have := h.few; omega
  have hp : ∀ p ∈ L, p.length ≤ 40 := fun p hp => by rw [h.len p hp]; exact h.n2
  rw [run_at (fd := d53) rfl rfl]
  have a1 := worths_comp (F := run prog kws (d + 1)) (f := 44) (i := 0) (j := 1) (k := 3) (w := [3]) (ρ := [.sh (.tup (lotU L)), .sh v, .un, .un, .un]) (s := s) (u := .tup (lotU L)) (v := v) (L := L) (c := c) rfl rfl hf (fun _ _ => rfl) (fun _ _ => rfl) fun p hm => law_dot_ok (p := p) rfl hv.items (hp p hm) hc d s
  have a3 := tops_comp (F := run prog kws (d + 1)) (a := 3) (b := 4) (w := [3, 4]) (e1 := .var 0) (e2 := .var 2) (t := .cmp .eq (.var 4) (.bi .maxS (.cons (.var 2) .nil))) (ρ := [.sh (.tup (lotU L)), .sh v, .sh (.lst ((worths L c).map .int)), .un, .un]) (s := s) (L := L) (c := c) (v1 := ⟨.tup (lotU L), false⟩) (v2 := ⟨.lst ((worths L c).map .int), false⟩) (ev_var rfl) (ev_var rfl) rfl rfl hf (fun p hm => ev_cmp (ev_var (u := .int (dot p c)) rfl) (ev_bi1 (ev_var (u := .lst ((worths L c).map .int)) rfl) (max_worths h.ne)) (eq_int _ _)) fun _ _ => rfl
  exact congrArg Ev.finish ((evB_nx (evS_asg' (v := ⟨.lst ((worths L c).map .int), true⟩) a1 rfl)).trans (evB_ret (evS_ret (fz := []) a3)))
end K03

end
section
set_option Elab.async false
set_option linter.all false
set_option maxRecDepth 100000
set_option maxHeartbeats 2000000
namespace K03
open Ev PySem
theorem mul_2 (b : Bool) : op2 .mul (.int 2) (bi b) = some ⟨.int (2 * b2i b), false⟩ := by cases b <;> kernel_rfl
theorem worth_ok {u v : U} {p : List Bool} {c : List Int} (hu : IsPl u p) (hv : IsC v c) (h : c.length = p.length) (hc : Sm c) (d : Nat) (s : Sto) : run prog kws (d + 5) 28 [u, v] s = .ok ⟨.int (dot p c), false⟩ s := by
  rw [run_at (fd := d28) rfl rfl]
  have a1 : evE (run prog kws (d + 4)) kws (.call 11 (.cons (.var 0) .nil)) [.sh u, .sh v, .un] s = .ok ⟨pl p, false⟩ s := (ev_call (evA_cons (ev_var (u := u) rfl) evA_nil)).trans (sure_plan_ok hu d s)
  have a2 : evE (run prog kws (d + 4)) kws (.call 25 (.cons (.var 1) (.cons (.bi .len (.cons (.var 2) .nil)) .nil))) [.sh u, .sh v, .sh (pl p)] s = .ok ⟨.tup (c.map .int), false⟩ s := (ev_call (evA_cons (ev_var (u := v) rfl) (evA_cons (v := ⟨.int p.length, false⟩) (ev_bi1 (ev_var (u := pl p) rfl) (pl_len (.inl rfl))) evA_nil))).trans (sure_prices_ok hv (by rw [h]; exact hu.2.1) (by rw [h]; exact hu.2.2) (.inr (by rw [h])) d s)
  exact congrArg Ev.finish ((evB_nx (evS_asg' (v := ⟨pl p, false⟩) a1 rfl)).trans (evB_ret (evS_ret (fz := []) ((ev_call (evA_cons (ev_var (u := pl p) rfl) (evA_cons a2 evA_nil))).trans (dotted_ok (p := p) rfl rfl hu.2.2 hc (d + 3) s)))))
/-- the first plan's length -/
theorem len0 {F : CallF} {ρ : Ev.Env} {i n : Nat} {s : Sto} {L : List (List Bool)} (hL : Lot n L) (h : look i ρ = .sh (.tup (lotU L))) : evE F kws (.bi .len (.cons (.ix (.var i) (.con (.int 0))) .nil)) ρ s = .ok ⟨.int n, false⟩ s := by
  obtain ⟨x, r, rfl⟩ : ∃ x r, L = x :: r := by cases L with
    | nil => exact absurd rfl hL.ne
    | cons a b => exact ⟨a, b, rfl⟩
  refine ev_bi1 (ev_ix (v2 := ⟨.int ((0 : Nat) : Int), false⟩) (s2 := s) (ev_var h) (by simp only [evE]; rfl) (lot_ix (by simp) s)) ?_
  show biV .len [pl x] = _
  rw [pl_len (.inl rfl), hL.len x List.mem_cons_self]
theorem best_ok {n : Nat} {u v : U} {L : List (List Bool)} {c : List Int} (hu : IsLot u L) (hL : Lot n L) (hv : IsC v c) (h : c.length = n) (hc : Sm c) (d : Nat) (s : Sto) : run prog kws (d + 7) 29 [u, v] s = .ok ⟨.tup (lotU (tops L c)), false⟩ s := by
  rw [run_at (fd := d29) rfl rfl]
  have a1 : evE (run prog kws (d + 6)) kws (.call 20 (.cons (.var 0) .nil)) [.sh u, .sh v, .un] s = .ok ⟨.tup (lotU L), false⟩ s := (ev_call (evA_cons (ev_var (u := u) rfl) evA_nil)).trans (sure_lot_ok hu hL d s)
  have a2 : evE (run prog kws (d + 6)) kws (.call 25 (.cons (.var 1) (.cons (.bi .len (.cons (.ix (.var 2) (.con (.int 0))) .nil)) .nil))) [.sh u, .sh v, .sh (.tup (lotU L))] s = .ok ⟨.tup (c.map .int), false⟩ s := (ev_call (evA_cons (ev_var (u := v) rfl) (evA_cons (v := ⟨.int n, false⟩) (len0 hL rfl) evA_nil))).trans (sure_prices_ok hv (by rw [h]; exact hL.n1) (by rw [h]; exact hL.n2) (.inr (by rw [h])) (d + 2) s)
  exact congrArg Ev.finish ((evB_nx (evS_asg' (v := ⟨.tup (lotU L), false⟩) a1 rfl)).trans (evB_ret (evS_ret (fz := []) ((ev_call (evA_cons (ev_var (u := .tup (lotU L)) rfl) (evA_cons a2 evA_nil))).trans (best_by_ok hL hc (d + 4) s)))))
/-- the gap between the two greatest of an ascending list -/
def gapV (ws : List Int) : U := if 1 < ws.length then .int (ws[ws.length - 1]?.getD 0 - ws[ws.length - 2]?.getD 0) else .non
theorem ints_ix {ws : List Int} {k : Nat} (h : k < ws.length) (s : Sto) : getIx (.lst (ws.map .int)) (.int k) s = some (.int (ws[k]?.getD 0)) := by
  refine getIx_lst ?_
  rw [List.getElem?_map, List.getElem?_eq_getElem h]
  rfl
theorem ints_back' {ws : List Int} {j : Nat} (h1 : 1 ≤ j) (h2 : j ≤ ws.length) (s : Sto) : getIx (.lst (ws.map .int)) (.int (-(j : Int))) s = some (.int (ws[ws.length - j]?.getD 0)) := by
  have e : L2.ixN (ws.map U.int).length (-(j : Int)) = some (ws.length - j) := by
    rw [List.length_map]
    unfold L2.ixN
    rw [if_neg (by omega), if_pos (by omega)]
    congr 1
    omega
  have k := ints_ix (ws := ws) (k := ws.length - j) (by omega) s
  have e2 : L2.ixN (ws.map U.int).length ((ws.length - j : Nat) : Int) = some (ws.length - j) := by
    rw [List.length_map]
    exact ixN_nat (by omega)
  simp only [getIx, e2] at k
  simp only [getIx, e, k]
theorem gap_expr {F : CallF} {ρ : Ev.Env} {i : Nat} {ws : List Int} (h : look i ρ = .sh (.lst (ws.map .int))) (s : Sto) : ∃ f, evE F kws (.ife (.cmp .gt (.bi .len (.cons (.var i) .nil)) (.con (.int 1))) (.op .sub (.ix (.var i) (.neg (.con (.int 1)))) (.ix (.var i) (.neg (.con (.int 2))))) (.con .non)) ρ s = .ok ⟨gapV ws, f⟩ s := by
  have ht : evE F kws (.cmp .gt (.bi .len (.cons (.var i) .nil)) (.con (.int 1))) ρ s = .ok ⟨.bl (decide (1 < ws.length)), false⟩ s := by
    refine ev_cmp (v := ⟨.int ws.length, false⟩) (v2 := ⟨.int 1, false⟩) (s2 := s) (ev_bi1 (ev_var h) (by simp only [biV, List.length_map])) (by simp only [evE]) ?_
    rw [x_gt]
    congr 1
    exact decide_eq_decide.mpr (by omega)
  unfold gapV
  by_cases hl : 1 < ws.length
  · rw [decide_eq_true hl] at ht
    rw [if_pos hl]
    refine ⟨false, (ev_ifeT ht rfl).trans ?_⟩
    exact ev_op (ev_ix (v2 := ⟨.int (-((1 : Nat) : Int)), false⟩) (s2 := s) (ev_var h) (by simp only [evE, x_bind]; rfl) (ints_back' (by omega) (by omega) s)) (ev_ix (v2 := ⟨.int (-((2 : Nat) : Int)), false⟩) (s2 := s) (ev_var h) (by simp only [evE, x_bind]; rfl) (ints_back' (by omega) (by omega) s)) (x_sub _ _)
  · rw [decide_eq_false hl] at ht
    rw [if_neg hl]
    exact ⟨false, (ev_ifeF ht rfl).trans (by simp only [evE])⟩
theorem sset_ints (ws : List Int) (h : ws.length < 64) : biV .sortedSet [.lst (ws.map .int)] = some ⟨.lst ((Ev.sortS ws).map .int), true⟩ := by
  simp only [biV, items, intsU_map, if_pos h]
theorem gap_ok {n : Nat} {u v : U} {L : List (List Bool)} {c : List Int} (hu : IsLot u L) (hL : Lot n L) (hv : IsC v c) (h : c.length = n) (hc : Sm c) (d : Nat) (s : Sto) : ∃ f, run prog kws (d + 7) 30 [u, v] s = .ok ⟨gapV (Ev.sortS (worths L c)), f⟩ s := by
  have hf : L.length ≤ 100 := by have := hL.few; omega
  rw [run_at (fd := d30) rfl rfl]
  have a1 : evE (run prog kws (d + 6)) kws (.call 20 (.cons (.var 0) .nil)) [.sh u, .sh v, .un, .un, .un, .un] s = .ok ⟨.tup (lotU L), false⟩ s := (ev_call (evA_cons (ev_var (u := u) rfl) evA_nil)).trans (sure_lot_ok hu hL d s)
  have a2 : evE (run prog kws (d + 6)) kws (.call 25 (.cons (.var 1) (.cons (.bi .len (.cons (.ix (.var 2) (.con (.int 0))) .nil)) .nil))) [.sh u, .sh v, .sh (.tup (lotU L)), .un, .un, .un] s = .ok ⟨.tup (c.map .int), false⟩ s := (ev_call (evA_cons (ev_var (u := v) rfl) (evA_cons (v := ⟨.int n, false⟩) (len0 hL rfl) evA_nil))).trans (sure_prices_ok hv (by rw [h]; exact hL.n1) (by rw [h]; exact hL.n2) (.inr (by rw [h])) (d + 2) s)
  have a3 := worths_comp (F := run prog kws (d + 6)) (f := 9) (i := 2) (j := 3) (k := 5) (w := [5]) (ρ := [.sh u, .sh v, .sh (.tup (lotU L)), .sh (.tup (c.map .int)), .un, .un]) (s := s) (u := .tup (lotU L)) (v := .tup (c.map .int)) (L := L) (c := c) rfl rfl hf (fun _ _ => rfl) (fun _ _ => rfl) fun p hm => dotted_ok (p := p) rfl rfl (by rw [hL.len p hm]; exact hL.n2) hc (d + 5) s
  have a4 := ev_bi1 (b := .sortedSet) a3 (sset_ints _ (by unfold worths; rw [List.length_map]; have := hL.few; omega))
  obtain ⟨f, a5⟩ := gap_expr (F := run prog kws (d + 6)) (ρ := [.sh u, .sh v, .sh (.tup (lotU L)), .sh (.tup (c.map .int)), .sh (.lst ((Ev.sortS (worths L c)).map .int)), .un]) (i := 4) rfl s
  exact ⟨f, congrArg Ev.finish ((evB_nx (evS_asg' (v := ⟨.tup (lotU L), false⟩) a1 rfl)).trans ((evB_nx (evS_asg' (v := ⟨.tup (c.map .int), false⟩) a2 rfl)).trans ((evB_nx (evS_asg' (v := ⟨.lst ((Ev.sortS (worths L c)).map .int), true⟩) a4 rfl)).trans (evB_ret (evS_ret (fz := []) a5)))))⟩
/-! ### prices of one plan alone -/
def al (p : List Bool) : List Int := p.map fun b => 2 * b2i b - 1
theorem alone_ok {u : U} {p : List Bool} (hu : IsPl u p) (d : Nat) (s : Sto) : run prog kws (d + 5) 31 [u] s = .ok ⟨.tup ((al p).map .int), false⟩ s := by
  rw [run_at (fd := d31) rfl rfl]
  have a1 : evE (run prog kws (d + 4)) kws (.call 11 (.cons (.var 0) .nil)) [.sh u, .un] s = .ok ⟨pl p, false⟩ s := (ev_call (evA_cons (ev_var (u := u) rfl) evA_nil)).trans (sure_plan_ok hu d s)
  let g : U → U := fun x => match x with | .int i => .int (2 * i - 1) | _ => .non
  have e : (al p).map U.int = (p.map bi).map g := by
    unfold al
    rw [List.map_map, List.map_map]
    rfl
  rw [e]
  refine congrArg Ev.finish (evB_ret (evS_ret (fz := []) (ev_bi1 (ev_cSm (v := ⟨pl p, false⟩) (us := p.map bi) (h := g) a1 rfl (by rw [List.length_map]; have := hu.2.2; unfold lim; omega) fun x hx => ?_) rfl)))
  obtain ⟨b, _, rfl⟩ := List.mem_map.mp hx
  exact ⟨[.sh u, .sh (bi b)], rfl, false, ev_op (v := ⟨.int (2 * b2i b), false⟩) (v2 := ⟨.int 1, false⟩) (s1 := s) (s2 := s) (ev_op (v := ⟨.int 2, false⟩) (s1 := s) (by simp only [evE]) (ev_var (u := bi b) rfl) (mul_2 b)) (by simp only [evE]) rfl⟩
/-! ### prices turned, moved, added -/
def cAt (c : List Int) (k : Nat) : Int := c[k]?.getD 0
theorem c_ix {c : List Int} {k : Nat} (h : k < c.length) (s : Sto) : getIx (.tup (c.map .int)) (.int k) s = some (.int (cAt c k)) := by
  refine getIx_tup ?_
  rw [List.getElem?_map, List.getElem?_eq_getElem h]
  unfold cAt
  rw [List.getElem?_eq_getElem h]
  rfl
theorem enum_c (c : List Int) : enumU 0 (c.map U.int) = (List.range c.length).map fun k : Nat => U.tup [.int k, .int (cAt c k)] := by
  rw [enumU_range, List.length_map]
  apply List.map_congr_left
  intro k hk
  have hk := List.mem_range.mp hk
  rw [List.getElem?_map, Nat.zero_add]
  unfold cAt
  rw [List.getElem?_eq_getElem hk]
  rfl
theorem ev_cEc {F : CallF} {KW : List (List Nat)} {w : List Nat} {a b : Nat} {e x : C} {ρ : Ev.Env} {s : Sto} {v : Rv} {c : List Int} {h : Nat → U} (he : evE F KW e ρ s = .ok v s) (hu : items v.u = some (c.map .int)) (hl : c.length ≤ 100)
    (h2 : ∀ k < c.length, ∃ f, evE F KW x (put b (.sh (.int (cAt c k))) (put a (.sh (.int k)) (wipeE w ρ))) s = .ok ⟨h k, f⟩ s) :
    evE F KW (.comp w (.t2 (.nm a) (.nm b)) (.enum e) (.con (.bl true)) x) ρ s = .ok ⟨.lst ((List.range c.length).map h), true⟩ s := by
  have hi : evI F KW (.enum e) ρ s = .ok (enumU 0 (c.map .int)) s := by simp only [evI, he, x_bind, hu, x_ofO]
  have key := ev_comp (w := w) (tg := .t2 (.nm a) (.nm b)) (t := .con (.bl true)) (e := x) (g := fun u => match u with | .tup (.int i :: _) => some (h i.toNat) | _ => none) hi (decide_eq_true (by rw [enumU_len, List.length_map]; unfold lim; omega)) fun y hy => by
    rw [enum_c] at hy
    obtain ⟨k, hk, rfl⟩ := List.mem_map.mp hy
    obtain ⟨f, e1⟩ := h2 k (List.mem_range.mp hk)
    exact ⟨_, rfl, ⟨.bl true, false⟩, true, by simp only [evE], rfl, ⟨h k, f⟩, e1, rfl⟩
  rw [key, enum_c, fm_map]
  show RE.ok (Rv.mk (.lst ((List.range c.length).filterMap fun k => some (h k))) true) s = _
  rw [fm_some]
def tC (c : List Int) (ps : List Nat) : List Int := (List.range c.length).map fun k => if decide (k ∈ ps) then -cAt c k else cAt c k
theorem tC_comp {F : CallF} {a b i : Nat} {w : List Nat} {e : C} {ρ : Ev.Env} {s : Sto} {c : List Int} {ps : List Nat} {v : Rv} (he : evE F kws e ρ s = .ok v s) (hu : items v.u = some (c.map .int)) (hl : c.length ≤ 100)
    (ha : ∀ k < c.length, look a (put b (.sh (.int (cAt c k))) (put a (.sh (.int k)) (wipeE w ρ))) = .sh (.int k))
    (hb : ∀ k < c.length, look b (put b (.sh (.int (cAt c k))) (put a (.sh (.int k)) (wipeE w ρ))) = .sh (.int (cAt c k)))
    (hi : ∀ k < c.length, look i (put b (.sh (.int (cAt c k))) (put a (.sh (.int k)) (wipeE w ρ))) = .sh (.tup (nU ps))) :
    evE F kws (.bi .tuple (.cons (.comp w (.t2 (.nm a) (.nm b)) (.enum e) (.con (.bl true)) (.ife (.cmp .isin (.var a) (.var i)) (.neg (.var b)) (.var b))) .nil)) ρ s = .ok ⟨.tup ((tC c ps).map .int), false⟩ s := by
  refine ev_bi1 (ev_cEc (h := fun k => .int (if decide (k ∈ ps) then -cAt c k else cAt c k)) he hu hl fun k hk => ⟨false, ?_⟩) ?_
  · have ht := ev_cmp (F := F) (KW := kws) (s := s) (o := .isin) (ev_var (u := .int k) (ha k hk)) (ev_var (u := .tup (nU ps)) (hi k hk)) (isin_t k ps)
    by_cases hm : k ∈ ps
    · rw [decide_eq_true hm] at ht ⊢
      exact (ev_ifeT ht rfl).trans (by simp only [evE, hb k hk, x_bind]; rfl)
    · rw [decide_eq_false hm] at ht ⊢
      exact (ev_ifeF ht rfl).trans (ev_var (hb k hk))
  · show some (Rv.mk (.tup _) false) = _
    unfold tC
    rw [List.map_map]
    rfl
theorem sure_alone {F : CallF} (hF : ∀ u m c, IsC u c → 1 ≤ c.length → c.length ≤ 40 → (m = .non ∨ m = .int c.length) → ∀ s, F 25 [u, m] s = .ok ⟨.tup (c.map .int), false⟩ s) {ρ : Ev.Env} {i : Nat} {u : U} {c : List Int} (h : look i ρ = .sh u) (hu : IsC u c) (h1 : 1 ≤ c.length) (h2 : c.length ≤ 40) (s : Sto) : evE F kws (.callD 25 (.cons (.var i) .nil) [.non]) ρ s = .ok ⟨.tup (c.map .int), false⟩ s := by
  have e := evA_cons (F := F) (KW := kws) (ev_var (s := s) h) (evA_nil (F := F) (KW := kws) (ρ := ρ) (s := s))
  simp only [evE, e, x_bind]
  exact hF u .non c hu h1 h2 (.inl rfl) s
theorem turned_prices_ok {u v : U} {c : List Int} {ps : List Nat} (hu : IsC u c) (h1 : 1 ≤ c.length) (h2 : c.length ≤ 40) (hv : v = .tup (nU ps) ∨ v = .lst (nU ps)) (h : Asc c.length ps) (hl : ps.length ≤ 100) (d : Nat) (s : Sto) : run prog kws (d + 5) 33 [u, v] s = .ok ⟨.tup ((tC c ps).map .int), false⟩ s := by
  rw [run_at (fd := d33) rfl rfl]
  have a1 := sure_alone (F := run prog kws (d + 4)) (fun u m c a b e f s => sure_prices_ok a b e f d s) (ρ := [.sh u, .sh v, .un, .un, .un, .un]) (i := 0) rfl hu h1 h2 s
  have a2 : evE (run prog kws (d + 4)) kws (.call 12 (.cons (.var 1) (.cons (.bi .len (.cons (.var 2) .nil)) .nil))) [.sh u, .sh v, .sh (.tup (c.map .int)), .un, .un, .un] s = .ok ⟨.tup (nU ps), false⟩ s := (ev_call (evA_cons (ev_var (u := v) rfl) (evA_cons (v := ⟨.int c.length, false⟩) (ev_bi1 (ev_var (u := .tup (c.map .int)) rfl) (c_len (.inl rfl))) evA_nil))).trans (sure_places_ok hv h hl d s)
  exact congrArg Ev.finish ((evB_nx (evS_asg' (v := ⟨.tup (c.map .int), false⟩) a1 rfl)).trans ((evB_nx (evS_asg' (v := ⟨.tup (nU ps), false⟩) a2 rfl)).trans (evB_ret (evS_ret (fz := []) (tC_comp (v := ⟨.tup (c.map .int), false⟩) (ev_var (u := .tup (c.map .int)) rfl) rfl (by omega) (fun _ _ => rfl) (fun _ _ => rfl) (fun _ _ => rfl))))))
/-- x[k] for k in places -/
theorem fold_comp {F : CallF} {i j : Nat} {w : List Nat} {k : Nat} {ρ : Ev.Env} {s : Sto} {v : U} {l : List Nat} {h : Nat → U} (hi : look i ρ = .sh (.tup (nU l))) (hl : l.length ≤ 100) (hk : ∀ x ∈ l, look k (put k (.sh (.int (x : Nat))) (wipeE w ρ)) = .sh (.int (x : Nat))) (hj : ∀ x ∈ l, look j (put k (.sh (.int (x : Nat))) (wipeE w ρ)) = .sh v) (hv : ∀ x ∈ l, getIx v (.int (x : Nat)) s = some (h x)) :
    evE F kws (.bi .tuple (.cons (.comp w (.nm k) (.seq (.var i)) (.con (.bl true)) (.ix (.var j) (.var k))) .nil)) ρ s = .ok ⟨.tup (l.map h), false⟩ s := by
  let g : U → U := fun x => match x with | .int y => h y.toNat | _ => .non
  have e : l.map h = (nU l).map g := by unfold nU; rw [List.map_map]; rfl
  rw [e]
  refine ev_bi1 (ev_cSm (v := ⟨.tup (nU l), false⟩) (us := nU l) (h := g) (ev_var hi) rfl (nU_lim hl) fun x hx => ?_) rfl
  obtain ⟨y, hy, rfl⟩ := nU_mem hx
  exact ⟨_, rfl, false, ev_ix (ev_var (hj y hy)) (ev_var (hk y hy)) (hv y hy)⟩
def fC (c : List Int) (l : List Nat) : List Int := l.map (cAt c)
def fP (p : List Bool) (l : List Nat) : List Bool := l.map (bt p)
theorem fC_map (c : List Int) (l : List Nat) : (fC c l).map U.int = l.map fun k => U.int (cAt c k) := by unfold fC; rw [List.map_map]; rfl
theorem fP_map (p : List Bool) (l : List Nat) : pl (fP p l) = .tup (l.map fun k => bi (bt p k)) := by unfold fP pl; rw [List.map_map]; rfl
theorem folded_c {c : List Int} {l : List Nat} (hl : ∀ k ∈ l, k < c.length) (hn : l.length ≤ 100) (d : Nat) (s : Sto) : run prog kws (d + 1) 22 [.tup (c.map .int), .tup (nU l)] s = .ok ⟨.tup ((fC c l).map .int), false⟩ s := by
  rw [run_at (fd := d22) rfl rfl, fC_map]
  exact congrArg Ev.finish (evB_ret (evS_ret (fz := []) (fold_comp (v := .tup (c.map .int)) rfl hn (fun _ _ => rfl) (fun _ _ => rfl) fun x hx => c_ix (hl x hx) s)))
theorem folded_p {p : List Bool} {l : List Nat} (hl : ∀ k ∈ l, k < p.length) (hn : l.length ≤ 100) (d : Nat) (s : Sto) : run prog kws (d + 1) 22 [pl p, .tup (nU l)] s = .ok ⟨pl (fP p l), false⟩ s := by
  rw [run_at (fd := d22) rfl rfl, fP_map]
  exact congrArg Ev.finish (evB_ret (evS_ret (fz := []) (fold_comp (v := pl p) rfl hn (fun _ _ => rfl) (fun _ _ => rfl) fun x hx => bt_ix (hl x hx) s)))
theorem perm_lt {l : List Nat} {n : Nat} (h : l.Perm (List.range n)) : ∀ k ∈ l, k < n := fun k hk => List.mem_range.mp (h.mem_iff.mp hk)
theorem perm_len {l : List Nat} {n : Nat} (h : l.Perm (List.range n)) : l.length = n := by have := h.length_eq; rwa [List.length_range] at this
theorem moved_prices_ok {u v : U} {c : List Int} {l : List Nat} (hu : IsC u c) (h1 : 1 ≤ c.length) (h2 : c.length ≤ 40) (hv : v = .tup (nU l) ∨ v = .lst (nU l)) (h : l.Perm (List.range c.length)) (d : Nat) (s : Sto) : run prog kws (d + 7) 34 [u, v] s = .ok ⟨.tup ((fC c l).map .int), false⟩ s := by
  rw [run_at (fd := d34) rfl rfl]
  have a1 := sure_alone (F := run prog kws (d + 6)) (fun u m c a b e f s => sure_prices_ok a b e f (d + 2) s) (ρ := [.sh u, .sh v, .un]) (i := 0) rfl hu h1 h2 s
  have a2 : evE (run prog kws (d + 6)) kws (.call 14 (.cons (.var 1) (.cons (.bi .len (.cons (.var 2) .nil)) .nil))) [.sh u, .sh v, .sh (.tup (c.map .int))] s = .ok ⟨.tup (nU l), false⟩ s := (ev_call (evA_cons (ev_var (u := v) rfl) (evA_cons (v := ⟨.int c.length, false⟩) (ev_bi1 (ev_var (u := .tup (c.map .int)) rfl) (c_len (.inl rfl))) evA_nil))).trans (sure_order_ok hv h h2 d s)
  exact congrArg Ev.finish ((evB_nx (evS_asg' (v := ⟨.tup (c.map .int), false⟩) a1 rfl)).trans (evB_ret (evS_ret (fz := []) ((ev_call (evA_cons (ev_var (u := .tup (c.map .int)) rfl) (evA_cons a2 evA_nil))).trans (folded_c (perm_lt h) (by rw [perm_len h]; omega) (d + 5) s)))))
def aC (c e : List Int) : List Int := List.zipWith (· + ·) c e
theorem zip_add : ∀ {c e : List Int} (g : U → U), (∀ x y : Int, g (.tup [.int x, .int y]) = .int (x + y)) → (zipU (c.map .int) (e.map .int)).map g = (aC c e).map .int
  | [], e, g, _ => by cases e <;> rfl
  | x :: c, [], g, _ => rfl
  | x :: c, y :: e, g, hg => by
    have ih := zip_add (c := c) (e := e) g hg
    show g (.tup [.int x, .int y]) :: (zipU (c.map .int) (e.map .int)).map g = _
    rw [ih, hg]
    rfl
theorem zipI_mem : ∀ {c e : List Int} {x : U}, x ∈ zipU (c.map .int) (e.map .int) → ∃ a b : Int, x = .tup [.int a, .int b]
  | [], e, x, h => by cases e <;> simp [zipU] at h
  | a :: c, [], x, h => by simp [zipU] at h
  | a :: c, b :: e, x, h => by
    simp only [List.map_cons, zipU, List.mem_cons] at h
    rcases h with rfl | h
    · exact ⟨a, b, rfl⟩
    · exact zipI_mem h
theorem zipI_len : ∀ (c e : List Int), (zipU (c.map U.int) (e.map U.int)).length ≤ c.length
  | [], e => by cases e <;> simp [zipU]
  | a :: c, [] => by simp [zipU]
  | a :: c, b :: e => by
    have := zipI_len c e
    simp only [List.map_cons, zipU, List.length_cons]
    omega
theorem add_comp {F : CallF} {a b : Nat} {w : List Nat} {x y : C} {ρ : Ev.Env} {s : Sto} {v1 v2 : Rv} {c e : List Int} (h1 : evE F kws x ρ s = .ok v1 s) (h2 : evE F kws y ρ s = .ok v2 s) (i1 : items v1.u = some (c.map .int)) (i2 : items v2.u = some (e.map .int)) (hl : c.length ≤ 100)
    (ha : ∀ p q : Int, look a (put b (.sh (.int q)) (put a (.sh (.int p)) (wipeE w ρ))) = .sh (.int p)) (hb : ∀ p q : Int, look b (put b (.sh (.int q)) (put a (.sh (.int p)) (wipeE w ρ))) = .sh (.int q)) :
    evE F kws (.bi .tuple (.cons (.comp w (.t2 (.nm a) (.nm b)) (.zip2 x y) (.con (.bl true)) (.op .add (.var a) (.var b))) .nil)) ρ s = .ok ⟨.tup ((aC c e).map .int), false⟩ s := by
  let g : U → U := fun x => match x with | .tup [.int a, .int b] => .int (a + b) | _ => .non
  have hi : evI F kws (.zip2 x y) ρ s = .ok (zipU (c.map .int) (e.map .int)) s := by simp only [evI, h1, h2, x_bind, i1, i2, x_ofO]
  have key := ev_comp (F := F) (KW := kws) (w := w) (tg := .t2 (.nm a) (.nm b)) (t := .con (.bl true)) (e := .op .add (.var a) (.var b)) (g := fun x => some (g x)) hi (decide_eq_true (by have := zipI_len c e; unfold lim; omega)) fun z hz => by
    obtain ⟨p, q, rfl⟩ := zipI_mem hz
    exact ⟨_, rfl, ⟨.bl true, false⟩, true, by simp only [evE], rfl, ⟨.int (p + q), false⟩, ev_op (ev_var (ha p q)) (ev_var (hb p q)) rfl, rfl⟩
  rw [fm_some, zip_add g fun _ _ => rfl] at key
  exact ev_bi1 key rfl
theorem added_prices_ok {u v : U} {c e : List Int} (hu : IsC u c) (hv : IsC v e) (h1 : 1 ≤ c.length) (h2 : c.length ≤ 40) (h : e.length = c.length) (d : Nat) (s : Sto) : run prog kws (d + 5) 35 [u, v] s = .ok ⟨.tup ((aC c e).map .int), false⟩ s := by
  rw [run_at (fd := d35) rfl rfl]
  have a1 := sure_alone (F := run prog kws (d + 4)) (fun u m c a b e f s => sure_prices_ok a b e f d s) (ρ := [.sh u, .sh v, .un, .un, .un]) (i := 0) rfl hu h1 h2 s
  have a2 : evE (run prog kws (d + 4)) kws (.call 25 (.cons (.var 1) (.cons (.bi .len (.cons (.var 2) .nil)) .nil))) [.sh u, .sh v, .sh (.tup (c.map .int)), .un, .un] s = .ok ⟨.tup (e.map .int), false⟩ s := (ev_call (evA_cons (ev_var (u := v) rfl) (evA_cons (v := ⟨.int c.length, false⟩) (ev_bi1 (ev_var (u := .tup (c.map .int)) rfl) (c_len (.inl rfl))) evA_nil))).trans (sure_prices_ok hv (by omega) (by omega) (.inr (by rw [h])) d s)
  exact congrArg Ev.finish ((evB_nx (evS_asg' (v := ⟨.tup (c.map .int), false⟩) a1 rfl)).trans (evB_ret (evS_ret (fz := []) (add_comp (v1 := ⟨.tup (c.map .int), false⟩) (v2 := ⟨.tup (e.map .int), false⟩) (ev_var (u := .tup (c.map .int)) rfl) a2 rfl rfl (by omega) (fun _ _ => rfl) (fun _ _ => rfl)))))
end K03

end
section
set_option Elab.async false
set_option linter.all false
set_option maxRecDepth 100000
set_option maxHeartbeats 2000000
namespace K03
open Ev PySem
/-! ### sorted lots -/
def unib (t : List Int) : List Bool := t.map fun i => i == 1
theorem unib_ib (p : List Bool) : unib (ib p) = p := by
  unfold unib ib
  rw [List.map_map]
  conv => rhs; rw [← List.map_id p]
  apply List.map_congr_left
  intro b _
  cases b <;> rfl
theorem ib_inj {p q : List Bool} (h : ib p = ib q) : p = q := by rw [← unib_ib p, ← unib_ib q, h]
theorem tup_ib (p : List Bool) : Ev.tupI (ib p) = pl p := by unfold Ev.tupI pl; rw [pl_ib]
theorem tups_lot : ∀ {M : List (List Bool)}, (∀ p ∈ M, p ≠ []) → tupsU (lotU M) = some (M.map ib)
  | [], _ => rfl
  | p :: M, h => by
    have ih := tups_lot (M := M) fun q hq => h q (List.mem_cons_of_mem _ hq)
    have hi : intsU (p.map bi) = some (ib p) := by rw [pl_ib, intsU_map]
    cases p with
    | nil => exact absurd rfl (h [] List.mem_cons_self)
    | cons b r =>
      show tupsU (.tup ((b :: r).map bi) :: lotU M) = _
      simp only [tupsU, hi, ih]
      rfl
theorem ints_lot {M : List (List Bool)} (h : M ≠ []) : intsU (lotU M) = none := by
  cases M with
  | nil => exact absurd rfl h
  | cons p M => rfl
theorem okT_lot {n : Nat} {M : List (List Bool)} (hl : ∀ p ∈ M, p.length = n) (few : M.length < 64) : okT (M.map ib) = true := by
  unfold okT
  rw [decide_eq_true (by rw [List.length_map]; exact few), Bool.true_and]
  refine List.all_eq_true.mpr fun t ht => ?_
  obtain ⟨p, hp, rfl⟩ := List.mem_map.mp ht
  have h0 : ((M.map ib).headD []).length = n := by
    cases M with
    | nil => cases hp
    | cons q M => show (ib q).length = n; unfold ib; rw [List.length_map]; exact hl q List.mem_cons_self
  rw [h0]
  have h1 : ((ib p).length == n) = true := by unfold ib; rw [List.length_map, hl p hp]; exact beq_self_eq_true n
  rw [h1, Bool.true_and]
  refine List.all_eq_true.mpr fun x hx => ?_
  obtain ⟨b, _, rfl⟩ := List.mem_map.mp hx
  cases b <;> decide
def sortP (M : List (List Bool)) : List (List Bool) := (Ev.sortTS (M.map ib)).map unib
def sortQ (M : List (List Bool)) : List (List Bool) := (Ev.sortT (M.map ib)).map unib
theorem un_tup {M : List (List Bool)} {T : List (List Int)} (h : ∀ t ∈ T, ∃ p ∈ M, t = ib p) : T.map Ev.tupI = lotU (T.map unib) := by
  unfold lotU
  rw [List.map_map]
  apply List.map_congr_left
  intro t ht
  obtain ⟨p, _, rfl⟩ := h t ht
  show Ev.tupI (ib p) = pl (unib (ib p))
  rw [unib_ib, tup_ib]
theorem mem_TS {M : List (List Bool)} {t : List Int} (h : t ∈ Ev.sortTS (M.map ib)) : ∃ p ∈ M, t = ib p := by
  rw [sortTS_mem] at h
  obtain ⟨p, hp, rfl⟩ := List.mem_map.mp h
  exact ⟨p, hp, rfl⟩
theorem mem_T {M : List (List Bool)} {t : List Int} (h : t ∈ Ev.sortT (M.map ib)) : ∃ p ∈ M, t = ib p := by
  rw [(Ev.sortT_perm _).mem_iff] at h
  obtain ⟨p, hp, rfl⟩ := List.mem_map.mp h
  exact ⟨p, hp, rfl⟩
theorem sset_lot {n : Nat} {M : List (List Bool)} (h0 : M ≠ []) (hl : ∀ p ∈ M, p.length = n) (n1 : 1 ≤ n) (few : M.length < 64) : biV .sortedSet [.lst (lotU M)] = some ⟨.lst (lotU (sortP M)), true⟩ := by
  have ht := tups_lot (M := M) fun p hp e => by have := hl p hp; rw [e] at this; simp at this; omega
  simp only [biV, items, ints_lot h0, ht, okT_lot hl few, if_true]
  rw [un_tup (M := M) fun t ht => mem_TS ht]
  rfl
theorem sorted_lot {n : Nat} {M : List (List Bool)} (hl : ∀ p ∈ M, p.length = n) (n1 : 1 ≤ n) : biV .sorted [.lst (lotU M)] = some ⟨.lst (lotU (sortQ M)), true⟩ := by
  by_cases h0 : M = []
  · subst h0; rfl
  · have ht := tups_lot (M := M) fun p hp e => by have := hl p hp; rw [e] at this; simp at this; omega
    simp only [biV, items, ints_lot h0, ht]
    rw [un_tup (M := M) fun t ht => mem_T ht]
    rfl
theorem mem_sortP {M : List (List Bool)} {p : List Bool} : p ∈ sortP M ↔ p ∈ M := by
  unfold sortP
  constructor
  · intro h
    obtain ⟨t, ht, rfl⟩ := List.mem_map.mp h
    obtain ⟨q, hq, rfl⟩ := mem_TS ht
    rw [unib_ib]
    exact hq
  · intro h
    exact List.mem_map.mpr ⟨ib p, by rw [sortTS_mem]; exact List.mem_map_of_mem h, unib_ib p⟩
theorem ib_unib {M : List (List Bool)} {t : List Int} (h : ∃ p ∈ M, t = ib p) : ib (unib t) = t := by
  obtain ⟨p, _, rfl⟩ := h
  rw [unib_ib]
theorem up_sortP (M : List (List Bool)) : up (sortP M) := by
  unfold up sortP
  rw [List.pairwise_map]
  refine (Ev.sortTS_up (M.map ib)).imp_of_mem fun {a b} ha hb h => ?_
  rw [ib_unib (mem_TS ha), ib_unib (mem_TS hb)]
  exact h
theorem up_eq {A B : List (List Bool)} (ha : up A) (hb : up B) (h : ∀ p, p ∈ A ↔ p ∈ B) : A = B := by
  have e : A.map ib = B.map ib := by
    refine Ev.ltT_mem_eq (by rw [List.pairwise_map]; exact ha) (by rw [List.pairwise_map]; exact hb) fun z => ?_
    constructor
    · intro hz
      obtain ⟨p, hp, rfl⟩ := List.mem_map.mp hz
      exact List.mem_map_of_mem ((h p).mp hp)
    · intro hz
      obtain ⟨p, hp, rfl⟩ := List.mem_map.mp hz
      exact List.mem_map_of_mem ((h p).mpr hp)
  have : ∀ {A B : List (List Bool)}, A.map ib = B.map ib → A = B := by
    intro A
    induction A with
    | nil => intro B e; cases B with
      | nil => rfl
      | cons _ _ => simp at e
    | cons a A ih => intro B e; cases B with
      | nil => simp at e
      | cons b B =>
        rw [List.map_cons, List.map_cons] at e
        injection e with e1 e2
        rw [ib_inj e1, ih e2]
  exact this e
theorem mem_sortQ {M : List (List Bool)} {p : List Bool} : p ∈ sortQ M ↔ p ∈ M := by
  unfold sortQ
  constructor
  · intro h
    obtain ⟨t, ht, rfl⟩ := List.mem_map.mp h
    obtain ⟨q, hq, rfl⟩ := mem_T ht
    rw [unib_ib]
    exact hq
  · intro h
    exact List.mem_map.mpr ⟨ib p, by rw [(Ev.sortT_perm _).mem_iff]; exact List.mem_map_of_mem h, unib_ib p⟩
theorem up_sortQ {M : List (List Bool)} (hn : M.Nodup) : up (sortQ M) := by
  unfold up sortQ
  rw [List.pairwise_map]
  have hn2 : (Ev.sortT (M.map ib)).Nodup := by
    rw [(Ev.sortT_perm _).nodup_iff]
    exact List.Pairwise.map ib (fun a b h e => h (ib_inj e)) hn
  refine ((Ev.sortT_up (M.map ib)).and hn2).imp_of_mem fun {a b} ha hb h => ?_
  rw [ib_unib (mem_T ha), ib_unib (mem_T hb)]
  cases q : HT.lexLt a b with
  | true => rfl
  | false => exact absurd (Ev.lex_eq q h.1) h.2
theorem lot_sortP {n : Nat} {M : List (List Bool)} (h0 : M ≠ []) (hl : ∀ p ∈ M, p.length = n) (n1 : 1 ≤ n) (n2 : n ≤ 40) (few : M.length ≤ 63) : Lot n (sortP M) := by
  refine ⟨fun e => ?_, fun p hp => hl p (mem_sortP.mp hp), up_sortP M, ?_, n1, n2⟩
  · obtain ⟨p, hp⟩ := List.exists_mem_of_ne_nil _ h0
    have := mem_sortP.mpr hp
    rw [e] at this
    cases this
  · have ins : ∀ (x : List Int) (l : List (List Int)), (Ev.insTS x l).length ≤ l.length + 1 := by
      intro x l
      induction l with
      | nil => simp [Ev.insTS]
      | cons y r ih =>
        unfold Ev.insTS
        split
        · simp only [List.length_cons]; omega
        · split
          · simp
          · simp
    have srt : ∀ l : List (List Int), (Ev.sortTS l).length ≤ l.length := by
      intro l
      induction l with
      | nil => simp [Ev.sortTS]
      | cons y r ih => have := ins y (Ev.sortTS r); simp only [Ev.sortTS, List.length_cons]; omega
    have := srt (M.map ib)
    unfold sortP
    rw [List.length_map]
    rw [List.length_map] at this
    omega
theorem set_of_ok {n : Nat} {M : List (List Bool)} (h0 : M ≠ []) (hl : ∀ p ∈ M, p.length = n) (n1 : 1 ≤ n) (few : M.length < 64) (d : Nat) (s : Sto) : run prog kws (d + 1) 5 [.lst (lotU M)] s = .ok ⟨.tup (lotU (sortP M)), false⟩ s := by
  rw [run_at (fd := d5) rfl rfl]
  exact congrArg Ev.finish (evB_ret (evS_ret (fz := []) (ev_bi1 (v := ⟨.lst (lotU (sortP M)), true⟩) (ev_bi1 (ev_var (u := .lst (lotU M)) rfl) (sset_lot h0 hl n1 few)) rfl)))
theorem lot_by_ok {n : Nat} {M : List (List Bool)} (h0 : M ≠ []) (hl : ∀ p ∈ M, p.length = n) (n1 : 1 ≤ n) (few : M.length < 64) (d : Nat) (s : Sto) : run prog kws (d + 2) 21 [.lst (lotU M)] s = .ok ⟨.tup (lotU (sortP M)), false⟩ s := by
  rw [run_at (fd := d21) rfl rfl]
  exact congrArg Ev.finish (evB_ret (evS_ret (fz := []) ((ev_call (evA_cons (ev_var (u := .lst (lotU M)) rfl) evA_nil)).trans (set_of_ok h0 hl n1 few d s))))
/-- plans one by one -/
theorem map_lot {F : CallF} {f i j k : Nat} {w : List Nat} {ρ : Ev.Env} {s : Sto} {u v : U} {L : List (List Bool)} {g : List Bool → List Bool} (hi : look i ρ = .sh u) (hu : items u = some (lotU L)) (hl : L.length ≤ 100)
    (hk : ∀ p ∈ L, look k (put k (.sh (pl p)) (wipeE w ρ)) = .sh (pl p)) (hj : ∀ p ∈ L, look j (put k (.sh (pl p)) (wipeE w ρ)) = .sh v) (hF : ∀ p ∈ L, F f [pl p, v] s = .ok ⟨pl (g p), false⟩ s) :
    evE F kws (.comp w (.nm k) (.seq (.var i)) (.con (.bl true)) (.call f (.cons (.var k) (.cons (.var j) .nil)))) ρ s = .ok ⟨.lst (lotU (L.map g)), true⟩ s := by
  let gu : U → U := fun x => match x with | .tup bs => pl (g (bs.map fun b => match b with | .int i => i == 1 | _ => false)) | _ => .non
  have hg : ∀ p : List Bool, gu (pl p) = pl (g p) := fun p => by
    show pl (g ((p.map bi).map _)) = _
    rw [List.map_map]
    congr 2
    conv => rhs; rw [← List.map_id p]
    apply List.map_congr_left
    intro b _
    cases b <;> rfl
  have e : lotU (L.map g) = (lotU L).map gu := by
    unfold lotU
    rw [List.map_map, List.map_map]
    exact List.map_congr_left fun p _ => (hg p).symm
  rw [e]
  refine ev_cSm (v := ⟨u, false⟩) (ev_var hi) hu (by rw [lot_len]; unfold lim; omega) fun x hx => ?_
  obtain ⟨p, hp, rfl⟩ := lot_mem hx
  refine ⟨_, rfl, false, ?_⟩
  rw [hg]
  exact (ev_call (evA_cons (ev_var (hk p hp)) (evA_cons (ev_var (hj p hp)) evA_nil))).trans (hF p hp)
theorem plan_turned_ok {p : List Bool} {ps : List Nat} (hl : p.length ≤ 40) (d : Nat) (s : Sto) : run prog kws (d + 1) 18 [pl p, .tup (nU ps)] s = .ok ⟨pl (tw p ps), false⟩ s := by
  rw [run_at (fd := d18) rfl rfl]
  exact congrArg Ev.finish (evB_ret (evS_ret (fz := []) (tw_comp (v := ⟨pl p, false⟩) (ev_var (u := pl p) rfl) rfl hl (fun _ _ => rfl) (fun _ _ => rfl) (fun _ _ => rfl))))
theorem tw_len (p : List Bool) (ps : List Nat) : (tw p ps).length = p.length := by unfold tw; simp
theorem turned_lot_ok {n : Nat} {u v : U} {L : List (List Bool)} {ps : List Nat} (hu : IsLot u L) (hL : Lot n L) (hv : v = .tup (nU ps) ∨ v = .lst (nU ps)) (h : Asc n ps) (hl : ps.length ≤ 100) (d : Nat) (s : Sto) : run prog kws (d + 7) 23 [u, v] s = .ok ⟨.tup (lotU (sortP (L.map (tw · ps)))), false⟩ s := by
  rw [run_at (fd := d23) rfl rfl]
  have a1 : evE (run prog kws (d + 6)) kws (.call 20 (.cons (.var 0) .nil)) [.sh u, .sh v, .un, .un, .un] s = .ok ⟨.tup (lotU L), false⟩ s := (ev_call (evA_cons (ev_var (u := u) rfl) evA_nil)).trans (sure_lot_ok hu hL d s)
  have a2 : evE (run prog kws (d + 6)) kws (.call 12 (.cons (.var 1) (.cons (.bi .len (.cons (.ix (.var 2) (.con (.int 0))) .nil)) .nil))) [.sh u, .sh v, .sh (.tup (lotU L)), .un, .un] s = .ok ⟨.tup (nU ps), false⟩ s := (ev_call (evA_cons (ev_var (u := v) rfl) (evA_cons (v := ⟨.int n, false⟩) (len0 hL rfl) evA_nil))).trans (sure_places_ok hv h hl (d + 2) s)
  have a3 := map_lot (F := run prog kws (d + 6)) (f := 18) (i := 2) (j := 3) (k := 4) (w := [4]) (ρ := [.sh u, .sh v, .sh (.tup (lotU L)), .sh (.tup (nU ps)), .un]) (s := s) (u := .tup (lotU L)) (v := .tup (nU ps)) (L := L) (g := (tw · ps)) rfl rfl (by have := hL.few; omega) (fun _ _ => rfl) (fun _ _ => rfl) fun p hp => plan_turned_ok (by rw [hL.len p hp]; exact hL.n2) (d + 5) s
  have a4 := lot_by_ok (n := n) (M := L.map (tw · ps)) (by simpa using hL.ne) (fun q hq => by obtain ⟨p, hp, rfl⟩ := List.mem_map.mp hq; rw [tw_len]; exact hL.len p hp) hL.n1 (by rw [List.length_map]; have := hL.few; omega) (d + 4) s
  exact congrArg Ev.finish ((evB_nx (evS_asg' (v := ⟨.tup (lotU L), false⟩) a1 rfl)).trans ((evB_nx (evS_asg' (v := ⟨.tup (nU ps), false⟩) a2 rfl)).trans (evB_ret (evS_ret (fz := []) ((ev_call (evA_cons a3 evA_nil)).trans a4)))))
theorem fP_len (p : List Bool) (l : List Nat) : (fP p l).length = l.length := by unfold fP; simp
theorem moved_lot_ok {n : Nat} {u v : U} {L : List (List Bool)} {l : List Nat} (hu : IsLot u L) (hL : Lot n L) (hv : v = .tup (nU l) ∨ v = .lst (nU l)) (h : l.Perm (List.range n)) (d : Nat) (s : Sto) : run prog kws (d + 7) 24 [u, v] s = .ok ⟨.tup (lotU (sortP (L.map (fP · l)))), false⟩ s := by
  rw [run_at (fd := d24) rfl rfl]
  have hlen := perm_len h
  have a1 : evE (run prog kws (d + 6)) kws (.call 20 (.cons (.var 0) .nil)) [.sh u, .sh v, .un, .un, .un] s = .ok ⟨.tup (lotU L), false⟩ s := (ev_call (evA_cons (ev_var (u := u) rfl) evA_nil)).trans (sure_lot_ok hu hL d s)
  have a2 : evE (run prog kws (d + 6)) kws (.call 14 (.cons (.var 1) (.cons (.bi .len (.cons (.ix (.var 2) (.con (.int 0))) .nil)) .nil))) [.sh u, .sh v, .sh (.tup (lotU L)), .un, .un] s = .ok ⟨.tup (nU l), false⟩ s := (ev_call (evA_cons (ev_var (u := v) rfl) (evA_cons (v := ⟨.int n, false⟩) (len0 hL rfl) evA_nil))).trans (sure_order_ok hv h hL.n2 d s)
  have a3 := map_lot (F := run prog kws (d + 6)) (f := 22) (i := 2) (j := 3) (k := 4) (w := [4]) (ρ := [.sh u, .sh v, .sh (.tup (lotU L)), .sh (.tup (nU l)), .un]) (s := s) (u := .tup (lotU L)) (v := .tup (nU l)) (L := L) (g := (fP · l)) rfl rfl (by have := hL.few; omega) (fun _ _ => rfl) (fun _ _ => rfl) fun p hp => folded_p (fun k hk => by rw [hL.len p hp]; exact perm_lt h k hk) (by rw [hlen]; have := hL.n2; omega) (d + 5) s
  have a4 := lot_by_ok (n := n) (M := L.map (fP · l)) (by simpa using hL.ne) (fun q hq => by obtain ⟨p, hp, rfl⟩ := List.mem_map.mp hq; rw [fP_len]; exact hlen) hL.n1 (by rw [List.length_map]; have := hL.few; omega) (d + 4) s
  exact congrArg Ev.finish ((evB_nx (evS_asg' (v := ⟨.tup (lotU L), false⟩) a1 rfl)).trans ((evB_nx (evS_asg' (v := ⟨.tup (nU l), false⟩) a2 rfl)).trans (evB_ret (evS_ret (fz := []) ((ev_call (evA_cons a3 evA_nil)).trans a4)))))
end K03

end
section
set_option Elab.async false
set_option linter.all false
set_option maxRecDepth 100000
set_option maxHeartbeats 2000000
namespace K03
open Ev PySem
/-! ### prices that hold -/
def absS (c : List Int) : Int := (c.map fun x => if x < 0 then -x else x).sum
def most (c : List Int) : Int := 1 + absS c
def sg (b : Bool) (m : Int) : Int := if b then m else -m
/-- the bit that a hold has at a place -/
def hv (h : List (Nat × Bool)) (k : Nat) : Option Bool := (h.find? fun x => x.1 == k).map (·.2)
def hF (c : List Int) : List (Nat × Bool) → List Int → List Int
  | [], f => f
  | (k, b) :: h, f => hF c h (f.set k (cAt c k + sg b (most c)))
theorem hF_len (c : List Int) : ∀ (h : List (Nat × Bool)) (f : List Int), (hF c h f).length = f.length
  | [], f => rfl
  | (k, b) :: h, f => by rw [hF, hF_len c h, List.length_set]
theorem hv_none {h : List (Nat × Bool)} {k : Nat} (hn : k ∉ hp h) : hv h k = none := by
  unfold hv
  have : h.find? (fun x => x.1 == k) = none := List.find?_eq_none.mpr fun x hx e => hn (List.mem_map.mpr ⟨x, hx, by simpa using e⟩)
  rw [this]
  rfl
theorem hF_at (c : List Int) : ∀ (h : List (Nat × Bool)) (f : List Int) (k : Nat), (hp h).Nodup → k < f.length → cAt (hF c h f) k = match hv h k with | some b => cAt c k + sg b (most c) | none => cAt f k
  | [], f, k, _, _ => rfl
  | (j, b) :: h, f, k, hn, hk => by
    have hn' := List.nodup_cons.mp (show (j :: hp h).Nodup from hn)
    rw [hF, hF_at c h _ k hn'.2 (by rw [List.length_set]; exact hk)]
    by_cases e : j = k
    · subst e
      have e1 : hv h j = none := hv_none hn'.1
      have e2 : hv ((j, b) :: h) j = some b := by unfold hv; simp [List.find?_cons]
      rw [e1, e2]
      show cAt (f.set j _) j = _
      unfold cAt
      rw [List.getElem?_set_self hk]
      rfl
    · have e2 : hv ((j, b) :: h) k = hv h k := by
        unfold hv
        rw [List.find?_cons]
        have : (j == k) = false := beq_eq_false_iff_ne.mpr e
        simp only [this]
      rw [e2]
      cases hv h k with
      | some _ => rfl
      | none =>
        show cAt (f.set j _) k = cAt f k
        unfold cAt
        rw [List.getElem?_set_ne e]
def heldB : B := .cons (.asgIx [] 3 (.var 4) (.op .add (.ix (.var 1) (.var 4)) (.ife (.cmp .eq (.var 5) (.con (.int 1))) (.var 2) (.neg (.var 2))))) .nil
theorem bit_one (b : Bool) : cmp2 .eq (bi b) (.int 1) = some b := by cases b <;> rfl
theorem held_step {F : CallF} {H : U} {c f : List Int} {k : Nat} {b : Bool} {s : Sto} (hk : k < c.length) (hf : f.length = c.length) :
    evB F kws heldB [.sh H, .sh (.tup (c.map .int)), .sh (.int (most c)), .own (.lst (f.map .int)), .sh (.int k), .sh (bi b), .un] s = .ok .nx [.sh H, .sh (.tup (c.map .int)), .sh (.int (most c)), .own (.lst ((f.set k (cAt c k + sg b (most c))).map .int)), .sh (.int k), .sh (bi b), .un] s := by
  have e1 : evE F kws (.ife (.cmp .eq (.var 5) (.con (.int 1))) (.var 2) (.neg (.var 2))) [.sh H, .sh (.tup (c.map .int)), .sh (.int (most c)), .own (.lst (f.map .int)), .sh (.int k), .sh (bi b), .un] s = .ok ⟨.int (sg b (most c)), false⟩ s := by
    have ht : evE F kws (.cmp .eq (.var 5) (.con (.int 1))) [.sh H, .sh (.tup (c.map .int)), .sh (.int (most c)), .own (.lst (f.map .int)), .sh (.int k), .sh (bi b), .un] s = .ok ⟨.bl b, false⟩ s := ev_cmp (v2 := ⟨.int 1, false⟩) (s2 := s) (ev_var (u := bi b) rfl) (by simp only [evE]) (bit_one b)
    cases b
    · exact (ev_ifeF ht rfl).trans (by simp only [evE, look, x_bind]; rfl)
    · exact (ev_ifeT ht rfl).trans (ev_var rfl)
  have e2 := ev_op (o := .add) (ev_ix (ev_var (F := F) (KW := kws) (ρ := [.sh H, .sh (.tup (c.map .int)), .sh (.int (most c)), .own (.lst (f.map .int)), .sh (.int k), .sh (bi b), .un]) (s := s) (i := 1) (u := .tup (c.map .int)) rfl) (ev_var (i := 4) (u := .int k) rfl) (c_ix hk s)) e1 rfl
  have i : L2.ixN (f.map U.int).length (k : Int) = some k := by rw [List.length_map]; exact ixN_nat (by omega)
  simp only [heldB, evB, evS, freeze, e2, x_st]
  have e3 : evE F kws (.var 4) [.sh H, .sh (.tup (c.map .int)), .sh (.int (most c)), .own (.lst (f.map .int)), .sh (.int k), .sh (bi b), .un] s = .ok ⟨.int k, false⟩ s := ev_var rfl
  simp only [e3, x_st, setIx, look, i, put, List.map_set]
theorem held_loop {F : CallF} {H : U} {c : List Int} {s : Sto} : ∀ (h : List (Nat × Bool)) (f : List Int) (x4 x5 : Slot), f.length = c.length → (∀ x ∈ h, x.1 < c.length) →
    ∃ x4' x5', forL (fun u r s => match bindTg (.t2 (.nm 4) (.nm 5)) u r with | some r => evB F kws heldB r s | none => .bad) (hU h) [.sh H, .sh (.tup (c.map .int)), .sh (.int (most c)), .own (.lst (f.map .int)), x4, x5, .un] s = .ok .nx [.sh H, .sh (.tup (c.map .int)), .sh (.int (most c)), .own (.lst ((hF c h f).map .int)), x4', x5', .un] s
  | [], f, x4, x5, _, _ => ⟨x4, x5, rfl⟩
  | (k, b) :: h, f, x4, x5, hf, hk => by
    obtain ⟨y4, y5, e⟩ := held_loop (F := F) (H := H) (c := c) (s := s) h (f.set k (cAt c k + sg b (most c))) (.sh (.int k)) (.sh (bi b)) (by rw [List.length_set]; exact hf) fun x hx => hk x (List.mem_cons_of_mem _ hx)
    refine ⟨y4, y5, ?_⟩
    have e1 := held_step (F := F) (H := H) (s := s) (b := b) (hk (k, b) List.mem_cons_self) hf
    have hb : bindTg (.t2 (.nm 4) (.nm 5)) (.tup [.int (k : Int), bi b]) [.sh H, .sh (.tup (c.map .int)), .sh (.int (most c)), .own (.lst (f.map .int)), x4, x5, .un] = some [.sh H, .sh (.tup (c.map .int)), .sh (.int (most c)), .own (.lst (f.map .int)), .sh (.int k), .sh (bi b), .un] := rfl
    show forL _ (U.tup [.int (k : Int), bi b] :: hU h) _ _ = _
    simp only [forL, hb, e1]
    exact e
theorem abs_comp {F : CallF} {i k : Nat} {w : List Nat} {ρ : Ev.Env} {s : Sto} {c : List Int} (hi : look i ρ = .sh (.tup (c.map .int))) (hl : c.length ≤ 100) (hk : ∀ x : Int, look k (put k (.sh (.int x)) (wipeE w ρ)) = .sh (.int x)) :
    evE F kws (.op .add (.con (.int 1)) (.bi .sum (.cons (.comp w (.nm k) (.seq (.var i)) (.con (.bl true)) (.bi .abs (.cons (.var k) .nil))) .nil))) ρ s = .ok ⟨.int (most c), false⟩ s := by
  let g : U → U := fun x => match x with | .int y => .int (if y < 0 then -y else y) | _ => .non
  have e : (c.map fun x => if x < 0 then -x else x).map U.int = (c.map U.int).map g := by rw [List.map_map, List.map_map]; rfl
  refine ev_op (v := ⟨.int 1, false⟩) (s1 := s) (by simp only [evE]) (ev_bi1 (v := ⟨.lst ((c.map U.int).map g), true⟩) (ev_cSm (v := ⟨.tup (c.map .int), false⟩) (us := c.map .int) (h := g) (ev_var hi) rfl (by rw [List.length_map]; unfold lim; omega) fun x hx => ?_) (r := ⟨.int (absS c), false⟩) ?_) rfl
  · obtain ⟨y, _, rfl⟩ := List.mem_map.mp hx
    exact ⟨_, rfl, false, ev_bi1 (ev_var (hk y)) rfl⟩
  · rw [← e]
    simp only [biV, intsU_map]
    rfl
theorem held_ok {c : List Int} {h : List (Nat × Bool)} (hk : ∀ x ∈ h, x.1 < c.length) (hl : h.length ≤ 100) (h2 : c.length ≤ 40) (d : Nat) (s : Sto) : run prog kws (d + 1) 27 [.tup (hU h), .tup (c.map .int)] s = .ok ⟨.tup ((hF c h c).map .int), false⟩ s := by
  rw [run_at (fd := d27) rfl rfl]
  have a1 := abs_comp (F := run prog kws d) (i := 1) (k := 6) (w := [6]) (ρ := [.sh (.tup (hU h)), .sh (.tup (c.map .int)), .un, .un, .un, .un, .un]) (s := s) (c := c) rfl (by omega) fun _ => rfl
  have a2 : evS (run prog kws d) kws (.asg [] 3 true (.bi .list (.cons (.var 1) .nil))) [.sh (.tup (hU h)), .sh (.tup (c.map .int)), .sh (.int (most c)), .un, .un, .un, .un] s = .ok .nx [.sh (.tup (hU h)), .sh (.tup (c.map .int)), .sh (.int (most c)), .own (.lst (c.map .int)), .un, .un, .un] s := rfl
  obtain ⟨x4, x5, e⟩ := held_loop (F := run prog kws d) (H := .tup (hU h)) (c := c) (s := s) h c .un .un rfl hk
  have a3 : evS (run prog kws d) kws (.for_ [] (.t2 (.nm 4) (.nm 5)) (.seq (.var 0)) heldB) [.sh (.tup (hU h)), .sh (.tup (c.map .int)), .sh (.int (most c)), .own (.lst (c.map .int)), .un, .un, .un] s = .ok .nx [.sh (.tup (hU h)), .sh (.tup (c.map .int)), .sh (.int (most c)), .own (.lst ((hF c h c).map .int)), x4, x5, .un] s := by
    have hi : evI (run prog kws d) kws (.seq (.var 0)) [.sh (.tup (hU h)), .sh (.tup (c.map .int)), .sh (.int (most c)), .own (.lst (c.map .int)), .un, .un, .un] s = .ok (hU h) s := rfl
    have hL : inLim (hU h) = true := decide_eq_true (by rw [hU_len]; unfold lim; omega)
    simp only [evS, freeze, hi, x_st, hL]
    exact e
  have a4 : evE (run prog kws d) kws (.bi .tuple (.cons (.peek 3) .nil)) [.sh (.tup (hU h)), .sh (.tup (c.map .int)), .sh (.int (most c)), .own (.lst ((hF c h c).map .int)), x4, x5, .un] s = .ok ⟨.tup ((hF c h c).map .int), false⟩ s := ev_bi1 (v := ⟨.lst ((hF c h c).map .int), false⟩) (by simp only [evE, look]) rfl
  have b1 : evS (run prog kws d) kws (.asg [] 2 false (.op .add (.con (.int 1)) (.bi .sum (.cons (.comp [6] (.nm 6) (.seq (.var 1)) (.con (.bl true)) (.bi .abs (.cons (.var 6) .nil))) .nil)))) [.sh (.tup (hU h)), .sh (.tup (c.map .int)), .un, .un, .un, .un, .un] s = .ok .nx [.sh (.tup (hU h)), .sh (.tup (c.map .int)), .sh (.int (most c)), .un, .un, .un, .un] s := evS_asg' (v := ⟨.int (most c), false⟩) a1 rfl
  exact congrArg Ev.finish ((evB_nx b1).trans ((evB_nx a2).trans ((evB_nx a3).trans (evB_ret (evS_ret (fz := []) a4)))))
theorem holding_ok {u v : U} {c : List Int} {h : List (Nat × Bool)} (hu : u = .tup (hU h) ∨ u = .lst (hL h)) (hv : IsC v c) (h1 : 1 ≤ c.length) (h2 : c.length ≤ 40) (ha : (hp h).Pairwise (· < ·)) (hk : ∀ x ∈ h, x.1 < c.length) (hl : h.length ≤ 100) (d : Nat) (s : Sto) : run prog kws (d + 5) 32 [u, v] s = .ok ⟨.tup ((hF c h c).map .int), false⟩ s := by
  rw [run_at (fd := d32) rfl rfl]
  have a1 := sure_alone (F := run prog kws (d + 4)) (fun u m c a b e f s => sure_prices_ok a b e f d s) (ρ := [.sh u, .sh v, .un]) (i := 1) rfl hv h1 h2 s
  have a2 : evE (run prog kws (d + 4)) kws (.call 17 (.cons (.var 0) (.cons (.bi .len (.cons (.var 2) .nil)) .nil))) [.sh u, .sh v, .sh (.tup (c.map .int))] s = .ok ⟨.tup (hU h), false⟩ s := (ev_call (evA_cons (ev_var (u := u) rfl) (evA_cons (v := ⟨.int c.length, false⟩) (ev_bi1 (ev_var (u := .tup (c.map .int)) rfl) (c_len (.inl rfl))) evA_nil))).trans (sure_hold_ok hu ha hk hl d s)
  exact congrArg Ev.finish ((evB_nx (evS_asg' (v := ⟨.tup (c.map .int), false⟩) a1 rfl)).trans (evB_ret (evS_ret (fz := []) ((ev_call (evA_cons a2 (evA_cons (ev_var (u := .tup (c.map .int)) rfl) evA_nil))).trans (held_ok hk hl h2 (d + 3) s)))))
/-! ### a hold as a dict -/
def hD (h : List (Nat × Bool)) : List (Int × U) := h.map fun x => ((x.1 : Int), bi x.2)
theorem hD_any (h : List (Nat × Bool)) (k : Nat) : ((hD h).any fun p => p.1 == (k : Int)) = (hv h k).isSome := by
  induction h with
  | nil => rfl
  | cons x h ih =>
    obtain ⟨j, b⟩ := x
    show (((j : Int) == (k : Int)) || (hD h).any fun p => p.1 == (k : Int)) = _
    rw [ih]
    by_cases e : j = k
    · subst e
      have : hv ((j, b) :: h) j = some b := by unfold hv; simp [List.find?_cons]
      rw [this]; simp
    · have e1 : ((j : Int) == (k : Int)) = false := beq_eq_false_iff_ne.mpr (by omega)
      have e2 : hv ((j, b) :: h) k = hv h k := by
        unfold hv
        rw [List.find?_cons]
        have : (j == k) = false := beq_eq_false_iff_ne.mpr e
        simp only [this]
      rw [e1, e2]; simp
theorem hD_find (h : List (Nat × Bool)) (k : Nat) : ((hD h).find? fun p => p.1 == (k : Int)).map (·.2) = (hv h k).map bi := by
  induction h with
  | nil => rfl
  | cons x h ih =>
    obtain ⟨j, b⟩ := x
    show (((((j : Int), bi b) :: hD h).find? fun p => p.1 == (k : Int)).map (·.2)) = _
    rw [List.find?_cons]
    by_cases e : j = k
    · subst e
      have : hv ((j, b) :: h) j = some b := by unfold hv; simp [List.find?_cons]
      rw [this]; simp
    · have e1 : ((j : Int) == (k : Int)) = false := beq_eq_false_iff_ne.mpr (by omega)
      have e2 : hv ((j, b) :: h) k = hv h k := by
        unfold hv
        rw [List.find?_cons]
        have : (j == k) = false := beq_eq_false_iff_ne.mpr e
        simp only [this]
      simp only [e1, e2]
      exact ih
theorem dct_hU : ∀ {h : List (Nat × Bool)}, (hp h).Nodup → dctU (hU h) = some (hD h)
  | [], _ => rfl
  | (k, b) :: h, hn => by
    have hn' := List.nodup_cons.mp (show (k :: hp h).Nodup from hn)
    have ih := dct_hU hn'.2
    show dctU (U.tup [.int (k : Int), bi b] :: hU h) = _
    simp only [dctU, ih]
    rw [if_neg (by rw [hD_any, hv_none hn'.1]; simp)]
    rfl
theorem dict_expr {F : CallF} {i : Nat} {ρ : Ev.Env} {s : Sto} {h : List (Nat × Bool)} (hi : look i ρ = .sh (.tup (hU h))) (hn : (hp h).Nodup) : evE F kws (.dict1 (.var i)) ρ s = .ok ⟨.dct (hD h), false⟩ s := by
  simp only [evE, hi, x_bind, items, x_ofO, dct_hU hn]
/-- the law's own prices that hold -/
def ownH (c : List Int) (h : List (Nat × Bool)) : List Int := (List.range c.length).map fun k => cAt c k + (match hv h k with | some b => most c * (2 * b2i b - 1) | none => 0)
theorem own_eq (c : List Int) (h : List (Nat × Bool)) (hn : (hp h).Nodup) : hF c h c = ownH c h := by
  refine List.ext_getElem? fun k => ?_
  by_cases hk : k < c.length
  · have h1 : (hF c h c)[k]? = some (cAt (hF c h c) k) := by
      have : k < (hF c h c).length := by rw [hF_len]; exact hk
      unfold cAt
      rw [List.getElem?_eq_getElem this]
      rfl
    unfold ownH
    rw [h1, List.getElem?_map, List.getElem?_range hk, hF_at c h c k hn hk]
    congr 1
    show (match hv h k with | some b => cAt c k + sg b (most c) | none => cAt c k) = cAt c k + (match hv h k with | some b => most c * (2 * b2i b - 1) | none => 0)
    cases hv h k with
    | none => simp
    | some b => cases b <;> simp [sg, b2i]
  · rw [List.getElem?_eq_none (by rw [hF_len]; omega), List.getElem?_eq_none (by unfold ownH; simp; omega)]
end K03

end
section
set_option Elab.async false
set_option linter.all false
set_option maxRecDepth 100000
set_option maxHeartbeats 2000000
namespace K03
open Ev PySem
section
variable {sr : Sto}
theorem sortP_len (M : List (List Bool)) : (sortP M).length ≤ M.length := by
  have ins : ∀ (x : List Int) (l : List (List Int)), (Ev.insTS x l).length ≤ l.length + 1 := by
    intro x l
    induction l with
    | nil => simp [Ev.insTS]
    | cons y r ih =>
      unfold Ev.insTS
      split
      · simp only [List.length_cons]; omega
      · split <;> simp
  have srt : ∀ l : List (List Int), (Ev.sortTS l).length ≤ l.length := by
    intro l
    induction l with
    | nil => simp [Ev.sortTS]
    | cons y r ih => have := ins y (Ev.sortTS r); simp only [Ev.sortTS, List.length_cons]; omega
  have := srt (M.map ib)
  unfold sortP
  rw [List.length_map]
  rw [List.length_map] at this
  exact this
/-! ### picks of any goods -/
theorem nth_at {xs : List U} {j : Nat} (h : j < xs.length) : nth j xs = some xs[j] := by
  induction xs generalizing j with
  | nil => simp at h
  | cons x xs ih => cases j with
    | zero => rfl
    | succ j => simpa [nth] using ih (j := j) (by simpa using h)
theorem erase_permU : ∀ (xs : List U) (j : Nat) (h : j < xs.length), (xs[j] :: xs.eraseIdx j).Perm xs
  | x :: xs, 0, h => .refl _
  | x :: xs, j + 1, h => by
    have h1 : j < xs.length := by simpa using h
    have := erase_permU xs j h1
    simp only [List.getElem_cons_succ, List.eraseIdx_cons_succ]
    exact (List.Perm.swap _ _ _).trans (this.cons x)
theorem gstep {a b c : Int} {m : Nat} (Bx : Box a b c (m + 1)) (g t : U) (x3 : Slot) (found pool : List U) (h0 : 0 < pool.length) (h1 : pool.length ≤ 100) (h2 : found.length ≤ 100) (d : Nat) :
    ∃ found' pool' a' c', evB (run prog kws (d + 1)) kws pickB [.sh (.ref 0), .sh g, .sh t, x3, .own (.lst pool), .own (.lst found)] (sto sr a b c) = .ok .nx [.sh (.ref 0), .sh g, .sh t, x3, .own (.lst pool'), .own (.lst found')] (sto sr a' b c') ∧ Box a' b c' m ∧ found'.length = found.length + 1 ∧ (found' ++ pool').Perm (found ++ pool) := by
  obtain ⟨x, a1, c1, f, e, x0, x1, B1⟩ := take_ok (sr := sr) (n := pool.length) Bx (by omega) (by omega) d
  obtain ⟨j, rfl⟩ := Int.eq_ofNat_of_zero_le x0
  have hj : j < pool.length := by omega
  refine ⟨found ++ [pool[j]], pool.eraseIdx j, a1, c1, ?_, B1, by simp, ?_⟩
  · have e1 : evE (run prog kws (d + 1)) kws (.call 37 (.cons (.var 0) (.cons (.bi .len (.cons (.peek 4) .nil)) .nil))) [.sh (.ref 0), .sh g, .sh t, x3, .own (.lst pool), .own (.lst found)] (sto sr a b c) = .ok ⟨.int j, f⟩ (sto sr a1 b c1) := by
      refine (ev_call (evA_cons (ev_var (u := .ref 0) rfl) (evA_cons (v := ⟨.int pool.length, false⟩) (s1 := sto sr a b c) (ev_bi1 (v := ⟨.lst pool, false⟩) (by simp only [evE, look]) (by simp only [biV])) evA_nil))).trans e
    have c2 : ((5 : Nat) != 4 && decide (found.length < lim) && decide (pool.length ≤ lim)) = true := by
      rw [decide_eq_true (show found.length < lim by unfold lim; omega), decide_eq_true (show pool.length ≤ lim by unfold lim; omega)]
      rfl
    simp only [pickB, evB, evS, freeze, e1, x_st, look, c2, if_true, ixN_nat hj, nth_at hj, put]
  · rw [List.append_assoc]
    exact (erase_permU pool j hj).append_left found
theorem gloop {d : Nat} {g t : U} {b : Int} : ∀ (ks : List Nat) (a c : Int) (m : Nat) (x3 : Slot) (found pool : List U), Box a b c (m + ks.length) → ks.length ≤ pool.length → found.length + pool.length ≤ 100 →
    ∃ x3' found' pool' a' c', forL (fun u r s => match bindTg (.nm 3) u r with | some r => evB (run prog kws (d + 1)) kws pickB r s | none => .bad) (nU ks) [.sh (.ref 0), .sh g, .sh t, x3, .own (.lst pool), .own (.lst found)] (sto sr a b c) = .ok .nx [.sh (.ref 0), .sh g, .sh t, x3', .own (.lst pool'), .own (.lst found')] (sto sr a' b c') ∧ Box a' b c' m ∧ found'.length = found.length + ks.length ∧ (found' ++ pool').Perm (found ++ pool)
  | [], a, c, m, x3, found, pool, Bx, h1, h2 => ⟨x3, found, pool, a, c, rfl, Bx, rfl, .refl _⟩
  | k :: ks, a, c, m, x3, found, pool, Bx, h1, h2 => by
    rw [List.length_cons] at h1 Bx
    obtain ⟨f1, p1, a1, c1, e1, B1, l1, q1⟩ := gstep (sr := sr) (m := m + ks.length) (by rw [Nat.add_assoc]; exact Bx) g t (.sh (.int k)) found pool (by omega) (by omega) (by omega) d
    have hlen := q1.length_eq
    rw [List.length_append, List.length_append] at hlen
    obtain ⟨x3', f2, p2, a2, c2, e2, B2, l2, q2⟩ := gloop (d := d) (g := g) (t := t) ks a1 c1 m (.sh (.int k)) f1 p1 B1 (by omega) (by omega)
    refine ⟨x3', f2, p2, a2, c2, ?_, B2, by rw [l2, l1, List.length_cons]; omega, q2.trans q1⟩
    show forL _ (U.int k :: nU ks) _ _ = _
    have e1' : evB (run prog kws (d + 1)) kws pickB (put 3 (.sh (.int k)) [.sh (.ref 0), .sh g, .sh t, x3, .own (.lst pool), .own (.lst found)]) (sto sr a b c) = _ := e1
    simp only [forL, bindTg, e1']
    exact e2
theorem gpick_ok {a b c : Int} {m : Nat} (Bx : Box a b c (m + 100)) (xs : List U) (hp : xs.length ≤ 100) (t : Nat) (d : Nat) : ∃ found rest a' c', run prog kws (d + 2) 40 [.ref 0, .lst xs, .int t] (sto sr a b c) = .ok ⟨.lst found, true⟩ (sto sr a' b c') ∧ Box a' b c' m ∧ found.length = min t xs.length ∧ (found ++ rest).Perm xs := by
  rw [run_at (fd := d40) rfl rfl]
  have hb : Box a b c (m + (List.range (min t xs.length)).length) := Bx.mono (by rw [List.length_range]; omega)
  obtain ⟨x3', f2, p2, a2, c2, e2, B2, l2, q2⟩ := gloop (sr := sr) (d := d) (g := .lst xs) (t := .int t) (List.range (min t xs.length)) a c m .un [] xs hb (by rw [List.length_range]; omega) (by simpa using hp)
  refine ⟨f2, p2, a2, c2, ?_, B2, by simpa using l2, q2⟩
  have s1 : evS (run prog kws (d + 1)) kws (.par2 [] 4 true (.bi .list (.cons (.var 1) .nil)) 5 true (.lst .nil)) [.sh (.ref 0), .sh (.lst xs), .sh (.int t), .un, .un, .un] (sto sr a b c) = .ok .nx [.sh (.ref 0), .sh (.lst xs), .sh (.int t), .un, .own (.lst xs), .own (.lst [])] (sto sr a b c) := by
    simp only [evS, evE, evA, freeze, x_st, x_bind, look, biV, items, x_ofO, Rv.slot, put]
  have hm : (if (xs.length : Int) < (t : Int) then (xs.length : Int) else t) = ((min t xs.length : Nat) : Int) := by
    split <;> omega
  have hi : evI (run prog kws (d + 1)) kws (.rng1 (.bi .min2 (.cons (.bi .int1 (.cons (.var 2) .nil)) (.cons (.bi .len (.cons (.peek 4) .nil)) .nil)))) [.sh (.ref 0), .sh (.lst xs), .sh (.int t), .un, .own (.lst xs), .own (.lst [])] (sto sr a b c) = .ok (nU (List.range (min t xs.length))) (sto sr a b c) := by
    simp only [evI, evE, evA, look, x_bind, biV, x_ofO, hm]
    rw [decide_eq_true (show ((min t xs.length : Nat) : Int) ≤ 1000000 by omega), decide_eq_true (show (-1000000 : Int) ≤ ((min t xs.length : Nat) : Int) by omega)]
    show RE.ok (rngU 0 (min t xs.length) 1) _ = _
    rw [rngU_zero]
    rfl
  have s2 : evS (run prog kws (d + 1)) kws (.for_ [] (.nm 3) (.rng1 (.bi .min2 (.cons (.bi .int1 (.cons (.var 2) .nil)) (.cons (.bi .len (.cons (.peek 4) .nil)) .nil)))) pickB) [.sh (.ref 0), .sh (.lst xs), .sh (.int t), .un, .own (.lst xs), .own (.lst [])] (sto sr a b c) = .ok .nx [.sh (.ref 0), .sh (.lst xs), .sh (.int t), x3', .own (.lst p2), .own (.lst f2)] (sto sr a2 b c2) := by
    have hl : inLim (nU (List.range (min t xs.length))) = true := decide_eq_true (by rw [nU_len, List.length_range]; unfold lim; omega)
    simp only [evS, freeze, hi, x_st, hl]
    exact e2
  exact congrArg Ev.finish ((evB_nx s1).trans ((evB_nx s2).trans (evB_ret (evS_retO rfl))))
/-- a part of a lot -/
theorem sub_lot {M : List (List Bool)} {fo re : List U} (h : (fo ++ re).Perm (lotU M)) : ∃ F : List (List Bool), fo = lotU F ∧ ∀ p ∈ F, p ∈ M := by
  have all : ∀ {fo : List U}, (∀ x ∈ fo, ∃ p ∈ M, x = pl p) → ∃ F : List (List Bool), fo = lotU F ∧ ∀ p ∈ F, p ∈ M := by
    intro fo
    induction fo with
    | nil => intro _; exact ⟨[], rfl, fun p hp => nomatch hp⟩
    | cons x fo ih =>
      intro hx
      obtain ⟨F, rfl, hF⟩ := ih fun y hy => hx y (List.mem_cons_of_mem _ hy)
      obtain ⟨p, hp, rfl⟩ := hx x List.mem_cons_self
      exact ⟨p :: F, rfl, fun q hq => (List.mem_cons.mp hq).elim (fun e => by rw [e]; exact hp) (hF q)⟩
  exact all fun x hx => lot_mem (h.mem_iff.mp (List.mem_append_left _ hx))
theorem pick_lot {a b c : Int} {m : Nat} (Bx : Box a b c (m + 100)) (M : List (List Bool)) (hp : M.length ≤ 100) (t : Nat) (d : Nat) : ∃ F a' c', run prog kws (d + 2) 40 [.ref 0, .lst (lotU M), .int t] (sto sr a b c) = .ok ⟨.lst (lotU F), true⟩ (sto sr a' b c') ∧ Box a' b c' m ∧ F.length = min t M.length ∧ ∀ p ∈ F, p ∈ M := by
  obtain ⟨fo, re, a1, c1, e, B1, l1, q1⟩ := gpick_ok (sr := sr) Bx (lotU M) (by rw [lot_len]; exact hp) t d
  obtain ⟨F, rfl, hF⟩ := sub_lot q1
  rw [lot_len, lot_len] at l1
  exact ⟨F, a1, c1, e, B1, l1, hF⟩
/-! ### one of some goods -/
theorem take_v {ρ : Ev.Env} {a b c t : Int} {m d : Nat} {e : C} {f : Bool} (h0 : look 0 ρ = .sh (.ref 0)) (he : evE (run prog kws (d + 1)) kws e ρ (sto sr a b c) = .ok ⟨.int t, f⟩ (sto sr a b c)) (B : Box a b c (m + 1)) (h1 : 0 < t) (h2 : t < 2 ^ 60) : ∃ (x : Nat) (a' c' : Int) (f : Bool), evE (run prog kws (d + 1)) kws (.call 37 (.cons (.var 0) (.cons e .nil))) ρ (sto sr a b c) = .ok ⟨.int x, f⟩ (sto sr a' b c') ∧ (x : Int) < t ∧ Box a' b c' m := by
  obtain ⟨x, a', c', f', e1, x0, x1, B1⟩ := take_ok (sr := sr) B h1 h2 d
  obtain ⟨j, rfl⟩ := Int.eq_ofNat_of_zero_le x0
  exact ⟨j, a', c', f', (ev_call (evA_cons (ev_var (u := .ref 0) h0) (evA_cons he evA_nil))).trans e1, x1, B1⟩
theorem of_ok {a b c : Int} {m : Nat} (Bx : Box a b c (m + 1)) {M : List (List Bool)} {u : U} (hu : u = .lst (lotU M) ∨ u = .tup (lotU M)) (h0 : M ≠ []) (hl : M.length ≤ 100) (d : Nat) : ∃ p ∈ M, ∃ a' c', run prog kws (d + 2) 39 [.ref 0, u] (sto sr a b c) = .ok ⟨pl p, false⟩ (sto sr a' b c') ∧ Box a' b c' m := by
  rw [run_at (fd := d39) rfl rfl]
  have hpos : 0 < M.length := List.length_pos_iff.mpr h0
  have hlen : biV .len [u] = some ⟨.int M.length, false⟩ := by rcases hu with rfl | rfl <;> simp only [biV, lot_len]
  obtain ⟨x, a1, c1, f, e1, x1, B1⟩ := take_v (sr := sr) (d := d) (ρ := [.sh (.ref 0), .sh u]) (t := M.length) (f := false) (e := .bi .len (.cons (.var 1) .nil)) (m := m) rfl (ev_bi1 (ev_var (u := u) rfl) hlen) Bx (by omega) (by omega)
  have hx : x < M.length := by omega
  have hg : ∀ s, getIx u (.int x) s = some (pl M[x]) := fun s => by
    have e : (lotU M)[x]? = some (pl M[x]) := by unfold lotU; rw [List.getElem?_map, List.getElem?_eq_getElem hx]; rfl
    rcases hu with rfl | rfl
    · exact getIx_lst e
    · exact getIx_tup e
  exact ⟨M[x], List.getElem_mem hx, a1, c1, congrArg Ev.finish (evB_ret (evS_ret (fz := []) (ev_ix (ev_var (u := u) rfl) e1 (hg _)))), B1⟩
/-! ### all plans -/
theorem every_ok (n : Nat) (n1 : 1 ≤ n) (n2 : n ≤ 5) (d : Nat) (s : Sto) : ∃ M : List (List Bool), run prog kws (d + 2) 46 [.int n] s = .ok ⟨.lst (lotU M), true⟩ s ∧ M.length = 2 ^ n ∧ ∀ p ∈ M, p.length = n := by
  have hp : 2 ^ n ≤ 2 ^ 5 := Nat.pow_le_pow_right (by decide) n2
  have key : ∀ k : Nat, ∃ p : List Bool, p.length = n ∧ run prog kws (d + 1) 45 [.int (k : Int), .int n] s = .ok ⟨pl p, false⟩ s := fun k => law_plan_ok d k n (by omega) n1 (by omega) s
  let P : Nat → List Bool := fun k => Classical.choose (key k)
  have hP : ∀ k, (P k).length = n ∧ run prog kws (d + 1) 45 [.int (k : Int), .int n] s = .ok ⟨pl (P k), false⟩ s := fun k => Classical.choose_spec (key k)
  refine ⟨(List.range (2 ^ n)).map P, ?_, by simp, fun p hp => by obtain ⟨k, _, rfl⟩ := List.mem_map.mp hp; exact (hP k).1⟩
  rw [run_at (fd := d46) rfl rfl]
  have e0 : evE (run prog kws (d + 1)) kws (.op .shl (.con (.int 1)) (.var 0)) [.sh (.int n), .un] s = .ok ⟨.int ((2 ^ n : Nat) : Int), false⟩ s := by
    have h1 : (decide ((0 : Int) ≤ n) && decide ((n : Int) ≤ 1000000) && small 1) = true := by
      rw [decide_eq_true (show (0 : Int) ≤ n by omega), decide_eq_true (show (n : Int) ≤ 1000000 by omega)]; rfl
    refine ev_op (v := ⟨.int 1, false⟩) (s1 := s) (by simp only [evE]) (ev_var (u := .int n) rfl) ?_
    simp only [op2, h1, if_true, Int.toNat_natCast, Int.one_mul, Int.natCast_pow]
    rfl
  have e : lotU ((List.range (2 ^ n)).map P) = (List.range (2 ^ n)).map fun k => pl (P k) := by unfold lotU; rw [List.map_map]; rfl
  rw [e]
  exact congrArg Ev.finish (evB_ret (evS_ret (fz := []) (ev_cRm e0 (by omega) fun k hk => ⟨false, (ev_call (evA_cons (ev_var (u := .int k) rfl) (evA_cons (ev_var (u := .int n) rfl) evA_nil))).trans (hP k).2⟩)))
/-! ### turns by drawn places -/
theorem isin_i (k : Nat) (is : List Int) : cmp2 .isin (.int k) (.tup (is.map .int)) = some (is.any fun y => y == (k : Int)) := by
  have e : shp 60 (.int (k : Int)) = true := rfl
  have e2 : (is.map U.int).all (shp 60) = true := by rw [List.all_map]; exact List.all_eq_true.mpr fun _ _ => rfl
  simp only [cmp2, e, e2, Bool.and_self, if_true, List.any_map]
  rfl
def twi (p : List Bool) (is : List Int) : List Bool := (List.range p.length).map fun k : Nat => if is.any (fun y => y == (k : Int)) then !bt p k else bt p k
theorem law_turn_i {p : List Bool} {is : List Int} (hl : p.length ≤ 40) (d : Nat) (s : Sto) : run prog kws (d + 1) 47 [pl p, .tup (is.map .int)] s = .ok ⟨pl (twi p is), false⟩ s := by
  rw [run_at (fd := d47) rfl rfl]
  refine congrArg Ev.finish (evB_ret (evS_ret (fz := []) (ev_bi1 (ev_cEm (p := p) (h := fun k : Nat => bi (if is.any (fun y => y == (k : Int)) then !bt p k else bt p k)) (ev_var (u := pl p) rfl) rfl hl fun k hk => ⟨false, ?_⟩) ?_)))
  · have ht := ev_cmp (F := run prog kws d) (KW := kws) (s := s) (o := .isin) (ρ := [.sh (pl p), .sh (.tup (is.map .int)), .sh (.int k), .sh (bi (bt p k))]) (ev_var (i := 2) (u := .int k) rfl) (ev_var (i := 1) (u := .tup (is.map .int)) rfl) (isin_i k is)
    cases hm : is.any fun y => y == (k : Int)
    · rw [hm] at ht
      exact (ev_ifeF ht rfl).trans (ev_var rfl)
    · rw [hm] at ht
      exact (ev_ifeT ht rfl).trans (ev_op (v := ⟨.int 1, false⟩) (s1 := s) (by simp only [evE]) (ev_var (u := bi (bt p k)) rfl) (bi_not _))
  · show some (Rv.mk (.tup _) false) = _
    unfold pl twi
    rw [List.map_map]
    rfl
theorem twi_len (p : List Bool) (is : List Int) : (twi p is).length = p.length := by unfold twi; simp
theorem twi_nU (p : List Bool) (ps : List Nat) : twi p (ps.map fun k : Nat => (k : Int)) = tw p ps := by
  unfold twi tw
  apply List.map_congr_left
  intro k _
  have e : ((ps.map fun k : Nat => (k : Int)).any fun y => y == (k : Int)) = decide (k ∈ ps) := by
    rw [List.any_map]
    induction ps with
    | nil => rfl
    | cons x ps ih =>
      rw [List.any_cons, ih]
      by_cases h : k = x
      · subst h; simp
      · have h1 : ¬ ((x : Int) = (k : Int)) := by omega
        simp [h, h1]
  rw [e]
theorem law_turn_ok {p : List Bool} {ps : List Nat} (hl : p.length ≤ 40) (d : Nat) (s : Sto) : run prog kws (d + 1) 47 [pl p, .tup (nU ps)] s = .ok ⟨pl (tw p ps), false⟩ s := by
  rw [nU_int, ← twi_nU]
  exact law_turn_i hl d s
theorem law_turn_l {p : List Bool} {ps : List Nat} (hl : p.length ≤ 40) (d : Nat) (s : Sto) : run prog kws (d + 1) 47 [pl p, .lst (nU ps)] s = .ok ⟨pl (tw p ps), false⟩ s := by
  rw [run_at (fd := d47) rfl rfl]
  have isl : ∀ k : Nat, cmp2 .isin (.int k) (.lst (nU ps)) = some (decide (k ∈ ps)) := fun k => by
    have e : shp 60 (.int (k : Int)) = true := rfl
    simp only [cmp2, shp_nU, any_nU, e, Bool.and_self, if_true]
  refine congrArg Ev.finish (evB_ret (evS_ret (fz := []) (ev_bi1 (ev_cEm (p := p) (h := fun k => bi (if decide (k ∈ ps) then !bt p k else bt p k)) (ev_var (u := pl p) rfl) rfl hl fun k hk => ⟨false, ?_⟩) ?_)))
  · have ht := ev_cmp (F := run prog kws d) (KW := kws) (s := s) (o := .isin) (ρ := [.sh (pl p), .sh (.lst (nU ps)), .sh (.int k), .sh (bi (bt p k))]) (ev_var (i := 2) (u := .int k) rfl) (ev_var (i := 1) (u := .lst (nU ps)) rfl) (isl k)
    cases hm : decide (k ∈ ps)
    · rw [hm] at ht
      exact (ev_ifeF ht rfl).trans (ev_var rfl)
    · rw [hm] at ht
      exact (ev_ifeT ht rfl).trans (ev_op (v := ⟨.int 1, false⟩) (s1 := s) (by simp only [evE]) (ev_var (u := bi (bt p k)) rfl) (bi_not _))
  · show some (Rv.mk (.tup _) false) = _
    unfold pl tw
    rw [List.map_map]
    rfl
/-- parts of places -/
def partsU (qs : List (List Int)) : List U := qs.map fun q => U.tup (q.map .int)
def boxL : List (List Bool) → List (List Int) → List (List Bool)
  | F, [] => F
  | F, q :: qs => boxL (F ++ F.map (twi · q)) qs
theorem boxL_ok {n : Nat} : ∀ {qs : List (List Int)} {F : List (List Bool)}, F ≠ [] → (∀ p ∈ F, p.length = n) → boxL F qs ≠ [] ∧ (∀ p ∈ boxL F qs, p.length = n) ∧ (boxL F qs).length = F.length * 2 ^ qs.length
  | [], F, h0, hl => ⟨h0, hl, by simp [boxL]⟩
  | q :: qs, F, h0, hl => by
    obtain ⟨g1, g2, g3⟩ := boxL_ok (qs := qs) (F := F ++ F.map (twi · q)) (by simp [h0]) fun p hp => by
      rcases List.mem_append.mp hp with hp | hp
      · exact hl p hp
      · obtain ⟨r, hr, rfl⟩ := List.mem_map.mp hp
        rw [twi_len]; exact hl r hr
    refine ⟨g1, g2, ?_⟩
    show (boxL (F ++ F.map (twi · q)) qs).length = _
    rw [g3, List.length_append, List.length_map, List.length_cons, Nat.pow_succ, ← Nat.mul_two, Nat.mul_assoc, Nat.mul_comm 2]
theorem box_loop {F : CallF} {u v : U} {n : Nat} {s : Sto} (hn : n ≤ 40) (hF : ∀ p is, p.length ≤ 40 → F 47 [pl p, .tup (is.map .int)] s = .ok ⟨pl (twi p is), false⟩ s) : ∀ (qs : List (List Int)) (L : List (List Bool)) (x3 x4 : Slot), L ≠ [] → (∀ p ∈ L, p.length = n) → L.length * 2 ^ qs.length ≤ 100 →
    ∃ x3' x4', forL (fun u r s => match bindTg (.nm 3) u r with | some r => evB F kws (.cons (.asg [] 2 false (.op .add (.var 2) (.comp [4] (.nm 4) (.seq (.var 2)) (.con (.bl true)) (.call 47 (.cons (.var 4) (.cons (.var 3) .nil)))))) .nil) r s | none => .bad) (partsU qs) [.sh u, .sh v, .sh (.lst (lotU L)), x3, x4] s = .ok .nx [.sh u, .sh v, .sh (.lst (lotU (boxL L qs))), x3', x4'] s
  | [], L, x3, x4, _, _, _ => ⟨x3, x4, rfl⟩
  | q :: qs, L, x3, x4, h0, hl, hq => by
    have hpow : 1 ≤ 2 ^ qs.length := Nat.one_le_two_pow
    have hL2 : L.length * 2 ≤ 100 := by
      rw [List.length_cons, Nat.pow_succ] at hq
      have : L.length * 2 * 1 ≤ L.length * (2 ^ qs.length * 2) := by rw [Nat.mul_comm (2 ^ qs.length) 2, ← Nat.mul_assoc]; exact Nat.mul_le_mul_left _ hpow
      omega
    obtain ⟨y3, y4, e⟩ := box_loop hn hF qs (L ++ L.map (twi · q)) (.sh (.tup (q.map .int))) x4 (by simp [h0]) (fun p hp => by
      rcases List.mem_append.mp hp with hp | hp
      · exact hl p hp
      · obtain ⟨r, hr, rfl⟩ := List.mem_map.mp hp
        rw [twi_len]; exact hl r hr) (by
      rw [List.length_append, List.length_map, ← Nat.mul_two, Nat.mul_assoc]
      rw [List.length_cons, Nat.pow_succ, Nat.mul_comm (2 ^ qs.length)] at hq
      exact hq)
    refine ⟨y3, y4, ?_⟩
    have a1 := map_lot (F := F) (f := 47) (i := 2) (j := 3) (k := 4) (w := [4]) (ρ := [.sh u, .sh v, .sh (.lst (lotU L)), .sh (.tup (q.map .int)), x4]) (s := s) (u := .lst (lotU L)) (v := .tup (q.map .int)) (L := L) (g := (twi · q)) rfl rfl (by omega) (fun _ _ => rfl) (fun _ _ => rfl) fun p hp => hF p q (by rw [hl p hp]; exact hn)
    have a2 : evB F kws (.cons (.asg [] 2 false (.op .add (.var 2) (.comp [4] (.nm 4) (.seq (.var 2)) (.con (.bl true)) (.call 47 (.cons (.var 4) (.cons (.var 3) .nil)))))) .nil) [.sh u, .sh v, .sh (.lst (lotU L)), .sh (.tup (q.map .int)), x4] s = .ok .nx [.sh u, .sh v, .sh (.lst (lotU (L ++ L.map (twi · q)))), .sh (.tup (q.map .int)), x4] s := by
      have e1 : lotU (L ++ L.map (twi · q)) = lotU L ++ lotU (L.map (twi · q)) := by unfold lotU; rw [List.map_append]
      rw [e1]
      exact (evB_nx (evS_asg' (v := ⟨.lst (lotU L ++ lotU (L.map (twi · q))), true⟩) (ev_op (ev_var (u := .lst (lotU L)) rfl) a1 (x_cat (by rw [lot_len, lot_len, List.length_map]; omega))) rfl)).trans evB_nil
    show forL _ (U.tup (q.map .int) :: partsU qs) _ _ = _
    have hb : bindTg (.nm 3) (U.tup (q.map .int)) [.sh u, .sh v, .sh (.lst (lotU L)), x3, x4] = some [.sh u, .sh v, .sh (.lst (lotU L)), .sh (.tup (q.map .int)), x4] := rfl
    simp only [forL, hb, a2]
    exact e
theorem box_by_ok {n : Nat} {p : List Bool} {qs : List (List Int)} (hp : p.length = n) (n1 : 1 ≤ n) (n2 : n ≤ 40) (hq : qs.length ≤ 3) (d : Nat) (s : Sto) : ∃ F : List (List Bool), run prog kws (d + 2) 48 [pl p, .tup (partsU qs)] s = .ok ⟨.tup (lotU F), false⟩ s ∧ F ≠ [] ∧ (∀ p ∈ F, p.length = n) ∧ F.length ≤ 20 := by
  have hpow : 2 ^ qs.length ≤ 2 ^ 3 := Nat.pow_le_pow_right (by decide) hq
  obtain ⟨g1, g2, g3⟩ := boxL_ok (n := n) (qs := qs) (F := [p]) (by simp) (by simpa using hp)
  have hlen : (boxL [p] qs).length ≤ 8 := by rw [g3]; simp; omega
  have hS := lot_sortP g1 g2 n1 n2 (by omega)
  refine ⟨sortP (boxL [p] qs), ?_, hS.ne, hS.len, ?_⟩
  · rw [run_at (fd := d48) rfl rfl]
    have a1 : evS (run prog kws (d + 1)) kws (.asg [] 2 false (.lst (.cons (.var 0) .nil))) [.sh (pl p), .sh (.tup (partsU qs)), .un, .un, .un] s = .ok .nx [.sh (pl p), .sh (.tup (partsU qs)), .sh (.lst (lotU [p])), .un, .un] s := rfl
    obtain ⟨x3, x4, e⟩ := box_loop (F := run prog kws (d + 1)) (u := pl p) (v := .tup (partsU qs)) (n := n) (s := s) n2 (fun p is hl => law_turn_i hl d s) qs [p] .un .un (by simp) (by simpa using hp) (by simp; omega)
    have a2 : evS (run prog kws (d + 1)) kws (.for_ [] (.nm 3) (.seq (.var 1)) (.cons (.asg [] 2 false (.op .add (.var 2) (.comp [4] (.nm 4) (.seq (.var 2)) (.con (.bl true)) (.call 47 (.cons (.var 4) (.cons (.var 3) .nil)))))) .nil)) [.sh (pl p), .sh (.tup (partsU qs)), .sh (.lst (lotU [p])), .un, .un] s = .ok .nx [.sh (pl p), .sh (.tup (partsU qs)), .sh (.lst (lotU (boxL [p] qs))), x3, x4] s := by
      have hi : evI (run prog kws (d + 1)) kws (.seq (.var 1)) [.sh (pl p), .sh (.tup (partsU qs)), .sh (.lst (lotU [p])), .un, .un] s = .ok (partsU qs) s := rfl
      have hL : inLim (partsU qs) = true := decide_eq_true (by unfold partsU; rw [List.length_map]; unfold lim; omega)
      simp only [evS, freeze, hi, x_st, hL]
      exact e
    exact congrArg Ev.finish ((evB_nx a1).trans ((evB_nx a2).trans (evB_ret (evS_ret (fz := []) (ev_bi1 (v := ⟨.lst (lotU (sortP (boxL [p] qs))), true⟩) (ev_bi1 (ev_var (u := .lst (lotU (boxL [p] qs))) rfl) (sset_lot g1 g2 n1 (by omega))) rfl)))))
  · have h1 := lot_sortP g1 g2 n1 n2 (show (boxL [p] qs).length ≤ 63 by omega)
    have h2 : (sortP (boxL [p] qs)).length ≤ (boxL [p] qs).length := by
      exact sortP_len _
    omega
end
end K03

end
section
set_option Elab.async false
set_option linter.all false
set_option maxRecDepth 100000
set_option maxHeartbeats 2000000
namespace K03
open Ev PySem
section
variable {sr : Sto}
/-! ### drawn parts: lists of the store -/
def refs (n k : Nat) : List U := (List.range k).map fun i => U.ref (n + i)
theorem refs_succ (n k : Nat) : refs n (k + 1) = .ref n :: refs (n + 1) k := by
  unfold refs
  rw [List.range_succ_eq_map, List.map_cons, List.map_map]
  congr 1
  apply List.map_congr_left
  intro i _
  show U.ref (n + (i + 1)) = U.ref (n + 1 + i)
  rw [Nat.add_assoc, Nat.add_comm 1 i]
theorem refs_comp {f : U → Sto → RE (Option U)} (h : ∀ x s, f x s = .ok (some (.ref s.length)) (s ++ [.lst []])) : ∀ (us : List U) (s : Sto), compL f us s = .ok (refs s.length us.length) (s ++ List.replicate us.length (.lst []))
  | [], s => by simp [compL, refs]
  | x :: us, s => by
    have e := refs_comp h us (s ++ [.lst []])
    simp only [compL, h, e]
    rw [List.length_cons, refs_succ, List.length_append, List.length_singleton, List.append_assoc, List.replicate_succ]
    rfl
def stR (sr : Sto) (R : List (List Int)) : Sto := sr ++ R.map .lst
theorem st_nth {sr : Sto} {R : List (List Int)} {i : Nat} {a b c : Int} (h : i < R.length) : nth (1 + sr.length + i) (sto (stR sr R) a b c) = some (.lst R[i]) := by
  have e : ∀ (xs : Sto) (j : Nat), nth j xs = xs[j]? := by
    intro xs
    induction xs with
    | nil => intro j; cases j <;> rfl
    | cons x xs ih => intro j; cases j with
      | zero => rfl
      | succ j => simpa [nth] using ih j
  rw [e]
  unfold sto stR
  rw [show 1 + sr.length + i = (sr.length + i) + 1 by omega, List.getElem?_cons_succ, List.getElem?_append_right (by omega), show sr.length + i - sr.length = i by omega, List.getElem?_map, List.getElem?_eq_getElem h]
  rfl
theorem st_set {sr : Sto} {R : List (List Int)} {i : Nat} {a b c : Int} {x : List Int} (h : i < R.length) : (sto (stR sr R) a b c).set (1 + sr.length + i) (.lst x) = sto (stR sr (R.set i x)) a b c := by
  unfold sto stR
  rw [show 1 + sr.length + i = (sr.length + i) + 1 by omega, List.set_cons_succ, List.set_append_right _ _ (by omega), show sr.length + i - sr.length = i by omega, List.map_set]
theorem refs_ix {n k i : Nat} (h : i < k) (s : Sto) : getIx (.lst (refs n k)) (.int i) s = some (.ref (n + i)) := getIx_lst (by unfold refs; rw [List.getElem?_map, List.getElem?_range h]; rfl)
def partB : B := .cons (.asg [] 5 false (.call 37 (.cons (.var 0) (.cons (.op .add (.var 2) (.con (.int 1))) .nil)))) (.cons (.ife [] (.cmp .lt (.var 5) (.var 2)) (.cons (.appR [] (.ix (.var 3) (.var 5)) (.var 4)) .nil) .nil) .nil)
theorem part_step {a b c : Int} {m : Nat} {R : List (List Int)} {N : Nat} (Bx : Box a b c (m + 1)) (h1 : 1 ≤ R.length) (h2 : R.length ≤ 3) (hN : N ≤ 100) (hR : ∀ r ∈ R, r.length ≤ N) (g : U) (k : Nat) (x5 : Slot) (d : Nat) :
    ∃ R' x5' a' c', evB (run prog kws (d + 1)) kws partB [.sh (.ref 0), .sh g, .sh (.int R.length), .sh (.lst (refs (1 + sr.length) R.length)), .sh (.int k), x5, .un] (sto (stR sr R) a b c) = .ok .nx [.sh (.ref 0), .sh g, .sh (.int R.length), .sh (.lst (refs (1 + sr.length) R.length)), .sh (.int k), x5', .un] (sto (stR sr R') a' b c') ∧ Box a' b c' m ∧ R'.length = R.length ∧ ∀ r ∈ R', r.length ≤ N + 1 := by
  obtain ⟨x, a1, c1, f, e1, x1, B1⟩ := take_v (sr := stR sr R) (d := d) (ρ := [.sh (.ref 0), .sh g, .sh (.int R.length), .sh (.lst (refs (1 + sr.length) R.length)), .sh (.int k), x5, .un]) (t := (R.length : Int) + 1) (f := false) (e := .op .add (.var 2) (.con (.int 1))) (m := m) rfl (ev_op (v2 := ⟨.int 1, false⟩) (ev_var (u := .int R.length) rfl) (by simp only [evE]) rfl) Bx (by omega) (by omega)
  have s1 := evS_asg' (F := run prog kws (d + 1)) (KW := kws) (fz := []) (i := 5) (o := false) (ρ1 := [.sh (.ref 0), .sh g, .sh (.int R.length), .sh (.lst (refs (1 + sr.length) R.length)), .sh (.int k), .sh (.int x), .un]) e1 (by cases f <;> rfl)
  have t1 : evE (run prog kws (d + 1)) kws (.cmp .lt (.var 5) (.var 2)) [.sh (.ref 0), .sh g, .sh (.int R.length), .sh (.lst (refs (1 + sr.length) R.length)), .sh (.int k), .sh (.int x), .un] (sto (stR sr R) a1 b c1) = .ok ⟨.bl (decide ((x : Int) < R.length)), false⟩ (sto (stR sr R) a1 b c1) := ev_cmp (ev_var (u := .int x) rfl) (ev_var (u := .int R.length) rfl) rfl
  by_cases hx : x < R.length
  · refine ⟨R.set x (R[x] ++ [(k : Int)]), .sh (.int x), a1, c1, ?_, B1, by simp, fun r hr => ?_⟩
    · refine (evB_nx s1).trans ?_
      refine (evB_nx (ρ1 := [.sh (.ref 0), .sh g, .sh (.int R.length), .sh (.lst (refs (1 + sr.length) R.length)), .sh (.int k), .sh (.int x), .un]) (s1 := sto (stR sr (R.set x (R[x] ++ [(k : Int)]))) a1 b c1) ((evS_ifT (fz := []) t1 (by rw [decide_eq_true (by omega)]; rfl)).trans ?_)).trans evB_nil
      refine (evB_nx ?_).trans evB_nil
      have e3 : evE (run prog kws (d + 1)) kws (.ix (.var 3) (.var 5)) [.sh (.ref 0), .sh g, .sh (.int R.length), .sh (.lst (refs (1 + sr.length) R.length)), .sh (.int k), .sh (.int x), .un] (sto (stR sr R) a1 b c1) = .ok ⟨.ref (1 + sr.length + x), false⟩ (sto (stR sr R) a1 b c1) := ev_ix (ev_var (u := .lst (refs (1 + sr.length) R.length)) rfl) (ev_var (u := .int x) rfl) (refs_ix hx _)
      have hl : (R[x]).length < lim := by have := hR _ (List.getElem_mem hx); unfold lim; omega
      have e4 : evE (run prog kws (d + 1)) kws (.var 4) [.sh (.ref 0), .sh g, .sh (.int R.length), .sh (.lst (refs (1 + sr.length) R.length)), .sh (.int k), .sh (.int x), .un] (sto (stR sr R) a1 b c1) = .ok ⟨.int k, false⟩ (sto (stR sr R) a1 b c1) := ev_var rfl
      simp only [evS, freeze, e3, e4, x_st, st_nth hx, if_pos hl, st_set hx]
    · rcases List.mem_or_eq_of_mem_set hr with hr | rfl
      · have := hR r hr; omega
      · have := hR _ (List.getElem_mem hx); simp; omega
  · refine ⟨R, .sh (.int x), a1, c1, ?_, B1, rfl, fun r hr => by have := hR r hr; omega⟩
    refine (evB_nx s1).trans ?_
    exact (evB_nx (ρ1 := [.sh (.ref 0), .sh g, .sh (.int R.length), .sh (.lst (refs (1 + sr.length) R.length)), .sh (.int k), .sh (.int x), .un]) (s1 := sto (stR sr R) a1 b c1) ((evS_ifF (fz := []) t1 (by rw [decide_eq_false (by omega)]; rfl)).trans evB_nil)).trans evB_nil
theorem part_loop {d t : Nat} {g : U} {b : Int} (t1 : 1 ≤ t) (t3 : t ≤ 3) : ∀ (ks : List Nat) (a c : Int) (m N : Nat) (R : List (List Int)) (x4 x5 : Slot), Box a b c (m + ks.length) → R.length = t → N + ks.length ≤ 100 → (∀ r ∈ R, r.length ≤ N) →
    ∃ R' x4' x5' a' c', forL (fun u r s => match bindTg (.nm 4) u r with | some r => evB (run prog kws (d + 1)) kws partB r s | none => .bad) (nU ks) [.sh (.ref 0), .sh g, .sh (.int t), .sh (.lst (refs (1 + sr.length) t)), x4, x5, .un] (sto (stR sr R) a b c) = .ok .nx [.sh (.ref 0), .sh g, .sh (.int t), .sh (.lst (refs (1 + sr.length) t)), x4', x5', .un] (sto (stR sr R') a' b c') ∧ Box a' b c' m ∧ R'.length = t
  | [], a, c, m, N, R, x4, x5, Bx, hR, _, _ => ⟨R, x4, x5, a, c, rfl, Bx, hR⟩
  | k :: ks, a, c, m, N, R, x4, x5, Bx, hR, hN, hr => by
    rw [List.length_cons] at Bx hN
    obtain ⟨R1, y5, a1, c1, e1, B1, l1, r1⟩ := part_step (sr := sr) (m := m + ks.length) (R := R) (N := N) (by rw [Nat.add_assoc]; exact Bx) (by omega) (by omega) (by omega) hr g k x5 d
    rw [hR] at e1
    obtain ⟨R2, y4, z5, a2, c2, e2, B2, l2⟩ := part_loop (d := d) (g := g) t1 t3 ks a1 c1 m (N + 1) R1 (.sh (.int k)) y5 B1 (by omega) (by omega) r1
    refine ⟨R2, y4, z5, a2, c2, ?_, B2, l2⟩
    show forL _ (U.int k :: nU ks) _ _ = _
    have hb : bindTg (.nm 4) (U.int k) [.sh (.ref 0), .sh g, .sh (.int t), .sh (.lst (refs (1 + sr.length) t)), x4, x5, .un] = some [.sh (.ref 0), .sh g, .sh (.int t), .sh (.lst (refs (1 + sr.length) t)), .sh (.int k), x5, .un] := rfl
    simp only [forL, hb, e1]
    exact e2
theorem fm_parts {g : U → Option U} : ∀ {us : List U}, (∀ x ∈ us, g x = none ∨ ∃ q : List Int, q ≠ [] ∧ g x = some (tupI q)) → ∃ qs : List (List Int), us.filterMap g = qs.map tupI ∧ (∀ q ∈ qs, q ≠ []) ∧ qs.length ≤ us.length
  | [], _ => ⟨[], rfl, fun q hq => (nomatch hq), Nat.le_refl _⟩
  | x :: us, h => by
    obtain ⟨qs, e, h1, h2⟩ := fm_parts (us := us) fun y hy => h y (List.mem_cons_of_mem _ hy)
    rcases h x List.mem_cons_self with h3 | ⟨q, h4, h3⟩
    · exact ⟨qs, by rw [List.filterMap_cons_none h3, e], h1, by rw [List.length_cons]; omega⟩
    · exact ⟨q :: qs, by rw [List.filterMap_cons_some h3, e]; rfl, fun r hr => (List.mem_cons.mp hr).elim (fun e => by rw [e]; exact h4) (h1 r), by simp; omega⟩
theorem tups_parts : ∀ {qs : List (List Int)}, (∀ q ∈ qs, q ≠ []) → tupsU (qs.map tupI) = some qs
  | [], _ => rfl
  | q :: qs, h => by
    have ih := tups_parts (qs := qs) fun r hr => h r (List.mem_cons_of_mem _ hr)
    have h0 := h q List.mem_cons_self
    cases q with
    | nil => exact absurd rfl h0
    | cons i is =>
      have e := intsU_map (i :: is)
      show tupsU (.tup ((i :: is).map .int) :: qs.map tupI) = _
      simp only [tupsU, e, ih]
theorem sorted_parts {qs : List (List Int)} (h : ∀ q ∈ qs, q ≠ []) : biV .sorted [.lst (qs.map tupI)] = some ⟨.lst ((Ev.sortT qs).map tupI), true⟩ := by
  cases qs with
  | nil => rfl
  | cons q qs =>
    have e1 : intsU ((q :: qs).map tupI) = none := rfl
    have e2 := tups_parts h
    simp only [biV, items, e1, e2]
theorem sortT_len : ∀ l : List (List Int), (Ev.sortT l).length = l.length := by
  have ins : ∀ (x : List Int) (l : List (List Int)), (Ev.insT x l).length = l.length + 1 := by
    intro x l
    induction l with
    | nil => rfl
    | cons y r ih => unfold Ev.insT; split <;> simp [ih]
  intro l
  induction l with
  | nil => rfl
  | cons x l ih => simp only [Ev.sortT, ins, ih, List.length_cons]
theorem ne_nil_ints (xs : List Int) : cmp2 .ne (.lst (xs.map .int)) (.lst []) = some (!xs.isEmpty) := by
  have e1 : shp 60 (.lst (xs.map .int)) = true := by
    show (xs.map U.int).all (shp 59) = true
    rw [List.all_map]
    exact List.all_eq_true.mpr fun _ _ => rfl
  have e2 : shp 60 (.lst []) = true := rfl
  show (if shp 60 (.lst (xs.map .int)) && shp 60 (.lst []) then some (!eqU (.lst (xs.map .int)) (.lst [])) else none) = _
  rw [e1, e2]
  cases xs <;> rfl
theorem parts_ok {a b c : Int} {m : Nat} (Bx : Box a b c (m + 80)) (n t : Nat) (hn : n ≤ 40) (t1 : 1 ≤ t) (t3 : t ≤ 3) (d : Nat) : ∃ qs sr' a' c', run prog kws (d + 3) 49 [.ref 0, .int n, .int t] (sto sr a b c) = .ok ⟨.tup (partsU qs), false⟩ (sto sr' a' b c') ∧ Box a' b c' m ∧ qs.length ≤ t := by
  rw [run_at (fd := d49) rfl rfl]
  have e1 : evE (run prog kws (d + 2)) kws (.comp [4] (.nm 4) (.rng1 (.var 2)) (.con (.bl true)) (.slst .nil)) [.sh (.ref 0), .sh (.int n), .sh (.int t), .un, .un, .un, .un] (sto sr a b c) = .ok ⟨.lst (refs (1 + sr.length) t), true⟩ (sto (stR sr (List.replicate t [])) a b c) := by
    have hi : evI (run prog kws (d + 2)) kws (.rng1 (.var 2)) [.sh (.ref 0), .sh (.int n), .sh (.int t), .un, .un, .un, .un] (sto sr a b c) = .ok (nU (List.range t)) (sto sr a b c) := by
      simp only [evI, evE, look, x_bind]
      rw [decide_eq_true (show (t : Int) ≤ 1000000 by omega), decide_eq_true (show (-1000000 : Int) ≤ t by omega)]
      show RE.ok (rngU 0 t 1) _ = _
      rw [rngU_zero]
      rfl
    have hl : inLim (nU (List.range t)) = true := decide_eq_true (by rw [nU_len, List.length_range]; unfold lim; omega)
    simp only [evE, hi, x_bind, hl]
    have k := refs_comp (f := fun u s => match bindTg (.nm 4) u (wipeE [4] [.sh (.ref 0), .sh (.int n), .sh (.int t), .un, .un, .un, .un]) with
        | some r1 => (ofO s (truth (.bl true))).bind fun k s => (match k with
          | true => (((evA (run prog kws (d + 2)) kws .nil r1 s).bind fun us s => (ofO s (intsU us)).bind fun is s => RE.ok (Rv.mk (.ref s.length) false) (s ++ [.lst is]))).bind fun y s => .ok (some y.u) s
          | false => .ok none s)
        | none => .bad) (fun x s => rfl) (nU (List.range t)) (sto sr a b c)
    refine (congrArg (fun z => RE.bind z fun ys s => RE.ok (Rv.mk (.lst ys) true) s) k).trans ?_
    rw [nU_len, List.length_range, x_bind]
    have l1 : (sto sr a b c).length = 1 + sr.length := by unfold sto; rw [List.length_cons, Nat.add_comm]
    have l2 : sto sr a b c ++ List.replicate t (.lst []) = sto (stR sr (List.replicate t [])) a b c := by
      unfold sto stR
      rw [List.map_replicate]
      rfl
    rw [l1, l2]
  obtain ⟨l, _, a1, c1, e2, B1, l1, _⟩ := pick_ok (sr := stR sr (List.replicate t [])) (m := m + 40) (Bx.mono (by omega)) (List.range n) (by rw [List.length_range]; exact hn) n (d)
  have hll : l.length ≤ 40 := by rw [l1, List.length_range]; omega
  obtain ⟨R, x4, x5, a2, c2, e3, B2, hR⟩ := part_loop (sr := sr) (d := d + 1) (g := .int n) (b := b) t1 t3 l a1 c1 m 0 (List.replicate t []) .un .un (B1.mono (by omega)) (by simp) (by omega) (fun r hr => by rw [List.eq_of_mem_replicate hr]; exact Nat.le_refl 0)
  have s1 := evS_asg' (F := run prog kws (d + 2)) (KW := kws) (fz := []) (i := 3) (o := false) (ρ1 := [.sh (.ref 0), .sh (.int n), .sh (.int t), .sh (.lst (refs (1 + sr.length) t)), .un, .un, .un]) e1 rfl
  have s2 : evS (run prog kws (d + 2)) kws (.for_ [] (.nm 4) (.seq (.call 40 (.cons (.var 0) (.cons (.bi .listRange (.cons (.var 1) .nil)) (.cons (.var 1) .nil))))) partB) [.sh (.ref 0), .sh (.int n), .sh (.int t), .sh (.lst (refs (1 + sr.length) t)), .un, .un, .un] (sto (stR sr (List.replicate t [])) a b c) = .ok .nx [.sh (.ref 0), .sh (.int n), .sh (.int t), .sh (.lst (refs (1 + sr.length) t)), x4, x5, .un] (sto (stR sr R) a2 b c2) := by
    have hi : evI (run prog kws (d + 2)) kws (.seq (.call 40 (.cons (.var 0) (.cons (.bi .listRange (.cons (.var 1) .nil)) (.cons (.var 1) .nil))))) [.sh (.ref 0), .sh (.int n), .sh (.int t), .sh (.lst (refs (1 + sr.length) t)), .un, .un, .un] (sto (stR sr (List.replicate t [])) a b c) = .ok (nU l) (sto (stR sr (List.replicate t [])) a1 b c1) := by
      have : evE (run prog kws (d + 2)) kws (.call 40 (.cons (.var 0) (.cons (.bi .listRange (.cons (.var 1) .nil)) (.cons (.var 1) .nil)))) [.sh (.ref 0), .sh (.int n), .sh (.int t), .sh (.lst (refs (1 + sr.length) t)), .un, .un, .un] (sto (stR sr (List.replicate t [])) a b c) = .ok ⟨.lst (nU l), true⟩ (sto (stR sr (List.replicate t [])) a1 b c1) := (ev_call (evA_cons (ev_var (u := .ref 0) rfl) (evA_cons (ev_bi1 (ev_var (u := .int n) rfl) (range_nU n hn)) (evA_cons (ev_var (u := .int n) rfl) evA_nil)))).trans e2
      simp only [evI, this, x_bind, items, x_ofO]
    have hl : inLim (nU l) = true := decide_eq_true (by rw [nU_len]; unfold lim; omega)
    simp only [evS, freeze, hi, x_st, hl]
    exact e3
  let g : U → Option U := fun u => match u with
    | .ref p => (match nth p (sto (stR sr R) a2 b c2) with | some (.lst xs) => if xs.isEmpty then none else some (tupI (sortI xs)) | none => none)
    | _ => none
  have hg : ∀ u ∈ refs (1 + sr.length) t, ∃ xs : List Int, ∃ p, u = .ref p ∧ nth p (sto (stR sr R) a2 b c2) = some (.lst xs) := fun u hu => by
    obtain ⟨i, hi, rfl⟩ := List.mem_map.mp hu
    have : i < R.length := by rw [hR]; exact List.mem_range.mp hi
    exact ⟨R[i], _, rfl, st_nth this⟩
  have e4 : evE (run prog kws (d + 2)) kws (.comp [6] (.nm 6) (.seq (.var 3)) (.refNe (.var 6)) (.bi .tuple (.cons (.sortedR (.var 6)) .nil))) [.sh (.ref 0), .sh (.int n), .sh (.int t), .sh (.lst (refs (1 + sr.length) t)), x4, x5, .un] (sto (stR sr R) a2 b c2) = .ok ⟨.lst ((refs (1 + sr.length) t).filterMap g), true⟩ (sto (stR sr R) a2 b c2) := by
    refine ev_comp (us := refs (1 + sr.length) t) ?_ (decide_eq_true (by unfold refs; rw [List.length_map, List.length_range]; unfold lim; omega)) fun x hx => ?_
    · simp only [evI, evE, look, x_bind, items, x_ofO]
    · obtain ⟨xs, p, rfl, hp⟩ := hg x hx
      refine ⟨_, rfl, ⟨.bl (!xs.isEmpty), false⟩, !xs.isEmpty, ?_, rfl, ?_⟩
      · simp only [evE, look, put, wipeE, x_bind, hp, ne_nil_ints, x_ofO]
      · have hgx : g (.ref p) = if xs.isEmpty then none else some (tupI (sortI xs)) := by simp only [g, hp]
        cases he : xs.isEmpty
        · refine ⟨⟨tupI (sortI xs), false⟩, ?_, ?_⟩
          · simp only [evE, evA, look, put, wipeE, x_bind, hp, biV, items, x_ofO]
            rfl
          · rw [hgx, he]; rfl
        · show g (.ref p) = none
          rw [hgx, he]; rfl
  obtain ⟨qs, e5, h1, h2⟩ := fm_parts (g := g) (us := refs (1 + sr.length) t) fun x hx => by
    obtain ⟨xs, p, rfl, hp⟩ := hg x hx
    have hgx : g (.ref p) = if xs.isEmpty then none else some (tupI (sortI xs)) := by simp only [g, hp]
    cases he : xs.isEmpty
    · refine .inr ⟨sortI xs, fun h0 => ?_, by rw [hgx, he]; rfl⟩
      have := (sortI_perm xs).length_eq
      rw [h0] at this
      have : xs = [] := List.length_eq_zero_iff.mp this.symm
      rw [this] at he
      cases he
    · exact .inl (by rw [hgx, he]; rfl)
  rw [e5] at e4
  refine ⟨Ev.sortT qs, stR sr R, a2, c2, ?_, B2, by rw [sortT_len]; unfold refs at h2; rw [List.length_map, List.length_range] at h2; exact h2⟩
  exact congrArg Ev.finish ((evB_nx s1).trans ((evB_nx s2).trans (evB_ret (evS_ret (fz := []) (ev_bi1 (v := ⟨.lst ((Ev.sortT qs).map tupI), true⟩) (ev_bi1 e4 (sorted_parts h1)) rfl)))))
end
end K03

end
section
set_option Elab.async false
set_option linter.all false
set_option maxRecDepth 100000
set_option maxHeartbeats 2000000
namespace K03
open Ev PySem
def allP : Nat → List (List Bool)
  | 0 => [[]]
  | n + 1 => (allP n).map (false :: ·) ++ (allP n).map (true :: ·)
theorem every_all (n : Nat) (n1 : 1 ≤ n) (n2 : n ≤ 5) (d : Nat) (s : Sto) : run prog kws (d + 2) 46 [.int n] s = .ok ⟨.lst (lotU (allP n)), true⟩ s := by
  match n, n1, n2 with
  | 1, _, _ => kernel_rfl
  | 2, _, _ => kernel_rfl
  | 3, _, _ => kernel_rfl
  | 4, _, _ => kernel_rfl
  | 5, _, _ => kernel_rfl
theorem allP_len : ∀ n : Nat, n < 6 → (allP n).length ≤ 32 ∧ allP n ≠ [] := by decide +kernel
theorem allP_mem : ∀ (n : Nat), ∀ p ∈ allP n, p.length = n
  | 0, p, h => by simp [allP] at h; simp [h]
  | n + 1, p, h => by
    simp only [allP, List.mem_append, List.mem_map] at h
    rcases h with ⟨q, hq, rfl⟩ | ⟨q, hq, rfl⟩ <;> simp [allP_mem n q hq]
theorem allP_sum : ∀ n : Nat, n < 6 → ∀ k : Nat, k < n + 1 → ((allP n).filter fun p => (ib p).sum == (k : Int)) ≠ [] := by decide +kernel
end K03

end
section
set_option Elab.async false
set_option linter.all false
set_option maxRecDepth 100000
set_option maxHeartbeats 2000000
namespace K03
open Ev PySem
section
variable {sr : Sto}
def lE (n k : Nat) (x5 x6 x7 x8 x9 x10 : Slot) : Ev.Env := [.sh (.ref 0), .sh (.int n), .sh (.int ((20 : Nat) : Int)), .sh (.int k), .sh (.lst (lotU (allP n))), x5, x6, x7, x8, x9, x10]
/-- what a drawn list of plans is -/
structure Fnd (n : Nat) (F : List (List Bool)) : Prop where
  ne : F ≠ []
  len : ∀ p ∈ F, p.length = n
  few : F.length ≤ 40
def kA : B := .cons (.asg [] 5 true (.call 40 (.cons (.var 0) (.cons (.var 4) (.cons (.op .add (.con (.int 1)) (.call 37 (.cons (.var 0) (.cons (.bi .min2 (.cons (.var 2) (.cons (.bi .len (.cons (.var 4) .nil)) .nil))) .nil)))) .nil))))) .nil
theorem lot_at {M : List (List Bool)} {j : Nat} (h : j < M.length) : nth j (lotU M) = some (pl M[j]) := by
  have e := nth_at (xs := lotU M) (j := j) (by rw [lot_len]; exact h)
  rw [e]
  unfold lotU
  simp
theorem lot_erase : ∀ (M : List (List Bool)) (j : Nat), (lotU M).eraseIdx j = lotU (M.eraseIdx j)
  | [], _ => rfl
  | x :: xs, 0 => rfl
  | x :: xs, j + 1 => by
    have := lot_erase xs j
    show pl x :: (lotU xs).eraseIdx j = _
    rw [this]; rfl
theorem kA_ok {a b c : Int} {m n k : Nat} (n1 : 1 ≤ n) (n2 : n ≤ 5) (Bx : Box a b c (m + 101)) (x5 x6 x7 x8 x9 x10 : Slot) (d : Nat) : ∃ F a' c', evB (run prog kws (d + 3)) kws kA (lE n k x5 x6 x7 x8 x9 x10) (sto sr a b c) = .ok .nx (lE n k (.own (.lst (lotU F))) x6 x7 x8 x9 x10) (sto sr a' b c') ∧ Box a' b c' m ∧ Fnd n F := by
  obtain ⟨hM, hN⟩ := allP_len n (by omega)
  have hpos : 0 < (allP n).length := List.length_pos_iff.mpr hN
  have e0 : evE (run prog kws (d + 3)) kws (.bi .min2 (.cons (.var 2) (.cons (.bi .len (.cons (.var 4) .nil)) .nil))) (lE n k x5 x6 x7 x8 x9 x10) (sto sr a b c) = .ok ⟨.int ((min 20 (allP n).length : Nat) : Int), false⟩ (sto sr a b c) := by
    have hm : (if ((allP n).length : Int) < ((20 : Nat) : Int) then ((allP n).length : Int) else ((20 : Nat) : Int)) = ((min 20 (allP n).length : Nat) : Int) := by split <;> omega
    simp only [evE, evA, lE, look, x_bind, biV, x_ofO, lot_len, hm]
  obtain ⟨x, a1, c1, f, e1, x1, B1⟩ := take_v (sr := sr) (d := d + 2) (ρ := lE n k x5 x6 x7 x8 x9 x10) (m := m + 100) rfl e0 Bx (by omega) (by omega)
  obtain ⟨F, a2, c2, e2, B2, l2, h2⟩ := pick_lot (sr := sr) B1 (allP n) (by omega) (1 + x) (d + 1)
  refine ⟨F, a2, c2, ?_, B2, ?_, fun p hp => allP_mem n p (h2 p hp), by omega⟩
  · have e3 : evE (run prog kws (d + 3)) kws (.call 40 (.cons (.var 0) (.cons (.var 4) (.cons (.op .add (.con (.int 1)) (.call 37 (.cons (.var 0) (.cons (.bi .min2 (.cons (.var 2) (.cons (.bi .len (.cons (.var 4) .nil)) .nil))) .nil)))) .nil)))) (lE n k x5 x6 x7 x8 x9 x10) (sto sr a b c) = .ok ⟨.lst (lotU F), true⟩ (sto sr a2 b c2) := by
      refine (ev_call (evA_cons (ev_var (u := .ref 0) rfl) (evA_cons (ev_var (u := .lst (lotU (allP n))) rfl) (evA_cons (v := ⟨.int ((1 + x : Nat) : Int), false⟩) (ev_op (v := ⟨.int 1, false⟩) (s1 := sto sr a b c) (by simp only [evE]) e1 ?_) evA_nil)))).trans e2
      simp only [x_add]
      rw [show (1 : Int) + (x : Int) = ((1 + x : Nat) : Int) by omega]
    exact (evB_nx (evS_asg' (fz := []) (o := true) e3 rfl)).trans evB_nil
  · intro h; rw [h] at l2; simp at l2; omega
/-! ### boxes -/
def kPop : B := .cons (.popS [] 5 (.call 37 (.cons (.var 0) (.cons (.bi .len (.cons (.peek 5) .nil)) .nil)))) .nil
def kApp : B := .cons (.app [] 5 (.call 39 (.cons (.var 0) (.cons (.var 4) .nil)))) .nil
def kB : B := .cons (.asg [] 6 false (.call 49 (.cons (.var 0) (.cons (.var 1) (.cons (.op .add (.con (.int 1)) (.call 37 (.cons (.var 0) (.cons (.con (.int 3)) .nil)))) .nil))))) (.cons (.asg [] 5 true (.bi .list (.cons (.call 48 (.cons (.call 39 (.cons (.var 0) (.cons (.var 4) .nil))) (.cons (.var 6) .nil))) .nil))) (.cons (.asg [] 7 false (.call 37 (.cons (.var 0) (.cons (.con (.int 3)) .nil)))) (.cons (.ife [] (.and (.cmp .eq (.var 7) (.con (.int 1))) (.cmp .gt (.bi .len (.cons (.peek 5) .nil)) (.con (.int 1)))) kPop .nil) (.cons (.ife [] (.cmp .eq (.var 7) (.con (.int 2))) kApp .nil) .nil))))
theorem x_eq (i j : Int) : cmp2 .eq (.int i) (.int j) = some (i == j) := by simp [cmp2, shp, eqU]
theorem kPop_ok {a b c : Int} {m n k : Nat} {F : List (List Bool)} (Bx : Box a b c (m + 1)) (hF : Fnd n F) (h1 : 1 < F.length) (x6 x7 x8 x9 x10 : Slot) (d : Nat) : ∃ F' a' c', evB (run prog kws (d + 3)) kws kPop (lE n k (.own (.lst (lotU F))) x6 x7 x8 x9 x10) (sto sr a b c) = .ok .nx (lE n k (.own (.lst (lotU F'))) x6 x7 x8 x9 x10) (sto sr a' b c') ∧ Box a' b c' m ∧ F'.length ≤ F.length ∧ Fnd n F' := by
  have hfew := hF.few
  have e0 : evE (run prog kws (d + 3)) kws (.bi .len (.cons (.peek 5) .nil)) (lE n k (.own (.lst (lotU F))) x6 x7 x8 x9 x10) (sto sr a b c) = .ok ⟨.int (F.length : Int), false⟩ (sto sr a b c) := by
    simp only [evE, evA, lE, look, x_bind, biV, x_ofO, lot_len]
  obtain ⟨x, a1, c1, f, e1, x1, B1⟩ := take_v (sr := sr) (d := d + 2) (ρ := lE n k (.own (.lst (lotU F))) x6 x7 x8 x9 x10) (m := m) rfl e0 Bx (by omega) (by omega)
  have hx : x < (lotU F).length := by rw [lot_len]; omega
  have hlen : (F.eraseIdx x).length = F.length - 1 := by rw [List.length_eraseIdx]; rw [lot_len] at hx; simp [hx]
  refine ⟨F.eraseIdx x, a1, c1, ?_, B1, by omega, ⟨fun h => by rw [h] at hlen; simp at hlen; omega, fun p hp => hF.len p (List.mem_of_mem_eraseIdx hp), by omega⟩⟩
  have hl : (lotU F).length ≤ lim := by rw [lot_len]; unfold lim; omega
  refine (evB_nx ?_).trans evB_nil
  simp only [evS, freeze, e1, x_st]
  simp only [lE, look, if_pos hl, ixN_nat hx, put, lot_erase]
theorem kApp_ok {a b c : Int} {m n k : Nat} {F : List (List Bool)} (n1 : 1 ≤ n) (n2 : n ≤ 5) (Bx : Box a b c (m + 1)) (hF : Fnd n F) (h1 : F.length ≤ 39) (x6 x7 x8 x9 x10 : Slot) (d : Nat) : ∃ F' a' c', evB (run prog kws (d + 3)) kws kApp (lE n k (.own (.lst (lotU F))) x6 x7 x8 x9 x10) (sto sr a b c) = .ok .nx (lE n k (.own (.lst (lotU F'))) x6 x7 x8 x9 x10) (sto sr a' b c') ∧ Box a' b c' m ∧ Fnd n F' := by
  obtain ⟨hM, hN⟩ := allP_len n (by omega)
  obtain ⟨p, hp, a1, c1, e1, B1⟩ := of_ok (sr := sr) (u := .lst (lotU (allP n))) Bx (.inl rfl) hN (by omega) (d + 1)
  refine ⟨F ++ [p], a1, c1, ?_, B1, ⟨by simp, fun q hq => ?_, by simp; omega⟩⟩
  · have e2 : evE (run prog kws (d + 3)) kws (.call 39 (.cons (.var 0) (.cons (.var 4) .nil))) (lE n k (.own (.lst (lotU F))) x6 x7 x8 x9 x10) (sto sr a b c) = .ok ⟨pl p, false⟩ (sto sr a1 b c1) := (ev_call (evA_cons (ev_var (u := .ref 0) rfl) (evA_cons (ev_var (u := .lst (lotU (allP n))) rfl) evA_nil))).trans e1
    have hl : (lotU F).length < lim := by rw [lot_len]; unfold lim; omega
    refine (evB_nx ?_).trans evB_nil
    have e3 : lotU (F ++ [p]) = lotU F ++ [pl p] := by unfold lotU; simp
    simp only [evS, freeze, e2, x_st]
    simp only [lE, look, if_pos hl, put, e3]
  · rcases List.mem_append.mp hq with hq | hq
    · exact hF.len q hq
    · rw [List.mem_singleton.mp hq]; exact allP_mem n p hp
theorem kB_ok {a b c : Int} {m n k : Nat} (n1 : 1 ≤ n) (n2 : n ≤ 5) (Bx : Box a b c (m + 85)) (x5 x6 x7 x8 x9 x10 : Slot) (d : Nat) : ∃ F y6 y7 sr' a' c', evB (run prog kws (d + 3)) kws kB (lE n k x5 x6 x7 x8 x9 x10) (sto sr a b c) = .ok .nx (lE n k (.own (.lst (lotU F))) y6 y7 x8 x9 x10) (sto sr' a' b c') ∧ Box a' b c' m ∧ Fnd n F := by
  obtain ⟨hM, hN⟩ := allP_len n (by omega)
  obtain ⟨t, a1, c1, f1, e1, t1, B1⟩ := take_v (sr := sr) (d := d + 2) (ρ := lE n k x5 x6 x7 x8 x9 x10) (t := 3) (f := false) (e := .con (.int 3)) (m := m + 84) rfl (by simp only [evE]) Bx (by omega) (by omega)
  obtain ⟨qs, sr', a2, c2, e2, B2, hq⟩ := parts_ok (sr := sr) (m := m + 4) B1 n (1 + t) (by omega) (by omega) (by omega) d
  have s1 : evS (run prog kws (d + 3)) kws (.asg [] 6 false (.call 49 (.cons (.var 0) (.cons (.var 1) (.cons (.op .add (.con (.int 1)) (.call 37 (.cons (.var 0) (.cons (.con (.int 3)) .nil)))) .nil))))) (lE n k x5 x6 x7 x8 x9 x10) (sto sr a b c) = .ok .nx (lE n k x5 (.sh (.tup (partsU qs))) x7 x8 x9 x10) (sto sr' a2 b c2) := by
    refine evS_asg' (v := ⟨.tup (partsU qs), false⟩) ((ev_call (evA_cons (ev_var (u := .ref 0) rfl) (evA_cons (ev_var (u := .int n) rfl) (evA_cons (v := ⟨.int ((1 + t : Nat) : Int), false⟩) (ev_op (v := ⟨.int 1, false⟩) (s1 := sto sr a b c) (by simp only [evE]) e1 ?_) evA_nil)))).trans e2) rfl
    simp only [x_add]
    rw [show (1 : Int) + (t : Int) = ((1 + t : Nat) : Int) by omega]
  obtain ⟨p, hp, a3, c3, e3, B3⟩ := of_ok (sr := sr') (m := m + 3) (u := .lst (lotU (allP n))) (B2.mono (by omega)) (.inl rfl) hN (by omega) (d + 1)
  obtain ⟨F, e4, f0, fl, f20⟩ := box_by_ok (n := n) (p := p) (qs := qs) (allP_mem n p hp) n1 (by omega) (by omega) (d + 1) (sto sr' a3 b c3)
  have s2 : evS (run prog kws (d + 3)) kws (.asg [] 5 true (.bi .list (.cons (.call 48 (.cons (.call 39 (.cons (.var 0) (.cons (.var 4) .nil))) (.cons (.var 6) .nil))) .nil))) (lE n k x5 (.sh (.tup (partsU qs))) x7 x8 x9 x10) (sto sr' a2 b c2) = .ok .nx (lE n k (.own (.lst (lotU F))) (.sh (.tup (partsU qs))) x7 x8 x9 x10) (sto sr' a3 b c3) := by
    refine evS_asg' (v := ⟨.lst (lotU F), true⟩) (ev_bi1 (v := ⟨.tup (lotU F), false⟩) ((ev_call (evA_cons (v := ⟨pl p, false⟩) ((ev_call (evA_cons (ev_var (u := .ref 0) rfl) (evA_cons (ev_var (u := .lst (lotU (allP n))) rfl) evA_nil))).trans e3) (evA_cons (ev_var (u := .tup (partsU qs)) rfl) evA_nil))).trans e4) rfl) rfl
  obtain ⟨w, a4, c4, f4, e5, w1, B4⟩ := take_v (sr := sr') (d := d + 2) (ρ := lE n k (.own (.lst (lotU F))) (.sh (.tup (partsU qs))) x7 x8 x9 x10) (t := 3) (f := false) (e := .con (.int 3)) (m := m + 2) rfl (by simp only [evE]) B3 (by omega) (by omega)
  have s3 : evS (run prog kws (d + 3)) kws (.asg [] 7 false (.call 37 (.cons (.var 0) (.cons (.con (.int 3)) .nil)))) (lE n k (.own (.lst (lotU F))) (.sh (.tup (partsU qs))) x7 x8 x9 x10) (sto sr' a3 b c3) = .ok .nx (lE n k (.own (.lst (lotU F))) (.sh (.tup (partsU qs))) (.sh (.int w)) x8 x9 x10) (sto sr' a4 b c4) := evS_asg' e5 (by cases f4 <;> rfl)
  have hF : Fnd n F := ⟨f0, fl, by omega⟩
  have k1 : ∃ F' a5 c5, evS (run prog kws (d + 3)) kws (.ife [] (.and (.cmp .eq (.var 7) (.con (.int 1))) (.cmp .gt (.bi .len (.cons (.peek 5) .nil)) (.con (.int 1)))) kPop .nil) (lE n k (.own (.lst (lotU F))) (.sh (.tup (partsU qs))) (.sh (.int w)) x8 x9 x10) (sto sr' a4 b c4) = .ok .nx (lE n k (.own (.lst (lotU F'))) (.sh (.tup (partsU qs))) (.sh (.int w)) x8 x9 x10) (sto sr' a5 b c5) ∧ Box a5 b c5 (m + 1) ∧ F'.length ≤ 20 ∧ Fnd n F' := by
    have t1 : evE (run prog kws (d + 3)) kws (.cmp .eq (.var 7) (.con (.int 1))) (lE n k (.own (.lst (lotU F))) (.sh (.tup (partsU qs))) (.sh (.int w)) x8 x9 x10) (sto sr' a4 b c4) = .ok ⟨.bl ((w : Int) == 1), false⟩ (sto sr' a4 b c4) := ev_cmp (v2 := ⟨.int 1, false⟩) (ev_var (u := .int w) rfl) (by simp only [evE]) (x_eq _ _)
    have t2 : evE (run prog kws (d + 3)) kws (.cmp .gt (.bi .len (.cons (.peek 5) .nil)) (.con (.int 1))) (lE n k (.own (.lst (lotU F))) (.sh (.tup (partsU qs))) (.sh (.int w)) x8 x9 x10) (sto sr' a4 b c4) = .ok ⟨.bl (decide ((1 : Int) < F.length)), false⟩ (sto sr' a4 b c4) := by
      simp only [evE, evA, lE, look, x_bind, biV, x_ofO, lot_len, x_gt]
    cases hw : ((w : Int) == 1)
    · rw [hw] at t1
      exact ⟨F, a4, c4, (evS_ifF (fz := []) (ev_andF t1 rfl) rfl).trans evB_nil, B4.mono (by omega), f20, hF⟩
    · rw [hw] at t1
      by_cases h1 : 1 < F.length
      · obtain ⟨F', a5, c5, e6, B5, l5, h5⟩ := kPop_ok (sr := sr') (k := k) (m := m + 1) B4 hF h1 (.sh (.tup (partsU qs))) (.sh (.int w)) x8 x9 x10 d
        exact ⟨F', a5, c5, (evS_ifT (fz := []) ((ev_andT t1 rfl).trans t2) (by rw [decide_eq_true (by omega)]; rfl)).trans e6, B5, by omega, h5⟩
      · exact ⟨F, a4, c4, (evS_ifF (fz := []) ((ev_andT t1 rfl).trans t2) (by rw [decide_eq_false (by omega)]; rfl)).trans evB_nil, B4.mono (by omega), f20, hF⟩
  obtain ⟨F2, a5, c5, s4, B5, l5, h5⟩ := k1
  have k2 : ∃ F' a6 c6, evS (run prog kws (d + 3)) kws (.ife [] (.cmp .eq (.var 7) (.con (.int 2))) kApp .nil) (lE n k (.own (.lst (lotU F2))) (.sh (.tup (partsU qs))) (.sh (.int w)) x8 x9 x10) (sto sr' a5 b c5) = .ok .nx (lE n k (.own (.lst (lotU F'))) (.sh (.tup (partsU qs))) (.sh (.int w)) x8 x9 x10) (sto sr' a6 b c6) ∧ Box a6 b c6 m ∧ Fnd n F' := by
    have t1 : evE (run prog kws (d + 3)) kws (.cmp .eq (.var 7) (.con (.int 2))) (lE n k (.own (.lst (lotU F2))) (.sh (.tup (partsU qs))) (.sh (.int w)) x8 x9 x10) (sto sr' a5 b c5) = .ok ⟨.bl ((w : Int) == 2), false⟩ (sto sr' a5 b c5) := ev_cmp (v2 := ⟨.int 2, false⟩) (ev_var (u := .int w) rfl) (by simp only [evE]) (x_eq _ _)
    cases hw : ((w : Int) == 2)
    · rw [hw] at t1
      exact ⟨F2, a5, c5, (evS_ifF (fz := []) t1 rfl).trans evB_nil, B5.mono (by omega), h5⟩
    · rw [hw] at t1
      obtain ⟨F', a6, c6, e6, B6, h6⟩ := kApp_ok (sr := sr') (k := k) n1 n2 B5 h5 (by omega) (.sh (.tup (partsU qs))) (.sh (.int w)) x8 x9 x10 d
      exact ⟨F', a6, c6, (evS_ifT (fz := []) t1 rfl).trans e6, B6, h6⟩
  obtain ⟨F3, a6, c6, s5, B6, h6⟩ := k2
  exact ⟨F3, _, _, sr', a6, c6, (evB_nx s1).trans ((evB_nx s2).trans ((evB_nx s3).trans ((evB_nx s4).trans ((evB_nx s5).trans evB_nil)))), B6, h6⟩
end
end K03

end
section
set_option Elab.async false
set_option linter.all false
set_option maxRecDepth 100000
set_option maxHeartbeats 2000000
namespace K03
open Ev PySem
section
variable {sr : Sto}
def kC : B := .cons (.asg [] 8 false (.call 37 (.cons (.var 0) (.cons (.op .add (.var 1) (.con (.int 1))) .nil)))) (.cons (.asg [] 5 true (.comp [10] (.nm 10) (.seq (.var 4)) (.cmp .eq (.bi .sum (.cons (.var 10) .nil)) (.var 8)) (.var 10))) (.cons (.asg [] 9 false (.call 40 (.cons (.var 0) (.cons (.bi .listRange (.cons (.var 1) .nil)) (.cons (.call 37 (.cons (.var 0) (.cons (.op .add (.var 1) (.con (.int 1))) .nil))) .nil))))) (.cons (.asg [] 5 true (.op .add (.comp [10] (.nm 10) (.seq (.peek 5)) (.con (.bl true)) (.call 47 (.cons (.var 10) (.cons (.var 9) .nil)))) (.call 40 (.cons (.var 0) (.cons (.var 4) (.cons (.call 37 (.cons (.var 0) (.cons (.con (.int 2)) .nil))) .nil)))))) .nil)))
theorem sum_pl (p : List Bool) : biV .sum [pl p] = some ⟨.int (ib p).sum, false⟩ := by
  unfold pl
  rw [pl_ib]
  simp only [biV, intsU_map]
theorem filter_lot {F : CallF} {t : C} {ρ : Ev.Env} {i k : Nat} {w : List Nat} {s : Sto} {M : List (List Bool)} {q : List Bool → Bool} {u : U} (hi : look i ρ = .sh u) (hu : items u = some (lotU M)) (hl : M.length ≤ 100) (hk : ∀ p ∈ M, look k (put k (.sh (pl p)) (wipeE w ρ)) = .sh (pl p))
    (ht : ∀ p ∈ M, evE F kws t (put k (.sh (pl p)) (wipeE w ρ)) s = .ok ⟨.bl (q p), false⟩ s) : evE F kws (.comp w (.nm k) (.seq (.var i)) t (.var k)) ρ s = .ok ⟨.lst (lotU (M.filter q)), true⟩ s := by
  let g : U → Option U := fun x => match x with | .tup bs => (if q (bs.map fun b => match b with | .int i => i == 1 | _ => false) then some x else none) | _ => none
  have hg : ∀ p : List Bool, g (pl p) = if q p then some (pl p) else none := fun p => by
    have e : (p.map bi).map (fun b => match b with | .int i => i == 1 | _ => false) = p := by
      rw [List.map_map]
      conv => rhs; rw [← List.map_id p]
      apply List.map_congr_left
      intro b _
      cases b <;> rfl
    show (if q ((p.map bi).map _) then some (pl p) else none) = _
    rw [e]
  have hii : evI F kws (.seq (.var i)) ρ s = .ok (lotU M) s := by simp only [evI, evE, hi, x_bind, hu, x_ofO]
  have key := ev_comp (F := F) (KW := kws) (w := w) (tg := .nm k) (t := t) (e := .var k) (g := g) hii (decide_eq_true (by rw [lot_len]; unfold lim; omega)) fun x hx => by
    obtain ⟨p, hp, rfl⟩ := lot_mem hx
    refine ⟨_, rfl, ⟨.bl (q p), false⟩, q p, ht p hp, rfl, ?_⟩
    rw [hg]
    cases q p
    · rfl
    · exact ⟨⟨pl p, false⟩, ev_var (hk p hp), rfl⟩
  refine key.trans ?_
  unfold lotU
  rw [fm_map]
  have e : (fun p : List Bool => g (pl p)) = fun p => if q p then some (pl p) else none := funext hg
  rw [e, fm_if]
theorem map_own {F : CallF} {e : C} {ρ : Ev.Env} {i k : Nat} {w : List Nat} {s : Sto} {M : List (List Bool)} {g : List Bool → List Bool} {u : U} (hi : look i ρ = .own u) (hu : items u = some (lotU M)) (hl : M.length ≤ 100)
    (he : ∀ p ∈ M, evE F kws e (put k (.sh (pl p)) (wipeE w ρ)) s = .ok ⟨pl (g p), false⟩ s) : evE F kws (.comp w (.nm k) (.seq (.peek i)) (.con (.bl true)) e) ρ s = .ok ⟨.lst (lotU (M.map g)), true⟩ s := by
  let h : U → U := fun x => match x with | .tup bs => pl (g (bs.map fun b => match b with | .int i => i == 1 | _ => false)) | _ => .non
  have hh : ∀ p : List Bool, h (pl p) = pl (g p) := fun p => by
    have e : (p.map bi).map (fun b => match b with | .int i => i == 1 | _ => false) = p := by
      rw [List.map_map]
      conv => rhs; rw [← List.map_id p]
      apply List.map_congr_left
      intro b _
      cases b <;> rfl
    show pl (g ((p.map bi).map _)) = _
    rw [e]
  have e1 : lotU (M.map g) = (lotU M).map h := by
    unfold lotU
    rw [List.map_map, List.map_map]
    exact List.map_congr_left fun p _ => (hh p).symm
  rw [e1]
  refine ev_cSm (v := ⟨u, false⟩) (by simp only [evE, hi]) hu (by rw [lot_len]; unfold lim; omega) fun x hx => ?_
  obtain ⟨p, hp, rfl⟩ := lot_mem hx
  refine ⟨_, rfl, false, ?_⟩
  rw [hh]
  exact he p hp
theorem kC_ok {a b c : Int} {m n k : Nat} (n1 : 1 ≤ n) (n2 : n ≤ 5) (Bx : Box a b c (m + 143)) (x5 x6 x7 x8 x9 x10 : Slot) (d : Nat) : ∃ F y8 y9 a' c', evB (run prog kws (d + 3)) kws kC (lE n k x5 x6 x7 x8 x9 x10) (sto sr a b c) = .ok .nx (lE n k (.own (.lst (lotU F))) x6 x7 y8 y9 x10) (sto sr a' b c') ∧ Box a' b c' m ∧ Fnd n F := by
  obtain ⟨hM, hN⟩ := allP_len n (by omega)
  have e0 : ∀ (x5 x6 x7 x8 x9 x10 : Slot) (s : Sto), evE (run prog kws (d + 3)) kws (.op .add (.var 1) (.con (.int 1))) (lE n k x5 x6 x7 x8 x9 x10) s = .ok ⟨.int ((n : Int) + 1), false⟩ s := fun x5 x6 x7 x8 x9 x10 s => ev_op (v2 := ⟨.int 1, false⟩) (ev_var (u := .int n) rfl) (by simp only [evE]) rfl
  obtain ⟨w, a1, c1, f1, e1, w1, B1⟩ := take_v (sr := sr) (d := d + 2) (ρ := lE n k x5 x6 x7 x8 x9 x10) (m := m + 142) rfl (e0 _ _ _ _ _ _ _) Bx (by omega) (by omega)
  have s1 : evS (run prog kws (d + 3)) kws (.asg [] 8 false (.call 37 (.cons (.var 0) (.cons (.op .add (.var 1) (.con (.int 1))) .nil)))) (lE n k x5 x6 x7 x8 x9 x10) (sto sr a b c) = .ok .nx (lE n k x5 x6 x7 (.sh (.int w)) x9 x10) (sto sr a1 b c1) := evS_asg' e1 (by cases f1 <;> rfl)
  have hw : w < n + 1 := by omega
  have s2 : evS (run prog kws (d + 3)) kws (.asg [] 5 true (.comp [10] (.nm 10) (.seq (.var 4)) (.cmp .eq (.bi .sum (.cons (.var 10) .nil)) (.var 8)) (.var 10))) (lE n k x5 x6 x7 (.sh (.int w)) x9 x10) (sto sr a1 b c1) = .ok .nx (lE n k (.own (.lst (lotU ((allP n).filter fun p => (ib p).sum == (w : Int))))) x6 x7 (.sh (.int w)) x9 x10) (sto sr a1 b c1) := by
    refine evS_asg' (v := ⟨.lst (lotU ((allP n).filter fun p => (ib p).sum == (w : Int))), true⟩) (filter_lot (u := .lst (lotU (allP n))) rfl rfl (by omega) (fun _ _ => rfl) fun p hp => ?_) rfl
    exact ev_cmp (ev_bi1 (ev_var (u := pl p) rfl) (sum_pl p)) (ev_var (u := .int w) rfl) (x_eq _ _)
  have hG0 : ((allP n).filter fun p => (ib p).sum == (w : Int)) ≠ [] := allP_sum n (by omega) w hw
  have hGm : ∀ p ∈ (allP n).filter (fun p => (ib p).sum == (w : Int)), p.length = n := fun p hp => allP_mem n p (List.mem_filter.mp hp).1
  have hGl : ((allP n).filter fun p => (ib p).sum == (w : Int)).length ≤ 32 := Nat.le_trans (List.length_filter_le _ _) hM
  generalize ((allP n).filter fun p => (ib p).sum == (w : Int)) = G at s2 hG0 hGm hGl
  obtain ⟨t, a2, c2, f2, e2, t1, B2⟩ := take_v (sr := sr) (d := d + 2) (ρ := lE n k (.own (.lst (lotU G))) x6 x7 (.sh (.int w)) x9 x10) (m := m + 141) rfl (e0 _ _ _ _ _ _ _) B1 (by omega) (by omega)
  obtain ⟨l, _, a3, c3, e3, B3, l3, p3⟩ := pick_ok (sr := sr) (m := m + 101) B2 (List.range n) (by rw [List.length_range]; omega) t (d + 1)
  have s3 : evS (run prog kws (d + 3)) kws (.asg [] 9 false (.call 40 (.cons (.var 0) (.cons (.bi .listRange (.cons (.var 1) .nil)) (.cons (.call 37 (.cons (.var 0) (.cons (.op .add (.var 1) (.con (.int 1))) .nil))) .nil))))) (lE n k (.own (.lst (lotU G))) x6 x7 (.sh (.int w)) x9 x10) (sto sr a1 b c1) = .ok .nx (lE n k (.own (.lst (lotU G))) x6 x7 (.sh (.int w)) (.sh (.lst (nU l))) x10) (sto sr a3 b c3) :=
    evS_asg' (v := ⟨.lst (nU l), true⟩) ((ev_call (evA_cons (ev_var (u := .ref 0) rfl) (evA_cons (ev_bi1 (ev_var (u := .int n) rfl) (range_nU n (by omega))) (evA_cons e2 evA_nil)))).trans e3) rfl
  have e4 : evE (run prog kws (d + 3)) kws (.comp [10] (.nm 10) (.seq (.peek 5)) (.con (.bl true)) (.call 47 (.cons (.var 10) (.cons (.var 9) .nil)))) (lE n k (.own (.lst (lotU G))) x6 x7 (.sh (.int w)) (.sh (.lst (nU l))) x10) (sto sr a3 b c3) = .ok ⟨.lst (lotU (G.map (tw · l))), true⟩ (sto sr a3 b c3) :=
    map_own (u := .lst (lotU G)) rfl rfl (by omega) fun p hp => (ev_call (evA_cons (ev_var (u := pl p) rfl) (evA_cons (ev_var (u := .lst (nU l)) rfl) evA_nil))).trans (law_turn_l (by rw [hGm p hp]; omega) (d + 2) _)
  obtain ⟨y, a4, c4, f4, e5, y1, B4⟩ := take_v (sr := sr) (d := d + 2) (ρ := lE n k (.own (.lst (lotU G))) x6 x7 (.sh (.int w)) (.sh (.lst (nU l))) x10) (t := 2) (f := false) (e := .con (.int 2)) (m := m + 100) rfl (by simp only [evE]) B3 (by omega) (by omega)
  obtain ⟨F, a5, c5, e6, B5, l5, h5⟩ := pick_lot (sr := sr) B4 (allP n) (by omega) y (d + 1)
  refine ⟨G.map (tw · l) ++ F, _, _, a5, c5, (evB_nx s1).trans ((evB_nx s2).trans ((evB_nx s3).trans ((evB_nx (evS_asg' (v := ⟨.lst (lotU (G.map (tw · l) ++ F)), true⟩) (ev_op e4 ((ev_call (evA_cons (ev_var (u := .ref 0) rfl) (evA_cons (ev_var (u := .lst (lotU (allP n))) rfl) (evA_cons e5 evA_nil)))).trans e6) ?_) rfl)).trans evB_nil))), B5, ⟨by simp [hG0], fun p hp => ?_, by rw [List.length_append, List.length_map, l5]; omega⟩⟩
  · have e : lotU (G.map (tw · l) ++ F) = lotU (G.map (tw · l)) ++ lotU F := by unfold lotU; rw [List.map_append]
    rw [e]
    exact x_cat (by rw [lot_len, lot_len, List.length_map, l5]; omega)
  · rcases List.mem_append.mp hp with hp | hp
    · obtain ⟨r, hr, rfl⟩ := List.mem_map.mp hp
      rw [tw_len]; exact hGm r hr
    · exact allP_mem n p (h5 p hp)
theorem lot_ok {a b c : Int} {m n : Nat} (n1 : 1 ≤ n) (n2 : n ≤ 5) (Bx : Box a b c (m + 300)) (d : Nat) : ∃ L sr' a' c', run prog kws (d + 4) 50 [.ref 0, .int n, .int 20] (sto sr a b c) = .ok ⟨.tup (lotU L), false⟩ (sto sr' a' b c') ∧ Box a' b c' m ∧ Lot n L ∧ L.length ≤ 20 := by
  rw [run_at (fd := d50) rfl rfl]
  obtain ⟨k, a1, c1, f1, e1, k1, B1⟩ := take_v (sr := sr) (d := d + 2) (ρ := [.sh (.ref 0), .sh (.int n), .sh (.int 20), .un, .un, .un, .un, .un, .un, .un, .un]) (t := 6) (f := false) (e := .con (.int 6)) (m := m + 299) rfl (by simp only [evE]) Bx (by omega) (by omega)
  have s1 : evS (run prog kws (d + 3)) kws (.par2 [] 3 false (.call 37 (.cons (.var 0) (.cons (.con (.int 6)) .nil))) 4 false (.call 46 (.cons (.var 1) .nil))) [.sh (.ref 0), .sh (.int n), .sh (.int 20), .un, .un, .un, .un, .un, .un, .un, .un] (sto sr a b c) = .ok .nx (lE n k .un .un .un .un .un .un) (sto sr a1 b c1) := by
    have e2 : evE (run prog kws (d + 3)) kws (.call 46 (.cons (.var 1) .nil)) [.sh (.ref 0), .sh (.int n), .sh (.int 20), .un, .un, .un, .un, .un, .un, .un, .un] (sto sr a1 b c1) = .ok ⟨.lst (lotU (allP n)), true⟩ (sto sr a1 b c1) := (ev_call (evA_cons (ev_var (u := .int n) rfl) evA_nil)).trans (every_all n n1 n2 (d + 1) _)
    simp only [evS, freeze, e1, x_st, e2]
    cases f1 <;> rfl
  have key : ∃ F x6 x7 x8 x9 x10 sr' a2 c2, evS (run prog kws (d + 3)) kws (.ife [] (.cmp .lt (.var 3) (.con (.int 3))) kA (.cons (.ife [] (.cmp .lt (.var 3) (.con (.int 5))) kB kC) .nil)) (lE n k .un .un .un .un .un .un) (sto sr a1 b c1) = .ok .nx (lE n k (.own (.lst (lotU F))) x6 x7 x8 x9 x10) (sto sr' a2 b c2) ∧ Box a2 b c2 (m + 100) ∧ Fnd n F := by
    have t1 : evE (run prog kws (d + 3)) kws (.cmp .lt (.var 3) (.con (.int 3))) (lE n k .un .un .un .un .un .un) (sto sr a1 b c1) = .ok ⟨.bl (decide ((k : Int) < 3)), false⟩ (sto sr a1 b c1) := ev_cmp (v2 := ⟨.int 3, false⟩) (ev_var (u := .int k) rfl) (by simp only [evE]) rfl
    have t2 : evE (run prog kws (d + 3)) kws (.cmp .lt (.var 3) (.con (.int 5))) (lE n k .un .un .un .un .un .un) (sto sr a1 b c1) = .ok ⟨.bl (decide ((k : Int) < 5)), false⟩ (sto sr a1 b c1) := ev_cmp (v2 := ⟨.int 5, false⟩) (ev_var (u := .int k) rfl) (by simp only [evE]) rfl
    by_cases h1 : (k : Int) < 3
    · obtain ⟨F, a2, c2, e, B2, hF⟩ := kA_ok (sr := sr) (k := k) (m := m + 100) n1 n2 (B1.mono (by omega)) .un .un .un .un .un .un d
      exact ⟨F, _, _, _, _, _, sr, a2, c2, (evS_ifT (fz := []) t1 (by rw [decide_eq_true h1]; rfl)).trans e, B2, hF⟩
    · by_cases h2 : (k : Int) < 5
      · obtain ⟨F, y6, y7, sr', a2, c2, e, B2, hF⟩ := kB_ok (sr := sr) (k := k) (m := m + 100) n1 n2 (B1.mono (by omega)) .un .un .un .un .un .un d
        exact ⟨F, _, _, _, _, _, sr', a2, c2, (evS_ifF (fz := []) t1 (by rw [decide_eq_false h1]; rfl)).trans ((evB_nx ((evS_ifT (fz := []) t2 (by rw [decide_eq_true h2]; rfl)).trans e)).trans evB_nil), B2, hF⟩
      · obtain ⟨F, y8, y9, a2, c2, e, B2, hF⟩ := kC_ok (sr := sr) (k := k) (m := m + 100) n1 n2 (B1.mono (by omega)) .un .un .un .un .un .un d
        exact ⟨F, _, _, _, _, _, sr, a2, c2, (evS_ifF (fz := []) t1 (by rw [decide_eq_false h1]; rfl)).trans ((evB_nx ((evS_ifF (fz := []) t2 (by rw [decide_eq_false h2]; rfl)).trans e)).trans evB_nil), B2, hF⟩
  obtain ⟨F, x6, x7, x8, x9, x10, sr', a2, c2, s2, B2, hF⟩ := key
  have hfew := hF.few
  have hsl := sortP_len F
  have hs0 : sortP F ≠ [] := by
    intro h0
    cases h : F with
    | nil => exact hF.ne h
    | cons p r =>
      have : p ∈ sortP F := mem_sortP.mpr (by rw [h]; exact List.mem_cons_self)
      rw [h0] at this
      cases this
  obtain ⟨G, a3, c3, e3, B3, l3, h3⟩ := pick_lot (sr := sr') (m := m) B2 (sortP F) (by omega) 20 (d + 1)
  have hpos : 0 < (sortP F).length := List.length_pos_iff.mpr hs0
  have hG0 : G ≠ [] := fun h => by rw [h] at l3; simp at l3; omega
  have hGl : ∀ p ∈ G, p.length = n := fun p hp => hF.len p (mem_sortP.mp (h3 p hp))
  have hG20 : G.length ≤ 20 := by omega
  refine ⟨sortP G, sr', a3, c3, ?_, B3, lot_sortP hG0 hGl n1 (by omega) (by omega), by have := sortP_len G; omega⟩
  refine congrArg Ev.finish ((evB_nx s1).trans ((evB_nx s2).trans (evB_ret (evS_ret (fz := []) (ev_bi1 (v := ⟨.lst (lotU (sortP G)), true⟩) (ev_bi1 (v := ⟨.lst (lotU G), true⟩) ?_ (sset_lot hG0 hGl n1 (by omega))) rfl)))))
  refine (ev_call (evA_cons (ev_var (u := .ref 0) rfl) (evA_cons (v := ⟨.lst (lotU (sortP F)), true⟩) (ev_bi1 (v := ⟨.lst (lotU F), false⟩) (s1 := sto sr' a2 b c2) ?_ (sset_lot hF.ne hF.len n1 (by omega))) (evA_cons (ev_var (u := .int ((20 : Nat) : Int)) rfl) evA_nil)))).trans e3
  simp only [lE, evE, freeze, look]
end
end K03

end
section
set_option Elab.async false
set_option linter.all false
set_option maxRecDepth 100000
set_option maxHeartbeats 2000000
namespace K03
open Ev PySem
section
variable {sr : Sto}
/-! ### drawn prices -/
def szs : List Int := [2, 3, 7, 3, 1000000, 100000000000]
theorem sz_expr (F : CallF) (ρ : Ev.Env) (s : Sto) : evE F kws (.lst (.cons (.con (.int 2)) (.cons (.con (.int 3)) (.cons (.con (.int 7)) (.cons (.con (.int 3)) (.cons (.op .pow (.con (.int 10)) (.con (.int 6))) (.cons (.op .pow (.con (.int 10)) (.con (.int 11))) .nil))))))) ρ s = .ok ⟨.lst (szs.map .int), true⟩ s := by kernel_rfl
theorem sz_small : ∀ z ∈ szs, 1 ≤ z ∧ z ≤ 100000000000 := by decide
theorem ints_of {P : Int → Prop} : ∀ {us ys : List U}, All2 (fun _ y => ∃ i : Int, y = .int i ∧ P i) us ys → ∃ r : List Int, ys = r.map .int ∧ r.length = us.length ∧ ∀ x ∈ r, P x
  | [], [], _ => ⟨[], rfl, rfl, fun x hx => nomatch hx⟩
  | x :: us, y :: ys, h => by
    obtain ⟨⟨k, rfl, hk⟩, h2⟩ := h
    obtain ⟨r, rfl, hl, hr⟩ := ints_of h2
    exact ⟨k :: r, rfl, by simp [hl], fun z hz => (List.mem_cons.mp hz).elim (fun e => by rw [e]; exact hk) (hr z)⟩
  | [], _ :: _, h => h.elim
  | _ :: _, [], h => h.elim
theorem cost_ok {a b c : Int} {m n : Nat} (n2 : n ≤ 40) (Bx : Box a b c (m + 81)) (d : Nat) : ∃ (cs : List Int) (a' c' : Int), run prog kws (d + 2) 51 [.ref 0, .int n] (sto sr a b c) = .ok ⟨.tup (cs.map .int), false⟩ (sto sr a' b c') ∧ Box a' b c' m ∧ cs.length = n ∧ ∀ x ∈ cs, x.natAbs ≤ 100000000000 := by
  rw [run_at (fd := d51) rfl rfl]
  obtain ⟨x, a1, c1, f1, e1, x1, B1⟩ := take_v (sr := sr) (d := d) (ρ := [.sh (.ref 0), .sh (.int n), .un, .un]) (t := 6) (f := false) (e := .con (.int 6)) (m := m + 80) rfl (by simp only [evE]) Bx (by omega) (by omega)
  have hx : x < szs.length := by show x < 6; omega
  obtain ⟨z, hz⟩ : ∃ z, szs[x] = z := ⟨_, rfl⟩
  have hz2 := sz_small z (by rw [← hz]; exact List.getElem_mem hx)
  have s1 : evS (run prog kws (d + 1)) kws (.asg [] 2 false (.ix (.lst (.cons (.con (.int 2)) (.cons (.con (.int 3)) (.cons (.con (.int 7)) (.cons (.con (.int 3)) (.cons (.op .pow (.con (.int 10)) (.con (.int 6))) (.cons (.op .pow (.con (.int 10)) (.con (.int 11))) .nil))))))) (.call 37 (.cons (.var 0) (.cons (.con (.int 6)) .nil))))) [.sh (.ref 0), .sh (.int n), .un, .un] (sto sr a b c) = .ok .nx [.sh (.ref 0), .sh (.int n), .sh (.int z), .un] (sto sr a1 b c1) :=
    evS_asg' (v := ⟨.int z, false⟩) (ev_ix (sz_expr _ _ _) e1 (getIx_lst (by rw [List.getElem?_map, List.getElem?_eq_getElem hx, hz]; rfl))) rfl
  have hi : ∀ s, evI (run prog kws (d + 1)) kws (.rng1 (.var 1)) [.sh (.ref 0), .sh (.int n), .sh (.int z), .un] s = .ok (nU (List.range n)) s := fun s => by
    simp only [evI, evE, look, x_bind]
    rw [decide_eq_true (show (n : Int) ≤ 1000000 by omega), decide_eq_true (show (-1000000 : Int) ≤ n by omega)]
    show RE.ok (rngU 0 n 1) _ = _
    rw [rngU_zero]
    rfl
  have hl : (nU (List.range n)).length = n := by rw [nU_len, List.length_range]
  obtain ⟨ys, a2, c2, e2, B2, q⟩ := ev_comp_box (sr := sr) (F := run prog kws (d + 1)) (KW := kws) (w := [3]) (tg := .nm 3) (e := .op .sub (.call 37 (.cons (.var 0) (.cons (.op .add (.op .mul (.con (.int 2)) (.var 2)) (.con (.int 1))) .nil))) (.var 2)) (fun _ y => ∃ i : Int, y = .int i ∧ i.natAbs ≤ 100000000000) (hi _) (decide_eq_true (by rw [hl]; unfold lim; omega)) (m := m) (B1.mono (by rw [hl]; omega)) fun x hx a c m B => by
    obtain ⟨k, _, rfl⟩ := nU_mem hx
    refine ⟨[.sh (.ref 0), .sh (.int n), .sh (.int z), .sh (.int k)], rfl, ?_⟩
    have e0 : evE (run prog kws (d + 1)) kws (.op .add (.op .mul (.con (.int 2)) (.var 2)) (.con (.int 1))) [.sh (.ref 0), .sh (.int n), .sh (.int z), .sh (.int k)] (sto sr a b c) = .ok ⟨.int (2 * z + 1), false⟩ (sto sr a b c) := by
      have m1 : mulOk 2 z = true := mul_small (by decide) (by omega)
      simp only [evE, look, x_bind, x_mul m1, x_ofO, x_add]
    obtain ⟨y, a3, c3, f3, e3, y1, B3⟩ := take_v (sr := sr) (d := d) (m := m) rfl e0 (B.mono (by omega)) (by omega) (by omega)
    exact ⟨⟨.int ((y : Int) - z), false⟩, a3, c3, ev_op e3 (ev_var (u := .int z) rfl) rfl, B3, _, rfl, by omega⟩
  obtain ⟨cs, rfl, l1, h1⟩ := ints_of q
  rw [hl] at l1
  exact ⟨cs, a2, c2, congrArg Ev.finish ((evB_nx s1).trans (evB_ret (evS_ret (fz := []) (ev_bi1 e2 rfl)))), B2, l1, h1⟩
end
/-- lists for tuples -/
theorem lists_lot (L : List (List Bool)) (hl : L.length ≤ 100) (hp : ∀ p ∈ L, p.length ≤ 100) (d : Nat) (s : Sto) : run prog kws (d + 3) 41 [.tup (lotU L)] s = .ok ⟨.lst (L.map pll), true⟩ s := by
  have e : L.map pll = (lotU L).map toL := by
    unfold lotU
    rw [List.map_map]
    rfl
  rw [e]
  refine lists_seq rfl (by rw [lot_len]; unfold lim; omega) (d + 2) s fun x hx => ?_
  obtain ⟨p, hpm, rfl⟩ := lot_mem hx
  refine ⟨true, ?_⟩
  have h := lists_seq (u := pl p) (us := p.map bi) (h := id) rfl (by have := hp p hpm; rw [List.length_map]; unfold lim; omega) (d + 1) s fun y hy => by
    obtain ⟨b, _, rfl⟩ := List.mem_map.mp hy
    exact ⟨false, int_self d _ s⟩
  rw [List.map_id] at h
  exact h
end K03

end
section
set_option Elab.async false
set_option linter.all false
set_option maxRecDepth 100000
set_option maxHeartbeats 2000000
namespace K03
open Ev PySem
/-! ### the plain law: which plans are best -/
theorem mem_worths {L : List (List Bool)} {c : List Int} {x : Int} : x ∈ worths L c ↔ ∃ p ∈ L, dot p c = x := by unfold worths; exact List.mem_map
theorem top_spec {L : List (List Bool)} {c : List Int} (h : L ≠ []) : (∃ p ∈ L, dot p c = topw L c) ∧ ∀ p ∈ L, dot p c ≤ topw L c := by
  cases L with
  | nil => exact absurd rfl h
  | cons p L =>
    obtain ⟨h1, h2, h3⟩ := Ev.maxI_spec (worths L c) (dot p c)
    have e : topw (p :: L) c = maxI (dot p c) (worths L c) := rfl
    rw [e]
    refine ⟨mem_worths.mp (show maxI (dot p c) (worths L c) ∈ worths (p :: L) c from h3), fun q hq => ?_⟩
    rcases List.mem_cons.mp hq with rfl | hq
    · exact h1
    · exact h2 _ (mem_worths.mpr ⟨q, hq, rfl⟩)
theorem mem_tops {L : List (List Bool)} {c : List Int} {p : List Bool} : p ∈ tops L c ↔ p ∈ L ∧ ∀ q ∈ L, dot q c ≤ dot p c := by
  unfold tops
  rw [List.mem_filter]
  constructor
  · rintro ⟨h, e⟩
    have e := eq_of_beq e
    have h0 : L ≠ [] := fun h0 => by rw [h0] at h; cases h
    exact ⟨h, fun q hq => by rw [e]; exact (top_spec h0).2 q hq⟩
  · rintro ⟨h, hm⟩
    have h0 : L ≠ [] := fun h0 => by rw [h0] at h; cases h
    obtain ⟨⟨q, hq, e⟩, h2⟩ := top_spec (c := c) h0
    refine ⟨h, ?_⟩
    have := hm q hq
    have := h2 p h
    have : dot p c = topw L c := by omega
    rw [this]; exact beq_self_eq_true _
theorem up_filter {L : List (List Bool)} (h : up L) (f : List Bool → Bool) : up (L.filter f) := List.Pairwise.sublist List.filter_sublist h
theorem up_tops {L : List (List Bool)} (h : up L) (c : List Int) : up (tops L c) := up_filter h _
theorem up_nodup {L : List (List Bool)} (h : up L) : L.Nodup := h.imp fun {a b} e e2 => by
  rw [e2, Ev.lex_self] at e
  cases e
theorem tops_ne {L : List (List Bool)} {c : List Int} (h : L ≠ []) : tops L c ≠ [] := by
  obtain ⟨⟨p, hp, e⟩, h2⟩ := top_spec (c := c) h
  intro h0
  have : p ∈ tops L c := mem_tops.mpr ⟨hp, fun q hq => by rw [e]; exact h2 q hq⟩
  rw [h0] at this; cases this
/-! ### prices that make one plan the only best -/
theorem dot_al : ∀ {p q : List Bool}, q.length = p.length → dot q (al p) ≤ dot p (al p) ∧ (q ≠ p → dot q (al p) < dot p (al p))
  | [], [], _ => ⟨Int.le_refl _, fun h => absurd rfl h⟩
  | a :: p, b :: q, h => by
    have ih := dot_al (p := p) (q := q) (by simpa using h)
    have e1 : dot (b :: q) (al (a :: p)) = (if b then 2 * b2i a - 1 else 0) + dot q (al p) := rfl
    have e2 : dot (a :: p) (al (a :: p)) = (if a then 2 * b2i a - 1 else 0) + dot p (al p) := rfl
    rw [e1, e2]
    have h1 := ih.1
    constructor
    · cases a <;> cases b <;> simp only [b2i, if_true, if_false, Bool.false_eq_true] <;> omega
    · intro hne
      by_cases e : q = p
      · subst e
        have : b ≠ a := fun e => hne (by rw [e])
        cases a <;> cases b <;> simp only [b2i, if_true, if_false, Bool.false_eq_true] <;> first | omega | exact absurd rfl this
      · have h2 := ih.2 e
        cases a <;> cases b <;> simp only [b2i, if_true, if_false, Bool.false_eq_true] <;> omega
  | [], _ :: _, h => by simp at h
  | _ :: _, [], h => by simp at h
theorem tops_al {n : Nat} {L : List (List Bool)} {p : List Bool} (hL : Lot n L) (hp : p ∈ L) : tops L (al p) = [p] := by
  refine up_eq (up_tops hL.up _) (List.pairwise_singleton _ _) fun q => ?_
  rw [mem_tops, List.mem_singleton]
  have hlen := hL.len p hp
  constructor
  · rintro ⟨hq, hm⟩
    refine Classical.byContradiction fun hne => ?_
    have := (dot_al (p := p) (q := q) (by rw [hL.len q hq, hlen])).2 hne
    have := hm p hp
    omega
  · rintro rfl
    exact ⟨hp, fun r hr => (dot_al (by rw [hL.len r hr, hlen])).1⟩
/-! ### prices that hold -/
theorem dot_set : ∀ (q : List Bool) (f : List Int) (k : Nat) (v : Int), k < f.length → q.length = f.length → dot q (f.set k v) = dot q f + (if bt q k then v - cAt f k else 0)
  | b :: q, x :: f, 0, v, _, _ => by
    show (if b then v else 0) + dot q f = (if b then x else 0) + dot q f + (if b then v - x else 0)
    cases b
    · simp
    · simp only [if_true]; omega
  | b :: q, x :: f, k + 1, v, h1, h2 => by
    have ih := dot_set q f k v (by simpa using h1) (by simpa using h2)
    show (if b then x else 0) + dot q (f.set k v) = (if b then x else 0) + dot q f + (if bt q k then v - cAt f k else 0)
    rw [ih]; omega
  | [], [], k, v, h, _ => by simp at h
  | [], _ :: _, _, _, _, h => by simp at h
  | _ :: _, [], _, _, h, _ => by simp at h
/-- how much a plan keeps of a hold -/
def S (q : List Bool) : List (Nat × Bool) → Int
  | [] => 0
  | (k, b) :: h => (if bt q k then (if b then 1 else -1) else 0) + S q h
def Sb : List (Nat × Bool) → Int
  | [] => 0
  | (_, b) :: h => (if b then 1 else 0) + Sb h
theorem S_kept (q : List Bool) : ∀ h : List (Nat × Bool), S q h ≤ Sb h ∧ (kept q h = true → S q h = Sb h) ∧ (kept q h = false → S q h + 1 ≤ Sb h)
  | [] => ⟨Int.le_refl _, fun _ => rfl, fun h => by cases h⟩
  | (k, b) :: h => by
    obtain ⟨h1, h2, h3⟩ := S_kept q h
    have e : kept q ((k, b) :: h) = ((bt q k == b) && kept q h) := rfl
    have e1 : S q ((k, b) :: h) = (if bt q k then (if b then 1 else -1) else 0) + S q h := rfl
    have e2 : Sb ((k, b) :: h) = (if b then 1 else 0) + Sb h := rfl
    rw [e, e1, e2]
    cases hb : bt q k <;> cases b <;> cases hk : kept q h <;> simp only [hk] at h2 h3 <;> simp_all <;> omega
theorem dot_hF (c : List Int) (q : List Bool) (hq : q.length = c.length) : ∀ (h : List (Nat × Bool)) (f : List Int), f.length = c.length → (hp h).Nodup → (∀ x ∈ h, x.1 < c.length ∧ cAt f x.1 = cAt c x.1) → dot q (hF c h f) = dot q f + most c * S q h
  | [], f, _, _, _ => by show dot q f = dot q f + most c * 0; simp
  | (k, b) :: h, f, hf, hn, hx => by
    have hn' := List.nodup_cons.mp (show (k :: hp h).Nodup from hn)
    have hk := hx (k, b) List.mem_cons_self
    have ih := dot_hF c q hq h (f.set k (cAt c k + sg b (most c))) (by rw [List.length_set]; exact hf) hn'.2 fun x hm => by
      have := hx x (List.mem_cons_of_mem _ hm)
      refine ⟨this.1, ?_⟩
      have hne : k ≠ x.1 := fun e => hn'.1 (List.mem_map.mpr ⟨x, hm, e.symm⟩)
      rw [← this.2]
      unfold cAt
      rw [List.getElem?_set_ne hne]
    show dot q (hF c h (f.set k _)) = _
    rw [ih, dot_set q f k _ (by rw [hf]; exact hk.1) (by rw [hf]; exact hq)]
    have e1 : S q ((k, b) :: h) = (if bt q k then (if b then 1 else -1) else 0) + S q h := rfl
    rw [e1, Int.mul_add, hk.2]
    cases bt q k <;> cases b <;> simp [sg] <;> omega
theorem dot_gap : ∀ (q r : List Bool) (c : List Int), q.length = c.length → r.length = c.length → dot q c ≤ dot r c + absS c
  | [], [], [], _, _ => by simp [dot, absS]
  | a :: q, b :: r, x :: c, h1, h2 => by
    have ih := dot_gap q r c (by simpa using h1) (by simpa using h2)
    have e1 : dot (a :: q) (x :: c) = (if a then x else 0) + dot q c := rfl
    have e2 : dot (b :: r) (x :: c) = (if b then x else 0) + dot r c := rfl
    have e3 : absS (x :: c) = (if x < 0 then -x else x) + absS c := by unfold absS; rw [List.map_cons, List.sum_cons]
    rw [e1, e2, e3]
    by_cases hx : x < 0
    · rw [if_pos hx]; cases a <;> cases b <;> simp only [if_true, if_false, Bool.false_eq_true] <;> omega
    · rw [if_neg hx]; cases a <;> cases b <;> simp only [if_true, if_false, Bool.false_eq_true] <;> omega
  | [], [], _ :: _, h, _ => by simp at h
  | _ :: _, _, [], h, _ => by simp at h
  | [], _ :: _, [], _, h => by simp at h
  | [], _ :: _, _ :: _, h, _ => by simp at h
  | _ :: _, [], _ :: _, _, h => by simp at h
theorem tops_held {n : Nat} {L : List (List Bool)} {c : List Int} {h : List (Nat × Bool)} (hL : Lot n L) (hc : c.length = n) (hn : (hp h).Nodup) (hk : ∀ x ∈ h, x.1 < n) (h0 : L.filter (fun p => kept p h) ≠ []) : tops L (hF c h c) = tops (L.filter fun p => kept p h) c := by
  have hd : ∀ q ∈ L, dot q (hF c h c) = dot q c + most c * S q h := fun q hq => dot_hF c q (by rw [hL.len q hq, hc]) h c rfl hn fun x hx => ⟨by rw [hc]; exact hk x hx, rfl⟩
  have hab : ∀ c : List Int, 0 ≤ absS c := by
    intro c
    induction c with
    | nil => exact Int.le_refl _
    | cons x c ih =>
      have e3 : absS (x :: c) = (if x < 0 then -x else x) + absS c := by unfold absS; rw [List.map_cons, List.sum_cons]
      rw [e3]; split <;> omega
  have h1 : 1 ≤ most c := by unfold most; have := hab c; omega
  have hgap : ∀ q ∈ L, ∀ r ∈ L, dot q c < dot r c + most c := fun q hq r hr => by
    have := dot_gap q r c (by rw [hL.len q hq, hc]) (by rw [hL.len r hr, hc])
    unfold most; omega
  obtain ⟨r0, hr0⟩ := List.exists_mem_of_ne_nil _ h0
  obtain ⟨hr0L, hr0k⟩ := List.mem_filter.mp hr0
  have hs0 := (S_kept r0 h).2.1 hr0k
  refine up_eq (up_tops hL.up _) (up_tops (up_filter hL.up _) _) fun p => ?_
  rw [mem_tops, mem_tops, List.mem_filter]
  constructor
  · rintro ⟨hp, hm⟩
    have hkp : kept p h = true := by
      cases hkk : kept p h with
      | true => rfl
      | false =>
        exfalso
        have h3 := (S_kept p h).2.2 hkk
        have h4 := hm r0 hr0L
        rw [hd r0 hr0L, hd p hp, hs0] at h4
        have h5 := hgap p hp r0 hr0L
        have h6 : most c * (S p h + 1) ≤ most c * Sb h := Int.mul_le_mul_of_nonneg_left h3 (by omega)
        rw [Int.mul_add, Int.mul_one] at h6
        omega
    refine ⟨⟨hp, hkp⟩, fun q hq => ?_⟩
    obtain ⟨hqL, hqk⟩ := List.mem_filter.mp hq
    have h4 := hm q hqL
    rw [hd q hqL, hd p hp, (S_kept q h).2.1 hqk, (S_kept p h).2.1 hkp] at h4
    omega
  · rintro ⟨⟨hp, hkp⟩, hm⟩
    refine ⟨hp, fun q hq => ?_⟩
    rw [hd q hq, hd p hp, (S_kept p h).2.1 hkp]
    cases hqk : kept q h with
    | true =>
      have := hm q (List.mem_filter.mpr ⟨hq, hqk⟩)
      rw [(S_kept q h).2.1 hqk]; omega
    | false =>
      have h3 := (S_kept q h).2.2 hqk
      have h5 := hgap q hq p hp
      have h6 : most c * (S q h + 1) ≤ most c * Sb h := Int.mul_le_mul_of_nonneg_left h3 (by omega)
      rw [Int.mul_add, Int.mul_one] at h6
      omega
/-! ### sums of prices -/
theorem dot_aC : ∀ (q : List Bool) (c e : List Int), e.length = c.length → dot q (aC c e) = dot q c + dot q e
  | [], _, _, _ => by simp [dot]
  | b :: q, [], [], _ => rfl
  | b :: q, x :: c, y :: e, h => by
    have ih := dot_aC q c e (by simpa using h)
    show (if b then x + y else 0) + dot q (aC c e) = ((if b then x else 0) + dot q c) + ((if b then y else 0) + dot q e)
    rw [ih]
    cases b <;> simp only [if_true, if_false, Bool.false_eq_true] <;> omega
  | _ :: _, [], _ :: _, h => by simp at h
  | _ :: _, _ :: _, [], h => by simp at h
theorem tops_both {n : Nat} {L : List (List Bool)} {c e : List Int} (hL : Lot n L) (he : e.length = c.length) (h0 : (tops L c).filter (fun p => decide (p ∈ tops L e)) ≠ []) : tops L (aC c e) = (tops L c).filter fun p => decide (p ∈ tops L e) := by
  obtain ⟨r, hr⟩ := List.exists_mem_of_ne_nil _ h0
  obtain ⟨h1, h2⟩ := List.mem_filter.mp hr
  obtain ⟨rL, r1⟩ := mem_tops.mp h1
  obtain ⟨_, r2⟩ := mem_tops.mp (of_decide_eq_true h2)
  refine up_eq (up_tops hL.up _) (up_filter (up_tops hL.up _) _) fun p => ?_
  rw [mem_tops, List.mem_filter, decide_eq_true_iff, mem_tops, mem_tops]
  constructor
  · rintro ⟨hp, hm⟩
    have := hm r rL
    rw [dot_aC _ _ _ he, dot_aC _ _ _ he] at this
    have := r1 p hp
    have := r2 p hp
    exact ⟨⟨hp, fun q hq => by have := r1 q hq; omega⟩, hp, fun q hq => by have := r2 q hq; omega⟩
  · rintro ⟨⟨hp, a1⟩, _, a2⟩
    refine ⟨hp, fun q hq => ?_⟩
    rw [dot_aC _ _ _ he, dot_aC _ _ _ he]
    have := a1 q hq
    have := a2 q hq
    omega
end K03

end
section
set_option Elab.async false
set_option linter.all false
set_option maxRecDepth 100000
set_option maxHeartbeats 2000000
namespace K03
open Ev PySem
/-! ### turned and moved lots -/
def sumL (l : List Nat) (f : Nat → Int) : Int := (l.map f).sum
theorem sumL_add (l : List Nat) (f g : Nat → Int) : sumL l (fun k => f k + g k) = sumL l f + sumL l g := by
  unfold sumL
  induction l with
  | nil => rfl
  | cons x l ih => simp only [List.map_cons, List.sum_cons, ih]; omega
theorem sumL_perm {l m : List Nat} (h : l.Perm m) (f : Nat → Int) : sumL l f = sumL m f := by
  unfold sumL
  induction h with
  | nil => rfl
  | cons x _ ih => simp only [List.map_cons, List.sum_cons, ih]
  | swap x y l => simp only [List.map_cons, List.sum_cons]; omega
  | trans _ _ h1 h2 => rw [h1, h2]
theorem sumL_congr {l : List Nat} {f g : Nat → Int} (h : ∀ k ∈ l, f k = g k) : sumL l f = sumL l g := by
  unfold sumL
  rw [List.map_congr_left h]
theorem dot_map (l : List Nat) (f : Nat → Bool) (g : Nat → Int) : dot (l.map f) (l.map g) = sumL l fun k => if f k then g k else 0 := by
  unfold sumL
  induction l with
  | nil => rfl
  | cons x l ih =>
    show (if f x then g x else 0) + dot (l.map f) (l.map g) = _
    rw [ih, List.map_cons, List.sum_cons]
theorem p_range (p : List Bool) : p = (List.range p.length).map (bt p) := bt_ext (by simp) fun k hk => by rw [bt_range hk]
theorem c_range (c : List Int) : c = (List.range c.length).map (cAt c) := by
  refine List.ext_getElem? fun k => ?_
  by_cases hk : k < c.length
  · rw [List.getElem?_map, List.getElem?_range hk, List.getElem?_eq_getElem hk]
    show _ = some (cAt c k)
    unfold cAt
    rw [List.getElem?_eq_getElem hk]
    rfl
  · rw [List.getElem?_eq_none (by omega), List.getElem?_eq_none (by simp; omega)]
theorem dot_sum {p : List Bool} {c : List Int} {n : Nat} (hp : p.length = n) (hc : c.length = n) : dot p c = sumL (List.range n) fun k => if bt p k then cAt c k else 0 := by
  rw [← dot_map]
  conv => lhs; rw [p_range p, c_range c, hp, hc]
theorem dot_tw {p : List Bool} {c : List Int} {ps : List Nat} {n : Nat} (hp : p.length = n) (hc : c.length = n) : dot (tw p ps) (tC c ps) = dot p c + sumL (List.range n) fun k => if decide (k ∈ ps) then -cAt c k else 0 := by
  unfold tw tC
  rw [hp, hc, dot_map, dot_sum hp hc, ← sumL_add]
  refine sumL_congr fun k _ => ?_
  cases decide (k ∈ ps) <;> cases bt p k <;> simp <;> omega
theorem dot_fP {p : List Bool} {c : List Int} {l : List Nat} {n : Nat} (hp : p.length = n) (hc : c.length = n) (hl : l.Perm (List.range n)) : dot (fP p l) (fC c l) = dot p c + 0 := by
  unfold fP fC
  rw [dot_map, dot_sum hp hc, sumL_perm hl, Int.add_zero]
theorem tw_inj {p q : List Bool} {ps : List Nat} (h : p.length = q.length) (e : tw p ps = tw q ps) : p = q := by
  refine bt_ext h fun k hk => ?_
  have e1 : bt (tw p ps) k = bt (tw q ps) k := by rw [e]
  unfold tw at e1
  rw [bt_range hk, bt_range (by omega)] at e1
  cases hd : decide (k ∈ ps) <;> rw [hd] at e1 <;> simpa using e1
theorem fP_inj {p q : List Bool} {l : List Nat} {n : Nat} (hp : p.length = n) (hq : q.length = n) (hl : l.Perm (List.range n)) (e : fP p l = fP q l) : p = q := by
  refine bt_ext (by omega) fun k hk => ?_
  have hk : k ∈ l := hl.mem_iff.mpr (List.mem_range.mpr (by omega))
  exact List.map_inj_left.mp e k hk
theorem tops_map {n : Nat} {L : List (List Bool)} {g : List Bool → List Bool} {c c2 : List Int} {K : Int} (hL : Lot n L) (hg : ∀ p ∈ L, dot (g p) c2 = dot p c + K) (inj : ∀ p ∈ L, ∀ q ∈ L, g p = g q → p = q) : tops (sortP (L.map g)) c2 = sortQ ((tops L c).map g) := by
  have hnd : ((tops L c).map g).Nodup := by
    unfold List.Nodup
    rw [List.pairwise_map]
    exact (List.Pairwise.and_mem.mp (up_nodup (up_tops hL.up c))).imp fun {a b} h e => h.2.2 (inj a (mem_tops.mp h.1).1 b (mem_tops.mp h.2.1).1 e)
  refine up_eq (up_tops (up_sortP _) _) (up_sortQ hnd) fun p => ?_
  rw [mem_tops, mem_sortQ, mem_sortP]
  constructor
  · rintro ⟨hp, hm⟩
    obtain ⟨r, hr, rfl⟩ := List.mem_map.mp hp
    refine List.mem_map.mpr ⟨r, mem_tops.mpr ⟨hr, fun q hq => ?_⟩, rfl⟩
    have := hm (g q) (mem_sortP.mpr (List.mem_map_of_mem hq))
    rw [hg q hq, hg r hr] at this
    omega
  · intro hp
    obtain ⟨r, hr, rfl⟩ := List.mem_map.mp hp
    obtain ⟨hrL, hm⟩ := mem_tops.mp hr
    refine ⟨List.mem_map_of_mem hrL, fun q hq => ?_⟩
    obtain ⟨s, hs, rfl⟩ := List.mem_map.mp (mem_sortP.mp hq)
    rw [hg s hs, hg r hrL]
    have := hm s hs
    omega
theorem tops_turned {n : Nat} {L : List (List Bool)} {c : List Int} {ps : List Nat} (hL : Lot n L) (hc : c.length = n) : tops (sortP (L.map (tw · ps))) (tC c ps) = sortQ ((tops L c).map (tw · ps)) :=
  tops_map hL (fun p hp => dot_tw (hL.len p hp) hc) fun p hp q hq e => tw_inj (by rw [hL.len p hp, hL.len q hq]) e
theorem tops_moved {n : Nat} {L : List (List Bool)} {c : List Int} {l : List Nat} (hL : Lot n L) (hc : c.length = n) (hl : l.Perm (List.range n)) : tops (sortP (L.map (fP · l))) (fC c l) = sortQ ((tops L c).map (fP · l)) :=
  tops_map hL (fun p hp => dot_fP (hL.len p hp) hc hl) fun p hp q hq e => fP_inj (hL.len p hp) (hL.len q hq) hl e
/-! ### sizes -/
theorem abs_bound : ∀ (c : List Int) (B : Nat), (∀ x ∈ c, x.natAbs ≤ B) → absS c ≤ (c.length * B : Nat) ∧ 0 ≤ absS c
  | [], B, _ => by simp [absS]
  | x :: c, B, h => by
    have ih := abs_bound c B fun y hy => h y (List.mem_cons_of_mem _ hy)
    have hx := h x List.mem_cons_self
    have e3 : absS (x :: c) = (if x < 0 then -x else x) + absS c := by unfold absS; rw [List.map_cons, List.sum_cons]
    rw [e3, List.length_cons, Nat.succ_mul]
    split <;> omega
theorem Sm.of {c : List Int} (h : ∀ x ∈ c, x.natAbs ≤ 2 ^ 99) : Sm c := fun x hx => by
  have := h x hx
  have : (2 : Nat) ^ 99 < 2 ^ 100 := by decide
  omega
theorem sm_al (p : List Bool) : Sm (al p) := Sm.of fun x hx => by
  obtain ⟨b, _, rfl⟩ := List.mem_map.mp hx
  have : (1 : Nat) ≤ 2 ^ 99 := by decide
  cases b <;> simp [b2i] <;> omega
theorem cAt_mem {c : List Int} {k : Nat} (hk : k < c.length) : cAt c k ∈ c := by
  unfold cAt
  rw [List.getElem?_eq_getElem hk]
  exact List.getElem_mem hk
theorem sm_tC {c : List Int} {ps : List Nat} (h : Sm c) : Sm (tC c ps) := fun x hx => by
  obtain ⟨k, hk, rfl⟩ := List.mem_map.mp hx
  have := h _ (cAt_mem (List.mem_range.mp hk))
  show (if decide (k ∈ ps) then -cAt c k else cAt c k).natAbs < _
  split <;> omega
theorem sm_fC {c : List Int} {l : List Nat} (h : Sm c) (hl : ∀ k ∈ l, k < c.length) : Sm (fC c l) := fun x hx => by
  obtain ⟨k, hk, rfl⟩ := List.mem_map.mp hx
  exact h _ (cAt_mem (hl k hk))
theorem aC_mem : ∀ {c e : List Int} {x : Int}, x ∈ aC c e → ∃ y ∈ c, ∃ z ∈ e, x = y + z
  | [], e, x, h => by simp [aC] at h
  | y :: c, [], x, h => by simp [aC] at h
  | y :: c, z :: e, x, h => by
    rcases List.mem_cons.mp (show x ∈ (y + z) :: aC c e from h) with rfl | h
    · exact ⟨y, List.mem_cons_self, z, List.mem_cons_self, rfl⟩
    · obtain ⟨a, ha, b, hb, e⟩ := aC_mem h
      exact ⟨a, List.mem_cons_of_mem _ ha, b, List.mem_cons_of_mem _ hb, e⟩
/-- drawn prices -/
def Dn (n : Nat) (c : List Int) : Prop := c.length = n ∧ ∀ x ∈ c, x.natAbs ≤ 100000000000
theorem Dn.sm {n : Nat} {c : List Int} (h : Dn n c) : Sm c := Sm.of fun x hx => by
  have := h.2 x hx
  have : (100000000000 : Nat) ≤ 2 ^ 99 := by decide
  omega
theorem sm_aC {n : Nat} {c e : List Int} (h1 : Dn n c) (h2 : Dn n e) : Sm (aC c e) := Sm.of fun x hx => by
  obtain ⟨y, hy, z, hz, rfl⟩ := aC_mem hx
  have := h1.2 y hy
  have := h2.2 z hz
  have : (200000000000 : Nat) ≤ 2 ^ 99 := by decide
  omega
theorem most_small {n : Nat} {c : List Int} (hn : n ≤ 40) (h : Dn n c) : 0 ≤ most c ∧ most c ≤ 1 + 40 * 100000000000 := by
  have := abs_bound c 100000000000 h.2
  rw [h.1] at this
  have h2 : n * 100000000000 ≤ 40 * 100000000000 := Nat.mul_le_mul_right _ hn
  unfold most
  omega
theorem sm_hF {n : Nat} {c : List Int} {h : List (Nat × Bool)} (hn : n ≤ 40) (hc : Dn n c) (hnd : (hp h).Nodup) : Sm (hF c h c) := by
  rw [own_eq c h hnd]
  refine Sm.of fun x hx => ?_
  obtain ⟨k, hk, rfl⟩ := List.mem_map.mp hx
  have h1 := hc.2 _ (cAt_mem (List.mem_range.mp hk))
  obtain ⟨h2, h3⟩ := most_small hn hc
  have h4 : (10000000000000 : Nat) ≤ 2 ^ 99 := by decide
  show (cAt c k + (match hv h k with | some b => most c * (2 * b2i b - 1) | none => 0)).natAbs ≤ _
  cases hv h k with
  | none => simp only [Int.add_zero]; omega
  | some b => cases b <;> simp only [b2i, if_true, if_false, Bool.false_eq_true] <;> omega
end K03

end
section
set_option Elab.async false
set_option linter.all false
set_option maxRecDepth 100000
set_option maxHeartbeats 2000000
namespace K03
open Ev PySem
/-! ### the drawn part: its env and its first statements -/
def eN (n : Nat) (x2 x3 x4 x5 x6 x7 x8 x9 x10 x11 x12 x13 x14 x15 x16 x17 x18 x19 x20 : Slot) : Ev.Env := [.sh (.ref 0), .sh (.int n), x2, x3, x4, x5, x6, x7, x8, x9, x10, x11, x12, x13, x14, x15, x16, x17, x18, x19, x20, .un, .un, .un, .un, .un, .un, .un]
abbrev K : CallF := run prog kws 38
structure Dr (n : Nat) (L : List (List Bool)) (c e : List Int) (p : List Bool) (ps : List Nat) : Prop where
  n5 : n ≤ 5
  lot : Lot n L
  few : L.length ≤ 20
  dc : Dn n c
  de : Dn n e
  pL : p ∈ L
  asc : Asc n ps
theorem Dr.isp {n : Nat} {L : List (List Bool)} {c e : List Int} {p : List Bool} {ps : List Nat} (D : Dr n L c e p ps) : IsPl (pl p) p := ⟨.inl rfl, by rw [D.lot.len p D.pL]; exact D.lot.n1, by rw [D.lot.len p D.pL]; exact D.lot.n2⟩
theorem Dr.pl {n : Nat} {L : List (List Bool)} {c e : List Int} {p : List Bool} {ps : List Nat} (D : Dr n L c e p ps) : p.length = n := D.lot.len p D.pL
theorem Dr.al {n : Nat} {L : List (List Bool)} {c e : List Int} {p : List Bool} {ps : List Nat} (D : Dr n L c e p ps) : ps.length ≤ 5 := Nat.le_trans (asc_len D.asc) D.n5
theorem tr_ints (c : List Int) (hl : c.length ≤ 100) (k : Nat) : Tr (k + 1) (.tup (c.map .int)) := .tup (by rw [List.length_map]; unfold lim; omega) fun x hx => by
  obtain ⟨k, _, rfl⟩ := List.mem_map.mp hx
  exact .int _ _
theorem tr_pl (p : List Bool) (hl : p.length ≤ 100) (k : Nat) : Tr (k + 1) (pl p) := .tup (by rw [List.length_map]; unfold lim; omega) fun x hx => by
  obtain ⟨b, _, rfl⟩ := List.mem_map.mp hx
  exact .int _ _
theorem tr_lot (M : List (List Bool)) (hl : M.length ≤ 100) (h : ∀ p ∈ M, p.length ≤ 100) (k : Nat) : Tr (k + 2) (.tup (lotU M)) := .tup (by rw [lot_len]; unfold lim; omega) fun x hx => by
  obtain ⟨p, hp, rfl⟩ := lot_mem hx
  exact tr_pl p (h p hp) k
section
variable {n : Nat} {L : List (List Bool)} {c e : List Int} {p : List Bool} {ps l : List Nat} {h : List (Nat × Bool)} {sr s : Sto} {a b z : Int} {m : Nat}
variable {x2 x3 x4 x5 x6 x7 x8 x9 x10 x11 x12 x13 x14 x15 x16 x17 x18 x19 x20 : Slot}
theorem T1 (n1 : 1 ≤ n) (n5 : n ≤ 5) (B : Box a b z (m + 300)) : ∃ L sr' a' z', evS K kws (.asg [] 2 false (.call 50 (.cons (.var 0) (.cons (.var 1) (.cons (.con (.int 20)) .nil))))) (eN n x2 x3 x4 x5 x6 x7 x8 x9 x10 x11 x12 x13 x14 x15 x16 x17 x18 x19 x20) (sto sr a b z) = .ok .nx (eN n (.sh (.tup (lotU L))) x3 x4 x5 x6 x7 x8 x9 x10 x11 x12 x13 x14 x15 x16 x17 x18 x19 x20) (sto sr' a' b z') ∧ Box a' b z' m ∧ Lot n L ∧ L.length ≤ 20 := by
  obtain ⟨L, sr', a', z', e1, B1, h1, h2⟩ := lot_ok (sr := sr) n1 n5 B 34
  exact ⟨L, sr', a', z', evS_asg' (v := ⟨.tup (lotU L), false⟩) ((ev_call (evA_cons (ev_var (u := .ref 0) rfl) (evA_cons (ev_var (u := .int n) rfl) (evA_cons (v := ⟨.int 20, false⟩) (s1 := sto sr a b z) rfl evA_nil)))).trans e1) rfl, B1, h1, h2⟩
theorem T2 (n5 : n ≤ 5) (B : Box a b z (m + 162)) : ∃ c e a' z', evS K kws (.asgT [] (.t2 (.nm 11) (.nm 12)) (.tup (.cons (.call 51 (.cons (.var 0) (.cons (.var 1) .nil))) (.cons (.call 51 (.cons (.var 0) (.cons (.var 1) .nil))) .nil)))) (eN n (.sh (.tup (lotU L))) x3 x4 x5 x6 x7 x8 x9 x10 x11 x12 x13 x14 x15 x16 x17 x18 x19 x20) (sto sr a b z) = .ok .nx (eN n (.sh (.tup (lotU L))) x3 x4 x5 x6 x7 x8 x9 x10 (.sh (.tup (c.map .int))) (.sh (.tup (e.map .int))) x13 x14 x15 x16 x17 x18 x19 x20) (sto sr a' b z') ∧ Box a' b z' m ∧ Dn n c ∧ Dn n e := by
  obtain ⟨c, a1, z1, e1, B1, l1, h1⟩ := cost_ok (sr := sr) (m := m + 81) (n := n) (by omega) B 36
  obtain ⟨e, a2, z2, e2, B2, l2, h2⟩ := cost_ok (sr := sr) (m := m) (n := n) (by omega) B1 36
  exact ⟨c, e, a2, z2, evS_asgT (v := ⟨.tup [.tup (c.map .int), .tup (e.map .int)], false⟩) (ev_tup (evA_cons ((ev_call (evA_cons (ev_var (u := .ref 0) rfl) (evA_cons (ev_var (u := .int n) rfl) evA_nil))).trans e1) (evA_cons ((ev_call (evA_cons (ev_var (u := .ref 0) rfl) (evA_cons (ev_var (u := .int n) rfl) evA_nil))).trans e2) evA_nil))) rfl, B2, ⟨l1, h1⟩, ⟨l2, h2⟩⟩
theorem T3 (hL : Lot n L) (dc : Dn n c) (n5 : n ≤ 5) : evS K kws (.par2 [] 13 false (.call 41 (.cons (.var 2) .nil)) 14 false (.call 53 (.cons (.var 2) (.cons (.var 11) .nil)))) (eN n (.sh (.tup (lotU L))) x3 x4 x5 x6 x7 x8 x9 x10 (.sh (.tup (c.map .int))) x12 x13 x14 x15 x16 x17 x18 x19 x20) s = .ok .nx (eN n (.sh (.tup (lotU L))) x3 x4 x5 x6 x7 x8 x9 x10 (.sh (.tup (c.map .int))) x12 (.sh (.lst (L.map pll))) (.sh (.tup (lotU (tops L c)))) x15 x16 x17 x18 x19 x20) s := by
  have e1 : evE K kws (.call 41 (.cons (.var 2) .nil)) (eN n (.sh (.tup (lotU L))) x3 x4 x5 x6 x7 x8 x9 x10 (.sh (.tup (c.map .int))) x12 x13 x14 x15 x16 x17 x18 x19 x20) s = .ok ⟨.lst (L.map pll), true⟩ s := (ev_call (evA_cons (ev_var (u := .tup (lotU L)) rfl) evA_nil)).trans (lists_lot L (by have := hL.few; omega) (fun p hp => by rw [hL.len p hp]; omega) 35 s)
  have e2 : evE K kws (.call 53 (.cons (.var 2) (.cons (.var 11) .nil))) (eN n (.sh (.tup (lotU L))) x3 x4 x5 x6 x7 x8 x9 x10 (.sh (.tup (c.map .int))) x12 x13 x14 x15 x16 x17 x18 x19 x20) s = .ok ⟨.tup (lotU (tops L c)), false⟩ s := (ev_call (evA_cons (ev_var (u := .tup (lotU L)) rfl) (evA_cons (ev_var (u := .tup (c.map .int)) rfl) evA_nil))).trans (law_tops_ok hL (.inl rfl) dc.sm 36 s)
  simp only [evS, freeze, e1, x_st, e2]
  rfl
theorem T4 (hL : Lot n L) (n5 : n ≤ 5) (B : Box a b z (m + 42)) : ∃ p ps a' z', evS K kws (.asgT [] (.t2 (.nm 15) (.nm 16)) (.tup (.cons (.call 39 (.cons (.var 0) (.cons (.var 2) .nil))) (.cons (.call 43 (.cons (.call 40 (.cons (.var 0) (.cons (.bi .listRange (.cons (.var 1) .nil)) (.cons (.call 37 (.cons (.var 0) (.cons (.op .add (.var 1) (.con (.int 1))) .nil))) .nil)))) .nil)) .nil)))) (eN n (.sh (.tup (lotU L))) x3 x4 x5 x6 x7 x8 x9 x10 (.sh (.tup (c.map .int))) x12 (.sh (.lst (L.map pll))) (.sh (.tup (lotU (tops L c)))) x15 x16 x17 x18 x19 x20) (sto sr a b z) = .ok .nx (eN n (.sh (.tup (lotU L))) x3 x4 x5 x6 x7 x8 x9 x10 (.sh (.tup (c.map .int))) x12 (.sh (.lst (L.map pll))) (.sh (.tup (lotU (tops L c)))) (.sh (pl p)) (.sh (.tup (nU ps))) x17 x18 x19 x20) (sto sr a' b z') ∧ Box a' b z' m ∧ p ∈ L ∧ Asc n ps := by
  obtain ⟨p, hp, a1, z1, e1, B1⟩ := of_ok (sr := sr) (m := m + 41) (u := .tup (lotU L)) (B.mono (by omega)) (.inr rfl) hL.ne (by have := hL.few; omega) 36
  obtain ⟨t, a2, z2, f2, e2, t1, B2⟩ := take_v (sr := sr) (d := 37) (ρ := (eN n (.sh (.tup (lotU L))) x3 x4 x5 x6 x7 x8 x9 x10 (.sh (.tup (c.map .int))) x12 (.sh (.lst (L.map pll))) (.sh (.tup (lotU (tops L c)))) x15 x16 x17 x18 x19 x20)) (t := (n : Int) + 1) (f := false) (e := .op .add (.var 1) (.con (.int 1))) (m := m + 40) rfl (ev_op (v2 := ⟨.int 1, false⟩) (ev_var (u := .int n) rfl) (by simp only [evE]) rfl) B1 (by omega) (by omega)
  obtain ⟨f, r, a3, z3, e3, B3, l3, p3⟩ := pick_ok (sr := sr) (m := m) B2 (List.range n) (by rw [List.length_range]; omega) t 36
  obtain ⟨qs, hq, e4⟩ := law_set_ok (n := n) (ps := f) (by rw [l3, List.length_range]; omega) (fun k hk => List.mem_range.mp (p3.mem_iff.mp (List.mem_append_left _ hk))) 37 (sto sr a3 b z3)
  refine ⟨p, qs, a3, z3, evS_asgT (v := ⟨.tup [pl p, .tup (nU qs)], false⟩) (ev_tup (evA_cons ((ev_call (evA_cons (ev_var (u := .ref 0) rfl) (evA_cons (ev_var (u := .tup (lotU L)) rfl) evA_nil))).trans e1) (evA_cons (v := ⟨.tup (nU qs), false⟩) ((ev_call (evA_cons (v := ⟨.lst (nU f), true⟩) ((ev_call (evA_cons (ev_var (u := .ref 0) rfl) (evA_cons (ev_bi1 (ev_var (u := .int n) rfl) (range_nU n (by omega))) (evA_cons e2 evA_nil)))).trans e3) evA_nil)).trans e4) evA_nil))) rfl, B3, hp, hq⟩
theorem T5 (D : Dr n L c e p ps) : evS K kws (.asg [] 3 false (.bi .sortedSet (.cons (.comp [21] (.nm 21) (.seq (.var 2)) (.con (.bl true)) (.call 44 (.cons (.var 21) (.cons (.var 11) .nil)))) .nil))) (eN n (.sh (.tup (lotU L))) x3 x4 x5 x6 x7 x8 x9 x10 (.sh (.tup (c.map .int))) (.sh (.tup (e.map .int))) (.sh (.lst (L.map pll))) (.sh (.tup (lotU (tops L c)))) (.sh (pl p)) (.sh (.tup (nU ps))) x17 x18 x19 x20) s = .ok .nx (eN n (.sh (.tup (lotU L))) (.sh (.lst ((Ev.sortS (worths L c)).map .int))) x4 x5 x6 x7 x8 x9 x10 (.sh (.tup (c.map .int))) (.sh (.tup (e.map .int))) (.sh (.lst (L.map pll))) (.sh (.tup (lotU (tops L c)))) (.sh (pl p)) (.sh (.tup (nU ps))) x17 x18 x19 x20) s := by
  have hf := D.few
  refine evS_asg' (v := ⟨.lst ((Ev.sortS (worths L c)).map .int), true⟩) (ev_bi1 (worths_comp (u := .tup (lotU L)) (v := .tup (c.map .int)) (L := L) (c := c) rfl rfl (by omega) (fun _ _ => rfl) (fun _ _ => rfl) fun q hq => law_dot_ok (p := q) rfl rfl (by rw [D.lot.len q hq]; exact D.lot.n2) D.dc.sm 37 s) (sset_ints _ ?_)) rfl
  unfold worths; rw [List.length_map]; omega
def G1 (L : List (List Bool)) (c : List Int) (p : List Bool) : U := .lst [.int (dot p c), .tup (lotU (tops L c)), gapV (Ev.sortS (worths L c)), .tup (lotU [p])]
theorem T6 (D : Dr n L c e p ps) : evS K kws (.asg [] 4 false (.lst (.cons (.call 28 (.cons (.var 15) (.cons (.bi .list (.cons (.var 11) .nil)) .nil))) (.cons (.call 29 (.cons (.var 13) (.cons (.var 11) .nil))) (.cons (.call 30 (.cons (.var 2) (.cons (.bi .list (.cons (.var 11) .nil)) .nil))) (.cons (.call 53 (.cons (.var 2) (.cons (.call 31 (.cons (.var 15) .nil)) .nil))) .nil)))))) (eN n (.sh (.tup (lotU L))) (.sh (.lst ((Ev.sortS (worths L c)).map .int))) x4 x5 x6 x7 x8 x9 x10 (.sh (.tup (c.map .int))) (.sh (.tup (e.map .int))) (.sh (.lst (L.map pll))) (.sh (.tup (lotU (tops L c)))) (.sh (pl p)) (.sh (.tup (nU ps))) x17 x18 x19 x20) s = .ok .nx (eN n (.sh (.tup (lotU L))) (.sh (.lst ((Ev.sortS (worths L c)).map .int))) (.sh (G1 L c p)) x5 x6 x7 x8 x9 x10 (.sh (.tup (c.map .int))) (.sh (.tup (e.map .int))) (.sh (.lst (L.map pll))) (.sh (.tup (lotU (tops L c)))) (.sh (pl p)) (.sh (.tup (nU ps))) x17 x18 x19 x20) s := by
  have hl : c.length = n := D.dc.1
  have e1 := worth_ok (v := .lst (c.map .int)) D.isp (.inr rfl) (by rw [D.pl]; exact hl) D.dc.sm 33 s
  have e2 := best_ok (u := .lst (L.map pll)) (v := .tup (c.map .int)) (.inr rfl) D.lot (.inl rfl) hl D.dc.sm 31 s
  obtain ⟨f, e3⟩ := gap_ok (u := .tup (lotU L)) (v := .lst (c.map .int)) (.inl rfl) D.lot (.inr rfl) hl D.dc.sm 31 s
  have e4 := alone_ok D.isp 33 s
  have e5 := law_tops_ok (v := .tup ((al p).map .int)) D.lot (.inl rfl) (sm_al p) 36 s
  rw [tops_al D.lot D.pL] at e5
  have lv : ∀ ρ : Ev.Env, look 11 ρ = .sh (.tup (c.map .int)) → evE K kws (.bi .list (.cons (.var 11) .nil)) ρ s = .ok ⟨.lst (c.map .int), true⟩ s := fun ρ h => ev_bi1 (ev_var h) rfl
  refine evS_asg' (v := ⟨G1 L c p, true⟩) (ev_lst (evA_cons ((ev_call (evA_cons (ev_var (u := pl p) rfl) (evA_cons (lv _ rfl) evA_nil))).trans e1) (evA_cons ((ev_call (evA_cons (ev_var (u := .lst (L.map pll)) rfl) (evA_cons (ev_var (u := .tup (c.map .int)) rfl) evA_nil))).trans e2) (evA_cons ((ev_call (evA_cons (ev_var (u := .tup (lotU L)) rfl) (evA_cons (lv _ rfl) evA_nil))).trans e3) (evA_cons ((ev_call (evA_cons (ev_var (u := .tup (lotU L)) rfl) (evA_cons ((ev_call (evA_cons (ev_var (u := pl p) rfl) evA_nil)).trans e4) evA_nil))).trans e5) evA_nil))))) rfl
theorem T7 (D : Dr n L c e p ps) : evS K kws (.asg [] 5 false (.lst (.cons (.call 44 (.cons (.var 15) (.cons (.var 11) .nil))) (.cons (.var 14) (.cons (.ife (.cmp .gt (.bi .len (.cons (.var 3) .nil)) (.con (.int 1))) (.op .sub (.ix (.var 3) (.neg (.con (.int 1)))) (.ix (.var 3) (.neg (.con (.int 2))))) (.con .non)) (.cons (.tup (.cons (.var 15) .nil)) .nil)))))) (eN n (.sh (.tup (lotU L))) (.sh (.lst ((Ev.sortS (worths L c)).map .int))) (.sh (G1 L c p)) x5 x6 x7 x8 x9 x10 (.sh (.tup (c.map .int))) (.sh (.tup (e.map .int))) (.sh (.lst (L.map pll))) (.sh (.tup (lotU (tops L c)))) (.sh (pl p)) (.sh (.tup (nU ps))) x17 x18 x19 x20) s = .ok .nx (eN n (.sh (.tup (lotU L))) (.sh (.lst ((Ev.sortS (worths L c)).map .int))) (.sh (G1 L c p)) (.sh (G1 L c p)) x6 x7 x8 x9 x10 (.sh (.tup (c.map .int))) (.sh (.tup (e.map .int))) (.sh (.lst (L.map pll))) (.sh (.tup (lotU (tops L c)))) (.sh (pl p)) (.sh (.tup (nU ps))) x17 x18 x19 x20) s := by
  have e1 := law_dot_ok (u := pl p) (v := .tup (c.map .int)) (p := p) (c := c) rfl rfl (by rw [D.pl]; exact D.lot.n2) D.dc.sm 37 s
  obtain ⟨f, e3⟩ := gap_expr (F := K) (ρ := (eN n (.sh (.tup (lotU L))) (.sh (.lst ((Ev.sortS (worths L c)).map .int))) (.sh (G1 L c p)) x5 x6 x7 x8 x9 x10 (.sh (.tup (c.map .int))) (.sh (.tup (e.map .int))) (.sh (.lst (L.map pll))) (.sh (.tup (lotU (tops L c)))) (.sh (pl p)) (.sh (.tup (nU ps))) x17 x18 x19 x20)) (i := 3) (ws := Ev.sortS (worths L c)) rfl s
  exact evS_asg' (v := ⟨G1 L c p, true⟩) (ev_lst (evA_cons ((ev_call (evA_cons (ev_var (u := pl p) rfl) (evA_cons (ev_var (u := .tup (c.map .int)) rfl) evA_nil))).trans e1) (evA_cons (ev_var (u := .tup (lotU (tops L c))) rfl) (evA_cons e3 (evA_cons (v := ⟨.tup (lotU [p]), false⟩) (ev_tup (evA_cons (ev_var (u := pl p) rfl) evA_nil)) evA_nil))))) rfl
theorem tr_gap (ws : List Int) (k : Nat) : Tr k (gapV ws) := by unfold gapV; split; exact .int _ _; exact .non _
theorem T8 (D : Dr n L c e p ps) : evS K kws (.ife [] (.not (.call 42 (.cons (.var 4) (.cons (.var 5) .nil)))) (.cons (.ret [] (.con (.bl false))) .nil) .nil) (eN n (.sh (.tup (lotU L))) (.sh (.lst ((Ev.sortS (worths L c)).map .int))) (.sh (G1 L c p)) (.sh (G1 L c p)) x6 x7 x8 x9 x10 (.sh (.tup (c.map .int))) (.sh (.tup (e.map .int))) (.sh (.lst (L.map pll))) (.sh (.tup (lotU (tops L c)))) (.sh (pl p)) (.sh (.tup (nU ps))) x17 x18 x19 x20) s = .ok .nx (eN n (.sh (.tup (lotU L))) (.sh (.lst ((Ev.sortS (worths L c)).map .int))) (.sh (G1 L c p)) (.sh (G1 L c p)) x6 x7 x8 x9 x10 (.sh (.tup (c.map .int))) (.sh (.tup (e.map .int))) (.sh (.lst (L.map pll))) (.sh (.tup (lotU (tops L c)))) (.sh (pl p)) (.sh (.tup (nU ps))) x17 x18 x19 x20) s := by
  have hf := D.few
  have n5 := D.n5
  have tr : Tr 3 (G1 L c p) := .lst (by simp; unfold lim; omega) fun x hx => by
    simp only [List.mem_cons, List.not_mem_nil, or_false] at hx
    rcases hx with rfl | rfl | rfl | rfl
    · exact .int _ _
    · exact tr_lot _ (Nat.le_trans (List.length_filter_le _ _) (by omega)) (fun q hq => by rw [D.lot.len q (mem_tops.mp hq).1]; omega) 0
    · exact tr_gap _ _
    · exact tr_lot _ (by simp) (fun q hq => by rw [List.mem_singleton.mp hq, D.pl]; omega) 0
  exact (evS_ifF (fz := []) (v := ⟨.bl false, false⟩) (ev_not (q := true) ((ev_call (evA_cons (ev_var (u := G1 L c p) rfl) (evA_cons (ev_var (u := G1 L c p) rfl) evA_nil))).trans (same_ok tr 34 s)) rfl) rfl).trans evB_nil
end
end K03

end
section
set_option Elab.async false
set_option linter.all false
set_option maxRecDepth 100000
set_option maxHeartbeats 2000000
namespace K03
open Ev PySem
/-! ### the drawn part: what holds -/
theorem hold_of : ∀ {ps : List Nat} {ys : List U}, All2 (fun x y => ∃ (k : Nat) (b : Bool), x = .int k ∧ y = .tup [.int k, bi b]) (nU ps) ys → ∃ h : List (Nat × Bool), ys = hU h ∧ hp h = ps
  | [], [], _ => ⟨[], rfl, rfl⟩
  | j :: ps, y :: ys, hh => by
    obtain ⟨⟨k, b, hx, rfl⟩, h2⟩ := hh
    obtain ⟨h, rfl, hl⟩ := hold_of h2
    have e : (j : Int) = (k : Int) := by injection hx
    have e : j = k := by omega
    subst e
    exact ⟨(j, b) :: h, rfl, by rw [← hl]; rfl⟩
  | [], _ :: _, h => h.elim
  | _ :: _, [], h => h.elim
theorem law_tops_l {n : Nat} {L : List (List Bool)} {v : U} {c : List Int} (h : Lot n L) (hv : IsC v c) (hc : Sm c) (d : Nat) (s : Sto) : run prog kws (d + 2) 53 [.lst (lotU L), v] s = .ok ⟨.tup (lotU (tops L c)), false⟩ s := by
  have hf : L.length ≤ 100 := by have := h.few; omega
  have hp : ∀ p ∈ L, p.length ≤ 40 := fun p hp => by rw [h.len p hp]; exact h.n2
  rw [run_at (fd := d53) rfl rfl]
  have a1 := worths_comp (F := run prog kws (d + 1)) (f := 44) (i := 0) (j := 1) (k := 3) (w := [3]) (ρ := [.sh (.lst (lotU L)), .sh v, .un, .un, .un]) (s := s) (u := .lst (lotU L)) (v := v) (L := L) (c := c) rfl rfl hf (fun _ _ => rfl) (fun _ _ => rfl) fun p hm => law_dot_ok (p := p) rfl hv.items (hp p hm) hc d s
  have a3 := tops_comp (F := run prog kws (d + 1)) (a := 3) (b := 4) (w := [3, 4]) (e1 := .var 0) (e2 := .var 2) (t := .cmp .eq (.var 4) (.bi .maxS (.cons (.var 2) .nil))) (ρ := [.sh (.lst (lotU L)), .sh v, .sh (.lst ((worths L c).map .int)), .un, .un]) (s := s) (L := L) (c := c) (v1 := ⟨.lst (lotU L), false⟩) (v2 := ⟨.lst ((worths L c).map .int), false⟩) (ev_var rfl) (ev_var rfl) rfl rfl hf (fun p hm => ev_cmp (ev_var (u := .int (dot p c)) rfl) (ev_bi1 (ev_var (u := .lst ((worths L c).map .int)) rfl) (max_worths h.ne)) (eq_int _ _)) fun _ _ => rfl
  exact congrArg Ev.finish ((evB_nx (evS_asg' (v := ⟨.lst ((worths L c).map .int), true⟩) a1 rfl)).trans (evB_ret (evS_ret (fz := []) a3)))
/-! equal lots -/
theorem eqU_bits : ∀ (p q : List Bool), eqUs (p.map bi) (q.map bi) = decide (p = q)
  | [], [] => rfl
  | [], b :: q => rfl
  | a :: p, [] => rfl
  | a :: p, b :: q => by
    have ih := eqU_bits p q
    show (eqU (bi a) (bi b) && eqUs (p.map bi) (q.map bi)) = _
    rw [ih]
    have e : eqU (bi a) (bi b) = decide (a = b) := by cases a <;> cases b <;> rfl
    rw [e]
    by_cases h1 : a = b
    · by_cases h2 : p = q
      · simp [h1, h2]
      · simp [h1, h2]
    · simp [h1]
theorem eqU_pl (p q : List Bool) : eqU (pl p) (pl q) = decide (p = q) := eqU_bits p q
theorem eqU_lot : ∀ M : List (List Bool), eqUs (lotU M) (lotU M) = true
  | [] => rfl
  | p :: M => by
    show (eqU (pl p) (pl p) && eqUs (lotU M) (lotU M)) = true
    rw [eqU_pl, eqU_lot M]
    simp
theorem shp_lot (M : List (List Bool)) : (lotU M).all (shp 59) = true := by
  unfold lotU
  rw [List.all_map]
  exact List.all_eq_true.mpr fun p _ => shp_pl p
theorem ne_lot (M : List (List Bool)) : cmp2 .ne (.tup (lotU M)) (.tup (lotU M)) = some false := by
  have e1 : shp 60 (.tup (lotU M)) = true := shp_lot M
  have e2 : eqU (.tup (lotU M)) (.tup (lotU M)) = true := eqU_lot M
  simp only [cmp2, e1, e2, Bool.and_self, if_true, Bool.not_true]
theorem ne_lotL (M : List (List Bool)) : cmp2 .ne (.lst (lotU M)) (.lst (lotU M)) = some false := by
  have e1 : shp 60 (.lst (lotU M)) = true := shp_lot M
  have e2 : eqU (.lst (lotU M)) (.lst (lotU M)) = true := eqU_lot M
  simp only [cmp2, e1, e2, Bool.and_self, if_true, Bool.not_true]
theorem ne_nil {xs : List U} (h : xs.all (shp 59) = true) : cmp2 .ne (.lst xs) (.lst []) = some (!xs.isEmpty) := by
  have e1 : shp 60 (.lst xs) = true := h
  have e2 : shp 60 (.lst []) = true := rfl
  show (if shp 60 (.lst xs) && shp 60 (.lst []) then some (!eqU (.lst xs) (.lst [])) else none) = _
  rw [e1, e2]
  cases xs <;> rfl
theorem lot_empty (M : List (List Bool)) : (lotU M).isEmpty = M.isEmpty := by cases M <;> rfl
theorem isin_lot (p : List Bool) (M : List (List Bool)) : cmp2 .isin (pl p) (.tup (lotU M)) = some (decide (p ∈ M)) := by
  have sh : ∀ q, shp 60 (pl q) = true := fun q => by
    show (q.map bi).all (shp 59) = true
    rw [List.all_map]
    exact List.all_eq_true.mpr fun _ _ => rfl
  have e2 : (lotU M).all (shp 60) = true := by
    unfold lotU
    rw [List.all_map]
    exact List.all_eq_true.mpr fun q _ => sh q
  have e3 : ((lotU M).any fun y => eqU y (pl p)) = decide (p ∈ M) := by
    unfold lotU
    rw [List.any_map]
    induction M with
    | nil => rfl
    | cons q M ih =>
      have ih := ih (by unfold lotU; rw [List.all_map]; exact List.all_eq_true.mpr fun q _ => sh q)
      rw [List.any_cons, ih]
      show (eqU (pl q) (pl p) || decide (p ∈ M)) = _
      rw [eqU_pl]
      by_cases h1 : p = q
      · simp [h1]
      · have h2 : ¬ q = p := fun e => h1 e.symm
        simp [h1, h2]
  simp only [cmp2, sh p, e2, e3, Bool.and_self, if_true]
section
variable {n : Nat} {L : List (List Bool)} {c e : List Int} {p : List Bool} {ps l : List Nat} {h : List (Nat × Bool)} {sr s : Sto} {a b z : Int} {m : Nat}
variable {x2 x3 x4 x5 x6 x7 x8 x9 x10 x11 x12 x13 x14 x15 x16 x17 x18 x19 x20 : Slot}
theorem T9 (D : Dr n L c e p ps) (B : Box a b z (m + 10)) : ∃ h a' z', evS K kws (.asg [] 6 false (.bi .tuple (.cons (.comp [22] (.nm 22) (.seq (.var 16)) (.con (.bl true)) (.tup (.cons (.var 22) (.cons (.ife (.cmp .gt (.call 37 (.cons (.var 0) (.cons (.con (.int 4)) .nil))) (.con (.int 0))) (.ix (.var 15) (.var 22)) (.call 37 (.cons (.var 0) (.cons (.con (.int 2)) .nil)))) .nil)))) .nil))) (eN n (.sh (.tup (lotU L))) x3 x4 x5 x6 x7 x8 x9 x10 (.sh (.tup (c.map .int))) (.sh (.tup (e.map .int))) (.sh (.lst (L.map pll))) (.sh (.tup (lotU (tops L c)))) (.sh (pl p)) (.sh (.tup (nU ps))) x17 x18 x19 x20) (sto sr a b z) = .ok .nx (eN n (.sh (.tup (lotU L))) x3 x4 x5 (.sh (.tup (hU h))) x7 x8 x9 x10 (.sh (.tup (c.map .int))) (.sh (.tup (e.map .int))) (.sh (.lst (L.map pll))) (.sh (.tup (lotU (tops L c)))) (.sh (pl p)) (.sh (.tup (nU ps))) x17 x18 x19 x20) (sto sr a' b z') ∧ Box a' b z' m ∧ hp h = ps := by
  have hal := D.al
  have hi : evI K kws (.seq (.var 16)) (eN n (.sh (.tup (lotU L))) x3 x4 x5 x6 x7 x8 x9 x10 (.sh (.tup (c.map .int))) (.sh (.tup (e.map .int))) (.sh (.lst (L.map pll))) (.sh (.tup (lotU (tops L c)))) (.sh (pl p)) (.sh (.tup (nU ps))) x17 x18 x19 x20) (sto sr a b z) = .ok (nU ps) (sto sr a b z) := rfl
  obtain ⟨ys, a1, z1, e1, B1, q⟩ := ev_comp_box (sr := sr) (F := K) (KW := kws) (w := [22]) (tg := .nm 22) (e := .tup (.cons (.var 22) (.cons (.ife (.cmp .gt (.call 37 (.cons (.var 0) (.cons (.con (.int 4)) .nil))) (.con (.int 0))) (.ix (.var 15) (.var 22)) (.call 37 (.cons (.var 0) (.cons (.con (.int 2)) .nil)))) .nil))) (fun x y => ∃ (k : Nat) (b : Bool), x = .int k ∧ y = .tup [.int k, bi b]) hi (decide_eq_true (by rw [nU_len]; unfold lim; omega)) (m := m) (B.mono (by rw [nU_len]; omega)) fun x hx a z m B => by
    obtain ⟨k, hk, rfl⟩ := nU_mem hx
    refine ⟨_, rfl, ?_⟩
    obtain ⟨t, a1, z1, f1, e1, t1, B1⟩ := take_v (sr := sr) (d := 37) (ρ := put 22 (.sh (.int k)) (wipeE [22] (eN n (.sh (.tup (lotU L))) x3 x4 x5 x6 x7 x8 x9 x10 (.sh (.tup (c.map .int))) (.sh (.tup (e.map .int))) (.sh (.lst (L.map pll))) (.sh (.tup (lotU (tops L c)))) (.sh (pl p)) (.sh (.tup (nU ps))) x17 x18 x19 x20))) (t := 4) (f := false) (e := .con (.int 4)) (m := m + 1) rfl (by simp only [evE]) B (by omega) (by omega)
    have e2 : evE K kws (.cmp .gt (.call 37 (.cons (.var 0) (.cons (.con (.int 4)) .nil))) (.con (.int 0))) (put 22 (.sh (.int k)) (wipeE [22] (eN n (.sh (.tup (lotU L))) x3 x4 x5 x6 x7 x8 x9 x10 (.sh (.tup (c.map .int))) (.sh (.tup (e.map .int))) (.sh (.lst (L.map pll))) (.sh (.tup (lotU (tops L c)))) (.sh (pl p)) (.sh (.tup (nU ps))) x17 x18 x19 x20))) (sto sr a b z) = .ok ⟨.bl (decide ((0 : Int) < t)), false⟩ (sto sr a1 b z1) := ev_cmp (v2 := ⟨.int 0, false⟩) e1 (by simp only [evE]) (x_gt _ _)
    by_cases ht : (0 : Int) < t
    · rw [decide_eq_true ht] at e2
      exact ⟨⟨.tup [.int k, bi (bt p k)], false⟩, a1, z1, ev_tup (evA_cons (ev_var (u := .int k) rfl) (evA_cons (v := ⟨bi (bt p k), false⟩) ((ev_ifeT e2 rfl).trans (ev_ix (ev_var (u := pl p) rfl) (ev_var (u := .int k) rfl) (bt_ix (by rw [D.pl]; exact D.asc.lt k hk) _))) evA_nil)), B1.mono (by omega), k, _, rfl, rfl⟩
    · rw [decide_eq_false ht] at e2
      obtain ⟨y, a2, z2, f2, e3, y1, B2⟩ := take_v (sr := sr) (d := 37) (ρ := put 22 (.sh (.int k)) (wipeE [22] (eN n (.sh (.tup (lotU L))) x3 x4 x5 x6 x7 x8 x9 x10 (.sh (.tup (c.map .int))) (.sh (.tup (e.map .int))) (.sh (.lst (L.map pll))) (.sh (.tup (lotU (tops L c)))) (.sh (pl p)) (.sh (.tup (nU ps))) x17 x18 x19 x20))) (t := 2) (f := false) (e := .con (.int 2)) (m := m) rfl (by simp only [evE]) B1 (by omega) (by omega)
      have hb : U.int (y : Int) = bi (y == 1) := by
        have : y = 0 ∨ y = 1 := by omega
        rcases this with rfl | rfl <;> rfl
      rw [hb] at e3
      exact ⟨⟨.tup [.int k, bi (y == 1)], false⟩, a2, z2, ev_tup (evA_cons (ev_var (u := .int k) rfl) (evA_cons (v := ⟨bi (y == 1), f2⟩) ((ev_ifeF e2 rfl).trans e3) evA_nil)), B2, k, _, rfl, rfl⟩
  obtain ⟨h, rfl, hh⟩ := hold_of q
  exact ⟨h, a1, z1, evS_asg' (v := ⟨.tup (hU h), false⟩) (ev_bi1 e1 rfl) rfl, B1, hh⟩
theorem hp_len {h : List (Nat × Bool)} (hh : hp h = ps) : h.length = ps.length := by rw [← hh]; unfold hp; rw [List.length_map]
theorem hp_lt (D : Dr n L c e p ps) (hh : hp h = ps) : ∀ x ∈ h, x.1 < n := fun x hx => D.asc.lt _ (by rw [← hh]; exact List.mem_map_of_mem hx)
theorem hp_nd (D : Dr n L c e p ps) (hh : hp h = ps) : (hp h).Nodup := by rw [hh]; exact D.asc.up.imp fun h => by omega
theorem T10 (D : Dr n L c e p ps) (hh : hp h = ps) : evS K kws (.asgT [] (.t2 (.nm 17) (.nm 18)) (.tup (.cons (.call 32 (.cons (.call 41 (.cons (.var 6) .nil)) (.cons (.var 11) .nil))) (.cons (.op .add (.con (.int 1)) (.bi .sum (.cons (.comp [22] (.nm 22) (.seq (.var 11)) (.con (.bl true)) (.bi .abs (.cons (.var 22) .nil))) .nil))) .nil)))) (eN n (.sh (.tup (lotU L))) x3 x4 x5 (.sh (.tup (hU h))) x7 x8 x9 x10 (.sh (.tup (c.map .int))) (.sh (.tup (e.map .int))) (.sh (.lst (L.map pll))) (.sh (.tup (lotU (tops L c)))) (.sh (pl p)) (.sh (.tup (nU ps))) x17 x18 x19 x20) s = .ok .nx (eN n (.sh (.tup (lotU L))) x3 x4 x5 (.sh (.tup (hU h))) x7 x8 x9 x10 (.sh (.tup (c.map .int))) (.sh (.tup (e.map .int))) (.sh (.lst (L.map pll))) (.sh (.tup (lotU (tops L c)))) (.sh (pl p)) (.sh (.tup (nU ps))) (.sh (.tup ((hF c h c).map .int))) (.sh (.int (most c))) x19 x20) s := by
  have hal := D.al
  have hhl := hp_len hh
  have hc := D.dc.1
  have n5 := D.n5
  have n1 := D.lot.n1
  have e1 := lists_ok h (by omega) 35 s
  have e2 := holding_ok (u := .lst (hL h)) (v := .tup (c.map .int)) (.inr rfl) (.inl rfl) (by omega) (by omega) (by rw [hh]; exact D.asc.up) (fun x hx => by rw [hc]; exact hp_lt D hh x hx) (by omega) 33 s
  have e3 := abs_comp (F := K) (i := 11) (k := 22) (w := [22]) (ρ := (eN n (.sh (.tup (lotU L))) x3 x4 x5 (.sh (.tup (hU h))) x7 x8 x9 x10 (.sh (.tup (c.map .int))) (.sh (.tup (e.map .int))) (.sh (.lst (L.map pll))) (.sh (.tup (lotU (tops L c)))) (.sh (pl p)) (.sh (.tup (nU ps))) x17 x18 x19 x20)) (s := s) (c := c) rfl (by omega) fun _ => rfl
  exact evS_asgT (v := ⟨.tup [.tup ((hF c h c).map .int), .int (most c)], false⟩) (ev_tup (evA_cons ((ev_call (evA_cons ((ev_call (evA_cons (ev_var (u := .tup (hU h)) rfl) evA_nil)).trans e1) (evA_cons (ev_var (u := .tup (c.map .int)) rfl) evA_nil))).trans e2) (evA_cons e3 evA_nil))) rfl
theorem T11 (D : Dr n L c e p ps) (hh : hp h = ps) : evS K kws (.asg [] 7 false (.dict1 (.var 6))) (eN n (.sh (.tup (lotU L))) x3 x4 x5 (.sh (.tup (hU h))) x7 x8 x9 x10 (.sh (.tup (c.map .int))) (.sh (.tup (e.map .int))) (.sh (.lst (L.map pll))) (.sh (.tup (lotU (tops L c)))) (.sh (pl p)) (.sh (.tup (nU ps))) (.sh (.tup ((hF c h c).map .int))) (.sh (.int (most c))) x19 x20) s = .ok .nx (eN n (.sh (.tup (lotU L))) x3 x4 x5 (.sh (.tup (hU h))) (.sh (.dct (hD h))) x8 x9 x10 (.sh (.tup (c.map .int))) (.sh (.tup (e.map .int))) (.sh (.lst (L.map pll))) (.sh (.tup (lotU (tops L c)))) (.sh (pl p)) (.sh (.tup (nU ps))) (.sh (.tup ((hF c h c).map .int))) (.sh (.int (most c))) x19 x20) s := evS_asg' (v := ⟨.dct (hD h), false⟩) (dict_expr rfl (hp_nd D hh)) rfl
theorem T12 (D : Dr n L c e p ps) (hh : hp h = ps) : evS K kws (.asg [] 8 false (.comp [22, 23] (.t2 (.nm 22) (.nm 23)) (.enum (.var 11)) (.con (.bl true)) (.op .add (.var 23) (.ife (.dIn false (.var 22) (.var 7)) (.op .mul (.var 18) (.op .sub (.op .mul (.con (.int 2)) (.dGet (.var 7) (.var 22))) (.con (.int 1)))) (.con (.int 0)))))) (eN n (.sh (.tup (lotU L))) x3 x4 x5 (.sh (.tup (hU h))) (.sh (.dct (hD h))) x8 x9 x10 (.sh (.tup (c.map .int))) (.sh (.tup (e.map .int))) (.sh (.lst (L.map pll))) (.sh (.tup (lotU (tops L c)))) (.sh (pl p)) (.sh (.tup (nU ps))) (.sh (.tup ((hF c h c).map .int))) (.sh (.int (most c))) x19 x20) s = .ok .nx (eN n (.sh (.tup (lotU L))) x3 x4 x5 (.sh (.tup (hU h))) (.sh (.dct (hD h))) (.sh (.lst ((ownH c h).map .int))) x9 x10 (.sh (.tup (c.map .int))) (.sh (.tup (e.map .int))) (.sh (.lst (L.map pll))) (.sh (.tup (lotU (tops L c)))) (.sh (pl p)) (.sh (.tup (nU ps))) (.sh (.tup ((hF c h c).map .int))) (.sh (.int (most c))) x19 x20) s := by
  have hc := D.dc.1
  have n5 := D.n5
  have hm := most_small (n := n) (by omega) D.dc
  have ew : (ownH c h).map U.int = (List.range c.length).map fun k => U.int (cAt c k + (match hv h k with | some b => most c * (2 * b2i b - 1) | none => 0)) := by unfold ownH; rw [List.map_map]; rfl
  rw [ew]
  refine evS_asg' (v := ⟨.lst ((List.range c.length).map fun k => U.int (cAt c k + (match hv h k with | some b => most c * (2 * b2i b - 1) | none => 0))), true⟩) (ev_cEc (v := ⟨.tup (c.map .int), false⟩) (ev_var rfl) rfl (by omega) fun k hk => ⟨false, ?_⟩) rfl
  have e1 : dinU (.int (k : Int)) (.dct (hD h)) = some (hv h k).isSome := by simp only [dinU, hD_any]
  have e2 : dgetU (.dct (hD h)) (.int (k : Int)) = (hv h k).map bi := by simp only [dgetU, hD_find]
  refine ev_op (v := ⟨.int (cAt c k), false⟩) (s1 := s) rfl ?_ (x_add _ _) (v2 := ⟨.int (match hv h k with | some b => most c * (2 * b2i b - 1) | none => 0), false⟩)
  have ht : ∀ q, (hv h k).isSome = q → evE K kws (.dIn false (.var 22) (.var 7)) (put 23 (.sh (.int (cAt c k))) (put 22 (.sh (.int k)) (wipeE [22, 23] (eN n (.sh (.tup (lotU L))) x3 x4 x5 (.sh (.tup (hU h))) (.sh (.dct (hD h))) x8 x9 x10 (.sh (.tup (c.map .int))) (.sh (.tup (e.map .int))) (.sh (.lst (L.map pll))) (.sh (.tup (lotU (tops L c)))) (.sh (pl p)) (.sh (.tup (nU ps))) (.sh (.tup ((hF c h c).map .int))) (.sh (.int (most c))) x19 x20)))) s = .ok ⟨.bl q, false⟩ s := fun q hq => by
    rw [hq] at e1
    have l1 : evE K kws (.var 22) (put 23 (.sh (.int (cAt c k))) (put 22 (.sh (.int k)) (wipeE [22, 23] (eN n (.sh (.tup (lotU L))) x3 x4 x5 (.sh (.tup (hU h))) (.sh (.dct (hD h))) x8 x9 x10 (.sh (.tup (c.map .int))) (.sh (.tup (e.map .int))) (.sh (.lst (L.map pll))) (.sh (.tup (lotU (tops L c)))) (.sh (pl p)) (.sh (.tup (nU ps))) (.sh (.tup ((hF c h c).map .int))) (.sh (.int (most c))) x19 x20)))) s = .ok ⟨.int k, false⟩ s := ev_var rfl
    have l2 : evE K kws (.var 7) (put 23 (.sh (.int (cAt c k))) (put 22 (.sh (.int k)) (wipeE [22, 23] (eN n (.sh (.tup (lotU L))) x3 x4 x5 (.sh (.tup (hU h))) (.sh (.dct (hD h))) x8 x9 x10 (.sh (.tup (c.map .int))) (.sh (.tup (e.map .int))) (.sh (.lst (L.map pll))) (.sh (.tup (lotU (tops L c)))) (.sh (pl p)) (.sh (.tup (nU ps))) (.sh (.tup ((hF c h c).map .int))) (.sh (.int (most c))) x19 x20)))) s = .ok ⟨.dct (hD h), false⟩ s := ev_var rfl
    rw [evE]
    simp only [l1, l2, x_bind, e1, x_ofO]
    rfl
  cases hk2 : hv h k with
  | none => exact (ev_ifeF (ht false (by rw [hk2]; rfl)) rfl).trans (by simp only [evE])
  | some b =>
    refine (ev_ifeT (ht true (by rw [hk2]; rfl)) rfl).trans ?_
    rw [hk2] at e2
    have l3 : evE K kws (.dGet (.var 7) (.var 22)) (put 23 (.sh (.int (cAt c k))) (put 22 (.sh (.int k)) (wipeE [22, 23] (eN n (.sh (.tup (lotU L))) x3 x4 x5 (.sh (.tup (hU h))) (.sh (.dct (hD h))) x8 x9 x10 (.sh (.tup (c.map .int))) (.sh (.tup (e.map .int))) (.sh (.lst (L.map pll))) (.sh (.tup (lotU (tops L c)))) (.sh (pl p)) (.sh (.tup (nU ps))) (.sh (.tup ((hF c h c).map .int))) (.sh (.int (most c))) x19 x20)))) s = .ok ⟨bi b, false⟩ s := by
      have l1 : evE K kws (.var 22) (put 23 (.sh (.int (cAt c k))) (put 22 (.sh (.int k)) (wipeE [22, 23] (eN n (.sh (.tup (lotU L))) x3 x4 x5 (.sh (.tup (hU h))) (.sh (.dct (hD h))) x8 x9 x10 (.sh (.tup (c.map .int))) (.sh (.tup (e.map .int))) (.sh (.lst (L.map pll))) (.sh (.tup (lotU (tops L c)))) (.sh (pl p)) (.sh (.tup (nU ps))) (.sh (.tup ((hF c h c).map .int))) (.sh (.int (most c))) x19 x20)))) s = .ok ⟨.int k, false⟩ s := ev_var rfl
      have l2 : evE K kws (.var 7) (put 23 (.sh (.int (cAt c k))) (put 22 (.sh (.int k)) (wipeE [22, 23] (eN n (.sh (.tup (lotU L))) x3 x4 x5 (.sh (.tup (hU h))) (.sh (.dct (hD h))) x8 x9 x10 (.sh (.tup (c.map .int))) (.sh (.tup (e.map .int))) (.sh (.lst (L.map pll))) (.sh (.tup (lotU (tops L c)))) (.sh (pl p)) (.sh (.tup (nU ps))) (.sh (.tup ((hF c h c).map .int))) (.sh (.int (most c))) x19 x20)))) s = .ok ⟨.dct (hD h), false⟩ s := ev_var rfl
      rw [evE]
      simp only [l1, l2, x_bind, e2]
      rfl
    have m1 : mulOk (most c) (2 * b2i b - 1) = true := mul_small (by omega) (by cases b <;> decide)
    exact ev_op (ev_var (u := .int (most c)) rfl) (ev_op (ev_op (v := ⟨.int 2, false⟩) (s1 := s) (by simp only [evE]) l3 (mul_2 b)) (v2 := ⟨.int 1, false⟩) (s2 := s) (by simp only [evE]) (x_sub _ _)) (x_mul m1)
end
end K03

end
section
set_option Elab.async false
set_option linter.all false
set_option maxRecDepth 100000
set_option maxHeartbeats 2000000
namespace K03
open Ev PySem
/-! ### the drawn part: parts, lines, both -/
theorem fm_kept (h : List (Nat × Bool)) (q : Nat × Bool → Bool) (v : U) : ((h.filter q).map fun _ => v).isEmpty = h.all fun x => !q x := by
  induction h with
  | nil => rfl
  | cons x h ih =>
    rw [List.all_cons, List.filter_cons]
    cases q x
    · simpa using ih
    · rfl
theorem ne_bits (x y : Bool) : cmp2 .ne (bi x) (bi y) = some (x != y) := by cases x <;> cases y <;> rfl
theorem kept_test {F : CallF} {ρ : Ev.Env} {s : Sto} {p : List Bool} {h : List (Nat × Bool)} {i j a b : Nat} {w : List Nat} (hi : look i ρ = .sh (.tup (hU h))) (hl : h.length ≤ 100) (hk : ∀ x ∈ h, x.1 < p.length)
    (hj : ∀ (k : Nat) (v : Bool), look j (put b (.sh (bi v)) (put a (.sh (.int k)) (wipeE w ρ))) = .sh (pl p)) (ha : ∀ (k : Nat) (v : Bool), look a (put b (.sh (bi v)) (put a (.sh (.int k)) (wipeE w ρ))) = .sh (.int k)) (hb : ∀ (k : Nat) (v : Bool), look b (put b (.sh (bi v)) (put a (.sh (.int k)) (wipeE w ρ))) = .sh (bi v)) :
    evE F kws (.cmp .eq (.comp w (.t2 (.nm a) (.nm b)) (.seq (.var i)) (.cmp .ne (.ix (.var j) (.var a)) (.var b)) (.con (.int 1))) (.lst .nil)) ρ s = .ok ⟨.bl (kept p h), false⟩ s := by
  let g : U → Option U := fun x => match x with | .tup [.int k, .int v] => (if bt p k.toNat != (v == 1) then some (.int 1) else none) | _ => none
  have hg : ∀ (k : Nat) (v : Bool), g (.tup [.int k, bi v]) = if bt p k != v then some (.int 1) else none := fun k v => by
    cases v <;> rfl
  have hii : evI F kws (.seq (.var i)) ρ s = .ok (hU h) s := by simp only [evI, evE, hi, x_bind, items, x_ofO]
  have key := ev_comp (F := F) (KW := kws) (w := w) (tg := .t2 (.nm a) (.nm b)) (t := .cmp .ne (.ix (.var j) (.var a)) (.var b)) (e := .con (.int 1)) (g := g) hii (decide_eq_true (by rw [hU_len]; unfold lim; omega)) fun x hx => by
    obtain ⟨k, v, hm, rfl⟩ := hU_mem hx
    refine ⟨_, rfl, ⟨.bl (bt p k != v), false⟩, bt p k != v, ev_cmp (ev_ix (ev_var (hj k v)) (ev_var (ha k v)) (bt_ix (hk (k, v) hm) s)) (ev_var (hb k v)) (ne_bits _ _), rfl, ?_⟩
    rw [hg]
    cases bt p k != v
    · rfl
    · exact ⟨⟨.int 1, false⟩, by simp only [evE], rfl⟩
  have e1 : (hU h).filterMap g = (h.filter fun x => bt p x.1 != x.2).map fun _ => .int 1 := by
    unfold hU
    rw [fm_map, ← fm_if]
    exact fm_congr fun x _ => hg x.1 x.2
  rw [e1] at key
  refine ev_cmp key (v2 := ⟨.lst [], true⟩) (s2 := s) (ev_lst evA_nil) ?_
  have sh : ((h.filter fun x => bt p x.1 != x.2).map fun _ => U.int 1).all (shp 59) = true := by
    rw [List.all_map]
    exact List.all_eq_true.mpr fun _ _ => rfl
  rw [eq_nil sh, fm_kept]
  congr 1
  unfold kept
  congr 1
  funext x
  cases bt p x.1 <;> cases x.2 <;> rfl
theorem map_exp {F : CallF} {e : C} {ρ : Ev.Env} {i k : Nat} {w : List Nat} {s : Sto} {M : List (List Bool)} {g : List Bool → List Bool} {u : U} (hi : look i ρ = .sh u) (hu : items u = some (lotU M)) (hl : M.length ≤ 100)
    (he : ∀ p ∈ M, evE F kws e (put k (.sh (pl p)) (wipeE w ρ)) s = .ok ⟨pl (g p), false⟩ s) : evE F kws (.comp w (.nm k) (.seq (.var i)) (.con (.bl true)) e) ρ s = .ok ⟨.lst (lotU (M.map g)), true⟩ s := by
  let h : U → U := fun x => match x with | .tup bs => pl (g (bs.map fun b => match b with | .int i => i == 1 | _ => false)) | _ => .non
  have hh : ∀ p : List Bool, h (pl p) = pl (g p) := fun p => by
    have e : (p.map bi).map (fun b => match b with | .int i => i == 1 | _ => false) = p := by
      rw [List.map_map]
      conv => rhs; rw [← List.map_id p]
      apply List.map_congr_left
      intro b _
      cases b <;> rfl
    show pl (g ((p.map bi).map _)) = _
    rw [e]
  have e1 : lotU (M.map g) = (lotU M).map h := by
    unfold lotU
    rw [List.map_map, List.map_map]
    exact List.map_congr_left fun p _ => (hh p).symm
  rw [e1]
  refine ev_cSm (v := ⟨u, false⟩) (ev_var hi) hu (by rw [lot_len]; unfold lim; omega) fun x hx => ?_
  obtain ⟨p, hp, rfl⟩ := lot_mem hx
  refine ⟨_, rfl, false, ?_⟩
  rw [hh]
  exact he p hp
section
variable {n : Nat} {L : List (List Bool)} {c e : List Int} {p : List Bool} {ps l : List Nat} {h : List (Nat × Bool)} {sr s : Sto} {a b z : Int} {m : Nat}
variable {x2 x3 x4 x5 x6 x7 x8 x9 x10 x11 x12 x13 x14 x15 x16 x17 x18 x19 x20 : Slot}
theorem T13 (D : Dr n L c e p ps) (hh : hp h = ps) : evS K kws (.asg [] 9 false (.comp [21] (.nm 21) (.seq (.var 2)) (.cmp .eq (.comp [22, 27] (.t2 (.nm 22) (.nm 27)) (.seq (.var 6)) (.cmp .ne (.ix (.var 21) (.var 22)) (.var 27)) (.con (.int 1))) (.lst .nil)) (.var 21))) (eN n (.sh (.tup (lotU L))) x3 x4 x5 (.sh (.tup (hU h))) (.sh (.dct (hD h))) (.sh (.lst ((ownH c h).map .int))) x9 x10 (.sh (.tup (c.map .int))) (.sh (.tup (e.map .int))) (.sh (.lst (L.map pll))) (.sh (.tup (lotU (tops L c)))) (.sh (pl p)) (.sh (.tup (nU ps))) (.sh (.tup ((hF c h c).map .int))) (.sh (.int (most c))) x19 x20) s = .ok .nx (eN n (.sh (.tup (lotU L))) x3 x4 x5 (.sh (.tup (hU h))) (.sh (.dct (hD h))) (.sh (.lst ((ownH c h).map .int))) (.sh (.lst (lotU (L.filter fun p => kept p h)))) x10 (.sh (.tup (c.map .int))) (.sh (.tup (e.map .int))) (.sh (.lst (L.map pll))) (.sh (.tup (lotU (tops L c)))) (.sh (pl p)) (.sh (.tup (nU ps))) (.sh (.tup ((hF c h c).map .int))) (.sh (.int (most c))) x19 x20) s := by
  have hf := D.few
  have hal := D.al
  have hhl := hp_len hh
  refine evS_asg' (v := ⟨.lst (lotU (L.filter fun p => kept p h)), true⟩) (filter_lot (u := .tup (lotU L)) rfl rfl (by omega) (fun _ _ => rfl) fun q hq => ?_) rfl
  exact kept_test rfl (by omega) (fun x hx => by rw [D.lot.len q hq]; exact hp_lt D hh x hx) (fun _ _ => rfl) (fun _ _ => rfl) fun _ _ => rfl
theorem Dr.lotF (D : Dr n L c e p ps) (f : List Bool → Bool) (h0 : L.filter f ≠ []) : Lot n (L.filter f) :=
  ⟨h0, fun q hq => D.lot.len q (List.mem_filter.mp hq).1, up_filter D.lot.up f, Nat.le_trans (List.length_filter_le _ _) D.lot.few, D.lot.n1, D.lot.n2⟩
theorem T14 (D : Dr n L c e p ps) (hh : hp h = ps) : evS K kws (.ife [] (.or (.not (.call 42 (.cons (.var 17) (.cons (.bi .tuple (.cons (.var 8) .nil)) .nil)))) (.and (.cmp .ne (.var 9) (.lst .nil)) (.cmp .ne (.call 53 (.cons (.var 2) (.cons (.var 17) .nil))) (.call 53 (.cons (.var 9) (.cons (.var 11) .nil)))))) (.cons (.ret [] (.con (.bl false))) .nil) .nil) (eN n (.sh (.tup (lotU L))) x3 x4 x5 (.sh (.tup (hU h))) (.sh (.dct (hD h))) (.sh (.lst ((ownH c h).map .int))) (.sh (.lst (lotU (L.filter fun p => kept p h)))) x10 (.sh (.tup (c.map .int))) (.sh (.tup (e.map .int))) (.sh (.lst (L.map pll))) (.sh (.tup (lotU (tops L c)))) (.sh (pl p)) (.sh (.tup (nU ps))) (.sh (.tup ((hF c h c).map .int))) (.sh (.int (most c))) x19 x20) s = .ok .nx (eN n (.sh (.tup (lotU L))) x3 x4 x5 (.sh (.tup (hU h))) (.sh (.dct (hD h))) (.sh (.lst ((ownH c h).map .int))) (.sh (.lst (lotU (L.filter fun p => kept p h)))) x10 (.sh (.tup (c.map .int))) (.sh (.tup (e.map .int))) (.sh (.lst (L.map pll))) (.sh (.tup (lotU (tops L c)))) (.sh (pl p)) (.sh (.tup (nU ps))) (.sh (.tup ((hF c h c).map .int))) (.sh (.int (most c))) x19 x20) s := by
  have n5 := D.n5
  have e1 : evE K kws (.call 42 (.cons (.var 17) (.cons (.bi .tuple (.cons (.var 8) .nil)) .nil))) (eN n (.sh (.tup (lotU L))) x3 x4 x5 (.sh (.tup (hU h))) (.sh (.dct (hD h))) (.sh (.lst ((ownH c h).map .int))) (.sh (.lst (lotU (L.filter fun p => kept p h)))) x10 (.sh (.tup (c.map .int))) (.sh (.tup (e.map .int))) (.sh (.lst (L.map pll))) (.sh (.tup (lotU (tops L c)))) (.sh (pl p)) (.sh (.tup (nU ps))) (.sh (.tup ((hF c h c).map .int))) (.sh (.int (most c))) x19 x20) s = .ok ⟨.bl true, false⟩ s := by
    have tr := tr_ints (ownH c h) (by unfold ownH; rw [List.length_map, List.length_range, D.dc.1]; omega) 0
    refine (ev_call (evA_cons (v := ⟨.tup ((ownH c h).map .int), false⟩) ?_ (evA_cons (ev_bi1 (r := ⟨.tup ((ownH c h).map .int), false⟩) (ev_var (u := .lst ((ownH c h).map .int)) rfl) rfl) evA_nil))).trans (same_ok tr 36 s)
    rw [← own_eq c h (hp_nd D hh)]
    exact ev_var rfl
  have e2 : evE K kws (.cmp .ne (.var 9) (.lst .nil)) (eN n (.sh (.tup (lotU L))) x3 x4 x5 (.sh (.tup (hU h))) (.sh (.dct (hD h))) (.sh (.lst ((ownH c h).map .int))) (.sh (.lst (lotU (L.filter fun p => kept p h)))) x10 (.sh (.tup (c.map .int))) (.sh (.tup (e.map .int))) (.sh (.lst (L.map pll))) (.sh (.tup (lotU (tops L c)))) (.sh (pl p)) (.sh (.tup (nU ps))) (.sh (.tup ((hF c h c).map .int))) (.sh (.int (most c))) x19 x20) s = .ok ⟨.bl (!(L.filter fun p => kept p h).isEmpty), false⟩ s := by
    have := ev_cmp (F := K) (KW := kws) (o := .ne) (a := .var 9) (b := .lst .nil) (ρ := (eN n (.sh (.tup (lotU L))) x3 x4 x5 (.sh (.tup (hU h))) (.sh (.dct (hD h))) (.sh (.lst ((ownH c h).map .int))) (.sh (.lst (lotU (L.filter fun p => kept p h)))) x10 (.sh (.tup (c.map .int))) (.sh (.tup (e.map .int))) (.sh (.lst (L.map pll))) (.sh (.tup (lotU (tops L c)))) (.sh (pl p)) (.sh (.tup (nU ps))) (.sh (.tup ((hF c h c).map .int))) (.sh (.int (most c))) x19 x20)) (s := s) (ev_var (u := .lst (lotU (L.filter fun p => kept p h))) rfl) (v2 := ⟨.lst [], true⟩) (s2 := s) (ev_lst evA_nil) (ne_nil (shp_lot _))
    rw [lot_empty] at this
    exact this
  refine (evS_ifF (fz := []) (v := ⟨.bl false, false⟩) ((ev_orF (ev_not (q := true) e1 rfl) rfl).trans ?_) rfl).trans evB_nil
  cases hE : (L.filter fun p => kept p h).isEmpty with
  | true => rw [hE] at e2; exact ev_andF e2 rfl
  | false =>
    rw [hE] at e2
    have h0 : L.filter (fun p => kept p h) ≠ [] := fun h0 => by rw [h0] at hE; cases hE
    refine (ev_andT e2 rfl).trans ?_
    have e3 := law_tops_ok (v := .tup ((hF c h c).map .int)) D.lot (.inl rfl) (sm_hF (by omega) D.dc (hp_nd D hh)) 36 s
    have e4 := law_tops_l (v := .tup (c.map .int)) (D.lotF _ h0) (.inl rfl) D.dc.sm 36 s
    rw [tops_held D.lot D.dc.1 (hp_nd D hh) (hp_lt D hh) h0] at e3
    exact ev_cmp ((ev_call (evA_cons (ev_var (u := .tup (lotU L)) rfl) (evA_cons (ev_var (u := .tup ((hF c h c).map .int)) rfl) evA_nil))).trans e3) ((ev_call (evA_cons (ev_var (u := .lst (lotU (L.filter fun p => kept p h))) rfl) (evA_cons (ev_var (u := .tup (c.map .int)) rfl) evA_nil))).trans e4) (ne_lot _)
theorem T15 (D : Dr n L c e p ps) (B : Box a b z (m + 40)) : ∃ l a' z', evS K kws (.asg [] 10 false (.call 52 (.cons (.var 0) (.cons (.var 1) .nil)))) (eN n (.sh (.tup (lotU L))) x3 x4 x5 x6 x7 x8 x9 x10 (.sh (.tup (c.map .int))) (.sh (.tup (e.map .int))) (.sh (.lst (L.map pll))) (.sh (.tup (lotU (tops L c)))) (.sh (pl p)) (.sh (.tup (nU ps))) x17 x18 x19 x20) (sto sr a b z) = .ok .nx (eN n (.sh (.tup (lotU L))) x3 x4 x5 x6 x7 x8 x9 (.sh (.tup (nU l))) (.sh (.tup (c.map .int))) (.sh (.tup (e.map .int))) (.sh (.lst (L.map pll))) (.sh (.tup (lotU (tops L c)))) (.sh (pl p)) (.sh (.tup (nU ps))) x17 x18 x19 x20) (sto sr a' b z') ∧ Box a' b z' m ∧ l.Perm (List.range n) := by
  obtain ⟨l, a1, z1, e1, B1, h1⟩ := line_ok (sr := sr) B n (by have := D.n5; omega) 35
  exact ⟨l, a1, z1, evS_asg' (v := ⟨.tup (nU l), false⟩) ((ev_call (evA_cons (ev_var (u := .ref 0) rfl) (evA_cons (ev_var (u := .int n) rfl) evA_nil))).trans e1) rfl, B1, h1⟩
def G2 (c e : List Int) (ps l : List Nat) : U := .lst [.tup ((tC c ps).map .int), .tup ((fC c l).map .int), .tup ((aC c e).map .int)]
theorem T16 (D : Dr n L c e p ps) (hl : l.Perm (List.range n)) : evS K kws (.asg [] 4 false (.lst (.cons (.call 33 (.cons (.var 11) (.cons (.var 16) .nil))) (.cons (.call 34 (.cons (.var 11) (.cons (.var 10) .nil))) (.cons (.call 35 (.cons (.bi .list (.cons (.var 11) .nil)) (.cons (.var 12) .nil))) .nil))))) (eN n (.sh (.tup (lotU L))) x3 x4 x5 x6 x7 x8 x9 (.sh (.tup (nU l))) (.sh (.tup (c.map .int))) (.sh (.tup (e.map .int))) (.sh (.lst (L.map pll))) (.sh (.tup (lotU (tops L c)))) (.sh (pl p)) (.sh (.tup (nU ps))) x17 x18 x19 x20) s = .ok .nx (eN n (.sh (.tup (lotU L))) x3 (.sh (G2 c e ps l)) x5 x6 x7 x8 x9 (.sh (.tup (nU l))) (.sh (.tup (c.map .int))) (.sh (.tup (e.map .int))) (.sh (.lst (L.map pll))) (.sh (.tup (lotU (tops L c)))) (.sh (pl p)) (.sh (.tup (nU ps))) x17 x18 x19 x20) s := by
  have n5 := D.n5
  have n1 := D.lot.n1
  have hc := D.dc.1
  have he := D.de.1
  have hal := D.al
  have e1 := turned_prices_ok (u := .tup (c.map .int)) (v := .tup (nU ps)) (.inl rfl) (by omega) (by omega) (.inl rfl) (by rw [hc]; exact D.asc) (by omega) 33 s
  have e2 := moved_prices_ok (u := .tup (c.map .int)) (v := .tup (nU l)) (.inl rfl) (by omega) (by omega) (.inl rfl) (by rw [hc]; exact hl) 31 s
  have e3 := added_prices_ok (u := .lst (c.map .int)) (v := .tup (e.map .int)) (.inr rfl) (.inl rfl) (by omega) (by omega) (by omega) 33 s
  exact evS_asg' (v := ⟨G2 c e ps l, true⟩) (ev_lst (evA_cons ((ev_call (evA_cons (ev_var (u := .tup (c.map .int)) rfl) (evA_cons (ev_var (u := .tup (nU ps)) rfl) evA_nil))).trans e1) (evA_cons ((ev_call (evA_cons (ev_var (u := .tup (c.map .int)) rfl) (evA_cons (ev_var (u := .tup (nU l)) rfl) evA_nil))).trans e2) (evA_cons ((ev_call (evA_cons (ev_bi1 (r := ⟨.lst (c.map .int), true⟩) (ev_var (u := .tup (c.map .int)) rfl) rfl) (evA_cons (ev_var (u := .tup (e.map .int)) rfl) evA_nil))).trans e3) evA_nil)))) rfl
theorem T17 (D : Dr n L c e p ps) (hl : l.Perm (List.range n)) : evS K kws (.asg [] 5 false (.lst (.cons (.bi .tuple (.cons (.comp [24, 22] (.t2 (.nm 24) (.nm 22)) (.enum (.var 11)) (.con (.bl true)) (.ife (.cmp .isin (.var 24) (.var 16)) (.neg (.var 22)) (.var 22))) .nil)) (.cons (.bi .tuple (.cons (.comp [22] (.nm 22) (.seq (.var 10)) (.con (.bl true)) (.ix (.var 11) (.var 22))) .nil)) (.cons (.bi .tuple (.cons (.comp [25, 26] (.t2 (.nm 25) (.nm 26)) (.zip2 (.var 11) (.var 12)) (.con (.bl true)) (.op .add (.var 25) (.var 26))) .nil)) .nil))))) (eN n (.sh (.tup (lotU L))) x3 (.sh (G2 c e ps l)) x5 x6 x7 x8 x9 (.sh (.tup (nU l))) (.sh (.tup (c.map .int))) (.sh (.tup (e.map .int))) (.sh (.lst (L.map pll))) (.sh (.tup (lotU (tops L c)))) (.sh (pl p)) (.sh (.tup (nU ps))) x17 x18 x19 x20) s = .ok .nx (eN n (.sh (.tup (lotU L))) x3 (.sh (G2 c e ps l)) (.sh (G2 c e ps l)) x6 x7 x8 x9 (.sh (.tup (nU l))) (.sh (.tup (c.map .int))) (.sh (.tup (e.map .int))) (.sh (.lst (L.map pll))) (.sh (.tup (lotU (tops L c)))) (.sh (pl p)) (.sh (.tup (nU ps))) x17 x18 x19 x20) s := by
  have n5 := D.n5
  have hc := D.dc.1
  have hll := perm_len hl
  refine evS_asg' (v := ⟨G2 c e ps l, true⟩) (ev_lst (evA_cons (tC_comp (v := ⟨.tup (c.map .int), false⟩) (ev_var rfl) rfl (by omega) (fun _ _ => rfl) (fun _ _ => rfl) fun _ _ => rfl) (evA_cons (v := ⟨.tup ((fC c l).map .int), false⟩) ?_ (evA_cons (add_comp (v1 := ⟨.tup (c.map .int), false⟩) (v2 := ⟨.tup (e.map .int), false⟩) (ev_var rfl) (ev_var rfl) rfl rfl (by omega) (fun _ _ => rfl) fun _ _ => rfl) evA_nil)))) rfl
  rw [fC_map]
  exact fold_comp (v := .tup (c.map .int)) (l := l) rfl (by omega) (fun _ _ => rfl) (fun _ _ => rfl) fun x hx => c_ix (by rw [hc]; exact perm_lt hl x hx) s
theorem T18 (D : Dr n L c e p ps) (hl : l.Perm (List.range n)) : evS K kws (.ife [] (.not (.call 42 (.cons (.var 4) (.cons (.var 5) .nil)))) (.cons (.ret [] (.con (.bl false))) .nil) .nil) (eN n (.sh (.tup (lotU L))) x3 (.sh (G2 c e ps l)) (.sh (G2 c e ps l)) x6 x7 x8 x9 (.sh (.tup (nU l))) (.sh (.tup (c.map .int))) (.sh (.tup (e.map .int))) (.sh (.lst (L.map pll))) (.sh (.tup (lotU (tops L c)))) (.sh (pl p)) (.sh (.tup (nU ps))) x17 x18 x19 x20) s = .ok .nx (eN n (.sh (.tup (lotU L))) x3 (.sh (G2 c e ps l)) (.sh (G2 c e ps l)) x6 x7 x8 x9 (.sh (.tup (nU l))) (.sh (.tup (c.map .int))) (.sh (.tup (e.map .int))) (.sh (.lst (L.map pll))) (.sh (.tup (lotU (tops L c)))) (.sh (pl p)) (.sh (.tup (nU ps))) x17 x18 x19 x20) s := by
  have n5 := D.n5
  have hc := D.dc.1
  have he := D.de.1
  have hll := perm_len hl
  have tr : Tr 2 (G2 c e ps l) := .lst (by simp; unfold lim; omega) fun x hx => by
    simp only [List.mem_cons, List.not_mem_nil, or_false] at hx
    rcases hx with rfl | rfl | rfl
    · exact tr_ints _ (by unfold tC; rw [List.length_map, List.length_range]; omega) 0
    · exact tr_ints _ (by unfold fC; rw [List.length_map]; omega) 0
    · exact tr_ints _ (by unfold aC; rw [List.length_zipWith]; omega) 0
  exact (evS_ifF (fz := []) (v := ⟨.bl false, false⟩) (ev_not (q := true) ((ev_call (evA_cons (ev_var (u := G2 c e ps l) rfl) (evA_cons (ev_var (u := G2 c e ps l) rfl) evA_nil))).trans (same_ok tr 35 s)) rfl) rfl).trans evB_nil
theorem T19 (D : Dr n L c e p ps) : evS K kws (.asgT [] (.t2 (.nm 19) (.nm 20)) (.tup (.cons (.call 53 (.cons (.var 2) (.cons (.var 12) .nil))) (.cons (.call 53 (.cons (.var 2) (.cons (.ix (.var 4) (.con (.int 2))) .nil))) .nil)))) (eN n (.sh (.tup (lotU L))) x3 (.sh (G2 c e ps l)) (.sh (G2 c e ps l)) x6 x7 x8 x9 (.sh (.tup (nU l))) (.sh (.tup (c.map .int))) (.sh (.tup (e.map .int))) (.sh (.lst (L.map pll))) (.sh (.tup (lotU (tops L c)))) (.sh (pl p)) (.sh (.tup (nU ps))) x17 x18 x19 x20) s = .ok .nx (eN n (.sh (.tup (lotU L))) x3 (.sh (G2 c e ps l)) (.sh (G2 c e ps l)) x6 x7 x8 x9 (.sh (.tup (nU l))) (.sh (.tup (c.map .int))) (.sh (.tup (e.map .int))) (.sh (.lst (L.map pll))) (.sh (.tup (lotU (tops L c)))) (.sh (pl p)) (.sh (.tup (nU ps))) x17 x18 (.sh (.tup (lotU (tops L e)))) (.sh (.tup (lotU (tops L (aC c e)))))) s := by
  have e1 := law_tops_ok (v := .tup (e.map .int)) D.lot (.inl rfl) D.de.sm 36 s
  have e2 := law_tops_ok (v := .tup ((aC c e).map .int)) D.lot (.inl rfl) (sm_aC D.dc D.de) 36 s
  exact evS_asgT (v := ⟨.tup [.tup (lotU (tops L e)), .tup (lotU (tops L (aC c e)))], false⟩) (ev_tup (evA_cons ((ev_call (evA_cons (ev_var (u := .tup (lotU L)) rfl) (evA_cons (ev_var (u := .tup (e.map .int)) rfl) evA_nil))).trans e1) (evA_cons ((ev_call (evA_cons (ev_var (u := .tup (lotU L)) rfl) (evA_cons (v := ⟨.tup ((aC c e).map .int), false⟩) (ev_ix (v2 := ⟨.int ((2 : Nat) : Int), false⟩) (s2 := s) (ev_var (u := G2 c e ps l) rfl) (by simp only [evE]; rfl) (getIx_lst rfl)) evA_nil))).trans e2) evA_nil))) rfl
theorem T20 (D : Dr n L c e p ps) : evS K kws (.ife [] (.and (.cmp .ne (.comp [21] (.nm 21) (.seq (.var 14)) (.cmp .isin (.var 21) (.var 19)) (.var 21)) (.lst .nil)) (.cmp .ne (.bi .list (.cons (.var 20) .nil)) (.comp [21] (.nm 21) (.seq (.var 14)) (.cmp .isin (.var 21) (.var 19)) (.var 21)))) (.cons (.ret [] (.con (.bl false))) .nil) .nil) (eN n (.sh (.tup (lotU L))) x3 (.sh (G2 c e ps l)) (.sh (G2 c e ps l)) x6 x7 x8 x9 (.sh (.tup (nU l))) (.sh (.tup (c.map .int))) (.sh (.tup (e.map .int))) (.sh (.lst (L.map pll))) (.sh (.tup (lotU (tops L c)))) (.sh (pl p)) (.sh (.tup (nU ps))) x17 x18 (.sh (.tup (lotU (tops L e)))) (.sh (.tup (lotU (tops L (aC c e)))))) s = .ok .nx (eN n (.sh (.tup (lotU L))) x3 (.sh (G2 c e ps l)) (.sh (G2 c e ps l)) x6 x7 x8 x9 (.sh (.tup (nU l))) (.sh (.tup (c.map .int))) (.sh (.tup (e.map .int))) (.sh (.lst (L.map pll))) (.sh (.tup (lotU (tops L c)))) (.sh (pl p)) (.sh (.tup (nU ps))) x17 x18 (.sh (.tup (lotU (tops L e)))) (.sh (.tup (lotU (tops L (aC c e)))))) s := by
  have hf := D.few
  have e0 : evE K kws (.comp [21] (.nm 21) (.seq (.var 14)) (.cmp .isin (.var 21) (.var 19)) (.var 21)) (eN n (.sh (.tup (lotU L))) x3 (.sh (G2 c e ps l)) (.sh (G2 c e ps l)) x6 x7 x8 x9 (.sh (.tup (nU l))) (.sh (.tup (c.map .int))) (.sh (.tup (e.map .int))) (.sh (.lst (L.map pll))) (.sh (.tup (lotU (tops L c)))) (.sh (pl p)) (.sh (.tup (nU ps))) x17 x18 (.sh (.tup (lotU (tops L e)))) (.sh (.tup (lotU (tops L (aC c e)))))) s = .ok ⟨.lst (lotU ((tops L c).filter fun p => decide (p ∈ tops L e))), true⟩ s :=
    filter_lot (u := .tup (lotU (tops L c))) rfl rfl (Nat.le_trans (List.length_filter_le _ _) (by omega)) (fun _ _ => rfl) fun q hq => ev_cmp (ev_var (u := pl q) rfl) (ev_var (u := .tup (lotU (tops L e))) rfl) (isin_lot _ _)
  have e2 := ev_cmp (o := .ne) (b := .lst .nil) e0 (v2 := ⟨.lst [], true⟩) (s2 := s) (ev_lst evA_nil) (ne_nil (shp_lot _))
  rw [lot_empty] at e2
  refine (evS_ifF (fz := []) (v := ⟨.bl false, false⟩) ?_ rfl).trans evB_nil
  cases hE : ((tops L c).filter fun p => decide (p ∈ tops L e)).isEmpty with
  | true => rw [hE] at e2; exact ev_andF e2 rfl
  | false =>
    rw [hE] at e2
    have h0 : (tops L c).filter (fun p => decide (p ∈ tops L e)) ≠ [] := fun h0 => by rw [h0] at hE; cases hE
    refine (ev_andT e2 rfl).trans ?_
    have e3 := tops_both (c := c) (e := e) D.lot (by rw [D.de.1, D.dc.1]) h0
    refine ev_cmp (ev_bi1 (r := ⟨.lst (lotU (tops L (aC c e))), true⟩) (ev_var (u := .tup (lotU (tops L (aC c e)))) rfl) rfl) e0 ?_
    rw [e3]
    exact ne_lotL _
def G3 (L : List (List Bool)) (c : List Int) (ps l : List Nat) : U := .lst [.tup (lotU (sortQ ((tops L c).map (tw · ps)))), .tup (lotU (sortQ ((tops L c).map (fP · l))))]
theorem T21 (D : Dr n L c e p ps) (hl : l.Perm (List.range n)) : evS K kws (.asg [] 4 false (.lst (.cons (.call 29 (.cons (.call 23 (.cons (.var 2) (.cons (.var 16) .nil))) (.cons (.ix (.var 4) (.con (.int 0))) .nil))) (.cons (.call 29 (.cons (.call 24 (.cons (.var 13) (.cons (.var 10) .nil))) (.cons (.ix (.var 4) (.con (.int 1))) .nil))) .nil)))) (eN n (.sh (.tup (lotU L))) x3 (.sh (G2 c e ps l)) (.sh (G2 c e ps l)) x6 x7 x8 x9 (.sh (.tup (nU l))) (.sh (.tup (c.map .int))) (.sh (.tup (e.map .int))) (.sh (.lst (L.map pll))) (.sh (.tup (lotU (tops L c)))) (.sh (pl p)) (.sh (.tup (nU ps))) x17 x18 (.sh (.tup (lotU (tops L e)))) (.sh (.tup (lotU (tops L (aC c e)))))) s = .ok .nx (eN n (.sh (.tup (lotU L))) x3 (.sh (G3 L c ps l)) (.sh (G2 c e ps l)) x6 x7 x8 x9 (.sh (.tup (nU l))) (.sh (.tup (c.map .int))) (.sh (.tup (e.map .int))) (.sh (.lst (L.map pll))) (.sh (.tup (lotU (tops L c)))) (.sh (pl p)) (.sh (.tup (nU ps))) x17 x18 (.sh (.tup (lotU (tops L e)))) (.sh (.tup (lotU (tops L (aC c e)))))) s := by
  have n5 := D.n5
  have n1 := D.lot.n1
  have hc := D.dc.1
  have hal := D.al
  have hf := D.few
  have hll := perm_len hl
  have hL0 := D.lot.ne
  have e1 := turned_lot_ok (u := .tup (lotU L)) (v := .tup (nU ps)) (.inl rfl) D.lot (.inl rfl) D.asc (by omega) 31 s
  have e2 := moved_lot_ok (u := .lst (L.map pll)) (v := .tup (nU l)) (.inr rfl) D.lot (.inl rfl) hl 31 s
  have L1 : Lot n (sortP (L.map (tw · ps))) := lot_sortP (by simp [hL0]) (fun q hq => by obtain ⟨r, hr, rfl⟩ := List.mem_map.mp hq; rw [tw_len]; exact D.lot.len r hr) n1 (by omega) (by rw [List.length_map]; omega)
  have L2 : Lot n (sortP (L.map (fP · l))) := lot_sortP (by simp [hL0]) (fun q hq => by obtain ⟨r, hr, rfl⟩ := List.mem_map.mp hq; rw [fP_len]; exact hll) n1 (by omega) (by rw [List.length_map]; omega)
  have e3 := best_ok (v := .tup ((tC c ps).map .int)) (.inl rfl) L1 (.inl rfl) (by unfold tC; rw [List.length_map, List.length_range]; exact hc) (sm_tC D.dc.sm) 31 s
  have e4 := best_ok (v := .tup ((fC c l).map .int)) (.inl rfl) L2 (.inl rfl) (by unfold fC; rw [List.length_map]; exact hll) (sm_fC D.dc.sm fun k hk => by rw [hc]; exact perm_lt hl k hk) 31 s
  rw [tops_turned D.lot hc] at e3
  rw [tops_moved D.lot hc hl] at e4
  have i0 : evE K kws (.ix (.var 4) (.con (.int 0))) (eN n (.sh (.tup (lotU L))) x3 (.sh (G2 c e ps l)) (.sh (G2 c e ps l)) x6 x7 x8 x9 (.sh (.tup (nU l))) (.sh (.tup (c.map .int))) (.sh (.tup (e.map .int))) (.sh (.lst (L.map pll))) (.sh (.tup (lotU (tops L c)))) (.sh (pl p)) (.sh (.tup (nU ps))) x17 x18 (.sh (.tup (lotU (tops L e)))) (.sh (.tup (lotU (tops L (aC c e)))))) s = .ok ⟨.tup ((tC c ps).map .int), false⟩ s := ev_ix (v2 := ⟨.int ((0 : Nat) : Int), false⟩) (s2 := s) (ev_var (u := G2 c e ps l) rfl) (by simp only [evE]; rfl) (getIx_lst rfl)
  have i1 : evE K kws (.ix (.var 4) (.con (.int 1))) (eN n (.sh (.tup (lotU L))) x3 (.sh (G2 c e ps l)) (.sh (G2 c e ps l)) x6 x7 x8 x9 (.sh (.tup (nU l))) (.sh (.tup (c.map .int))) (.sh (.tup (e.map .int))) (.sh (.lst (L.map pll))) (.sh (.tup (lotU (tops L c)))) (.sh (pl p)) (.sh (.tup (nU ps))) x17 x18 (.sh (.tup (lotU (tops L e)))) (.sh (.tup (lotU (tops L (aC c e)))))) s = .ok ⟨.tup ((fC c l).map .int), false⟩ s := ev_ix (v2 := ⟨.int ((1 : Nat) : Int), false⟩) (s2 := s) (ev_var (u := G2 c e ps l) rfl) (by simp only [evE]; rfl) (getIx_lst rfl)
  exact evS_asg' (v := ⟨G3 L c ps l, true⟩) (ev_lst (evA_cons ((ev_call (evA_cons ((ev_call (evA_cons (ev_var (u := .tup (lotU L)) rfl) (evA_cons (ev_var (u := .tup (nU ps)) rfl) evA_nil))).trans e1) (evA_cons i0 evA_nil))).trans e3) (evA_cons ((ev_call (evA_cons ((ev_call (evA_cons (ev_var (u := .lst (L.map pll)) rfl) (evA_cons (ev_var (u := .tup (nU l)) rfl) evA_nil))).trans e2) (evA_cons i1 evA_nil))).trans e4) evA_nil))) rfl
theorem T22 (D : Dr n L c e p ps) (hl : l.Perm (List.range n)) : evS K kws (.asg [] 5 false (.lst (.cons (.bi .tuple (.cons (.bi .sorted (.cons (.comp [21] (.nm 21) (.seq (.var 14)) (.con (.bl true)) (.call 47 (.cons (.var 21) (.cons (.var 16) .nil)))) .nil)) .nil)) (.cons (.bi .tuple (.cons (.bi .sorted (.cons (.comp [21] (.nm 21) (.seq (.var 14)) (.con (.bl true)) (.bi .tuple (.cons (.comp [22] (.nm 22) (.seq (.var 10)) (.con (.bl true)) (.ix (.var 21) (.var 22))) .nil))) .nil)) .nil)) .nil)))) (eN n (.sh (.tup (lotU L))) x3 (.sh (G3 L c ps l)) (.sh (G2 c e ps l)) x6 x7 x8 x9 (.sh (.tup (nU l))) (.sh (.tup (c.map .int))) (.sh (.tup (e.map .int))) (.sh (.lst (L.map pll))) (.sh (.tup (lotU (tops L c)))) (.sh (pl p)) (.sh (.tup (nU ps))) x17 x18 (.sh (.tup (lotU (tops L e)))) (.sh (.tup (lotU (tops L (aC c e)))))) s = .ok .nx (eN n (.sh (.tup (lotU L))) x3 (.sh (G3 L c ps l)) (.sh (G3 L c ps l)) x6 x7 x8 x9 (.sh (.tup (nU l))) (.sh (.tup (c.map .int))) (.sh (.tup (e.map .int))) (.sh (.lst (L.map pll))) (.sh (.tup (lotU (tops L c)))) (.sh (pl p)) (.sh (.tup (nU ps))) x17 x18 (.sh (.tup (lotU (tops L e)))) (.sh (.tup (lotU (tops L (aC c e)))))) s := by
  have n5 := D.n5
  have hf := D.few
  have hll := perm_len hl
  have hlen : ∀ q ∈ tops L c, q.length = n := fun q hq => D.lot.len q (mem_tops.mp hq).1
  have hT : (tops L c).length ≤ 100 := Nat.le_trans (List.length_filter_le _ _) (by omega)
  refine evS_asg' (v := ⟨G3 L c ps l, true⟩) (ev_lst (evA_cons (v := ⟨.tup (lotU (sortQ ((tops L c).map (tw · ps)))), false⟩) (ev_bi1 (ev_bi1 (map_lot (v := .tup (nU ps)) (g := (tw · ps)) (u := .tup (lotU (tops L c))) rfl rfl hT (fun _ _ => rfl) (fun _ _ => rfl) fun q hq => law_turn_ok (by rw [hlen q hq]; omega) 37 s) (sorted_lot (n := n) (fun q hq => by obtain ⟨r, hr, rfl⟩ := List.mem_map.mp hq; rw [tw_len]; exact hlen r hr) D.lot.n1)) rfl) (evA_cons (v := ⟨.tup (lotU (sortQ ((tops L c).map (fP · l)))), false⟩) (ev_bi1 (ev_bi1 (map_exp (g := (fP · l)) (u := .tup (lotU (tops L c))) rfl rfl hT fun q hq => ?_) (sorted_lot (n := n) (fun q hq => by obtain ⟨r, hr, rfl⟩ := List.mem_map.mp hq; rw [fP_len]; exact hll) D.lot.n1)) rfl) evA_nil))) rfl
  show _ = RE.ok (Rv.mk (pl (fP q l)) false) s
  rw [fP_map]
  exact fold_comp (v := pl q) (l := l) rfl (by omega) (fun _ _ => rfl) (fun _ _ => rfl) fun x hx => bt_ix (by rw [hlen q hq]; exact perm_lt hl x hx) s
theorem T23 (D : Dr n L c e p ps) (hl : l.Perm (List.range n)) : evS K kws (.ret [] (.call 42 (.cons (.var 4) (.cons (.var 5) .nil)))) (eN n (.sh (.tup (lotU L))) x3 (.sh (G3 L c ps l)) (.sh (G3 L c ps l)) x6 x7 x8 x9 (.sh (.tup (nU l))) (.sh (.tup (c.map .int))) (.sh (.tup (e.map .int))) (.sh (.lst (L.map pll))) (.sh (.tup (lotU (tops L c)))) (.sh (pl p)) (.sh (.tup (nU ps))) x17 x18 (.sh (.tup (lotU (tops L e)))) (.sh (.tup (lotU (tops L (aC c e)))))) s = .ok (.ret ⟨.bl true, false⟩) (eN n (.sh (.tup (lotU L))) x3 (.sh (G3 L c ps l)) (.sh (G3 L c ps l)) x6 x7 x8 x9 (.sh (.tup (nU l))) (.sh (.tup (c.map .int))) (.sh (.tup (e.map .int))) (.sh (.lst (L.map pll))) (.sh (.tup (lotU (tops L c)))) (.sh (pl p)) (.sh (.tup (nU ps))) x17 x18 (.sh (.tup (lotU (tops L e)))) (.sh (.tup (lotU (tops L (aC c e)))))) s := by
  have n5 := D.n5
  have hf := D.few
  have hll := perm_len hl
  have hlen : ∀ q ∈ tops L c, q.length = n := fun q hq => D.lot.len q (mem_tops.mp hq).1
  have hQ : ∀ M : List (List Bool), (sortQ M).length = M.length := fun M => by unfold sortQ; rw [List.length_map, sortT_len, List.length_map]
  have hT : (tops L c).length ≤ 100 := Nat.le_trans (List.length_filter_le _ _) (by omega)
  have tr : Tr 3 (G3 L c ps l) := .lst (by simp; unfold lim; omega) fun x hx => by
    simp only [List.mem_cons, List.not_mem_nil, or_false] at hx
    rcases hx with rfl | rfl
    · exact tr_lot _ (by rw [hQ, List.length_map]; exact hT) (fun q hq => by obtain ⟨r, hr, rfl⟩ := List.mem_map.mp (mem_sortQ.mp hq); rw [tw_len, hlen r hr]; omega) 0
    · exact tr_lot _ (by rw [hQ, List.length_map]; exact hT) (fun q hq => by obtain ⟨r, hr, rfl⟩ := List.mem_map.mp (mem_sortQ.mp hq); rw [fP_len]; omega) 0
  exact evS_ret (fz := []) ((ev_call (evA_cons (ev_var (u := G3 L c ps l) rfl) (evA_cons (ev_var (u := G3 L c ps l) rfl) evA_nil))).trans (same_ok tr 34 s))
end
end K03

end
section
set_option Elab.async false
set_option linter.all false
set_option maxRecDepth 100000
set_option maxHeartbeats 2000000
namespace K03
open Ev PySem
theorem hand : run prog kws 39 54 [] [] = .ok ⟨.bl true, false⟩ [] := by kernel_rfl
theorem drawn {sr : Sto} {a b z : Int} {n m : Nat} (B : Box a b z (m + 600)) (n1 : 1 ≤ n) (n5 : n ≤ 5) : ∃ sr' a' z', run prog kws 39 55 [.ref 0, .int n] (sto sr a b z) = .ok ⟨.bl true, false⟩ (sto sr' a' b z') ∧ Box a' b z' m := by
  obtain ⟨L, sr1, a1, z1, t1, B1, hL, hf⟩ := T1 (sr := sr) (x2 := .un) (x3 := .un) (x4 := .un) (x5 := .un) (x6 := .un) (x7 := .un) (x8 := .un) (x9 := .un) (x10 := .un) (x11 := .un) (x12 := .un) (x13 := .un) (x14 := .un) (x15 := .un) (x16 := .un) (x17 := .un) (x18 := .un) (x19 := .un) (x20 := .un) (m := m + 300) n1 n5 (B.mono (by omega))
  obtain ⟨c, e, a2, z2, t2, B2, dc, de⟩ := T2 (L := L) (sr := sr1) (x3 := .un) (x4 := .un) (x5 := .un) (x6 := .un) (x7 := .un) (x8 := .un) (x9 := .un) (x10 := .un) (x11 := .un) (x12 := .un) (x13 := .un) (x14 := .un) (x15 := .un) (x16 := .un) (x17 := .un) (x18 := .un) (x19 := .un) (x20 := .un) (m := m + 138) n5 (B1.mono (by omega))
  obtain ⟨p, ps, a3, z3, t4, B3, hp0, ha⟩ := T4 (sr := sr1) (c := c) (x12 := .sh (.tup (e.map .int))) (x3 := .un) (x4 := .un) (x5 := .un) (x6 := .un) (x7 := .un) (x8 := .un) (x9 := .un) (x10 := .un) (x15 := .un) (x16 := .un) (x17 := .un) (x18 := .un) (x19 := .un) (x20 := .un) (m := m + 96) hL n5 B2
  have D : Dr n L c e p ps := ⟨n5, hL, hf, dc, de, hp0, ha⟩
  obtain ⟨h, a4, z4, t9, B4, hh⟩ := T9 (sr := sr1) (x3 := .sh (.lst ((Ev.sortS (worths L c)).map .int))) (x4 := .sh (G1 L c p)) (x5 := .sh (G1 L c p)) (x6 := .un) (x7 := .un) (x8 := .un) (x9 := .un) (x10 := .un) (x17 := .un) (x18 := .un) (x19 := .un) (x20 := .un) (m := m + 86) D B3
  obtain ⟨l, a5, z5, t15, B5, hl⟩ := T15 (sr := sr1) (x3 := .sh (.lst ((Ev.sortS (worths L c)).map .int))) (x4 := .sh (G1 L c p)) (x5 := .sh (G1 L c p)) (x6 := .sh (.tup (hU h))) (x7 := .sh (.dct (hD h))) (x8 := .sh (.lst ((ownH c h).map .int))) (x9 := .sh (.lst (lotU (L.filter fun p => kept p h)))) (x10 := .un) (x17 := .sh (.tup ((hF c h c).map .int))) (x18 := .sh (.int (most c))) (x19 := .un) (x20 := .un) (m := m) D (B4.mono (by omega))
  refine ⟨sr1, a5, z5, ?_, B5⟩
  rw [run_at (fd := d55) rfl rfl]
  refine fin_of (ρ := (eN n (.sh (.tup (lotU L))) (.sh (.lst ((Ev.sortS (worths L c)).map .int))) (.sh (G3 L c ps l)) (.sh (G3 L c ps l)) (.sh (.tup (hU h))) (.sh (.dct (hD h))) (.sh (.lst ((ownH c h).map .int))) (.sh (.lst (lotU (L.filter fun p => kept p h)))) (.sh (.tup (nU l))) (.sh (.tup (c.map .int))) (.sh (.tup (e.map .int))) (.sh (.lst (L.map pll))) (.sh (.tup (lotU (tops L c)))) (.sh (pl p)) (.sh (.tup (nU ps))) (.sh (.tup ((hF c h c).map .int))) (.sh (.int (most c))) (.sh (.tup (lotU (tops L e)))) (.sh (.tup (lotU (tops L (aC c e))))))) (s := sto sr1 a5 b z5) ((evB_nx t1).trans ?_)
  refine (evB_nx t2).trans ?_
  refine (evB_nx (T3 hL dc n5)).trans ?_
  refine (evB_nx t4).trans ?_
  refine (evB_nx (T5 D)).trans ?_
  refine (evB_nx (T6 D)).trans ?_
  refine (evB_nx (T7 D)).trans ?_
  refine (evB_nx (T8 D)).trans ?_
  refine (evB_nx t9).trans ?_
  refine (evB_nx (T10 D hh)).trans ?_
  refine (evB_nx (T11 D hh)).trans ?_
  refine (evB_nx (T12 D hh)).trans ?_
  refine (evB_nx (T13 D hh)).trans ?_
  refine (evB_nx (T14 D hh)).trans ?_
  refine (evB_nx t15).trans ?_
  refine (evB_nx (T16 D hl)).trans ?_
  refine (evB_nx (T17 D hl)).trans ?_
  refine (evB_nx (T18 D hl)).trans ?_
  refine (evB_nx (T19 D)).trans ?_
  refine (evB_nx (T20 D)).trans ?_
  refine (evB_nx (T21 D hl)).trans ?_
  refine (evB_nx (T22 D hl)).trans ?_
  exact evB_ret (T23 D hl)
def lapB : B := .cons (.ife [] (.not (.call 55 (.cons (.var 1) (.cons (.op .add (.con (.int 1)) (.call 37 (.cons (.var 1) (.cons (.con (.int 5)) .nil)))) .nil)))) (.cons (.ret [] (.con (.bl false))) .nil) .nil) .nil
theorem lap_ok {sr : Sto} {a b c : Int} {m : Nat} (Bx : Box a b c (m + 601)) (scr : U) (k : Int) : ∃ sr' a' c', evB (run prog kws 39) kws lapB [.sh scr, .sh (.ref 0), .sh (.int k)] (sto sr a b c) = .ok .nx [.sh scr, .sh (.ref 0), .sh (.int k)] (sto sr' a' b c') ∧ Box a' b c' m := by
  obtain ⟨x, a1, c1, f, e, x0, x1, B1⟩ := take_ok (sr := sr) (n := 5) Bx (by decide) (by decide) 38
  obtain ⟨j, rfl⟩ := Int.eq_ofNat_of_zero_le x0
  obtain ⟨sr2, a2, c2, e2, B2⟩ := drawn (sr := sr) (n := 1 + j) B1 (by omega) (by omega)
  refine ⟨sr2, a2, c2, ?_, B2⟩
  have hc : evE (run prog kws 39) kws (.not (.call 55 (.cons (.var 1) (.cons (.op .add (.con (.int 1)) (.call 37 (.cons (.var 1) (.cons (.con (.int 5)) .nil)))) .nil)))) [.sh scr, .sh (.ref 0), .sh (.int k)] (sto sr a b c) = .ok ⟨.bl false, false⟩ (sto sr2 a2 b c2) := by
    refine ev_not (q := true) ((ev_call (evA_cons (ev_var (u := .ref 0) rfl) (evA_cons (v := ⟨.int ((1 + j : Nat) : Int), false⟩) (ev_op (v := ⟨.int 1, false⟩) (s1 := sto sr a b c) (by simp only [evE]) ((ev_call (evA_cons (ev_var (u := .ref 0) rfl) (evA_cons (v := ⟨.int 5, false⟩) (s1 := sto sr a b c) (by simp only [evE]) evA_nil))).trans e) ?_) evA_nil))).trans e2) rfl
    simp only [x_add]
    rw [show (1 : Int) + (j : Int) = ((1 + j : Nat) : Int) by omega]
  exact (evB_nx (ρ1 := [.sh scr, .sh (.ref 0), .sh (.int k)]) (s1 := sto sr2 a2 b c2) ((evS_ifF (fz := []) hc rfl).trans evB_nil)).trans evB_nil
theorem laps_ok {sr : Sto} {a b c : Int} (Bx : Box a b c 2404) (scr : U) : ∃ ρ' sr' a' c', evS (run prog kws 39) kws (.for_ [] (.nm 2) (.rng1 (.con (.int 4))) lapB) [.sh scr, .sh (.ref 0), .un] (sto sr a b c) = .ok .nx ρ' (sto sr' a' b c') := by
  obtain ⟨r1, a1, c1, e1, B1⟩ := lap_ok (sr := sr) (m := 1803) Bx scr 0
  obtain ⟨r2, a2, c2, e2, B2⟩ := lap_ok (sr := r1) (m := 1202) B1 scr 1
  obtain ⟨r3, a3, c3, e3, B3⟩ := lap_ok (sr := r2) (m := 601) B2 scr 2
  obtain ⟨r4, a4, c4, e4, B4⟩ := lap_ok (sr := r3) (m := 0) B3 scr 3
  refine ⟨[.sh scr, .sh (.ref 0), .sh (.int 3)], r4, a4, c4, ?_⟩
  have hi : evI (run prog kws 39) kws (.rng1 (.con (.int 4))) [.sh scr, .sh (.ref 0), .un] (sto sr a b c) = .ok [.int 0, .int 1, .int 2, .int 3] (sto sr a b c) := rfl
  have hl : inLim [.int 0, .int 1, .int 2, .int 3] = true := by decide
  simp only [evS, freeze, hi, x_st, hl, forL, bindTg, put, e1, e2, e3, e4]
theorem log_le {n B : Nat} (h : n ≤ B) : n.log2 ≤ B.log2 := by
  by_cases h0 : n = 0
  · subst h0; simp
  · exact (Nat.le_log2 (by omega)).mpr (Nat.le_trans (Nat.log2_self_le h0) h)
theorem law_ok (ns : List Int) (hl : ns.length ≤ 63) {L B : Nat} (hB : B = 2 ^ L) (hL : L = 1048577) (hb : ∀ y ∈ ns, y.natAbs ≤ B) : ∃ f s', run prog kws 40 56 [.lst (ns.map .int)] [] = .ok ⟨.bl true, f⟩ s' := by
  have lg : B.log2 = L := by rw [hB]; exact Nat.log2_two_pow
  obtain ⟨v, e, hv⟩ := cells_ok (B := B) ns hl hb (fun y hy => by have := log_le (hb y hy); omega) 38 []
  have hv2 : v.natAbs.log2 < 50000000 := by
    have h1 : v.natAbs ≤ 2 ^ (L + 14) := by
      rw [Nat.pow_add, ← hB]
      have : (2 : Nat) ^ 14 = 16384 := by decide
      rw [this]; omega
    have := log_le h1
    rw [Nat.log2_two_pow] at this
    omega
  obtain ⟨a, b, e2, Bx⟩ := box_ok v hv2 38 2404 (by omega)
  obtain ⟨ρ', sr', a', c', e3⟩ := laps_ok (sr := []) Bx (.lst (ns.map .int))
  rw [run_at (fd := d56) rfl rfl]
  refine ⟨false, sto sr' a' b c', fin_of (ρ := ρ') (s := sto sr' a' b c') ?_⟩
  have h0 : evE (run prog kws 39) kws (.not (.call 54 .nil)) [.sh (.lst (ns.map .int)), .un, .un] [] = .ok ⟨.bl false, false⟩ [] :=
    ev_not (q := true) ((ev_call evA_nil).trans hand) rfl
  have h1 : evE (run prog kws 39) kws (.call 36 (.cons (.call 38 (.cons (.var 0) (.cons (.con (.int 1)) .nil))) (.cons (.con (.int 0)) .nil))) [.sh (.lst (ns.map .int)), .un, .un] [] = .ok ⟨.ref 0, false⟩ (sto [] a b 0) := by
    have h42 : evE (run prog kws 39) kws (.call 38 (.cons (.var 0) (.cons (.con (.int 1)) .nil))) [.sh (.lst (ns.map .int)), .un, .un] [] = .ok ⟨.lst [.int v], true⟩ [] :=
      (ev_call (evA_cons (ev_var (u := .lst (ns.map .int)) rfl) (evA_cons (v := ⟨.int 1, false⟩) (s1 := []) rfl evA_nil))).trans e
    exact (ev_call (evA_cons h42 (evA_cons (v := ⟨.int 0, false⟩) (s1 := []) rfl evA_nil))).trans e2
  refine (evB_nx (ρ1 := [.sh (.lst (ns.map .int)), .un, .un]) (s1 := []) ((evS_ifF (fz := []) h0 rfl).trans evB_nil)).trans ?_
  refine (evB_nx (evS_asg (fz := []) h1)).trans ?_
  refine (evB_nx e3).trans ?_
  exact evB_ret (evS_ret (fz := []) (v := ⟨.bl true, false⟩) rfl)
theorem hrun_of (ns : List Int) (hl : ns.length ≤ 63) (hb : ∀ k ∈ ns, Builtin.Int.intBits k ≤ 1048576) : ∃ f s', run prog kws 40 56 [.lst (ns.map .int)] [] = .ok ⟨.bl true, f⟩ s' := by
  obtain ⟨L, hL⟩ : ∃ L : Nat, L = 1048577 := ⟨_, rfl⟩
  refine law_ok ns hl (B := 2 ^ L) rfl hL fun y hy => ?_
  have h := hb y hy
  unfold Builtin.Int.intBits at h
  by_cases h0 : y.natAbs = 0
  · rw [h0]; exact Nat.zero_le _
  · have hz : (y == 0) = false := by simp; omega
    rw [hz] at h
    have h2 : y.natAbs.log2 < L := by simp at h; omega
    exact Nat.le_of_lt ((Nat.log2_lt h0).mp h2)
end K03

end
open PySem PySem.W PyProof.Rows
set_option Elab.async false
theorem PySem.Challenge.cw_fromanytoany_k03_whole_prices_holds : PySem.Challenge.rw_fromanytoany_k03_whole_prices.Holds := by
  exact k03_of K03.hrun_of
