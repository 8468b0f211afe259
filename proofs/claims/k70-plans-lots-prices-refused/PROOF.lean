import PyProof.Rows.All
import Wide.All
import OpenK.AllK
import Wide.FinOn
import HandS.ForMost
import HandS.TupAny
import HandS.TupMul
import HandS.Dict
import KE.KDictPairs
import KE.KTupSum
import KE.DatumOrd
import HandS.IsInst
import HandS.Deep
import HandS.Flow
import HandS.SortInts
import HandS.Wide
import HandS.Gcd
import HandS.Exc
import HandS.ExcOwn
import KE.GoesRaise
import HandS.ExcSuper
import HandS.ExcField
import KE.KExcSuper
import KE.KExcTry
import HandS.ExcIs
import HandS.WordsExc
import HandS.TryMany
import HandS.Zip
import HandS.Conv
import HandS.SetFor
import HandS.TupSets
import HandS.NamedTupSort
import HandS.Strs
import KE.KDictCopyH
import KE.KDictKeyed
import KE.KMathGC
import KE.GoesMore
import KE.GoesEnum
import PyProof.Draws
import HandS.Iter
import KE.GoesZip
import HandS.Star
import HandS.NoneIn
import HandS.Comp
import HandS.CallSlots
import HandS.Style
import HandS.More
import KE.KExcIs
import HandS.Defaults
import HandS.Ends
import HandS.HeadEnd
import HandS.EndBits
import HandS.HeadHook1
import HandS.HeadHook2
import HandS.HeadHook4
import KE.KStateDown
import HandS.Head0
import HandS.Head1
import HandS.Head2
import HandS.Head3
import PySem.Challenge.RW_fromanytoany_k70_plans_lots_prices_refus
section
set_option Elab.async false
set_option linter.all false
set_option maxRecDepth 100000
namespace Ev
open PySem

/-- values as trees; ref: an object of the store -/
inductive U where
  | non | bl (b : Bool) | int (i : Int) | str (x : Str)
  | tup (xs : List U) | lst (xs : List U) | dct (kvs : List (Int × U)) | ref (k : Nat) | dctT (kvs : List (List Int × U)) | fnv (f : Nat) (n : Str)
instance : Inhabited U := ⟨.non⟩

inductive Op2 where
  | add | sub | mul | fdiv | mod | pow | shl | shr | band | bxor
inductive Cmp where
  | eq | ne | lt | le | gt | ge | isin | notin | is_ | isnot
inductive Ty where
  | int | bool | tuple | list | str
inductive Bi where
  | len | abs | int1 | min2 | max2 | minS | maxS | sum | all | any | list | tuple | sorted | sortedSet | lenSet | listRange
  | isinst (ts : List Ty) | str1 | gcd | lcm
/-- an item of the row that an except suite stores: a text, isinstance(e, LookupError | ValueError), e.n -/
inductive Hi where
  | str (x : Str) | isi (le : Bool) | fld (n : Str) | bl (b : Bool) | non
/-- what an except suite stores -/
inductive Hv where
  | row (is : List Hi) | con (b : Bool)
/-- an exception class: under LookupError (or ValueError), the one field that its __init__ sets -/
structure XcT where
  le : Bool
  fld : Option Str
deriving DecidableEq
/-- an except clause: its class, the slot of its name, the slot it stores to -/
structure Hd where
  cls : Nat
  slot : Option Nat
  tgt : Nat
  v : Hv
/-- targets of loops and of unpacking -/
inductive Tg where
  | nm (i : Nat) | t2 (a b : Tg) | t3 (a b c : Tg) | t4 (a b c d : Tg)
mutual
inductive C where
  | con (u : U) | var (i : Nat) | peek (i : Nat)
  | tup (as : A) | lst (as : A) | slst (as : A)
  | op (o : Op2) (a b : C) | neg (a : C)
  | cmp (o : Cmp) (a b : C) | chain (o p : Cmp) (a b c : C)
  | not (a : C) | and (a b : C) | or (a b : C) | ife (t a b : C)
  | ix (a b : C) | sl (a lo hi : C) | slL (a lo : C) | slH (a hi : C) | rev (a : C)
  | call (f : Nat) (as : A) | callK (f : Nat) (kw : Nat) (as bs : A)
  | bi (b : Bi) (as : A)
  | comp (w : List Nat) (tg : Tg) (it : It) (t e : C)
  | comp2 (w : List Nat) (tg : Tg) (it : It) (t : C) (tg2 : Tg) (it2 : It) (t2 e : C)
  | refNe (a : C) | sortedR (a : C)
  | dict1 (a : C) | dGet (a b : C) | dIn (neg : Bool) (a b : C)
  | callD (f : Nat) (as : A) (ds : List U)
  | callV (g : C) (as : A) | slS (a lo : C) (st : Nat) | dictT (a : C) | dInT (neg : Bool) (a b : C) | dLit (k v : Int) | mth (l : Bool) (a b : C)
inductive A where
  | nil | cons (e : C) (r : A)
inductive It where
  | seq (e : C) | enum (e : C) | zip2 (a b : C) | zips (e : C) | enumZ (e : C) | rng1 (a : C) | rng2 (a b : C) | rng3 (a b c : C)
end
mutual
inductive S where
  | asg (fz : List Nat) (i : Nat) (o : Bool) (e : C)
  | asgT (fz : List Nat) (tg : Tg) (e : C)
  | par2 (fz : List Nat) (i : Nat) (oi : Bool) (a : C) (j : Nat) (oj : Bool) (b : C)
  | par3 (fz : List Nat) (i j l : Nat) (as : A)
  | asgIx (fz : List Nat) (x : Nat) (k e : C)
  | aug (fz : List Nat) (i : Nat) (o : Op2) (e : C)
  | app (fz : List Nat) (x : Nat) (e : C)
  | appPop (fz : List Nat) (x y : Nat) (k : C)
  | ret (fz : List Nat) (e : C) | retV (i : Nat) | retN
  | ife (fz : List Nat) (t : C) (a b : B)
  | for_ (fz : List Nat) (tg : Tg) (it : It) (b : B)
  | while_ (fz : List Nat) (t : C) (b : B)
  | ex (fz : List Nat) (e : C)
  | popS (fz : List Nat) (y : Nat) (k : C)
  | appR (fz : List Nat) (a e : C)
  | raise (c : Nat) | raiseA (fz : List Nat) (c : Nat) (e : C) | insS (fz : List Nat) (x : Nat) (k e : C) | try_ (xs : List XcT) (b : B) (hs : List Hd)
  | pass | cont | brk | never
inductive B where
  | nil | cons (s : S) (b : B)
end

/-- a slot of a frame: nothing, a shared value, an owned list -/
inductive Slot where
  | un | sh (u : U) | own (u : U)
abbrev Env := List Slot
inductive Ob where
  | lst (xs : List Int)
abbrev Sto := List Ob
structure Xc where
  cls : Nat
  arg : Option U
/-- a result, its freshness -/
structure Rv where
  u : U
  f : Bool
inductive RE (α : Type) where
  | ok (a : α) (s : Sto) | exc (x : Xc) (s : Sto) | bad
inductive Fl where
  | nx | ret (r : Rv) | cont | brk
inductive RS where
  | ok (f : Fl) (r : Env) (s : Sto) | exc (x : Xc) (r : Env) (s : Sto) | bad
/-- the tables of keyword calls, of the defs' names -/
structure Kt where
  ks : List (List Nat)
  nm : List (Str × Nat)
abbrev CallF := Nat → List U → Sto → RE Rv

def look : Nat → Env → Slot
  | _, [] => .un
  | 0, s :: _ => s
  | n + 1, _ :: r => look n r
def put : Nat → Slot → Env → Env
  | _, _, [] => []
  | 0, s, _ :: r => s :: r
  | n + 1, s, t :: r => t :: put n s r
def Slot.fz : Slot → Slot
  | .own u => .sh u
  | s => s
def freeze : List Nat → Env → Env
  | [], r => r
  | i :: is, r => freeze is (put i (look i r).fz r)
def wipeE : List Nat → Env → Env
  | [], r => r
  | i :: is, r => put i .un (wipeE is r)
def nth {α : Type} : Nat → List α → Option α
  | _, [] => none
  | 0, x :: _ => some x
  | n + 1, _ :: r => nth n r

/-! ### values -/
mutual
def eqU : U → U → Bool
  | .non, b => (match b with | .non => true | _ => false)
  | .bl a, b => (match b with | .bl c => a == c | .int j => (if a then 1 else 0) == j | _ => false)
  | .int i, b => (match b with | .bl c => i == (if c then 1 else 0) | .int j => i == j | _ => false)
  | .str x, b => (match b with | .str y => x == y | _ => false)
  | .tup xs, b => (match b with | .tup ys => eqUs xs ys | _ => false)
  | .lst xs, b => (match b with | .lst ys => eqUs xs ys | _ => false)
  | .dct _, _ => false
  | .ref _, _ => false
  | .dctT _, _ => false
  | .fnv _ _, _ => false
def eqUs : List U → List U → Bool
  | [], b => (match b with | [] => true | _ => false)
  | x :: xs, b => (match b with | y :: ys => eqU x y && eqUs xs ys | [] => false)
end
/-- no deeper than n, plain data -/
def shp : Nat → U → Bool
  | 0, u => (match u with | .tup _ => false | .lst _ => false | .dct _ => false |   .ref _ => false | .dctT _ => false | .fnv _ _ => false | .str x => PyData.strOk x | _ => true)
  | n + 1, u => (match u with | .tup xs => xs.all (shp n) | .lst xs => xs.all (shp n) | .dct _ => false |   .ref _ => false | .dctT _ => false | .fnv _ _ => false | .str x => PyData.strOk x | _ => true)
def lim : Nat := 1000000
def isNon : U → Bool
  | .non => true
  | _ => false
def truth : U → Option Bool
  | .non => some false
  | .bl b => some b
  | .int i => some (i != 0)
  | .str x => if x.length ≤ lim then some ((x.length : Int) != 0) else none
  | .tup xs => some (!xs.isEmpty)
  | .lst xs => some (!xs.isEmpty)
  | _ => none
def small (i : Int) : Bool := decide (i.natAbs < 2 ^ 64)
def mulOk (i j : Int) : Bool := decide (i.natAbs.log2 + j.natAbs.log2 < 100000000)
def divOk (j : Int) : Bool := j != 0 && decide (j.natAbs.log2 < 9000)
def rep {α : Type} (xs : List α) : Nat → List α
  | 0 => []
  | n + 1 => xs ++ rep xs n
def cutL {α : Type} (xs : List α) (lo hi : Option Int) : List α :=
  (xs.drop (HT.sIx xs.length 0 lo)).take (HT.sIx xs.length xs.length hi - HT.sIx xs.length 0 lo)
def op2 : Op2 → U → U → Option Rv
  | .add, .int i, .int j => some ⟨.int (i + j), false⟩
  | .add, .lst xs, .lst ys => if xs.length + ys.length ≤ lim then some ⟨.lst (xs ++ ys), true⟩ else none
  | .add, .tup xs, .tup ys => if xs.length + ys.length ≤ lim then some ⟨.tup (xs ++ ys), false⟩ else none
  | .add, .str x, .str y => if x.length + y.length ≤ lim then some ⟨.str (x ++ y), false⟩ else none
  | .sub, .int i, .int j => some ⟨.int (i - j), false⟩
  | .mul, .int i, .int j => if mulOk i j then some ⟨.int (i * j), false⟩ else none
  | .mul, .lst xs, .int k => if xs.length * k.toNat ≤ lim && decide (k < 1000000) && decide (-1000000 < k) then some ⟨.lst (rep xs k.toNat), true⟩ else none
  | .mul, .tup xs, .int k => if k == 1 then some ⟨.tup xs, false⟩ else if decide (k ≤ 0) && decide (-1000 ≤ k) && !xs.isEmpty then some ⟨.tup [], false⟩ else if !xs.isEmpty && decide (xs.length ≤ 1000) && decide (2 ≤ k) && decide (k ≤ 1000) then some ⟨.tup (rep xs k.toNat), false⟩ else none
  | .fdiv, .int i, .int j => if !divOk j then none else some ⟨.int (i.fdiv j), false⟩
  | .mod, .int i, .int j => if j == 0 then none else some ⟨.int (i.fmod j), false⟩
  | .pow, .int i, .int j => if decide (0 ≤ j) && decide (j ≤ 1000000) && small i then some ⟨.int (i ^ j.toNat), false⟩ else none
  | .shl, .int i, .int j => if decide (0 ≤ j) && decide (j ≤ 1000000) && small i then some ⟨.int (i * 2 ^ j.toNat), false⟩ else none
  | .shr, .int i, .int j => if decide (0 ≤ j) then some ⟨.int (i / 2 ^ j.toNat), false⟩ else none
  | .band, .int i, .int j => some ⟨.int (Builtin.bitAnd i j), false⟩
  | .bxor, .int i, .int j => some ⟨.int (Builtin.bitXor i j), false⟩
  | _, _, _ => none
def intsU : List U → Option (List Int)
  | [] => some []
  | .int i :: r => (match intsU r with | some is => some (i :: is) | none => none)
  | _ :: _ => none
def boolsU : List U → Option (List Bool)
  | [] => some []
  | .bl b :: r => (match boolsU r with | some bs => some (b :: bs) | none => none)
  | _ :: _ => none
def cmp2 : Cmp → U → U → Option Bool
  | .eq, u, v => if shp 60 u && shp 60 v then some (eqU u v) else none
  | .ne, u, v => if shp 60 u && shp 60 v then some (!eqU u v) else none
  | .lt, .int i, .int j => some (decide (i < j))
  | .le, .int i, .int j => some (decide (i ≤ j))
  | .gt, .int i, .int j => some (decide (j < i))
  | .ge, .int i, .int j => some (decide (j ≤ i))
  | .lt, .tup xs, .tup ys => (match intsU xs, intsU ys with | some a, some b => some (HT.lexLt a b) | _, _ => none)
  | .isin, u, .lst ys => if shp 60 u && ys.all (shp 60) then some (ys.any fun y => eqU y u) else none
  | .isin, u, .tup ys => if shp 60 u && ys.all (shp 60) then some (ys.any fun y => eqU y u) else none
  | .notin, u, .lst ys => if shp 60 u && ys.all (shp 60) then some (!ys.any fun y => eqU y u) else none
  | .notin, u, .tup ys => if shp 60 u && ys.all (shp 60) then some (!ys.any fun y => eqU y u) else none
  | .is_, u, .non => some (isNon u)
  | .isnot, u, .non => some (!isNon u)
  | _, _, _ => none
def insI (x : Int) : List Int → List Int
  | [] => [x]
  | y :: r => if x ≤ y then x :: y :: r else y :: insI x r
def sortI : List Int → List Int
  | [] => []
  | x :: r => insI x (sortI r)
def insS (x : Int) : List Int → List Int
  | [] => [x]
  | y :: r => if x < y then x :: y :: r else if x == y then y :: r else y :: insS x r
def sortS : List Int → List Int
  | [] => []
  | x :: r => insS x (sortS r)
/-- tuples of ints, none empty -/
def tupsU : List U → Option (List (List Int))
  | [] => some []
  | .tup xs :: r => (match intsU xs, tupsU r with | some (i :: is), some rs => some ((i :: is) :: rs) | _, _ => none)
  | _ :: _ => none
def insT (x : List Int) : List (List Int) → List (List Int)
  | [] => [x]
  | y :: r => if HT.lexLt y x then y :: insT x r else x :: y :: r
def sortT : List (List Int) → List (List Int)
  | [] => []
  | x :: r => insT x (sortT r)
def insTS (x : List Int) : List (List Int) → List (List Int)
  | [] => [x]
  | y :: r => if HT.lexLt y x then y :: insTS x r else if x == y then y :: r else x :: y :: r
def sortTS : List (List Int) → List (List Int)
  | [] => []
  | x :: r => insTS x (sortTS r)
def tupI (t : List Int) : U := .tup (t.map .int)
/-- what a set of tuples may hold -/
def okT (ts : List (List Int)) : Bool := decide (ts.length < 64) && ts.all fun t => t.length == (ts.headD []).length && t.all fun x => decide (0 ≤ x) && decide (x < 18446744073709551616)
def isTy : Ty → U → Bool
  | .int, .int _ => true
  | .int, .bl _ => true
  | .bool, .bl _ => true
  | .tuple, .tup _ => true
  | .list, .lst _ => true
  | .str, .str _ => true
  | _, _ => false
def isPlain : U → Bool
  | .ref _ => false
  | .dctT _ => false
  | .fnv _ _ => false
  | _ => true
def maxI : Int → List Int → Int
  | m, [] => m
  | m, x :: r => maxI (if x > m then x else m) r
def minI : Int → List Int → Int
  | m, [] => m
  | m, x :: r => minI (if x < m then x else m) r
def items : U → Option (List U)
  | .lst xs => some xs
  | .tup xs => some xs
  | _ => none
/-- math.gcd, math.lcm -/
def mthV (l : Bool) : U → U → Option Rv
  | .int i, .int j => (match l with
    | true => if decide (i.natAbs < 18446744073709551616) && decide (j.natAbs < 18446744073709551616) then some ⟨.int (Nat.lcm i.natAbs j.natAbs : Nat), false⟩ else none
    | false => some ⟨.int (Nat.gcd i.natAbs j.natAbs : Nat), false⟩)
  | _, _ => none
def itemsL : U → Option (List U)
  | .lst xs => some xs
  | _ => none
def biV : Bi → List U → Option Rv
  | .len, [u] => (match u with | .lst xs => some ⟨.int xs.length, false⟩ | .tup xs => some ⟨.int xs.length, false⟩ | .str x => if x.length ≤ lim then some ⟨.int x.length, false⟩ else none | _ => none)
  | .abs, [.int i] => some ⟨.int (if i < 0 then -i else i), false⟩
  | .int1, [u] => (match u with | .int i => some ⟨.int i, false⟩ | .bl b => some ⟨.int (if b then 1 else 0), false⟩ | _ => none)
  | .min2, [.int i, .int j] => some ⟨.int (if j < i then j else i), false⟩
  | .max2, [.int i, .int j] => some ⟨.int (if j > i then j else i), false⟩
  | .minS, [.tup xs] => (match intsU xs with | some (i :: r) => some ⟨.int (minI i r), false⟩ | _ => none)
  | .maxS, [.tup xs] => (match intsU xs with | some (i :: r) => some ⟨.int (maxI i r), false⟩ | _ => none)
  | .lenSet, [.lst xs] => (match intsU xs with | some is => if is.length < 64 then some ⟨.int (sortS is).length, false⟩ else none | none => none)
  | .minS, [.lst xs] => (match intsU xs with | some (i :: r) => some ⟨.int (minI i r), false⟩ | _ => none)
  | .maxS, [.lst xs] => (match intsU xs with | some (i :: r) => some ⟨.int (maxI i r), false⟩ | _ => none)
  | .sum, [.lst xs] => (match intsU xs with | some is => some ⟨.int is.sum, false⟩ | none => none)
  | .sum, [.tup xs] => (match intsU xs with | some is => some ⟨.int is.sum, false⟩ | none => none)
  | .all, [.lst xs] => (match boolsU xs with | some bs => some ⟨.bl (bs.all id), false⟩ | none => none)
  | .any, [.lst xs] => (match boolsU xs with | some bs => some ⟨.bl (bs.any id), false⟩ | none => none)
  | .list, [u] => (match items u with | some xs => some ⟨.lst xs, true⟩ | none => none)
  | .tuple, [u] => (match items u with | some xs => some ⟨.tup xs, false⟩ | none => none)
  | .sorted, [u] => (match items u with | some xs => (match intsU xs with | some is => some ⟨.lst ((sortI is).map .int), true⟩ | none => (match tupsU xs with | some ts => some ⟨.lst ((sortT ts).map tupI), true⟩ | none => none)) | none => none)
  | .sortedSet, [u] => (match items u with | some xs => (match intsU xs with | some is => if is.length < 64 then some ⟨.lst ((sortS is).map .int), true⟩ else none | none => (match tupsU xs with | some ts => if okT ts then some ⟨.lst ((sortTS ts).map tupI), true⟩ else none | none => none)) | none => none)
  | .listRange, [.int n] => if n ≤ 1000000 && decide (-1000000 ≤ n) then some ⟨.lst ((List.range n.toNat).map fun k : Nat => .int k), true⟩ else none
  | .isinst ts, [u] => if isPlain u then some ⟨.bl (ts.any fun t => isTy t u), false⟩ else none
  | _, _ => none
/-- pairs (int, value), no int twice -/
def dctU : List U → Option (List (Int × U))
  | [] => some []
  | .tup [.int k, v] :: r => (match dctU r with | some d => if d.any (fun p => p.1 == k) then none else some ((k, v) :: d) | none => none)
  | _ :: _ => none
/-- pairs (tuple of ints, value), no key twice -/
def dctTU : List U → Option (List (List Int × U))
  | [] => some []
  | .tup [.tup ks, v] :: r => (match intsU ks, dctTU r with | some is, some d => if d.any (fun p => p.1 == is) then none else some ((is, v) :: d) | _, _ => none)
  | _ :: _ => none
def dinTU : U → U → Option Bool
  | .tup ks, .dctT d => (match intsU ks with | some is => some (d.any fun p => p.1 == is) | none => none)
  | _, _ => none
def dgetU : U → U → Option U
  | .dct d, .int k => (d.find? fun p => p.1 == k).map (·.2)
  | _, _ => none
def dinU : U → U → Option Bool
  | .int k, .dct d => some (d.any fun p => p.1 == k)
  | _, _ => none
def getIx : U → U → Sto → Option U
  | .lst xs, .int i, _ => (match L2.ixN xs.length i with | some k => nth k xs | none => none)
  | .tup xs, .int i, _ => (match L2.ixN xs.length i with | some k => nth k xs | none => none)
  | .str x, .int i, _ => if x.length ≤ lim then (match L2.ixN x.length i with | some k => (match nth k x.cps.toList with | some c => some (.str ⟨#[c]⟩) | none => none) | none => none) else none
  | .ref k, .int i, s => (match nth k s with | some (.lst xs) => (match L2.ixN xs.length i with | some k => (match nth k xs with | some v => some (.int v) | none => none) | none => none) | _ => none)
  | _, _, _ => none
def bnd : U → Option Int
  | .int i => some i
  | _ => none
def getSl (u : U) (lo hi : Option Int) : Option Rv := match u with
  | .lst xs => some ⟨.lst (cutL xs lo hi), true⟩
  | .tup xs => some ⟨.tup (cutL xs lo hi), false⟩
  | _ => none
/-- the items at some places -/
def pickL {α : Type} (ks : List Nat) (xs : List α) : List α := ks.filterMap fun k => xs[k]?
/-- x[i::st] -/
def getSt (u : U) (i : Int) (st : Nat) : Option Rv := match u with
  | .lst xs => if decide (0 ≤ i) && decide (i < 1000000) && decide (1 ≤ st) then some ⟨.lst (pickL (PySem.sliceRange (max 0 (min i xs.length)) xs.length st) xs), true⟩ else none
  | _ => none
def ofO {α : Type} (s : Sto) : Option α → RE α
  | some a => .ok a s
  | none => .bad
def zipU : List U → List U → List U
  | x :: xs, y :: ys => .tup [x, y] :: zipU xs ys
  | _, _ => []
def enumU : Nat → List U → List U
  | _, [] => []
  | n, x :: xs => .tup [.int n, x] :: enumU (n + 1) xs
def rows : List U → Option (List (List U))
  | [] => some []
  | x :: r => (match items x, rows r with | some xs, some rs => some (xs :: rs) | _, _ => none)
def heads : List (List U) → Option (List U × List (List U))
  | [] => some ([], [])
  | [] :: _ => none
  | (x :: xs) :: r => (match heads r with | some (hs, ts) => some (x :: hs, xs :: ts) | none => none)
def zipsU : Nat → List (List U) → List U
  | 0, _ => []
  | n + 1, rs => (match heads rs with | some (hs, ts) => .tup hs :: zipsU n ts | none => [])
def bindTg : Tg → U → Env → Option Env
  | .nm i, u, r => some (put i (.sh u) r)
  | .t2 a b, u, r => (match items u with
    | some [x, y] => (match bindTg a x r with | some r1 => bindTg b y r1 | none => none)
    | _ => none)
  | .t3 a b c, u, r => (match items u with
    | some [x, y, z] => (match bindTg a x r with | some r1 => (match bindTg b y r1 with | some r2 => bindTg c z r2 | none => none) | none => none)
    | _ => none)
  | .t4 a b c d, u, r => (match items u with
    | some [x, y, z, w] => (match bindTg a x r with | some r1 => (match bindTg b y r1 with | some r2 => (match bindTg c z r2 with | some r3 => bindTg d w r3 | none => none) | none => none) | none => none)
    | _ => none)
/-- a comprehension's turns -/
def compL (f : U → Sto → RE (Option U)) : List U → Sto → RE (List U)
  | [], s => .ok [] s
  | x :: xs, s => (match f x s with
    | .ok none s1 => compL f xs s1
    | .ok (some y) s1 => (match compL f xs s1 with
      | .ok ys s2 => .ok (y :: ys) s2
      | .exc x s => .exc x s
      | .bad => .bad)
    | .exc x s => .exc x s
    | .bad => .bad)
def compL2 (f : U → Sto → RE (List U)) : List U → Sto → RE (List U)
  | [], s => .ok [] s
  | x :: xs, s => (match f x s with
    | .ok zs s1 => (match compL2 f xs s1 with
      | .ok ys s2 => .ok (zs ++ ys) s2
      | .exc x s => .exc x s
      | .bad => .bad)
    | .exc x s => .exc x s
    | .bad => .bad)
def inLim (us : List U) : Bool := decide (us.length ≤ lim)
def RE.bind {α β : Type} (r : RE α) (f : α → Sto → RE β) : RE β := match r with
  | .ok a s => f a s
  | .exc x s => .exc x s
  | .bad => .bad
/-- keyword calls: the permutation -/
def permU (p : List Nat) (us : List U) : Option (List U) := match p with
  | [] => some []
  | i :: r => (match nth i us, permU r us with | some u, some rs => some (u :: rs) | _, _ => none)
def rngU (lo : Int) (n : Nat) (c : Int) : List U := (List.range n).map fun k : Nat => .int (lo + k * c)
def nameAt (KW : Kt) (f : Nat) (n : Str) (k : Nat) : Bool := match nth f KW.nm with
  | some m => decide (m.1 = n) && m.2 == k
  | none => false
section
variable (F : CallF) (KW : Kt)
mutual
def evE : C → Env → Sto → RE Rv
  | .con u, _, s => .ok ⟨u, false⟩ s
  | .var i, r, s => (match look i r with | .sh u => .ok ⟨u, false⟩ s | _ => .bad)
  | .peek i, r, s => (match look i r with | .sh u => .ok ⟨u, false⟩ s | .own u => .ok ⟨u, false⟩ s | .un => .bad)
  | .tup as, r, s => (evA as r s).bind fun us s => .ok ⟨.tup us, false⟩ s
  | .lst as, r, s => (evA as r s).bind fun us s => .ok ⟨.lst us, true⟩ s
  | .slst as, r, s => (evA as r s).bind fun us s => (ofO s (intsU us)).bind fun is s => .ok ⟨.ref s.length, false⟩ (s ++ [.lst is])
  | .op o a b, r, s => (evE a r s).bind fun x s => (evE b r s).bind fun y s => ofO s (op2 o x.u y.u)
  | .neg a, r, s => (evE a r s).bind fun x s => (match x.u with | .int i => .ok ⟨.int (-i), false⟩ s | _ => .bad)
  | .cmp o a b, r, s => (evE a r s).bind fun x s => (evE b r s).bind fun y s => (ofO s (cmp2 o x.u y.u)).bind fun k s => .ok ⟨.bl k, false⟩ s
  | .chain o p a b c, r, s => (evE a r s).bind fun x s => (evE b r s).bind fun y s => (ofO s (cmp2 o x.u y.u)).bind fun k s =>
      match k with
      | true => (evE c r s).bind fun z s => (ofO s (cmp2 p y.u z.u)).bind fun k s => .ok ⟨.bl k, false⟩ s
      | false => .ok ⟨.bl false, false⟩ s
  | .not a, r, s => (evE a r s).bind fun x s => (ofO s (truth x.u)).bind fun k s => .ok ⟨.bl (!k), false⟩ s
  | .and a b, r, s => (evE a r s).bind fun x s => (ofO s (truth x.u)).bind fun k s => match k with | true => evE b r s | false => .ok x s
  | .or a b, r, s => (evE a r s).bind fun x s => (ofO s (truth x.u)).bind fun k s => match k with | true => .ok x s | false => evE b r s
  | .ife t a b, r, s => (evE t r s).bind fun x s => (ofO s (truth x.u)).bind fun k s => match k with | true => evE a r s | false => evE b r s
  | .ix a b, r, s => (evE a r s).bind fun x s => (evE b r s).bind fun y s => (ofO s (getIx x.u y.u s)).bind fun u s => .ok ⟨u, false⟩ s
  | .sl a lo hi, r, s => (evE a r s).bind fun x s => (evE lo r s).bind fun y s => (ofO s (bnd y.u)).bind fun i s => (evE hi r s).bind fun z s => (ofO s (bnd z.u)).bind fun j s => ofO s (getSl x.u (some i) (some j))
  | .slL a lo, r, s => (evE a r s).bind fun x s => (evE lo r s).bind fun y s => (ofO s (bnd y.u)).bind fun i s => ofO s (getSl x.u (some i) none)
  | .slH a hi, r, s => (evE a r s).bind fun x s => (evE hi r s).bind fun z s => (ofO s (bnd z.u)).bind fun j s => ofO s (getSl x.u none (some j))
  | .rev a, r, s => (evE a r s).bind fun x s => (match x.u with | .lst xs => .ok ⟨.lst xs.reverse, true⟩ s | .tup xs => .ok ⟨.tup xs.reverse, false⟩ s | _ => .bad)
  | .call f as, r, s => (evA as r s).bind fun us s => F f us s
  | .callK f kw as bs, r, s => (evA as r s).bind fun us s => (evA bs r s).bind fun ws s => (ofO s (match nth kw KW.ks with | some p => permU p (us ++ ws) | none => none)).bind fun us s => F f us s
  | .bi b as, r, s => (evA as r s).bind fun us s => ofO s (biV b us)
  | .comp w tg it t e, r, s => (evI it r s).bind fun us s =>
      match inLim us with
      | true => (compL (fun u s => match bindTg tg u (wipeE w r) with
        | some r1 => (evE t r1 s).bind fun x s => (ofO s (truth x.u)).bind fun k s => (match k with
          | true => (evE e r1 s).bind fun y s => .ok (some y.u) s
          | false => .ok none s)
        | none => .bad) us s).bind fun ys s => .ok ⟨.lst ys, true⟩ s
      | false => .bad
  | .comp2 w tg it t tg2 it2 t2 e, r, s => (evI it r s).bind fun us s =>
      match inLim us with
      | true => (compL2 (fun u s => match bindTg tg u (wipeE w r) with
        | some r1 => (evE t r1 s).bind fun x s => (ofO s (truth x.u)).bind fun k s => (match k with
          | true => (evI it2 r1 s).bind fun vs s => (match inLim vs with
            | true => compL (fun v s => match bindTg tg2 v r1 with
              | some r2 => (evE t2 r2 s).bind fun x s => (ofO s (truth x.u)).bind fun k s => (match k with
                | true => (evE e r2 s).bind fun y s => .ok (some y.u) s
                | false => .ok none s)
              | none => .bad) vs s
            | false => .bad)
          | false => .ok [] s)
        | none => .bad) us s).bind fun ys s => (match inLim ys with | true => .ok ⟨.lst ys, true⟩ s | false => .bad)
      | false => .bad
  | .refNe a, r, s => (evE a r s).bind fun x s => (match x.u with
      | .ref k => (match nth k s with
        | some (.lst xs) => (ofO s (cmp2 .ne (.lst (xs.map .int)) (.lst []))).bind fun b s => .ok ⟨.bl b, false⟩ s
        | none => .bad)
      | _ => .bad)
  | .sortedR a, r, s => (evE a r s).bind fun x s => (match x.u with
      | .ref k => (match nth k s with
        | some (.lst xs) => .ok ⟨.lst ((sortI xs).map .int), true⟩ s
        | none => .bad)
      | _ => .bad)
  | .dict1 a, r, s => (evE a r s).bind fun x s => (ofO s (items x.u)).bind fun us s => (ofO s (dctU us)).bind fun d s => .ok ⟨.dct d, false⟩ s
  | .dGet a b, r, s => (evE a r s).bind fun x s => (evE b r s).bind fun y s => (ofO s (dgetU x.u y.u)).bind fun u s => .ok ⟨u, false⟩ s
  | .dIn neg a b, r, s => (evE a r s).bind fun x s => (evE b r s).bind fun y s => (ofO s (dinU x.u y.u)).bind fun k s => .ok ⟨.bl (if neg then !k else k), false⟩ s
  | .callD f as ds, r, s => (evA as r s).bind fun us s => F f (us ++ ds) s
  | .callV g as, r, s => (evE g r s).bind fun x s => (match x.u with
      | .fnv f n => (evA as r s).bind fun us s => (match nameAt KW f n us.length with
        | true => F f us s
        | false => .bad)
      | _ => .bad)
  | .slS a lo st, r, s => (evE a r s).bind fun x s => (evE lo r s).bind fun y s => (ofO s (bnd y.u)).bind fun i s => ofO s (getSt x.u i st)
  | .dictT a, r, s => (evE a r s).bind fun x s => (ofO s (itemsL x.u)).bind fun us s => (ofO s (dctTU us)).bind fun d s => .ok ⟨.dctT d, false⟩ s
  | .dInT neg a b, r, s => (evE a r s).bind fun x s => (evE b r s).bind fun y s => (ofO s (dinTU x.u y.u)).bind fun k s => .ok ⟨.bl (if neg then !k else k), false⟩ s
  | .mth l a b, r, s => (evE a r s).bind fun x s => (evE b r s).bind fun y s => ofO s (mthV l x.u y.u)
  | .dLit k v, r, s => .ok ⟨.dct [(k, .int v)], false⟩ s
def evA : A → Env → Sto → RE (List U)
  | .nil, _, s => .ok [] s
  | .cons e a, r, s => (evE e r s).bind fun x s => (evA a r s).bind fun xs s => .ok (x.u :: xs) s
def evI : It → Env → Sto → RE (List U)
  | .seq e, r, s => (evE e r s).bind fun x s => ofO s (items x.u)
  | .enum e, r, s => (evE e r s).bind fun x s => (ofO s (items x.u)).bind fun us s => .ok (enumU 0 us) s
  | .zip2 a b, r, s => (evE a r s).bind fun x s => (evE b r s).bind fun y s => (ofO s (items x.u)).bind fun us s => (ofO s (items y.u)).bind fun vs s => .ok (zipU us vs) s
  | .zips e, r, s => (evE e r s).bind fun x s => (ofO s (items x.u)).bind fun us s => (ofO s (rows us)).bind fun rs s =>
      (match rs with | [] => .bad | q :: _ => (match rs.all (fun t => t.length == q.length) with | true => .ok (zipsU q.length rs) s | false => .bad))
  | .enumZ e, r, s => (evE e r s).bind fun x s => (ofO s (items x.u)).bind fun us s => (ofO s (rows us)).bind fun rs s =>
      (match rs with | [] => .bad | q :: _ => (match rs.all (fun t => t.length == q.length) with | true => .ok (enumU 0 (zipsU q.length rs)) s | false => .bad))
  | .rng1 a, r, s => (evE a r s).bind fun x s => (match x.u with
      | .int n => if decide (n ≤ 1000000) && decide (-1000000 ≤ n) then .ok (rngU 0 n.toNat 1) s else .bad
      | _ => .bad)
  | .rng2 a b, r, s => (evE a r s).bind fun x s => (evE b r s).bind fun y s => (match x.u, y.u with
      | .int m, .int n => if decide (n ≤ 1000000) && decide (-1000000 ≤ n) && decide (m ≤ 1000000) && decide (-1000000 ≤ m) then .ok (rngU m (n - m).toNat 1) s else .bad
      | _, _ => .bad)
  | .rng3 _ _ _, _, _ => .bad
end
/-- a for's turns -/
def forL (f : U → Env → Sto → RS) : List U → Env → Sto → RS
  | [], r, s => .ok .nx r s
  | x :: xs, r, s => (match f x r s with
    | .ok .nx r s => forL f xs r s
    | .ok .cont r s => forL f xs r s
    | .ok .brk r s => .ok .nx r s
    | .ok (.ret v) r s => .ok (.ret v) r s
    | .exc x r s => .exc x r s
    | .bad => .bad)
def whileL (t : Env → Sto → RE (Bool × Env)) (f : Env → Sto → RS) : Nat → Env → Sto → RS
  | 0, _, _ => .bad
  | n + 1, r, s => (match t r s with
    | .ok (true, r) s => (match f r s with
      | .ok .nx r s => whileL t f n r s
      | .ok .cont r s => whileL t f n r s
      | .ok .brk r s => .ok .nx r s
      | .ok (.ret v) r s => .ok (.ret v) r s
      | .exc x r s => .exc x r s
      | .bad => .bad)
    | .ok (false, r) s => .ok .nx r s
    | .exc _ _ => .bad
    | .bad => .bad)
def Rv.slot (v : Rv) (o : Bool) : Slot := match o, v.f, v.u with
  | true, true, .lst xs => .own (.lst xs)
  | _, _, u => .sh u
def RE.st {α : Type} (r : Env) (x : RE α) (f : α → Sto → RS) : RS := match x with
  | .ok a s => f a s
  | .exc x s => .exc x r s
  | .bad => .bad
/-- an expression out of which no exception may come -/
def RE.stN {α : Type} (x : RE α) (f : α → Sto → RS) : RS := match x with
  | .ok a s => f a s
  | _ => .bad
/-- the row of an except suite -/
def hiV (ct : XcT) (x : Xc) : Hi → Option U
  | .str s => some (.str s)
  | .isi le => some (.bl (ct.le == le))
  | .fld n => (match ct.fld, x.arg with
    | some m, some u => if m = n then some u else none
    | _, _ => none)
  | .bl b => some (.bl b)
  | .non => some .non
def hisV (ct : XcT) (x : Xc) : List Hi → Option (List U)
  | [] => some []
  | i :: is => (match hiV ct x i, hisV ct x is with | some u, some us => some (u :: us) | _, _ => none)
def hvV (ct : XcT) (x : Xc) : Hv → Option U
  | .con b => some (.bl b)
  | .row is => (match hisV ct x is with | some us => some (.lst us) | none => none)
def unset (o : Option Nat) (r : Env) : Env := match o with
  | some i => put i .un r
  | none => r
/-- the except clauses -/
def hdl (xs : List XcT) : List Hd → Xc → Env → Sto → RS
  | [], x, r, s => .exc x r s
  | h :: hs, x, r, s => if x.cls == h.cls then (match nth x.cls xs with
      | some ct => (match hvV ct x h.v with | some u => .ok .nx (unset h.slot (put h.tgt (.sh u) r)) s | none => .bad)
      | none => .bad) else hdl xs hs x r s
/-- list.insert at a place from 0 to the length -/
def insL {α : Type} (x : α) : Nat → List α → List α
  | 0, l => x :: l
  | _ + 1, [] => [x]
  | n + 1, y :: l => y :: insL x n l
/-- a store to x[k] -/
def setIx (x : Nat) (k v : U) (r : Env) (s : Sto) : RS := match look x r, k, v with
  | .own (.lst xs), .int i, v => (match L2.ixN xs.length i with | some j => .ok .nx (put x (.own (.lst (xs.set j v))) r) s | none => .bad)
  | .sh (.ref p), .int i, .int w => (match nth p s with
    | some (.lst xs) => (match L2.ixN xs.length i with | some j => .ok .nx r (s.set p (.lst (xs.set j w))) | none => .bad)
    | _ => .bad)
  | _, _, _ => .bad
mutual
def evS : S → Env → Sto → RS
  | .asg fz i o e, r, s => let r := freeze fz r; (evE F KW e r s).st r fun v s => .ok .nx (put i (v.slot o) r) s
  | .asgT fz tg e, r, s => let r := freeze fz r; (evE F KW e r s).st r fun v s => (match bindTg tg v.u r with | some r => .ok .nx r s | none => .bad)
  | .par2 fz i oi a j oj b, r, s => let r := freeze fz r; (evE F KW a r s).st r fun v s => (evE F KW b r s).st r fun w s => .ok .nx (put j (w.slot oj) (put i (v.slot oi) r)) s
  | .par3 fz i j l as, r, s => let r := freeze fz r; (evA F KW as r s).st r fun us s => (match us with | [u, v, w] => .ok .nx (put l (.sh w) (put j (.sh v) (put i (.sh u) r))) s | _ => .bad)
  | .asgIx fz x k e, r, s => let r := freeze fz r; (evE F KW e r s).st r fun v s => (evE F KW k r s).stN fun i s => setIx x i.u v.u r s
  | .aug fz i o e, r, s => let r := freeze fz r; (evE F KW e r s).stN fun v s => (match look i r with
      | .sh (.int a) => (match op2 o (.int a) v.u with | some w => .ok .nx (put i (.sh w.u) r) s | none => .bad)
      | _ => .bad)
  | .app fz x e, r, s => let r := freeze fz r; (match look x r with
      | .own (.lst xs) => (evE F KW e r s).st r fun v s => if xs.length < lim then .ok .nx (put x (.own (.lst (xs ++ [v.u]))) r) s else .bad
      | _ => .bad)
  | .appPop fz x y k, r, s => let r := freeze fz r; (evE F KW k r s).stN fun v s => (match look x r, look y r, v.u with
      | .own (.lst xs), .own (.lst ys), .int i => if x != y && decide (xs.length < lim) && decide (ys.length ≤ lim) then (match L2.ixN ys.length i with
        | some j => (match nth j ys with | some u => .ok .nx (put x (.own (.lst (xs ++ [u]))) (put y (.own (.lst (ys.eraseIdx j))) r)) s | none => .bad)
        | none => .bad) else .bad
      | _, _, _ => .bad)
  | .ret fz e, r, s => let r := freeze fz r; (evE F KW e r s).st r fun v s => .ok (.ret v) r s
  | .retV i, r, s => (match look i r with | .sh u => .ok (.ret ⟨u, false⟩) r s | .own u => .ok (.ret ⟨u, true⟩) r s | .un => .bad)
  | .retN, r, s => .ok (.ret ⟨.non, false⟩) r s
  | .ife fz t a b, r, s => let r := freeze fz r; (evE F KW t r s).st r fun v s => (match truth v.u with | some true => evB a r s | some false => evB b r s | none => .bad)
  | .for_ fz tg it b, r, s => let r := freeze fz r; (evI F KW it r s).st r fun us s => (match inLim us with
      | true => forL (fun u r s => match bindTg tg u r with | some r => evB b r s | none => .bad) us r s
      | false => .bad)
  | .while_ fz t b, r, s => whileL (fun r s => let r := freeze fz r; (evE F KW t r s).bind fun v s => (ofO s (truth v.u)).bind fun k s => .ok (k, r) s) (fun r s => evB b r s) 1000000 r s
  | .ex fz e, r, s => let r := freeze fz r; (evE F KW e r s).st r fun _ s => .ok .nx r s
  | .popS fz y k, r, s => let r := freeze fz r; (evE F KW k r s).stN fun v s => (match look y r, v.u with
      | .own (.lst ys), .int i => if ys.length ≤ lim then (match L2.ixN ys.length i with
        | some j => .ok .nx (put y (.own (.lst (ys.eraseIdx j))) r) s
        | none => .bad) else .bad
      | _, _ => .bad)
  | .appR fz a e, r, s => let r := freeze fz r; (evE F KW a r s).stN fun x s => (evE F KW e r s).stN fun v s => (match x.u, v.u with
      | .ref p, .int w => (match nth p s with
        | some (.lst xs) => if xs.length < lim then .ok .nx r (s.set p (.lst (xs ++ [w]))) else .bad
        | none => .bad)
      | _, _ => .bad)
  | .raise c, r, s => .exc ⟨c, none⟩ r s
  | .raiseA fz c e, r, s => let r := freeze fz r; (evE F KW e r s).st r fun v s => .exc ⟨c, some v.u⟩ r s
  | .insS fz x k e, r, s => let r := freeze fz r; (match look x r with
      | .own (.lst xs) => (evE F KW k r s).st r fun i s => (evE F KW e r s).st r fun v s => (match i.u with
        | .int n => if decide (0 ≤ n) && decide (n ≤ xs.length) && decide (xs.length < lim) then .ok .nx (put x (.own (.lst (insL v.u n.toNat xs))) r) s else .bad
        | _ => .bad)
      | _ => .bad)
  | .try_ xs b hs, r, s => (match evB b r s with
      | .exc x r s => if x.cls < xs.length then hdl xs hs x r s else .bad
      | z => z)
  | .pass, r, s => .ok .nx r s
  | .cont, r, s => .ok .cont r s
  | .brk, r, s => .ok .brk r s
  | .never, _, _ => .bad
def evB : B → Env → Sto → RS
  | .nil, r, s => .ok .nx r s
  | .cons a b, r, s => (match evS a r s with
    | .ok .nx r s => evB b r s
    | x => x)
end
end
/-- a def: how many parameters, how many further slots, its body -/
structure Fd where
  np : Nat
  nl : Nat
  body : B
def finish : RS → RE Rv
  | .ok (.ret v) _ s => .ok v s
  | .ok .nx _ s => .ok ⟨.non, false⟩ s
  | .exc x _ s => .exc x s
  | _ => .bad
/-- the program's def f on values, at most so many calls deep -/
def run (P : List Fd) (KW : Kt) : Nat → CallF
  | 0, _, _, _ => .bad
  | d + 1, f, us, s => (match nth f P with
    | some fd => if us.length == fd.np then finish (evB (run P KW d) KW fd.body (us.map .sh ++ rep [.un] fd.nl) s) else .bad
    | none => .bad)
end Ev

end
section
set_option Elab.async false
set_option linter.all false
set_option maxRecDepth 100000
set_option maxHeartbeats 2000000
namespace Ev
open PySem L2
open PySem.Spec PyProof.Rows
/-- a tuple whose object is known whole -/
def tupO (its : List Value) (vs : List V) : HO := .frz { cls := .type "tuple", data := .seq its.toArray } (.tup vs)
theorem sqt_of {K : PySem.W.Frag} {H : Hp} {a : Addr} {its : List Value} {vs : List V} (h : H a = some (tupO its vs)) : SqT K H a vs := .inl (.inr ⟨_, h⟩)
theorem sqt_k {K : PySem.W.Frag} {H : Hp} {a : Addr} {its : List Value} {vs : List V} {n : Nat} (h : K.lookup a = some { cls := .type "tuple", data := .seq its.toArray n }) (z : vs.length ≤ sizeLine) (r : Vals vs its) : SqT K H a vs :=
  .inr ⟨_, its.toArray, n, h, rfl, rfl, by rw [List.size_toArray, ← r.length]; exact z, by simpa using r⟩
section
variable {X : Cx} {pins : List (Addr × Obj)} {σ : L2.St} {H : Hp} {s : Shared}
theorem exOk {P : Program} {w : World} {H : Hp} {h : Heap} {its : List Value} {vs : List V} (r : Vals vs its) (hz : vs.length ≤ sizeLine) : ObjOk P w H (h.push { cls := .type "tuple", data := .seq its.toArray }) h.objs.size (tupO its vs) :=
  ⟨Heap.get?_push_size _ rfl, hz, its, r, IsTup.new _ _⟩
theorem exLaid {its : List Value} {vs : List V} (I : Inv X pins σ H s) (r : Vals vs its) (hz : vs.length ≤ sizeLine) : Inv X pins σ (upd H s.heap.objs.size (tupO its vs)) { s with heap := s.heap.push { cls := .type "tuple", data := .seq its.toArray } } :=
  I.laid (t' := s.toks) (fun b o e => Heap.get?_push_of_some _ e) (Nat.le_refl _) (exOk r hz)
/-- a display -/
def tTupX (t : TA) : TE := fun σ H Q => t σ H fun xs H1 => xs.length ≤ sizeLine ∧ ∀ p its, H1 p = none → Q (.ref p) (upd H1 p (tupO its xs))
theorem pe_tupX {x1 : Nat} {es : List Expr} {t : TA} {pos : Pos} (h : PA X es t) : PE X (.Tuple es x1 pos) (tTupX t) := by
  refine ⟨fun pins s σ H Q I hq => ?_⟩
  refine wpAny_Tuple_spliced (thn (h.run pos pins s σ H _ I hq) fun us s1 ⟨xs, H1, I1, r, z, q⟩ => ⟨by rw [← r.length]; exact z, ?_⟩)
  exact ⟨.ref s1.heap.objs.size, upd H1 s1.heap.objs.size (tupO us xs), exLaid I1 r z, rfl, q _ us (I1.hok.fresh (Nat.le_refl _))⟩
/-- tuple(x) -/
def rTupX (K : PySem.W.Frag) : List V → Hp → VK → Prop := fun xs H Q => ∃ p ys, xs = [.ref p] ∧ ((SqL K H p ys ∧ ∀ l its, H l = none → Q (.ref l) (upd H l (tupO its ys))) ∨ (SqT K H p ys ∧ Q (.ref p) H))
theorem cr_tupX : CallR X (.type "tuple") (rTupX X.K) := by
  intro pins s σ H xs us Q I r h
  obtain ⟨p, ys, rfl, h⟩ := h
  rw [Vals.ref1 r]
  rcases h with ⟨hq, q⟩ | ⟨hq, q⟩
  · obtain ⟨its, rv, pl, hz⟩ := I.list hq
    refine call_tuple_list pl.isList (fun h' kp => ?_) (by rw [List.size_toArray, ← rv.length]; exact hz)
    have I1 : Inv X pins σ H { s with heap := h' } := I.kept (t' := s.toks) kp
    exact ⟨.ref h'.objs.size, upd H h'.objs.size (tupO its ys), exLaid I1 rv hz, rfl, q _ its (I1.hok.fresh (Nat.le_refl _))⟩
  · obtain ⟨its, rv, pl, hz⟩ := I.tuple hq
    exact call_tuple_same pl ⟨.ref p, H, I, rfl, q⟩
/-- t + u -/
def rCatX (K : PySem.W.Frag) : R2 := fun x y H Q => ∃ a b xs ys, x = .ref a ∧ y = .ref b ∧ SqT K H a xs ∧ SqT K H b ys ∧ xs.length + ys.length ≤ sizeLine ∧
  (xs = [] → Q (.ref b) H) ∧ (xs ≠ [] → ys = [] → Q (.ref a) H) ∧ (xs ≠ [] → ys ≠ [] → ∀ p its, H p = none → Q (.ref p) (upd H p (tupO its (xs ++ ys))))
theorem op_catX : OpR X (binaryOp .Add) (rCatX X.K) := by
  intro pins s σ H x y v u Q I rx ry h
  obtain ⟨a, b, xs, ys, rfl, rfl, ha, hb, hz, q0, q1, q2⟩ := h
  cases rx
  cases ry
  obtain ⟨its, r1, p1, _⟩ := I.tuple ha
  obtain ⟨its2, r2, p2, _⟩ := I.tuple hb
  by_cases hx : xs = []
  · subst hx
    cases r1
    exact cat_tup0 p1 p2 ⟨.ref b, H, I, rfl, q0 rfl⟩
  · refine HT.cat_tup p1 p2 (fun z => hx (r1.nil_iff.mp z)) (fun z => ⟨.ref a, H, I, rfl, q1 hx (r2.nil_iff.mp z)⟩) (fun z => ?_) (by rw [← r1.length, ← r2.length]; exact hz)
    have hz' : (xs ++ ys).length ≤ sizeLine := by rw [List.length_append]; exact hz
    exact ⟨.ref s.heap.objs.size, _, exLaid I (r1.append r2) hz', rfl, q2 hx (fun w => z (r2.nil_iff.mpr w)) _ _ (I.hok.fresh (Nat.le_refl _))⟩
/-- t[lo:hi] -/
def rSlX (K : PySem.W.Frag) : V → Option Int → Option Int → Hp → VK → Prop := fun x lo hi H Q => ∃ a xs, x = .ref a ∧ SqT K H a xs ∧
  (HT.sIx xs.length 0 lo = 0 ∧ HT.sIx xs.length xs.length hi = xs.length → Q (.ref a) H) ∧ (¬ (HT.sIx xs.length 0 lo = 0 ∧ HT.sIx xs.length xs.length hi = xs.length) → ∀ p its, H p = none → Q (.ref p) (upd H p (tupO its (cutV xs lo hi))))
theorem sl_tupX : SlR X (rSlX X.K) := by
  intro pins s σ H x v vl vu lo hi sl Q I rx hs pl pu h
  obtain ⟨a, xs, rfl, hx, q1, q2⟩ := h
  cases rx
  obtain ⟨its, r, ht, hz⟩ := I.tuple hx
  have hlen : its.toArray.size = xs.length := by rw [List.size_toArray]; exact r.length.symm
  refine ⟨"tuple", _, PyProof.Rows.slot_tuple_getitem.lookup, ht.typeIs, ?_⟩
  by_cases hw : HT.sIx xs.length 0 lo = 0 ∧ HT.sIx xs.length xs.length hi = xs.length
  · exact getItem_tuple_whole ht hs pl pu (by rw [hlen]; exact hw) ⟨.ref a, H, I, rfl, q1 hw⟩
  · refine HT.getItem_tuple_cut ht hs pl pu (by rw [hlen]; exact hw) ?_ (by rw [hlen]; exact hz)
    rw [hlen]
    exact ⟨.ref s.heap.objs.size, _, exLaid I ((r.drop (HT.sIx xs.length 0 lo)).take (HT.sIx xs.length xs.length hi - HT.sIx xs.length 0 lo)) (Nat.le_trans (cutV_length xs lo hi) hz), rfl, q2 hw _ _ (I.hok.fresh (Nat.le_refl _))⟩
/-- t * 1: t itself -/
theorem tuple_mul1 (l : Addr) (items : Array Value) (n : Nat) (dd : Option Addr) (sl : Array (Option Value)) (u : Tok) :
    Meets (Builtin.«tuple.__mul__» ⟨[.ref l, .int 1 u], []⟩) (fun _ R s => s.heap.get? l = some { cls := .type "tuple", dict := dd, data := .seq items n, slots := sl } ∧ R (.ok (.ret (.ref l))) s) :=
  .of_wp fun prog w A R s h => by
    obtain ⟨hp, g, d, tk, os⟩ := s
    obtain ⟨hl, h⟩ := h
    have f1 := AutoSeq1.idx_int
    have c1 : (items.isEmpty || (1 : Int) == 1) = true := by simp
    wp_walk using wpAny_loadPart' hl
    repeat (first
      | (refine wpAny_ite_false (by decide) ?_; wp_walk using wpAny_loadPart' hl)
      | (refine wpAny_ite_true (decide_eq_true c1) ?_; wp_walk using wpAny_loadPart' hl)
      | (refine wpAny_ite_true (by rfl) ?_; wp_walk using wpAny_loadPart' hl))
    exact ⟨_, rfl, h⟩
/-- t * k, k at most 0: an empty tuple -/
theorem tuple_mul0 (l : Addr) (items : Array Value) (n : Nat) (dd : Option Addr) (sl : Array (Option Value)) (x : Int) (u : Tok) (c0 : (decide (x < -(2 ^ 63)) || decide (x ≥ 2 ^ 63)) = false) (c1 : (items.isEmpty || x == 1) = false) (c2 : (decide (x ≤ 0) || items.isEmpty) = true) :
    Meets (Builtin.«tuple.__mul__» ⟨[.ref l, .int x u], []⟩) (fun _ R s => s.heap.get? l = some { cls := .type "tuple", dict := dd, data := .seq items n, slots := sl } ∧
      R (.ok (.ret (Value.ref s.heap.objs.size))) { s with heap := s.heap.push { cls := Value.type "tuple", data := Data.seq #[] }, toks := s.toks }) :=
  .of_wp fun prog w A R s h => by
    obtain ⟨hp, g, d, tk, os⟩ := s
    obtain ⟨hl, h⟩ := h
    have f1 := AutoSeq1.idx_int
    wp_walk using wpAny_loadPart' hl
    repeat (first
      | (refine wpAny_ite_false (decide_eq_false (by rw [c0]; exact Bool.false_ne_true)) ?_; wp_walk using wpAny_loadPart' hl)
      | (refine wpAny_ite_false (decide_eq_false (by rw [c1]; exact Bool.false_ne_true)) ?_; wp_walk using wpAny_loadPart' hl)
      | (refine wpAny_ite_true (decide_eq_true c2) ?_; wp_walk using wpAny_loadPart' hl))
    exact ⟨_, rfl, h⟩
/-- t * k -/
def rRepX (K : PySem.W.Frag) : R2 := fun x y H Q => ∃ l k xs, x = .ref l ∧ y = .int k ∧ SqT K H l xs ∧ ((k = 1 ∧ Q (.ref l) H) ∨ (k ≤ 0 ∧ -1000 ≤ k ∧ xs ≠ [] ∧ ∀ p its, H p = none → Q (.ref p) (upd H p (tupO its []))) ∨
  (xs ≠ [] ∧ 2 ≤ k ∧ k ≤ 1000 ∧ xs.length ≤ 1000 ∧ ∀ p its, H p = none → Q (.ref p) (upd H p (tupO its (List.replicate k.toNat xs).flatten))))
theorem op_repX : OpR X (binaryOp .Mult) (rRepX X.K) := by
  intro pins s σ H x y v u Q I rx ry h
  obtain ⟨l, k, xs, rfl, rfl, hT, h⟩ := h
  cases rx
  obtain ⟨t, rfl⟩ := ry
  obtain ⟨its, r, ⟨⟨cls, dd, data, sl⟩, ho, hc, n, hd⟩, hs⟩ := I.tuple hT
  simp only at hc hd
  subst hc hd
  rcases h with ⟨rfl, q⟩ | ⟨k0, k1, hne, q⟩ | ⟨hne, k2, k3, hn, q⟩
  · refine wpAny_binaryOp_repeat_ref (T := "tuple") (U := "int") (by decide) ⟨_, ho, rfl⟩ (fun s' => typeIs_int s' 1 t) noFill_tuple_mul F.fills_int_mul F.slot_int_rmul repeat_tuple F.slot_int_index.lookup
      (call_meets F.slot_int_rmul (typeIs_int s 1 t) F.entry_int_rmul (F.args_int_rmul_2 _ _) (int_rmul_tuple 1 t l its.toArray n dd sl)
        ⟨ho, rfl, ⟨_, ho, rfl⟩, call_meets F.slot_tuple_mul ⟨_, ho, rfl⟩ F.entry_tuple_mul (F.args_tuple_mul_2 _ _) (tuple_mul1 l its.toArray n dd sl t) ⟨ho, ?_⟩⟩)
    exact ⟨.ref l, H, I, rfl, q⟩
  · have em : its.toArray.isEmpty = false := by
      cases its with
      | nil => cases r; exact absurd rfl hne
      | cons a b => rfl
    refine wpAny_binaryOp_repeat_ref (T := "tuple") (U := "int") (by decide) ⟨_, ho, rfl⟩ (fun s' => typeIs_int s' k t) noFill_tuple_mul F.fills_int_mul F.slot_int_rmul repeat_tuple F.slot_int_index.lookup
      (call_meets F.slot_int_rmul (typeIs_int s k t) F.entry_int_rmul (F.args_int_rmul_2 _ _) (int_rmul_tuple k t l its.toArray n dd sl)
        ⟨ho, rfl, ⟨_, ho, rfl⟩, call_meets F.slot_tuple_mul ⟨_, ho, rfl⟩ F.entry_tuple_mul (F.args_tuple_mul_2 _ _) (tuple_mul0 l its.toArray n dd sl k t (by simp; omega) (by rw [em]; simp; omega) (by simp [k0])) ⟨ho, ?_⟩⟩)
    exact ⟨.ref s.heap.objs.size, _, exLaid I (its := []) (vs := []) .nil (Nat.zero_le _), rfl, q _ _ (I.hok.fresh (Nat.le_refl _))⟩
  have ln : its.toArray.size = xs.length := by rw [List.size_toArray]; exact r.length.symm
  have ln' : its.length = xs.length := r.length.symm
  have ps : 0 < xs.length := List.length_pos_iff.mpr hne
  have em : its.toArray.isEmpty = false := by
    rw [Array.isEmpty_eq_false_iff]
    intro z
    have := congrArg Array.size z
    rw [ln] at this
    simp at this
    exact hne this
  have pr : ((its.toArray.size : Nat) : Int) * k ≤ 1000000 := by
    rw [ln]
    have : ((xs.length : Nat) : Int) * k ≤ 1000 * 1000 := Int.mul_le_mul (by omega) (by omega) (by omega) (by omega)
    omega
  have fl : (List.replicate k.toNat its).flatten.length ≤ sizeLine := by
    rw [PyProof.Rows.lm_len_rep_flat, ln', sizeLine_eq]
    have : k.toNat * xs.length ≤ 1000 * 1000 := Nat.mul_le_mul (by omega) hn
    omega
  have t0 : (decide (k < -(2 ^ 63)) || decide (k ≥ 2 ^ 63)) = false := by simp; omega
  have t1 : (its.toArray.isEmpty || k == 1) = false := by rw [em]; simp; omega
  have t2 : (decide (k ≤ 0) || its.toArray.isEmpty) = false := by rw [em]; simp; omega
  have t4 : Builtin.Tuple.tupleTooMany (((its.toArray.size : Nat) : Int) * k) = false := by
    unfold Builtin.Tuple.tupleTooMany
    rw [sizeLine_eq]
    simp only [decide_eq_false_iff_not]
    omega
  refine wpAny_binaryOp_repeat_ref (T := "tuple") (U := "int") (by decide) ⟨_, ho, rfl⟩ (fun s' => typeIs_int s' k t) noFill_tuple_mul F.fills_int_mul F.slot_int_rmul repeat_tuple F.slot_int_index.lookup
    (call_meets F.slot_int_rmul (typeIs_int s k t) F.entry_int_rmul (F.args_int_rmul_2 _ _) (int_rmul_tuple k t l its.toArray n dd sl)
      ⟨ho, rfl, ⟨_, ho, rfl⟩, call_meets F.slot_tuple_mul ⟨_, ho, rfl⟩ F.entry_tuple_mul (F.args_tuple_mul_2 _ _) (tuple_mulW l its.toArray n dd sl k t t0 t1 t2 (by omega) t4 (by rw [size_rep, List.size_toArray]; exact fl)) ⟨ho, ?_⟩⟩)
  rw [size_rep]
  have hz : (List.replicate k.toNat xs).flatten.length ≤ sizeLine := by
    rw [PyProof.Rows.lm_len_rep_flat]
    rw [PyProof.Rows.lm_len_rep_flat, ln'] at fl
    exact fl
  exact ⟨.ref s.heap.objs.size, _, exLaid I (r.rep k.toNat) hz, rfl, q _ _ (I.hok.fresh (Nat.le_refl _))⟩
end
end Ev

end
section
set_option Elab.async false
set_option linter.all false
set_option maxRecDepth 100000
set_option maxHeartbeats 2000000
namespace Ev
open PySem L2
open PySem.Spec PyProof.Rows
/-- sum(t), ints -/
def rSumT (K : PySem.W.Frag) : List V → Hp → VK → Prop := fun vs H Q => ∃ (a : Addr) (ns : List Int), vs = [V.ref a] ∧ SqT K H a (ns.map V.int) ∧ Q (.int ns.sum) H
theorem cr_sumT {X : Cx} (hc : X.calm = true) : CallR X (.builtin "sum") (rSumT X.K) := by
  intro pins s σ H vs us Q I r h
  obtain ⟨a, ns, rfl, hs, q⟩ := h
  obtain ⟨its, rv, ht, _⟩ := I.tuple hs
  rw [Vals.ref1 r]
  have hi : IntsAre its ns := rv.ints
  obtain ⟨xs, e⟩ := hi.allInts.items
  have hn : numsOf (intItems xs).toList = ns := by rw [← e]; exact hi.numsOf
  rw [nums_intItems] at hn
  rw [e] at ht
  refine PySem.W.ktm_sumG (I.ok.hd hc) ht fun h' tk t' hk => ?_
  rw [preSum_eq, List.take_of_length_le (by simp), hn]
  exact ⟨.int _, H, I.kept hk, ⟨_, rfl⟩, q⟩
theorem holdInts {h : Heap} {its : List Value} {ns : List Int} (r : IntsAre its ns) : PySem.W.HoldAll h its ns := by
  induction r with
  | nil => exact .nil
  | cons n t _ ih => exact .cons (PySem.W.holds_int _ _) ih
theorem int_held {h : Heap} {v : Value} {i : Int} (x : PySem.W.Holds h v i) : RelV (V.int i) v := by
  obtain ⟨as, r⟩ := x
  have r : Reads h v (.int i) as := r
  cases r
  exact ⟨_, rfl⟩
theorem minI_of : ∀ (ns : List Int) (n : Int), PySem.W.minOf n ns = minI n ns
  | [], n => rfl
  | y :: ns, n => by
    have e : PySem.W.minOf n (y :: ns) = PySem.W.minOf (if PySem.W.DatumOrd.lt y n = true then y else n) ns := rfl
    have e2 : minI n (y :: ns) = minI (if y < n then y else n) ns := rfl
    rw [e, e2, minI_of]
    have e3 : PySem.W.DatumOrd.lt y n = decide (y < n) := rfl
    rw [e3]
    by_cases c : y < n <;> simp [c]
theorem maxI_of : ∀ (ns : List Int) (n : Int), PySem.W.maxOf n ns = maxI n ns
  | [], n => rfl
  | y :: ns, n => by
    have e : PySem.W.maxOf n (y :: ns) = PySem.W.maxOf (if PySem.W.DatumOrd.lt n y = true then y else n) ns := rfl
    have e2 : maxI n (y :: ns) = maxI (if y > n then y else n) ns := rfl
    rw [e, e2, maxI_of]
    have e3 : PySem.W.DatumOrd.lt n y = decide (n < y) := rfl
    rw [e3]
    by_cases c : n < y <;> simp [c]
/-- min(t), max(t), ints -/
def rMinT (K : PySem.W.Frag) : List V → Hp → VK → Prop := fun vs H Q => ∃ (a : Addr) (n : Int) (ns : List Int), vs = [V.ref a] ∧ SqT K H a ((n :: ns).map V.int) ∧ Q (.int (minI n ns)) H
def rMaxT (K : PySem.W.Frag) : List V → Hp → VK → Prop := fun vs H Q => ∃ (a : Addr) (n : Int) (ns : List Int), vs = [V.ref a] ∧ SqT K H a ((n :: ns).map V.int) ∧ Q (.int (maxI n ns)) H
theorem cr_minT {X : Cx} (hc : X.calm = true) (hu : X.A.units + 66 < cLine) : CallR X (.builtin "min") (rMinT X.K) := by
  intro pins s σ H vs us Q I r h
  obtain ⟨a, n, ns, rfl, hs, q⟩ := h
  obtain ⟨its, rv, ht, _⟩ := I.tuple hs
  rw [Vals.ref1 r]
  have hh : PySem.W.HoldAll s.heap its.toArray.toList (n :: ns) := by
    have := holdInts (h := s.heap) rv.ints
    simpa using this
  exact PySem.W.min_tuple_datum (α := Int) (I.ok.hd hc) ht hh (by show X.A.units + 1 + 0 < cLine; omega) fun i v h' tk _ hv hk => ⟨.int (minI n ns), H, I.kept hk, by rw [← minI_of]; exact int_held hv, q⟩
theorem cr_maxT {X : Cx} (hc : X.calm = true) (hu : X.A.units + 66 < cLine) : CallR X (.builtin "max") (rMaxT X.K) := by
  intro pins s σ H vs us Q I r h
  obtain ⟨a, n, ns, rfl, hs, q⟩ := h
  obtain ⟨its, rv, ht, _⟩ := I.tuple hs
  rw [Vals.ref1 r]
  have hh : PySem.W.HoldAll s.heap its.toArray.toList (n :: ns) := by
    have := holdInts (h := s.heap) rv.ints
    simpa using this
  exact PySem.W.max_tuple_datum (α := Int) (I.ok.hd hc) ht hh (by show X.A.units + 1 + 0 < cLine; omega) fun i v h' tk _ hv hk => ⟨.int (maxI n ns), H, I.kept hk, by rw [← maxI_of]; exact int_held hv, q⟩
/-- what dict() may be given: a list of pairs; a tuple of pairs whose object is known -/
def PrAt (K : PySem.W.Frag) (H : Hp) (a : Addr) (xs : List V) : Prop :=
  SqL K H a xs ∨ (∃ its, H a = some (tupO its xs)) ∨ ∃ (its : List Value) (n : Nat), K.lookup a = some { cls := .type "tuple", data := .seq its.toArray n } ∧ xs.length ≤ sizeLine ∧ Vals xs its
def rDictX (K : PySem.W.Frag) : List V → Hp → VK → Prop := fun xs H Q => ∃ (a : Addr) (ps : List Addr) (kvs : List (Key × V)), xs = [.ref a] ∧ PrAt K H a (ps.map V.ref) ∧ Paired (fun p kv => SqT K H p [kV kv.1, kv.2]) ps kvs ∧
    ∀ p, H p = none → Q (.ref p) (upd H p (.dK (mergeK [] kvs)))
theorem cr_dictX {X : Cx} (hcalm : X.calm = true) : CallR X (.type "dict") (rDictX X.K) := by
  intro pins s σ H xs us Q I r q
  obtain ⟨a, ps, kvs, rfl, hq, hp, q⟩ := q
  rcases hq with hq | hq
  · exact call_dictP hcalm pins s σ H _ us Q I r ⟨a, ps, kvs, rfl, hq, hp, q⟩
  rw [Vals.ref1 r]
  obtain ⟨its, n, ho, rv, hz⟩ : ∃ (its : List Value) (n : Nat), s.heap.get? a = some { cls := .type "tuple", data := .seq its.toArray n } ∧ Vals (ps.map V.ref) its ∧ (ps.map V.ref).length ≤ sizeLine := by
    rcases hq with ⟨its, h⟩ | ⟨its, n, h1, h2, h3⟩
    · obtain ⟨e, z, its', rv, ⟨o, ho, hc, n, hd⟩⟩ := I.hok a _ h
      rw [e] at ho
      cases ho
      have hd : Data.seq its.toArray 0 = Data.seq its'.toArray n := hd
      injection hd with d1 d2
      have : its = its' := by simpa using congrArg Array.toList d1
      subst this
      exact ⟨its, 0, e, rv, z⟩
    · exact ⟨its, n, I.kIn a _ h1, h3, h2⟩
  have ei := refs_at rv
  subst ei
  rw [List.length_map] at hz
  obtain ⟨prs, rel, hl, hpr⟩ := pairs_of I hp
  have h1 : ∀ (j : Nat) (q : Key × Value), prs[j]? = some q → ∃ (b : Addr) (u : Value), ps[j]? = some b ∧ IsTup s.heap b #[u, q.2] ∧ keyIs q.1 u = true := hpr
  -- the keys' values
  let kv : Nat → Value := fun j => match ps[j]?, prs[j]? with
    | some b, some q => (match s.heap.get? b with | some o => (match o.data with | .seq ys _ => ys.getD 0 .none | _ => .none) | none => .none)
    | _, _ => .none
  let pv : List (Value × Value) := (List.range prs.length).map fun j => (kv j, ((prs[j]?).map (·.2)).getD .none)
  have hpv : pv.length = prs.length := by simp [pv]
  have hget : ∀ (j : Nat) (q : Key × Value), prs[j]? = some q → pv[j]? = some (kv j, q.2) := fun j q e => by
    have hj := (List.getElem?_eq_some_iff.mp e).1
    show ((List.range prs.length).map fun j => (kv j, ((prs[j]?).map (·.2)).getD .none))[j]? = _
    rw [List.getElem?_map, List.getElem?_range hj]
    simp only [Option.map_some, e, Option.getD_some]
  have hkv : ∀ (j : Nat) (q : Key × Value), prs[j]? = some q → ∃ b, ps[j]? = some b ∧ IsTup s.heap b #[kv j, q.2] ∧ keyIs q.1 (kv j) = true := fun j q e => by
    obtain ⟨b, u, e1, e2, e3⟩ := h1 j q e
    have ek : kv j = u := by
      obtain ⟨o, ho, hc, n, hd⟩ := e2
      show (match ps[j]?, prs[j]? with
        | some b, some q => (match s.heap.get? b with | some o => (match o.data with | .seq ys _ => ys.getD 0 .none | _ => .none) | none => .none)
        | _, _ => .none) = u
      rw [e1, e]
      simp only [ho, hd]
      rfl
    rw [ek]
    exact ⟨b, e1, e2, e3⟩
  have back : ∀ (j : Nat) k v, pv[j]? = some (k, v) → ∃ q, prs[j]? = some q ∧ k = kv j ∧ v = q.2 := fun j k v e => by
    have hj := (List.getElem?_eq_some_iff.mp e).1
    rw [hpv] at hj
    have e2 := List.getElem?_eq_getElem hj
    rw [hget j _ e2] at e
    cases e
    exact ⟨_, e2, rfl, rfl⟩
  refine PySem.call_dict_pairs (knd := mixKind X.prog X.w) (kvs := prs) (PairArg.tuple a (ps.map Value.ref).toArray (fun j => (ps[j]?).getD 0) pv) (I.ok.hd hcalm) ⟨⟨_, n, ho, rfl, rfl, rfl⟩, by simp [hpv, hl], fun j k v e => ?_⟩ ⟨by rw [hpv], fun j k v e => ?_⟩ (by rw [hpv, hl]; exact hz) fun h' tk hd' k => ?_
  · obtain ⟨q, e1, rfl, rfl⟩ := back j k v e
    obtain ⟨b, e2, e3, _⟩ := hkv j q e1
    refine ⟨by simp [e2], .inl ?_⟩
    show s.heap.IsTuple ((ps[j]?).getD 0) _
    rw [e2]
    exact e3
  · obtain ⟨q, e1, rfl, rfl⟩ := back j k v e
    obtain ⟨b, e2, e3, e4⟩ := hkv j q e1
    exact ⟨q.1, e1, e4⟩
  · have hm : (s.heap.objs.size == sysModules) = false := beq_eq_false_iff_ne.mpr (Nat.ne_of_gt I.big)
    have hlen : (mergeK [] kvs).length ≤ sizeLine := by
      refine Nat.le_trans (length_mergeK kvs []) ?_
      rw [List.length_nil, Nat.zero_add, rel.length, hl]
      exact hz
    exact ⟨.ref s.heap.objs.size, upd H s.heap.objs.size (.dK (mergeK [] kvs)), I.laid (t' := tk) (fun b o e => k b o (by simp) e) (Nat.le_refl _) (show ObjOk X.prog X.w _ _ _ (.dK (mergeK [] kvs)) from ⟨hlen, hm, merged [] prs, KV.merge rel .nil, hd'⟩), rfl, q _ (I.hok.fresh (Nat.le_refl _))⟩
/-- no key twice: merged as they stand -/
theorem mergeK_new : ∀ (kvs acc : List (Key × V)), ((acc ++ kvs).map (·.1)).Nodup → mergeK acc kvs = acc ++ kvs
  | [], acc, _ => by simp [mergeK]
  | (k, v) :: r, acc, h => by
    have hn : valV acc k = none := by
      cases q : valV acc k with
      | none => rfl
      | some x =>
        have hs : (acc.any fun kv => decide (kv.1 = k)) = true := by rw [valV_any, q]; rfl
        obtain ⟨p, hp, e⟩ := List.any_eq_true.mp hs
        have e : p.1 = k := by simpa using e
        rw [List.map_append, List.nodup_append] at h
        exact absurd e (h.2.2 p.1 (List.mem_map_of_mem hp) k (by simp))
    show mergeK (putK acc k v) r = _
    rw [putK_new v hn, mergeK_new r (acc ++ [(k, v)]) (by simpa using h)]
    simp
end Ev

end
section
set_option Elab.async false
set_option linter.all false
set_option maxRecDepth 100000
set_option maxHeartbeats 1000000
namespace Ev
open PySem L2

/-! ### values of the evaluator and values of the heap -/
/-- the name of a def's object -/
def fnName (o : Obj) : Option Str := match o.data with
  | .func fd => some fd.name
  | _ => none
def zipK (ks : List Int) (vs : List V) : List (Key × V) := (ks.zip vs).map fun p => (.inl p.1, p.2)
def zipT (ks : List (List Int)) (vs : List V) : List (List Key × V) := (ks.zip vs).map fun p => (p.1.map .inl, p.2)
/-- a dict whose keys are tuples of ints, by its object: the keys, their tuples, the values -/
def DtO (a : Addr) (xs : List (List Int × Addr × Value)) : HO := .ext fun h => ∃ (P : Program) (w : World) (o : Obj) (es : Array DictEntry) (ep : Nat), h.get? a = some o ∧ o.ExactDict ∧ o.data = .dict es ep ∧ es.toList = xs.map (entryOfKey (tupleKind (intKind P w)))
structure DtK (kvs : List (List Int × U)) (us : List U) (vs : List V) (xs : List (List Int × Addr × Value)) (a : Addr) : Prop where
  ks : kvs.map Prod.fst = xs.map (·.1)
  us : us = xs.map fun x => .tup (x.1.map .int)
  vs : vs = xs.map fun x => V.ref x.2.1
  nd : (xs.map (·.1)).Nodup
  sy : (a == sysModules) = false
section
variable (K : PySem.W.Frag) (H : Hp) (m : Addr → Prop) (al : List Addr)
mutual
/-- v stands for u, nothing of it at an address of m (but by ref) -/
inductive Sh : U → V → Prop
  | non : Sh .non .non
  | bl (b : Bool) : Sh (.bl b) (.bl b)
  | int (i : Int) : Sh (.int i) (.int i)
  | str (x : Str) : Sh (.str x) (.str x)
  | tup {us : List U} {a : Addr} {vs : List V} {its : List Value} : H a = some (tupO its vs) → ¬ m a → Shs us vs → Sh (.tup us) (.ref a)
  | tupK {us : List U} {a : Addr} {vs : List V} {its : List Value} {n : Nat} : K.lookup a = some { cls := .type "tuple", data := .seq its.toArray n } → vs.length ≤ sizeLine → Vals vs its → Shs us vs → Sh (.tup us) (.ref a)
  | lst {us : List U} {a : Addr} {vs : List V} : H a = some (.lst vs) → ¬ m a → Shs us vs → Sh (.lst us) (.ref a)
  | lstF {us : List U} {a : Addr} {vs : List V} {its : List Value} : H a = some (.frz { cls := .type "list", data := .seq its.toArray } (.lst vs)) → ¬ m a → Shs us vs → Sh (.lst us) (.ref a)
  | lstK {us : List U} {a : Addr} {vs : List V} {its : List Value} {n : Nat} : K.lookup a = some { cls := .type "list", data := .seq its.toArray n } → vs.length ≤ sizeLine → Vals vs its → Shs us vs → Sh (.lst us) (.ref a)
  | ref {k : Nat} {a : Addr} : nth k al = some a → Sh (.ref k) (.ref a)
  | dct {kvs : List (Int × U)} {us : List U} {a : Addr} {vs : List V} : us = kvs.map Prod.snd → H a = some (.dK (zipK (kvs.map Prod.fst) vs)) → ¬ m a → Shs us vs → Sh (.dct kvs) (.ref a)
  | dctT {kvs : List (List Int × U)} {us : List U} {a : Addr} {vs : List V} {xs : List (List Int × Addr × Value)} : DtK kvs us vs xs a → H a = some (DtO a xs) → ¬ m a → Shs us vs → Sh (.dctT kvs) (.ref a)
  | fnv {f : Nat} {n : Str} {a : Addr} {o : Obj} : K.lookup a = some o → fnName o = some n → Sh (.fnv f n) (.ref a)
inductive Shs : List U → List V → Prop
  | nil : Shs [] []
  | cons {u : U} {v : V} {us : List U} {vs : List V} : Sh u v → Shs us vs → Shs (u :: us) (v :: vs)
end
end

section
variable {K : PySem.W.Frag} {H H' : Hp} {m m' : Addr → Prop} {al al' : List Addr}
theorem Sh.mono {u : U} {v : V} (h : Sh K H m al u v) (e : ∀ b o, H b = some o → ¬ m b → H' b = some o) (f : ∀ b o, H b = some o → ¬ m b → ¬ m' b) (g : ∀ k a, nth k al = some a → nth k al' = some a) : Sh K H' m' al' u v :=
  Sh.rec (K := K) (H := H) (m := m) (al := al) (motive_1 := fun u v _ => Sh K H' m' al' u v) (motive_2 := fun us vs _ => Shs K H' m' al' us vs)
    .non .bl .int .str
    (fun h1 h2 _ ih => .tup (e _ _ h1 h2) (f _ _ h1 h2) ih)
    (fun h1 h2 h4 _ ih => .tupK h1 h2 h4 ih)
    (fun h1 h2 _ ih => .lst (e _ _ h1 h2) (f _ _ h1 h2) ih)
    (fun h1 h2 _ ih => .lstF (e _ _ h1 h2) (f _ _ h1 h2) ih)
    (fun h1 h2 h4 _ ih => .lstK h1 h2 h4 ih)
    (fun h1 => .ref (g _ _ h1))
    (fun h0 h1 h2 _ ih => .dct h0 (e _ _ h1 h2) (f _ _ h1 h2) ih)
    (fun h0 h1 h2 _ ih => .dctT h0 (e _ _ h1 h2) (f _ _ h1 h2) ih)
    (fun h1 h2 => .fnv h1 h2)
    .nil (fun _ _ ih1 ih2 => .cons ih1 ih2) h
theorem Shs.mono {us : List U} {vs : List V} (h : Shs K H m al us vs) (e : ∀ b o, H b = some o → ¬ m b → H' b = some o) (f : ∀ b o, H b = some o → ¬ m b → ¬ m' b) (g : ∀ k a, nth k al = some a → nth k al' = some a) : Shs K H' m' al' us vs :=
  Shs.rec (K := K) (H := H) (m := m) (al := al) (motive_1 := fun u v _ => Sh K H' m' al' u v) (motive_2 := fun us vs _ => Shs K H' m' al' us vs)
    .non .bl .int .str
    (fun h1 h2 _ ih => .tup (e _ _ h1 h2) (f _ _ h1 h2) ih)
    (fun h1 h2 h4 _ ih => .tupK h1 h2 h4 ih)
    (fun h1 h2 _ ih => .lst (e _ _ h1 h2) (f _ _ h1 h2) ih)
    (fun h1 h2 _ ih => .lstF (e _ _ h1 h2) (f _ _ h1 h2) ih)
    (fun h1 h2 h4 _ ih => .lstK h1 h2 h4 ih)
    (fun h1 => .ref (g _ _ h1))
    (fun h0 h1 h2 _ ih => .dct h0 (e _ _ h1 h2) (f _ _ h1 h2) ih)
    (fun h0 h1 h2 _ ih => .dctT h0 (e _ _ h1 h2) (f _ _ h1 h2) ih)
    (fun h1 h2 => .fnv h1 h2)
    .nil (fun _ _ ih1 ih2 => .cons ih1 ih2) h
theorem Shs.length {us : List U} {vs : List V} (h : Shs K H m al us vs) : us.length = vs.length := by
  induction us generalizing vs with
  | nil => cases h; rfl
  | cons u us ih => cases h with | cons h1 h2 => simp [ih h2]
theorem nth_get {α : Type} : ∀ (n : Nat) (l : List α), nth n l = l[n]?
  | n, [] => by cases n <;> rfl
  | 0, x :: l => rfl
  | n + 1, x :: l => by show nth n l = _; rw [nth_get n l]; simp
theorem Shs.nth {us : List U} {vs : List V} (h : Shs K H m al us vs) {i : Nat} {u : U} (e : us[i]? = some u) : ∃ v, vs[i]? = some v ∧ Sh K H m al u v := by
  induction us generalizing vs i with
  | nil => simp at e
  | cons w us ih =>
    cases h with
    | cons h1 h2 =>
      cases i with
      | zero => simp at e; subst e; exact ⟨_, rfl, h1⟩
      | succ i =>
        obtain ⟨v, e1, r⟩ := ih h2 (i := i) (by simpa using e)
        exact ⟨v, by simpa using e1, r⟩
theorem Shs.append {us ws : List U} {vs zs : List V} (h : Shs K H m al us vs) (h' : Shs K H m al ws zs) : Shs K H m al (us ++ ws) (vs ++ zs) := by
  induction us generalizing vs with
  | nil => cases h; exact h'
  | cons u us ih => cases h with | cons h1 h2 => exact .cons h1 (ih h2)
theorem Shs.set {us : List U} {vs : List V} (h : Shs K H m al us vs) {i : Nat} {u : U} {v : V} (r : Sh K H m al u v) : Shs K H m al (us.set i u) (vs.set i v) := by
  induction us generalizing vs i with
  | nil => cases h; exact .nil
  | cons w us ih =>
    cases h with
    | cons h1 h2 =>
      cases i with
      | zero => exact .cons r h2
      | succ i => exact .cons h1 (ih h2)
theorem Shs.drop {us : List U} {vs : List V} (h : Shs K H m al us vs) (n : Nat) : Shs K H m al (us.drop n) (vs.drop n) := by
  induction us generalizing vs n with
  | nil => cases h; simp; exact .nil
  | cons w us ih =>
    cases h with
    | cons h1 h2 =>
      cases n with
      | zero => exact .cons h1 h2
      | succ n => simpa using ih h2 n
theorem Shs.take {us : List U} {vs : List V} (h : Shs K H m al us vs) (n : Nat) : Shs K H m al (us.take n) (vs.take n) := by
  induction us generalizing vs n with
  | nil => cases h; simp; exact .nil
  | cons w us ih =>
    cases h with
    | cons h1 h2 =>
      cases n with
      | zero => simp; exact .nil
      | succ n => exact .cons h1 (ih h2 n)
theorem Shs.eraseIdx {us : List U} {vs : List V} (h : Shs K H m al us vs) (n : Nat) : Shs K H m al (us.eraseIdx n) (vs.eraseIdx n) := by
  induction us generalizing vs n with
  | nil => cases h; simp; exact .nil
  | cons w us ih =>
    cases h with
    | cons h1 h2 =>
      cases n with
      | zero => simpa using h2
      | succ n => exact .cons h1 (ih h2 n)
theorem Shs.reverse {us : List U} {vs : List V} (h : Shs K H m al us vs) : Shs K H m al us.reverse vs.reverse := by
  induction us generalizing vs with
  | nil => cases h; exact .nil
  | cons w us ih => cases h with | cons h1 h2 => simpa using (ih h2).append (.cons h1 .nil)
theorem Shs.ints {is : List Int} : Shs K H m al (is.map .int) (is.map .int) := by
  induction is with
  | nil => exact .nil
  | cons i is ih => exact .cons (.int i) ih
theorem Shs.intsU {us : List U} {vs : List V} (h : Shs K H m al us vs) {is : List Int} (e : Ev.intsU us = some is) : vs = is.map V.int := by
  induction us generalizing vs is with
  | nil => cases h; simp [Ev.intsU] at e; subst e; rfl
  | cons w us ih =>
    cases h with
    | cons h1 h2 =>
      cases w with
      | int i =>
        cases h1
        simp only [Ev.intsU] at e
        cases q : Ev.intsU us with
        | none => rw [q] at e; cases e
        | some js => rw [q] at e; cases e; simp [ih h2 q]
      | _ => simp [Ev.intsU] at e
theorem Shs.boolsU {us : List U} {vs : List V} (h : Shs K H m al us vs) {bs : List Bool} (e : Ev.boolsU us = some bs) : vs = bs.map V.bl := by
  induction us generalizing vs bs with
  | nil => cases h; simp [Ev.boolsU] at e; subst e; rfl
  | cons w us ih =>
    cases h with
    | cons h1 h2 =>
      cases w with
      | bl i =>
        cases h1
        simp only [Ev.boolsU] at e
        cases q : Ev.boolsU us with
        | none => rw [q] at e; cases e
        | some js => rw [q] at e; cases e; simp [ih h2 q]
      | _ => simp [Ev.boolsU] at e
end

/-! ### the store, the slots -/
/-- from one heap to a later one: the store may be changed, and grows -/
structure Step (H H' : Hp) (al al' : List Addr) : Prop where
  pre : ∃ g, al' = al ++ g ∧ ∀ a ∈ g, H a = none
  ext : ∀ b o, H b = some o → b ∉ al → H' b = some o
  dom : ∀ b o, H b = some o → ∃ o', H' b = some o'
/-- nothing but new objects -/
def Grow (H H' : Hp) : Prop := ∀ b o, H b = some o → H' b = some o
/-- m with the store's addresses -/
def mU (m : Addr → Prop) (al : List Addr) : Addr → Prop := fun a => m a ∨ a ∈ al
/-- the store stands at al -/
structure ST (K : PySem.W.Frag) (m : Addr → Prop) (al : List Addr) (s : Sto) (H : Hp) : Prop where
  len : al.length = s.length
  nd : al.Nodup
  sub : ∀ a ∈ al, m a
  at_ : ∀ (k : Nat) us, s[k]? = some (Ob.lst us) → ∃ a, al[k]? = some a ∧ H a = some (.lst (us.map V.int))
/-- the slots -/
structure SR (K : PySem.W.Frag) (m : Addr → Prop) (al : List Addr) (ρ : Env) (σ : St) (H : Hp) : Prop where
  len : ρ.length = σ.length
  md : ∀ a, m a → ∃ o, H a = some o
  sh : ∀ i u, look i ρ = .sh u → ∃ v, σ[i]? = some (some v) ∧ Sh K H m al u v
  own : ∀ i u, look i ρ = .own u → ∃ us a vs, u = .lst us ∧ σ[i]? = some (some (.ref a)) ∧ H a = some (.lst vs) ∧ Shs K H m al us vs ∧ m a ∧ a ∉ al
  inj : ∀ i j u w a, look i ρ = .own u → look j ρ = .own w → σ[i]? = some (some (.ref a)) → σ[j]? = some (some (.ref a)) → i = j
/-- a result's value -/
structure VR (K : PySem.W.Frag) (H H' : Hp) (m : Addr → Prop) (al : List Addr) (r : Rv) (v : V) : Prop where
  sh : Sh K H' m al r.u v
  fr : r.f = true → ∀ us, r.u = .lst us → ∃ a vs, v = .ref a ∧ H' a = some (.lst vs) ∧ Shs K H' (fun b => m b ∨ b = a) al us vs ∧ H a = none ∧ ¬ m a
/-- a value that is looked at only: it may be an owned list -/
inductive BR (K : PySem.W.Frag) (H : Hp) (m : Addr → Prop) (al : List Addr) : U → V → Prop
  | sh {u : U} {v : V} : Sh K H m al u v → BR K H m al u v
  | own {us : List U} {a : Addr} {vs : List V} : H a = some (.lst vs) → a ∉ al → Shs K H m al us vs → BR K H m al (.lst us) (.ref a)

section
variable {K : PySem.W.Frag} {H H1 H2 H' : Hp} {m m' : Addr → Prop} {al al1 al2 al' : List Addr} {ρ : Env} {σ : St} {s s' : Sto}
theorem Step.refl : Step H H al al := ⟨⟨[], by simp, fun _ z => nomatch z⟩, fun _ _ e _ => e, fun _ o e => ⟨o, e⟩⟩
theorem Grow.step (g : Grow H H') : Step H H' al al := ⟨⟨[], by simp, fun _ z => nomatch z⟩, fun b o e _ => g b o e, fun b o e => ⟨o, g b o e⟩⟩
theorem Grow.refl : Grow H H := fun _ _ e => e
theorem Grow.trans (g : Grow H H1) (g' : Grow H1 H2) : Grow H H2 := fun b o e => g' b o (g b o e)
theorem Grow.new {p : Addr} {o : HO} (h : H p = none) : Grow H (upd H p o) := fun b u e => by rw [upd_ne (ne_of_none e h)]; exact e
theorem Step.trans (a : Step H H1 al al1) (b : Step H1 H2 al1 al2) : Step H H2 al al2 := by
  obtain ⟨g, e, n⟩ := a.pre
  obtain ⟨g', e', n'⟩ := b.pre
  have nd : ∀ c, H1 c = none → H c = none := fun c z => by
    cases q : H c with
    | none => rfl
    | some o => obtain ⟨o', q'⟩ := a.dom c o q; rw [z] at q'; cases q'
  refine ⟨⟨g ++ g', by rw [e', e, List.append_assoc], fun c hc => ?_⟩, fun c o h hn => ?_, fun c o h => ?_⟩
  · rcases List.mem_append.mp hc with hc | hc
    · exact n c hc
    · exact nd c (n' c hc)
  · refine b.ext c o (a.ext c o h hn) fun z => ?_
    rw [e] at z
    rcases List.mem_append.mp z with z | z
    · exact hn z
    · rw [n c z] at h; cases h
  · obtain ⟨o', q⟩ := a.dom c o h
    exact b.dom c o' q
theorem Step.sub (a : Step H H1 al al1) : ∀ c ∈ al, c ∈ al1 := fun c hc => by
  obtain ⟨g, e, _⟩ := a.pre
  rw [e]; exact List.mem_append_left _ hc
theorem Step.nth (a : Step H H1 al al1) : ∀ k c, Ev.nth k al = some c → Ev.nth k al1 = some c := fun k c h => by
  obtain ⟨g, e, _⟩ := a.pre
  rw [nth_get] at h ⊢
  rw [e, List.getElem?_append_left (List.getElem?_eq_some_iff.mp h).1]
  exact h
theorem Step.notm (a : Step H H1 al al1) (sb : ∀ c ∈ al, m c) {c : Addr} {o : HO} (h : H c = some o) (hm : ¬ m c) : ¬ mU m al1 c := by
  rintro (z | z)
  · exact hm z
  · obtain ⟨g, e, n⟩ := a.pre
    rw [e] at z
    rcases List.mem_append.mp z with z | z
    · exact hm (sb c z)
    · rw [n c z] at h; cases h
end
end Ev

end
section
set_option Elab.async false
set_option linter.all false
set_option maxRecDepth 100000
set_option maxHeartbeats 2000000
namespace Ev
open PySem L2

/-- a list as it stands: tracked, the script, of the written part -/
def LstAt (K : PySem.W.Frag) (H : Hp) (a : Addr) (vs : List V) : Prop :=
  H a = some (.lst vs) ∨ (∃ its : List Value, H a = some (.frz { cls := .type "list", data := .seq its.toArray } (.lst vs))) ∨
  ∃ (its : List Value) (n : Nat), K.lookup a = some { cls := .type "list", data := .seq its.toArray n } ∧ vs.length ≤ sizeLine ∧ Vals vs its
section
variable {K : PySem.W.Frag} {H H' : Hp} {m : Addr → Prop} {al : List Addr}
theorem LstAt.sq {a : Addr} {vs : List V} (h : LstAt K H a vs) : SqL K H a vs := by
  rcases h with h | ⟨its, h⟩ | ⟨its, n, h, z, r⟩
  · exact .inl (.inl h)
  · exact .inl (.inr ⟨_, h⟩)
  · exact .inr ⟨_, its.toArray, n, h, rfl, rfl, rfl, by rw [List.size_toArray, ← r.length]; exact z, by simpa using r⟩
theorem BR.int {i : Int} {x : V} (h : BR K H m al (.int i) x) : x = .int i := by cases h with | sh h => cases h; rfl
theorem BR.bl {i : Bool} {x : V} (h : BR K H m al (.bl i) x) : x = .bl i := by cases h with | sh h => cases h; rfl
theorem BR.str {i : Str} {x : V} (h : BR K H m al (.str i) x) : x = .str i := by cases h with | sh h => cases h; rfl
theorem BR.non {x : V} (h : BR K H m al .non x) : x = .non := by cases h with | sh h => cases h; rfl
theorem BR.tup {us : List U} {x : V} (h : BR K H m al (.tup us) x) : ∃ a vs, x = .ref a ∧ SqT K H a vs ∧ Shs K H m al us vs ∧ Sh K H m al (.tup us) x := by
  cases h with
  | sh h =>
    cases h with
    | tup h1 h2 h3 => exact ⟨_, _, rfl, sqt_of h1, h3, .tup h1 h2 h3⟩
    | tupK h1 h2 h4 h3 => exact ⟨_, _, rfl, sqt_k h1 h2 h4, h3, .tupK h1 h2 h4 h3⟩
theorem BR.lst {us : List U} {x : V} (h : BR K H m al (.lst us) x) : ∃ a vs, x = .ref a ∧ LstAt K H a vs ∧ Shs K H m al us vs := by
  cases h with
  | sh h =>
    cases h with
    | lst h1 h2 h3 => exact ⟨_, _, rfl, .inl h1, h3⟩
    | lstF h1 h2 h3 => exact ⟨_, _, rfl, .inr (.inl ⟨_, h1⟩), h3⟩
    | lstK h1 h2 h4 h3 => exact ⟨_, _, rfl, .inr (.inr ⟨_, _, h1, h2, h4⟩), h3⟩
  | own h1 h2 h3 => exact ⟨_, _, rfl, .inl h1, h3⟩
/-- every address of m is tracked -/
def Md (m : Addr → Prop) (H : Hp) : Prop := ∀ a, m a → ∃ o, H a = some o
theorem Md.not (md : Md m H) {p : Addr} (h : H p = none) : ¬ m p := fun z => by obtain ⟨o, e⟩ := md p z; rw [h] at e; cases e
/-- what is wanted of a result that makes at most new objects -/
def tV (K : PySem.W.Frag) (m : Addr → Prop) (al : List Addr) (r : Rv) (H : Hp) (Q : VK) : Prop := ∀ v H', Grow H H' → VR K H H' m al r v → Q v H'
theorem Sh.grow {u : U} {v : V} (h : Sh K H m al u v) (g : Grow H H') : Sh K H' m al u v := h.mono (fun b o e _ => g b o e) (fun _ _ _ z => z) fun _ _ z => z
theorem Shs.grow {u : List U} {v : List V} (h : Shs K H m al u v) (g : Grow H H') : Shs K H' m al u v := h.mono (fun b o e _ => g b o e) (fun _ _ _ z => z) fun _ _ z => z
theorem Shs.newE {us : List U} {vs : List V} {p : Addr} {o : HO} (r : Shs K H m al us vs) (hp : H p = none) : Shs K (upd H p o) (fun b => m b ∨ b = p) al us vs :=
  r.mono (fun b q e _ => Grow.new hp b q e) (fun b q e n z => z.elim n fun z => by rw [z, hp] at e; cases e) fun _ _ z => z
theorem tV.at {Q : VK} {u : U} {v : V} (h : tV K m al ⟨u, false⟩ H Q) (r : Sh K H m al u v) : Q v H := h v H Grow.refl ⟨r, fun z => nomatch z⟩
theorem tV.newL {Q : VK} {us : List U} {vs : List V} {p : Addr} {f : Bool} (h : tV K m al ⟨.lst us, f⟩ H Q) (md : Md m H) (r : Shs K H m al us vs) (hp : H p = none) : Q (.ref p) (upd H p (.lst vs)) :=
  h _ _ (Grow.new hp) ⟨.lst upd_same (md.not hp) (r.grow (Grow.new hp)), fun _ us' e => by cases e; exact ⟨p, vs, rfl, upd_same, r.newE hp, hp, md.not hp⟩⟩
theorem tV.newT {Q : VK} {us : List U} {vs : List V} {p : Addr} {its : List Value} (h : tV K m al ⟨.tup us, false⟩ H Q) (md : Md m H) (r : Shs K H m al us vs) (hp : H p = none) : Q (.ref p) (upd H p (tupO its vs)) :=
  h _ _ (Grow.new hp) ⟨.tup upd_same (md.not hp) (r.grow (Grow.new hp)), fun z => nomatch z⟩
end

section
variable {X : Cx} {pins : List (Addr × Obj)} {σ : St} {H : Hp} {s : Shared}
theorem lstA (I : Inv X pins σ H s) {l : Addr} {xs : List V} (h : LstAt X.K H l xs) : xs.length ≤ sizeLine ∧ ∃ (its : List Value) (n : Nat), Vals xs its ∧ xs.length = its.length ∧ s.heap.get? l = some { cls := .type "list", data := .seq its.toArray n } := by
  rcases h with h | ⟨its, h⟩ | ⟨its, n, h, z, r⟩
  · exact I.lstM h
  · obtain ⟨e, q⟩ := I.hok l _ h
    obtain ⟨z, its', n', r, e'⟩ := q
    exact ⟨z, its', n', r, r.length, e'⟩
  · exact ⟨z, its, n, r, r.length, I.kIn _ _ h⟩
def rCatL (K : PySem.W.Frag) : R2 := fun x y H Q => ∃ l b xs zs, x = .ref l ∧ y = .ref b ∧ LstAt K H l xs ∧ LstAt K H b zs ∧ xs.length + zs.length ≤ sizeLine ∧ ∀ p, H p = none → Q (.ref p) (upd H p (.lst (xs ++ zs)))
theorem op_catL : OpR X (binaryOp .Add) (rCatL X.K) := by
  intro pins s σ H x y v u Q I rx ry h
  obtain ⟨l, b, xs, zs, rfl, rfl, hH, hB, hz, q⟩ := h
  cases rx
  cases ry
  obtain ⟨z, its, n, r, hl, e⟩ := lstA I hH
  obtain ⟨z2, its2, n2, r2, hl2, e2⟩ := lstA I hB
  refine PySem.P.add_list e e2 ?_ (by rw [List.size_toArray, List.size_toArray]; omega)
  have ea : its.toArray ++ its2.toArray = (its ++ its2).toArray := by simp
  rw [ea]
  exact ⟨.ref _, _, I.lnew (t' := s.toks) (r.append r2) (by rw [List.length_append]; omega), rfl, q _ I.fresh⟩
end
section
open PySem.Spec PyProof.Rows
def rRepA (K : PySem.W.Frag) : R2 := fun x y H Q => ∃ l k xs, x = .ref l ∧ y = .int k ∧ LstAt K H l xs ∧ -(2 ^ 63) ≤ k ∧ k < 2 ^ 63 ∧ xs.length * k.toNat ≤ sizeLine ∧
  ∀ p, H p = none → Q (.ref p) (upd H p (.lst (List.replicate k.toNat xs).flatten))
theorem op_repA {X : Cx} : OpR X (binaryOp .Mult) (rRepA X.K) := by
  intro pins s σ H x y v u Q I rx ry h
  obtain ⟨l, k, xs, rfl, rfl, hH, h1, h2, hz, q⟩ := h
  cases rx
  obtain ⟨t, rfl⟩ := ry
  obtain ⟨z, its, n, r, hl, e⟩ := lstA I hH
  have hlen : its.toArray.size * k.toNat ≤ sizeLine := by rw [List.size_toArray, ← hl]; exact hz
  have hcap : ¬ its.toArray.size * k.toNat > (2 ^ 63 - 1) / 8 := by
    have : (sizeLine : Nat) ≤ (2 ^ 63 - 1) / 8 := by decide
    omega
  have hfit : ¬ (!Builtin.List.listFitsIndex k) = true := by
    rw [fitsIndex_both h1 h2]
    exact Bool.false_ne_true
  have hlong : ¬ Builtin.List.listTooLong (its.toArray.size * k.toNat) = true := by
    rw [notLongL hlen]
    exact Bool.false_ne_true
  have hnew : List.foldl (fun x1 x2 => x1 ++ x2) #[] (List.replicate (if its.toArray.isEmpty = true then 0 else k.toNat) its.toArray) = (List.replicate k.toNat its).flatten.toArray := by
    have f0 : ∀ m : Nat, List.foldl (fun x1 x2 => x1 ++ x2) #[] (List.replicate m its.toArray) = (List.replicate m its).flatten.toArray := fun m => by
      have := foldl_rep its m []
      rw [List.nil_append] at this
      exact this
    rw [f0]
    cases its with
    | nil => simp
    | cons a r' => rw [if_neg (by simp)]
  refine wpAny_binaryOp_repeat_ref (T := "list") (U := "int") (by decide) ⟨_, e, rfl⟩ (fun s' => typeIs_int s' k t) noFill_list_mul F.fills_int_mul F.slot_int_rmul repeat_list F.slot_int_index.lookup
    (call_meets F.slot_int_rmul (typeIs_int s k t) F.entry_int_rmul (F.args_int_rmul_2 _ _) (int___rmul___int_list k t l its.toArray n)
      ⟨e, rfl, ⟨_, e, rfl⟩, call_meets F.slot_list_mul ⟨_, e, rfl⟩ F.entry_list_mul (F.args_list_mul_2 _ _) (AutoListH.list___mul___list_int_3 l its.toArray n k t hfit hcap hlong) ⟨e, ?_⟩⟩)
  rw [hnew]
  exact ⟨.ref _, _, I.lnew (t' := s.toks) (r.rep k.toNat) (by rw [PyProof.Rows.lm_len_rep_flat, Nat.mul_comm]; exact hz), rfl, q _ I.fresh⟩
end

theorem rep_eq {α : Type} (xs : List α) : ∀ n, rep xs n = (List.replicate n xs).flatten
  | 0 => rfl
  | n + 1 => by rw [List.replicate_succ, List.flatten_cons, ← rep_eq xs n]; rfl
theorem Shs.repl {K : PySem.W.Frag} {H : Hp} {m : Addr → Prop} {al : List Addr} {us : List U} {vs : List V} (h : Shs K H m al us vs) : ∀ n, Shs K H m al (rep us n) (rep vs n)
  | 0 => .nil
  | n + 1 => h.append (h.repl n)
theorem lim_le {n : Nat} (h : n ≤ lim) : n ≤ sizeLine := by
  have : (sizeLine : Nat) = 16777216 := sizeLine_eq
  unfold lim at h
  omega
def opSyn : Op2 → Operator
  | .add => .Add | .sub => .Sub | .mul => .Mult | .fdiv => .FloorDiv | .mod => .Mod | .pow => .Pow | .shl => .LShift | .shr => .RShift | .band => .BitAnd | .bxor => .BitXor
/-- the reading of an operator on operands that stand for values -/
def rOp (K : PySem.W.Frag) (o : Op2) : R2 := fun x y H Q => ∃ m al u w r, Md m H ∧ BR K H m al u x ∧ BR K H m al w y ∧ op2 o u w = some r ∧ tV K m al r H Q
section
variable {X : Cx}
theorem OpR.imp {f : Value → Value → Sem Value} {r r' : R2} (h : OpR X f r) (i : ∀ x y H Q, r' x y H Q → r x y H Q) : OpR X f r' := fun pins s σ H x y v u Q I rx ry q => h pins s σ H x y v u Q I rx ry (i _ _ _ _ q)
theorem natAbs_lt64 {i : Int} (h : small i = true) : i.natAbs < 2 ^ 64 := of_decide_eq_true h
theorem mulOk_ok {i j : Int} (h : mulOk i j = true) : IntMulOk i j := by
  have b : ∀ x : Int, Builtin.Int.intBits x ≤ x.natAbs.log2 + 1 := fun x => by
    unfold Builtin.Int.intBits
    split <;> omega
  have h1 := b i
  have h2 := b j
  have h3 : i.natAbs.log2 + j.natAbs.log2 < 100000000 := of_decide_eq_true h
  have e : bitsLine = 134217728 := by decide
  unfold IntMulOk
  intro z
  rw [Bool.and_eq_true] at z
  have z2 := z.2
  unfold Builtin.Int.intTooBig at z2
  have z3 := of_decide_eq_true z2
  rw [e] at z3
  omega
theorem op_mulA : OpR X (binaryOp .Mult) (rI (fun i j => mulOk i j = true) fun i j => .int (i * j)) := opI fun _ _ _ _ _ _ _ hc q => PyProof.Rows.mul_int q (mulOk_ok hc)
theorem op_fdivA : OpR X (binaryOp .FloorDiv) (rI (fun _ j => divOk j = true) fun i j => .int (i.fdiv j)) := opI fun i j _ _ _ _ _ hc q => by
  have h := Bool.and_eq_true_iff.mp hc
  exact PyProof.Rows.floordiv_int (by simpa using h.1) q (.inl (PyProof.noPylong_of_log2 (of_decide_eq_true h.2)))
theorem opR_add : OpR X (binaryOp .Add) (rOp X.K .add) := by
  refine OpR.imp (.or op_add (.or op_catL (.or op_catX op_add_str))) ?_
  rintro x y H Q ⟨m, al, u, w, r, md, bx, by_, e, t⟩
  cases u <;> cases w <;> simp only [op2] at e <;> try cases e
  · cases bx.int; cases by_.int
    exact .inl ⟨_, _, rfl, rfl, t.at (.int _)⟩
  · cases bx.str; cases by_.str
    rename_i a b
    by_cases c : a.length + b.length ≤ lim
    · rw [if_pos c] at e; cases e
      exact .inr (.inr (.inr ⟨_, _, rfl, rfl, lim_le c, t.at (.str _)⟩))
    · rw [if_neg c] at e; cases e
  · rename_i us ws
    by_cases c : us.length + ws.length ≤ lim
    · rw [if_pos c] at e; cases e
      obtain ⟨a, vs, rfl, h1, h2, h3⟩ := bx.tup
      obtain ⟨b, zs, rfl, k1, k2, k3⟩ := by_.tup
      refine .inr (.inr (.inl ⟨a, b, vs, zs, rfl, rfl, h1, k1, by rw [← h2.length, ← k2.length]; exact lim_le c, fun z => ?_, fun _ z2 => ?_, fun _ _ p its hp => ?_⟩))
      · subst z
        cases us with
        | nil => exact t.at k3
        | cons _ _ => cases h2
      · subst z2
        cases ws with
        | nil => rw [List.append_nil] at t; exact t.at h3
        | cons _ _ => cases k2
      · exact t.newT md (h2.append k2) hp
    · rw [if_neg c] at e; cases e
  · rename_i us ws
    by_cases c : us.length + ws.length ≤ lim
    · rw [if_pos c] at e; cases e
      obtain ⟨a, vs, rfl, h1, h2⟩ := bx.lst
      obtain ⟨b, zs, rfl, k1, k2⟩ := by_.lst
      exact .inr (.inl ⟨a, b, vs, zs, rfl, rfl, h1, k1, by rw [← h2.length, ← k2.length]; exact lim_le c, fun p hp => t.newL md (h2.append k2) hp⟩)
    · rw [if_neg c] at e; cases e
end
end Ev

end
section
set_option Elab.async false
set_option linter.all false
set_option maxRecDepth 100000
set_option maxHeartbeats 2000000
namespace Ev
open PySem L2
section
variable {X : Cx}
/-- an operator on ints alone -/
theorem opR_int {o : Op2} {f : Value → Value → Sem Value} {Cn : Int → Int → Prop} {g : Int → Int → Int} (h : OpR X f (rI Cn fun i j => .int (g i j)))
    (e : ∀ u w r, op2 o u w = some r → ∃ i j, u = .int i ∧ w = .int j ∧ Cn i j ∧ r = ⟨.int (g i j), false⟩) : OpR X f (rOp X.K o) := by
  refine OpR.imp h ?_
  rintro x y H Q ⟨m, al, u, w, r, md, bx, by_, e', t⟩
  obtain ⟨i, j, rfl, rfl, c, rfl⟩ := e _ _ _ e'
  cases bx.int; cases by_.int
  exact ⟨_, _, rfl, rfl, c, t.at (.int _)⟩
theorem opI0' {f : Value → Value → Sem Value} {g : Int → Int → V} (h : OpR X f (rI0 g)) : OpR X f (rI (fun _ _ => True) g) := OpR.imp h fun x y H Q ⟨i, j, a, b, _, q⟩ => ⟨i, j, a, b, q⟩
theorem opR_sub : OpR X (binaryOp .Sub) (rOp X.K .sub) := opR_int (g := fun i j => i - j) (opI0' op_sub) fun u w r e => by
  cases u <;> cases w <;> simp only [op2] at e <;> try cases e
  exact ⟨_, _, rfl, rfl, trivial, rfl⟩
theorem opR_fdiv : OpR X (binaryOp .FloorDiv) (rOp X.K .fdiv) := opR_int (g := fun i j => i.fdiv j) op_fdivA fun u w r e => by
  cases u <;> cases w <;> simp only [op2] at e <;> try cases e
  rename_i i j
  cases c : divOk j with
  | false => rw [c] at e; cases e
  | true => rw [c] at e; cases e; exact ⟨_, _, rfl, rfl, c, rfl⟩
theorem opR_mod : OpR X (binaryOp .Mod) (rOp X.K .mod) := opR_int (g := fun i j => i.fmod j) op_modN fun u w r e => by
  cases u <;> cases w <;> simp only [op2] at e <;> try cases e
  rename_i i j
  cases c : (j == 0) with
  | true => rw [c] at e; cases e
  | false => rw [c] at e; cases e; exact ⟨_, _, rfl, rfl, by simpa using c, rfl⟩
theorem opR_pow : OpR X (binaryOp .Pow) (rOp X.K .pow) := opR_int (g := fun i j => i ^ j.toNat) op_pow fun u w r e => by
  cases u <;> cases w <;> simp only [op2] at e <;> try cases e
  rename_i i j
  cases c : (decide (0 ≤ j) && decide (j ≤ 1000000) && small i) with
  | false => rw [c] at e; cases e
  | true =>
    rw [c] at e; cases e
    simp only [Bool.and_eq_true, decide_eq_true_eq] at c
    exact ⟨_, _, rfl, rfl, ⟨c.1.1, c.1.2, natAbs_lt64 c.2⟩, rfl⟩
theorem opR_shl : OpR X (binaryOp .LShift) (rOp X.K .shl) := opR_int (g := fun i j => i * 2 ^ j.toNat) op_shl fun u w r e => by
  cases u <;> cases w <;> simp only [op2] at e <;> try cases e
  rename_i i j
  cases c : (decide (0 ≤ j) && decide (j ≤ 1000000) && small i) with
  | false => rw [c] at e; cases e
  | true =>
    rw [c] at e; cases e
    simp only [Bool.and_eq_true, decide_eq_true_eq] at c
    exact ⟨_, _, rfl, rfl, ⟨c.1.1, c.1.2, natAbs_lt64 c.2⟩, rfl⟩
theorem opR_shr : OpR X (binaryOp .RShift) (rOp X.K .shr) := opR_int (g := fun i j => i / 2 ^ j.toNat) op_shr fun u w r e => by
  cases u <;> cases w <;> simp only [op2] at e <;> try cases e
  rename_i i j
  cases c : (decide (0 ≤ j)) with
  | false => rw [c] at e; cases e
  | true => rw [c] at e; cases e; exact ⟨_, _, rfl, rfl, of_decide_eq_true c, rfl⟩
theorem opR_band : OpR X (binaryOp .BitAnd) (rOp X.K .band) := opR_int (g := fun i j => Builtin.bitAnd i j) (opI0' op_and) fun u w r e => by
  cases u <;> cases w <;> simp only [op2] at e <;> try cases e
  exact ⟨_, _, rfl, rfl, trivial, rfl⟩
theorem opR_bxor : OpR X (binaryOp .BitXor) (rOp X.K .bxor) := opR_int (g := fun i j => Builtin.bitXor i j) (opI0' op_xor) fun u w r e => by
  cases u <;> cases w <;> simp only [op2] at e <;> try cases e
  exact ⟨_, _, rfl, rfl, trivial, rfl⟩
theorem opR_mul : OpR X (binaryOp .Mult) (rOp X.K .mul) := by
  refine OpR.imp (.or op_mulA (.or op_repA op_repX)) ?_
  rintro x y H Q ⟨m, al, u, w, r, md, bx, by_, e, t⟩
  cases u <;> cases w <;> simp only [op2] at e <;> try cases e
  · rename_i i j
    cases bx.int; cases by_.int
    cases c : mulOk i j with
    | false => rw [c] at e; cases e
    | true => rw [c] at e; cases e; exact .inl ⟨_, _, rfl, rfl, c, t.at (.int _)⟩
  · rename_i us k
    cases by_.int
    obtain ⟨a, vs, rfl, h1, h2, h3⟩ := bx.tup
    refine .inr (.inr ⟨a, k, vs, rfl, rfl, h1, ?_⟩)
    have ne : us.isEmpty = false → vs ≠ [] := fun c z => by
      subst z
      cases us with
      | nil => simp at c
      | cons _ _ => cases h2
    cases c1 : k == 1 with
    | true =>
      rw [c1] at e
      simp only [if_true] at e
      cases e
      exact .inl ⟨eq_of_beq c1, t.at h3⟩
    | false =>
      rw [c1] at e
      simp only [Bool.false_eq_true, if_false] at e
      cases c0 : (decide (k ≤ 0) && decide (-1000 ≤ k) && !us.isEmpty) with
      | true =>
        rw [c0] at e
        simp only [if_true] at e
        cases e
        simp only [Bool.and_eq_true, decide_eq_true_eq] at c0
        exact .inr (.inl ⟨c0.1.1, c0.1.2, ne (by simpa using c0.2), fun p its hp => t.newT md .nil hp⟩)
      | false =>
        rw [c0] at e
        simp only [Bool.false_eq_true, if_false] at e
        cases c : (!us.isEmpty && decide (us.length ≤ 1000) && decide (2 ≤ k) && decide (k ≤ 1000)) with
        | false => rw [c] at e; cases e
        | true =>
          rw [c] at e; cases e
          simp only [Bool.and_eq_true, decide_eq_true_eq] at c
          refine .inr (.inr ⟨ne (by simpa using c.1.1.1), c.1.2, c.2, by rw [← h2.length]; exact c.1.1.2, fun p its hp => ?_⟩)
          rw [← rep_eq]
          exact t.newT md (h2.repl _) hp
  · rename_i us k
    cases by_.int
    cases c : (decide (us.length * k.toNat ≤ lim) && decide (k < 1000000) && decide (-1000000 < k)) with
    | false => rw [c] at e; cases e
    | true =>
      rw [c] at e; cases e
      simp only [Bool.and_eq_true, decide_eq_true_eq] at c
      obtain ⟨a, vs, rfl, h1, h2⟩ := bx.lst
      refine .inr (.inl ⟨a, k, vs, rfl, rfl, h1, by omega, by omega, by rw [← h2.length]; exact lim_le c.1.1, fun p hp => ?_⟩)
      rw [← rep_eq]
      exact t.newL md (h2.repl _) hp
/-- by the operator's name -/
theorem opR (o : Op2) : OpR X (binaryOp (opSyn o)) (rOp X.K o) := by
  cases o
  · exact opR_add
  · exact opR_sub
  · exact opR_mul
  · exact opR_fdiv
  · exact opR_mod
  · exact opR_pow
  · exact opR_shl
  · exact opR_shr
  · exact opR_band
  · exact opR_bxor
end

/-! ### comparisons -/
mutual
def toD : U → PyData
  | .non => .none
  | .bl b => .bool b
  | .int i => .int i
  | .str x => .str x
  | .tup xs => .tuple (toDs xs)
  | .lst xs => .list (toDs xs)
  | .dct _ => .none
  | .dctT _ => .none
  | .fnv _ _ => .none
  | .ref _ => .none
def toDs : List U → List PyData
  | [] => []
  | x :: xs => toD x :: toDs xs
end
mutual
theorem shp_lay : ∀ (u : U) (n : Nat), shp n u = true → (toD u).canLay0 = true ∧ (toD u).depth ≤ n
  | .non, n, _ => by simp [toD, PyData.canLay0, PyData.depth]
  | .bl _, n, _ => by simp [toD, PyData.canLay0, PyData.depth]
  | .int _, n, _ => by simp [toD, PyData.canLay0, PyData.depth]
  | .str x, n, h => by cases n <;> simp [shp] at h <;> simp [toD, PyData.canLay0, PyData.depth, h]
  | .tup xs, 0, h => by simp [shp] at h
  | .tup xs, n + 1, h => by
    have q := shps_lay xs n (by simpa [shp] using h)
    simp only [toD, PyData.canLay0, PyData.depth]
    exact ⟨q.1, by omega⟩
  | .lst xs, 0, h => by simp [shp] at h
  | .lst xs, n + 1, h => by
    have q := shps_lay xs n (by simpa [shp] using h)
    simp only [toD, PyData.canLay0, PyData.depth]
    exact ⟨q.1, by omega⟩
  | .dct _, n, h => by cases n <;> simp [shp] at h
  | .dctT _, n, h => by cases n <;> simp [shp] at h
  | .fnv _ _, n, h => by cases n <;> simp [shp] at h
  | .ref _, n, h => by cases n <;> simp [shp] at h
theorem shps_lay : ∀ (us : List U) (n : Nat), (∀ x ∈ us, shp n x = true) → PyData.canLayAll0 (toDs us) = true ∧ PyData.depthAll (toDs us) ≤ n
  | [], n, _ => by simp [toDs, PyData.canLayAll0, PyData.depthAll]
  | x :: xs, n, h => by
    have q := shp_lay x n (h x List.mem_cons_self)
    have q2 := shps_lay xs n fun y hy => h y (List.mem_cons_of_mem _ hy)
    simp only [toDs, PyData.canLayAll0, PyData.depthAll, Bool.and_eq_true]
    exact ⟨⟨q.1, q2.1⟩, by omega⟩
end
theorem shp_shaped {u : U} (h : shp 60 u = true) : SeqAt.shaped (toD u) = true := by
  have q := shp_lay u 60 h
  unfold SeqAt.shaped
  rw [Bool.and_eq_true]
  exact ⟨q.1, decide_eq_true (by omega)⟩
theorem shps_shaped {us : List U} (h : us.all (shp 60) = true) : SeqAt.shaped (.list (toDs us)) = true ∧ SeqAt.shaped (.tuple (toDs us)) = true := by
  have q := shps_lay us 60 fun x hx => List.all_eq_true.mp h x hx
  unfold SeqAt.shaped
  constructor
  · rw [Bool.and_eq_true]
    exact ⟨by simpa [PyData.canLay0] using q.1, decide_eq_true (by simp only [PyData.depth]; omega)⟩
  · rw [Bool.and_eq_true]
    exact ⟨by simpa [PyData.canLay0] using q.1, decide_eq_true (by simp only [PyData.depth]; omega)⟩
mutual
theorem eqU_eqv : ∀ (u w : U) (n k : Nat), shp n u = true → shp k w = true → eqU u w = PyData.eqv (toD u) (toD w)
  | u, w, n, k, h1, h2 => by
    cases u with
    | non => cases w <;> simp [eqU, toD, PyData.eqv] <;> (cases k <;> simp [shp] at h2)
    | bl a => cases w <;> simp [eqU, toD, PyData.eqv] <;> (cases k <;> simp [shp] at h2)
    | int a => cases w <;> simp [eqU, toD, PyData.eqv] <;> (cases k <;> simp [shp] at h2)
    | str a => cases w <;> simp [eqU, toD, PyData.eqv] <;> (cases k <;> simp [shp] at h2)
    | tup xs =>
      cases n with
      | zero => simp [shp] at h1
      | succ n =>
        cases w with
        | tup ys =>
          cases k with
          | zero => simp [shp] at h2
          | succ k => 
            simp only [eqU, toD, PyData.eqv]
            exact eqUs_eqv xs ys n k (by simpa [shp] using h1) (by simpa [shp] using h2)
        | dct _ => cases k <;> simp [shp] at h2
        | dctT _ => cases k <;> simp [shp] at h2
        | fnv _ _ => cases k <;> simp [shp] at h2
        | ref _ => cases k <;> simp [shp] at h2
        | _ => simp [eqU, toD, PyData.eqv]
    | lst xs =>
      cases n with
      | zero => simp [shp] at h1
      | succ n =>
        cases w with
        | lst ys =>
          cases k with
          | zero => simp [shp] at h2
          | succ k => 
            simp only [eqU, toD, PyData.eqv]
            exact eqUs_eqv xs ys n k (by simpa [shp] using h1) (by simpa [shp] using h2)
        | dct _ => cases k <;> simp [shp] at h2
        | dctT _ => cases k <;> simp [shp] at h2
        | fnv _ _ => cases k <;> simp [shp] at h2
        | ref _ => cases k <;> simp [shp] at h2
        | _ => simp [eqU, toD, PyData.eqv]
    | dct _ => cases n <;> simp [shp] at h1
    | dctT _ => cases n <;> simp [shp] at h1
    | fnv _ _ => cases n <;> simp [shp] at h1
    | ref _ => cases n <;> simp [shp] at h1
theorem eqUs_eqv : ∀ (us ws : List U) (n k : Nat), (∀ x ∈ us, shp n x = true) → (∀ x ∈ ws, shp k x = true) → eqUs us ws = PyData.eqvAll (toDs us) (toDs ws)
  | [], [], _, _, _, _ => by simp [eqUs, toDs, PyData.eqvAll]
  | [], _ :: _, _, _, _, _ => by simp [eqUs, toDs, PyData.eqvAll]
  | _ :: _, [], _, _, _, _ => by simp [eqUs, toDs, PyData.eqvAll]
  | x :: xs, y :: ys, n, k, h1, h2 => by
    simp only [eqUs, toDs, PyData.eqvAll]
    rw [eqU_eqv x y n k (h1 x List.mem_cons_self) (h2 y List.mem_cons_self), eqUs_eqv xs ys n k (fun z hz => h1 z (List.mem_cons_of_mem _ hz)) fun z hz => h2 z (List.mem_cons_of_mem _ hz)]
end
end Ev

end
section
set_option Elab.async false
set_option linter.all false
set_option maxRecDepth 100000
set_option maxHeartbeats 2000000
namespace Ev
open PySem L2
section
variable {K : PySem.W.Frag} {H : Hp} {m : Addr → Prop} {al : List Addr}
mutual
theorem Sh.dp {u : U} {v : V} {n : Nat} (h : Sh K H m al u v) (e : shp n u = true) : Dp K H v (toD u) := by
  cases h with
  | non => simp only [toD]; exact .non
  | bl b => simp only [toD]; exact .bl b
  | int i => simp only [toD]; exact .int i
  | str x => simp only [toD]; exact .str x
  | tup h1 h2 h3 =>
    cases n with
    | zero => simp [shp] at e
    | succ n => simp only [toD]; exact .tup (sqt_of h1) (h3.dp (n := n) (by simpa [shp] using e))
  | tupK h1 h2 h4 h3 =>
    cases n with
    | zero => simp [shp] at e
    | succ n => simp only [toD]; exact .tup (sqt_k h1 h2 h4) (h3.dp (n := n) (by simpa [shp] using e))
  | lst h1 h2 h3 =>
    cases n with
    | zero => simp [shp] at e
    | succ n => simp only [toD]; exact .lst (SqL.of h1) (h3.dp (n := n) (by simpa [shp] using e))
  | lstF h1 h2 h3 =>
    cases n with
    | zero => simp [shp] at e
    | succ n => simp only [toD]; exact .lst (.inl (.inr ⟨_, h1⟩)) (h3.dp (n := n) (by simpa [shp] using e))
  | lstK h1 h2 h4 h3 =>
    cases n with
    | zero => simp [shp] at e
    | succ n => simp only [toD]; exact .lst (LstAt.sq (.inr (.inr ⟨_, _, h1, h2, h4⟩))) (h3.dp (n := n) (by simpa [shp] using e))
  | ref h1 => cases n <;> simp [shp] at e
  | dct h0 h1 h2 h3 => cases n <;> simp [shp] at e
  | dctT h0 h1 h2 h3 => cases n <;> simp [shp] at e
  | fnv h1 h2 => cases n <;> simp [shp] at e
theorem Shs.dp {us : List U} {vs : List V} {n : Nat} (h : Shs K H m al us vs) (e : ∀ x ∈ us, shp n x = true) : DpAll K H vs (toDs us) := by
  cases h with
  | nil => simp only [toDs]; exact .nil
  | cons h1 h2 => simp only [toDs]; exact .cons (h1.dp (e _ List.mem_cons_self)) (h2.dp fun x hx => e x (List.mem_cons_of_mem _ hx))
end
theorem BR.dp {u : U} {v : V} {n : Nat} (h : BR K H m al u v) (e : shp n u = true) : Dp K H v (toD u) := by
  cases h with
  | sh h => exact h.dp e
  | own h1 h2 h3 =>
    cases n with
    | zero => simp [shp] at e
    | succ n => simp only [toD]; exact .lst (SqL.of h1) (h3.dp (n := n) (by simpa [shp] using e))
theorem anyD (u : U) (n : Nat) (hu : shp n u = true) : ∀ (us : List U) (k : Nat), (∀ x ∈ us, shp k x = true) → (us.any fun y => eqU y u) = ((toDs us).any fun z => PyData.eqv z (toD u))
  | [], _, _ => rfl
  | x :: xs, k, h => by
    simp only [toDs, List.any_cons]
    rw [eqU_eqv x u k n (h x List.mem_cons_self) hu, anyD u n hu xs k fun y hy => h y (List.mem_cons_of_mem _ hy)]
end
section
variable {X : Cx}
open PySem.Spec PyProof.Rows
def rInT (K : PySem.W.Frag) : R2 := fun x y H Q => ∃ d ds, Dp K H x d ∧ Dp K H y (.tuple ds) ∧ SeqAt.shaped d = true ∧ SeqAt.shaped (.tuple ds) = true ∧ Q (.bl (ds.any fun z => PyData.eqv z d)) H
def rNotInT (K : PySem.W.Frag) : R2 := fun x y H Q => ∃ d ds, Dp K H x d ∧ Dp K H y (.tuple ds) ∧ SeqAt.shaped d = true ∧ SeqAt.shaped (.tuple ds) = true ∧ Q (.bl (!ds.any fun z => PyData.eqv z d)) H
theorem op_inT (hu : X.A.units + 65 < cLine) : OpR X (compareOp .In) (rInT X.K) := by
  intro pins s σ H x y v u Q I rx ry h
  obtain ⟨d, ds, hd, he, sd, se, q⟩ := h
  obtain ⟨as, r1⟩ := Dp.reads I d x v hd rx
  obtain ⟨bs, r2⟩ := Dp.reads I (.tuple ds) y u he ry
  exact SeqAt.in_tuple_reads r2 r1 (SeqAt.canLay_of_shaped se) (SeqAt.canLay_of_shaped sd) (room_in_shaped sd hu) ⟨.bl _, H, I, rfl, q⟩
theorem op_notInT (hu : X.A.units + 65 < cLine) : OpR X (compareOp .NotIn) (rNotInT X.K) := by
  intro pins s σ H x y v u Q I rx ry h
  obtain ⟨d, ds, hd, he, sd, se, q⟩ := h
  obtain ⟨as, r1⟩ := Dp.reads I d x v hd rx
  obtain ⟨bs, r2⟩ := Dp.reads I (.tuple ds) y u he ry
  exact SeqAt.notIn_tuple_reads r2 r1 (SeqAt.canLay_of_shaped se) (SeqAt.canLay_of_shaped sd) (room_in_shaped sd hu) ⟨.bl _, H, I, rfl, q⟩
end
def cmpSyn : Cmp → CmpOp
  | .eq => .Eq | .ne => .NotEq | .lt => .Lt | .le => .LtE | .gt => .Gt | .ge => .GtE | .isin => .In | .notin => .NotIn | .is_ => .Is | .isnot => .IsNot
/-- the reading of a comparison -/
def rCmp (K : PySem.W.Frag) (o : Cmp) : R2 := fun x y H Q => ∃ m al u w k, BR K H m al u x ∧ BR K H m al w y ∧ cmp2 o u w = some k ∧ Q (.bl k) H
section
variable {X : Cx}
theorem cmpR_eq (hu : X.A.units + 64 < cLine) : OpR X (compareOp .Eq) (rCmp X.K .eq) := by
  refine OpR.imp (op_eqD hu) ?_
  rintro x y H Q ⟨m, al, u, w, k, bx, by_, e, q⟩
  simp only [cmp2] at e
  cases c : (shp 60 u && shp 60 w) with
  | false => rw [c] at e; cases e
  | true =>
    rw [c] at e; cases e
    simp only [Bool.and_eq_true] at c
    exact ⟨_, _, bx.dp c.1, by_.dp c.2, shp_shaped c.1, shp_shaped c.2, by rw [← eqU_eqv u w 60 60 c.1 c.2]; exact q⟩
theorem cmpR_ne (hu : X.A.units + 64 < cLine) : OpR X (compareOp .NotEq) (rCmp X.K .ne) := by
  refine OpR.imp (op_neD hu) ?_
  rintro x y H Q ⟨m, al, u, w, k, bx, by_, e, q⟩
  simp only [cmp2] at e
  cases c : (shp 60 u && shp 60 w) with
  | false => rw [c] at e; cases e
  | true =>
    rw [c] at e; cases e
    simp only [Bool.and_eq_true] at c
    exact ⟨_, _, bx.dp c.1, by_.dp c.2, shp_shaped c.1, shp_shaped c.2, by rw [← eqU_eqv u w 60 60 c.1 c.2]; exact q⟩
theorem cmpR_isin (hu : X.A.units + 65 < cLine) : OpR X (compareOp .In) (rCmp X.K .isin) := by
  refine OpR.imp (.or (op_inD hu) (op_inT hu)) ?_
  rintro x y H Q ⟨m, al, u, w, k, bx, by_, e, q⟩
  cases w <;> simp only [cmp2] at e <;> try cases e
  · rename_i ys
    cases c : (shp 60 u && ys.all (shp 60)) with
    | false => rw [c] at e; cases e
    | true =>
      rw [c] at e; cases e
      simp only [Bool.and_eq_true] at c
      have l : ∀ x ∈ ys, shp 60 x = true := fun x hx => List.all_eq_true.mp c.2 x hx
      refine .inr ⟨_, toDs ys, bx.dp c.1, ?_, shp_shaped c.1, (shps_shaped c.2).2, by rw [← anyD u 60 c.1 ys 60 l]; exact q⟩
      have := by_.dp (n := 61) (by simpa [shp] using l)
      simpa only [toD] using this
  · rename_i ys
    cases c : (shp 60 u && ys.all (shp 60)) with
    | false => rw [c] at e; cases e
    | true =>
      rw [c] at e; cases e
      simp only [Bool.and_eq_true] at c
      have l : ∀ x ∈ ys, shp 60 x = true := fun x hx => List.all_eq_true.mp c.2 x hx
      refine .inl ⟨_, toDs ys, bx.dp c.1, ?_, shp_shaped c.1, (shps_shaped c.2).1, by rw [← anyD u 60 c.1 ys 60 l]; exact q⟩
      have := by_.dp (n := 61) (by simpa [shp] using l)
      simpa only [toD] using this
theorem cmpR_notin (hu : X.A.units + 65 < cLine) : OpR X (compareOp .NotIn) (rCmp X.K .notin) := by
  refine OpR.imp (.or (op_notInD hu) (op_notInT hu)) ?_
  rintro x y H Q ⟨m, al, u, w, k, bx, by_, e, q⟩
  cases w <;> simp only [cmp2] at e <;> try cases e
  · rename_i ys
    cases c : (shp 60 u && ys.all (shp 60)) with
    | false => rw [c] at e; cases e
    | true =>
      rw [c] at e; cases e
      simp only [Bool.and_eq_true] at c
      have l : ∀ x ∈ ys, shp 60 x = true := fun x hx => List.all_eq_true.mp c.2 x hx
      refine .inr ⟨_, toDs ys, bx.dp c.1, ?_, shp_shaped c.1, (shps_shaped c.2).2, by rw [← anyD u 60 c.1 ys 60 l]; exact q⟩
      have := by_.dp (n := 61) (by simpa [shp] using l)
      simpa only [toD] using this
  · rename_i ys
    cases c : (shp 60 u && ys.all (shp 60)) with
    | false => rw [c] at e; cases e
    | true =>
      rw [c] at e; cases e
      simp only [Bool.and_eq_true] at c
      have l : ∀ x ∈ ys, shp 60 x = true := fun x hx => List.all_eq_true.mp c.2 x hx
      refine .inl ⟨_, toDs ys, bx.dp c.1, ?_, shp_shaped c.1, (shps_shaped c.2).1, by rw [← anyD u 60 c.1 ys 60 l]; exact q⟩
      have := by_.dp (n := 61) (by simpa [shp] using l)
      simpa only [toD] using this
theorem cmpR_lt (hu : X.A.units < cLine) : OpR X (compareOp .Lt) (rCmp X.K .lt) := by
  refine OpR.imp (.or op_lt (op_ltT hu)) ?_
  rintro x y H Q ⟨m, al, u, w, k, bx, by_, e, q⟩
  cases u <;> cases w <;> simp only [cmp2] at e <;> try cases e
  · cases bx.int; cases by_.int
    exact .inl ⟨_, _, rfl, rfl, q⟩
  · rename_i xs ys
    cases c1 : intsU xs with
    | none => rw [c1] at e; cases e
    | some a =>
      cases c2 : intsU ys with
      | none => rw [c1, c2] at e; cases e
      | some b =>
        rw [c1, c2] at e; cases e
        obtain ⟨p, vs, rfl, h1, h2, _⟩ := bx.tup
        obtain ⟨p2, zs, rfl, k1, k2, _⟩ := by_.tup
        rw [h2.intsU c1] at h1
        rw [k2.intsU c2] at k1
        exact .inr ⟨_, _, _, _, rfl, rfl, h1, k1, q⟩
theorem cmpR_le : OpR X (compareOp .LtE) (rCmp X.K .le) := by
  refine OpR.imp op_le ?_
  rintro x y H Q ⟨m, al, u, w, k, bx, by_, e, q⟩
  cases u <;> cases w <;> simp only [cmp2] at e <;> try cases e
  cases bx.int; cases by_.int
  exact ⟨_, _, rfl, rfl, q⟩
theorem cmpR_gt : OpR X (compareOp .Gt) (rCmp X.K .gt) := by
  refine OpR.imp op_gt ?_
  rintro x y H Q ⟨m, al, u, w, k, bx, by_, e, q⟩
  cases u <;> cases w <;> simp only [cmp2] at e <;> try cases e
  cases bx.int; cases by_.int
  exact ⟨_, _, rfl, rfl, q⟩
theorem cmpR_ge : OpR X (compareOp .GtE) (rCmp X.K .ge) := by
  refine OpR.imp op_ge ?_
  rintro x y H Q ⟨m, al, u, w, k, bx, by_, e, q⟩
  cases u <;> cases w <;> simp only [cmp2] at e <;> try cases e
  cases bx.int; cases by_.int
  exact ⟨_, _, rfl, rfl, q⟩
theorem BR.none_iff {K : PySem.W.Frag} {H : Hp} {m : Addr → Prop} {al : List Addr} {u : U} {x : V} (h : BR K H m al u x) : decide (x = .non) = isNon u := by
  cases h with
  | sh h => cases h <;> simp [isNon]
  | own => simp [isNon]
theorem cmpR_is : OpR X (compareOp .Is) (rCmp X.K .is_) := by
  refine OpR.imp op_isN ?_
  rintro x y H Q ⟨m, al, u, w, k, bx, by_, e, q⟩
  cases w <;> simp only [cmp2] at e <;> try cases e
  cases by_.non
  exact ⟨rfl, by rw [bx.none_iff]; exact q⟩
theorem cmpR_isnot : OpR X (compareOp .IsNot) (rCmp X.K .isnot) := by
  refine OpR.imp op_notN ?_
  rintro x y H Q ⟨m, al, u, w, k, bx, by_, e, q⟩
  cases w <;> simp only [cmp2] at e <;> try cases e
  cases by_.non
  exact ⟨rfl, by rw [bx.none_iff]; exact q⟩
theorem cmpR (hu : X.A.units + 65 < cLine) (o : Cmp) : OpR X (compareOp (cmpSyn o)) (rCmp X.K o) := by
  cases o
  · exact cmpR_eq (by omega)
  · exact cmpR_ne (by omega)
  · exact cmpR_lt (by omega)
  · exact cmpR_le
  · exact cmpR_gt
  · exact cmpR_ge
  · exact cmpR_isin hu
  · exact cmpR_notin hu
  · exact cmpR_is
  · exact cmpR_isnot
end

/-! ### truth, subscripts -/
theorem BR.truth {K : PySem.W.Frag} {H : Hp} {m : Addr → Prop} {al : List Addr} {u : U} {x : V} {k : Bool} (h : BR K H m al u x) (e : truth u = some k) : TruV K x H k := by
  cases u with
  | non => cases h.non; cases e; rfl
  | bl b => cases h.bl; cases e; rfl
  | int i => cases h.int; cases e; rfl
  | str z =>
    cases h.str
    simp only [Ev.truth] at e
    by_cases c : z.length ≤ lim
    · rw [if_pos c] at e; cases e; exact ⟨lim_le c, rfl⟩
    · rw [if_neg c] at e; cases e
  | tup us =>
    obtain ⟨a, vs, rfl, h1, h2, _⟩ := h.tup
    simp only [Ev.truth, Option.some.injEq] at e
    refine .inr (.inl ⟨vs, h1, ?_⟩)
    rw [← e]
    cases h2 <;> rfl
  | lst us =>
    obtain ⟨a, vs, rfl, h1, h2⟩ := h.lst
    simp only [Ev.truth, Option.some.injEq] at e
    refine .inl ⟨vs, h1.sq, ?_⟩
    rw [← e]
    cases h2 <;> rfl
  | dct _ => cases e
  | dctT _ => cases e
  | fnv _ _ => cases e
  | ref _ => cases e
end Ev

end
section
set_option Elab.async false
set_option linter.all false
set_option maxRecDepth 100000
set_option maxHeartbeats 2000000
namespace Ev
open PySem L2
section
variable {X : Cx}
theorem IxR.imp {r r' : R2} (h : IxR X r) (i : ∀ x y H Q, r' x y H Q → r x y H Q) : IxR X r' := fun value slice pins s σ H x y v u Q I rx ry q hs => h value slice pins s σ H x y v u Q I rx ry (i _ _ _ _ q) hs
theorem SlR.imp {r r' : V → Option Int → Option Int → Hp → VK → Prop} (h : SlR X r) (i : ∀ x a b H Q, r' x a b H Q → r x a b H Q) : SlR X r' := fun pins s σ H x v vl vu lo hi sl Q I rx hs pl pu q => h pins s σ H x v vl vu lo hi sl Q I rx hs pl pu (i _ _ _ _ _ q)
theorem CallR.imp {f : Value} {r r' : List V → Hp → VK → Prop} (h : CallR X f r) (i : ∀ xs H Q, r' xs H Q → r xs H Q) : CallR X f r' := fun pins s σ H xs us Q I r q => h pins s σ H xs us Q I r (i _ _ _ q)
/-- a subscript -/
def rIxU (K : PySem.W.Frag) : R2 := fun x y H Q => ∃ m al s u w r, ST K m al s H ∧ BR K H m al u x ∧ BR K H m al w y ∧ getIx u w s = some r ∧ ∀ v, Sh K H m al r v → Q v H
theorem atIU {K : PySem.W.Frag} {H : Hp} {m : Addr → Prop} {al : List Addr} {us : List U} {vs : List V} {i : Int} {u : U} (h : Shs K H m al us vs) (e : (match ixN us.length i with | some k => nth k us | none => none) = some u) : ∃ v, atI vs i = some v ∧ Sh K H m al u v := by
  unfold atI
  rw [← h.length]
  cases c : ixN us.length i with
  | none => rw [c] at e; cases e
  | some k =>
    rw [c] at e
    have e' : us[k]? = some u := by rw [← nth_get]; exact e
    obtain ⟨v, e2, r⟩ := h.nth e'
    exact ⟨v, by simpa using e2, r⟩
theorem ixR : IxR X (rIxU X.K) := by
  refine IxR.imp ix_seq ?_
  rintro x y H Q ⟨m, al, s, u, w, r, st, bx, by_, e, q⟩
  cases w <;> (try (cases u <;> simp only [getIx] at e <;> cases e))
  cases by_.int
  cases u <;> simp only [getIx] at e <;> try cases e
  · rename_i i z
    by_cases c : z.length ≤ lim
    · rw [if_pos c] at e
      cases bx.str
      cases c2 : ixN z.length i with
      | none => rw [c2] at e; cases e
      | some k =>
        rw [c2] at e
        simp only at e
        cases c3 : nth k z.cps.toList with
        | none => rw [c3] at e; cases e
        | some ch =>
          rw [c3] at e; cases e
          refine .inr (.inr ⟨z, i, ch, rfl, rfl, lim_le c, ?_, q _ (.str _)⟩)
          unfold atI
          have hl : z.cps.toList.length = z.length := by simp [Str.length]
          rw [hl, c2]
          show z.cps.toList[k]? = some ch
          rw [← nth_get]; exact c3
    · rw [if_neg c] at e; cases e
  · obtain ⟨a, vs, rfl, h1, h2, _⟩ := bx.tup
    obtain ⟨v, e2, rv⟩ := atIU h2 e
    exact .inr (.inl ⟨a, vs, _, v, rfl, rfl, h1, e2, q v rv⟩)
  · obtain ⟨a, vs, rfl, h1, h2⟩ := bx.lst
    obtain ⟨v, e2, rv⟩ := atIU h2 e
    exact .inl ⟨a, vs, _, v, rfl, rfl, h1.sq, e2, q v rv⟩
  · rename_i i k
    cases c : nth k s with
    | none => rw [c] at e; cases e
    | some ob =>
      rw [c] at e
      cases ob with
      | lst xs =>
        rw [nth_get] at c
        obtain ⟨a, ea, hv⟩ := st.at_ k xs c
        simp only at e
        cases c2 : ixN xs.length i with
        | none => rw [c2] at e; cases e
        | some j =>
        rw [c2] at e
        simp only at e
        cases c3 : nth j xs with
        | none => rw [c3] at e; cases e
        | some w =>
        rw [c3] at e
        cases e
        have ex : x = .ref a := by
          cases bx with
          | sh bx => cases bx with | ref h1 => rw [nth_get, ea] at h1; cases h1; rfl
        subst ex
        refine .inl ⟨a, _, _, .int w, rfl, rfl, SqL.of hv, ?_, q _ (.int w)⟩
        unfold atI
        rw [List.length_map, c2]
        show (xs.map V.int)[j]? = _
        rw [List.getElem?_map, ← nth_get, c3]
        rfl
/-- a slice -/
def rSlU (K : PySem.W.Frag) : V → Option Int → Option Int → Hp → VK → Prop := fun x lo hi H Q => ∃ m al u r, Md m H ∧ BR K H m al u x ∧ getSl u lo hi = some r ∧ tV K m al r H Q
theorem Shs.cut {K : PySem.W.Frag} {H : Hp} {m : Addr → Prop} {al : List Addr} {us : List U} {vs : List V} (h : Shs K H m al us vs) (lo hi : Option Int) : Shs K H m al (cutL us lo hi) (cutV vs lo hi) := by
  unfold cutL cutV
  rw [h.length]
  exact (h.drop _).take _
theorem cut_whole {us : List U} {lo hi : Option Int} (h : HT.sIx us.length 0 lo = 0 ∧ HT.sIx us.length us.length hi = us.length) : cutL us lo hi = us := by
  unfold cutL
  rw [h.1, h.2]
  simp
theorem slR : SlR X (rSlU X.K) := by
  refine SlR.imp (.or sl_list sl_tupX) ?_
  rintro x lo hi H Q ⟨m, al, u, r, md, bx, e, t⟩
  cases u <;> simp only [getSl] at e <;> cases e
  · obtain ⟨a, vs, rfl, h1, h2, h3⟩ := bx.tup
    refine .inr ⟨a, vs, rfl, h1, fun w => ?_, fun _ p its hp => t.newT md (h2.cut lo hi) hp⟩
    rw [← h2.length] at w
    rw [cut_whole w] at t
    exact t.at h3
  · obtain ⟨a, vs, rfl, h1, h2⟩ := bx.lst
    exact .inl ⟨a, vs, rfl, h1.sq, fun p hp => t.newL md (h2.cut lo hi) hp⟩

/-! ### built-ins -/
inductive BRs (K : PySem.W.Frag) (H : Hp) (m : Addr → Prop) (al : List Addr) : List U → List V → Prop
  | nil : BRs K H m al [] []
  | cons {u : U} {v : V} {us : List U} {vs : List V} : BR K H m al u v → BRs K H m al us vs → BRs K H m al (u :: us) (v :: vs)
def rBi (K : PySem.W.Frag) (b : Bi) : List V → Hp → VK → Prop := fun xs H Q => ∃ m al us r, Md m H ∧ BRs K H m al us xs ∧ biV b us = some r ∧ tV K m al r H Q
theorem BRs.one {K : PySem.W.Frag} {H : Hp} {m : Addr → Prop} {al : List Addr} {u : U} {xs : List V} (h : BRs K H m al [u] xs) : ∃ x, xs = [x] ∧ BR K H m al u x := by
  cases h with | cons h1 h2 => cases h2; exact ⟨_, rfl, h1⟩
theorem BRs.two {K : PySem.W.Frag} {H : Hp} {m : Addr → Prop} {al : List Addr} {u w : U} {xs : List V} (h : BRs K H m al [u, w] xs) : ∃ x y, xs = [x, y] ∧ BR K H m al u x ∧ BR K H m al w y := by
  cases h with | cons h1 h2 => cases h2 with | cons h2 h3 => cases h3; exact ⟨_, _, rfl, h1, h2⟩
theorem biR_len : CallR X (.builtin "len") (rBi X.K .len) := by
  refine CallR.imp (.or call_len_seq call_len_str) ?_
  rintro xs H Q ⟨m, al, us, r, md, bs, e, t⟩
  match us, e with
  | [u], e =>
    obtain ⟨x, rfl, b⟩ := bs.one
    cases u <;> simp only [biV] at e <;> try cases e
    · rename_i z
      by_cases c : z.length ≤ lim
      · rw [if_pos c] at e; cases e
        cases b.str
        exact .inr ⟨z, rfl, lim_le c, t.at (.int _)⟩
      · rw [if_neg c] at e; cases e
    · obtain ⟨a, vs, rfl, h1, h2, _⟩ := b.tup
      refine .inl ⟨a, vs, rfl, .inr h1, ?_⟩
      rw [← h2.length]; exact t.at (.int _)
    · obtain ⟨a, vs, rfl, h1, h2⟩ := b.lst
      refine .inl ⟨a, vs, rfl, .inl h1.sq, ?_⟩
      rw [← h2.length]; exact t.at (.int _)
theorem biR_abs : CallR X (.builtin "abs") (rBi X.K .abs) := by
  refine CallR.imp call_abs ?_
  rintro xs H Q ⟨m, al, us, r, md, bs, e, t⟩
  match us, e with
  | [.int i], e =>
    obtain ⟨x, rfl, b⟩ := bs.one
    cases b.int
    simp only [biV] at e; cases e
    exact ⟨i, rfl, t.at (.int _)⟩
theorem biR_int1 : CallR X (.type "int") (rBi X.K .int1) := by
  refine CallR.imp call_int1 ?_
  rintro xs H Q ⟨m, al, us, r, md, bs, e, t⟩
  match us, e with
  | [u], e =>
    obtain ⟨x, rfl, b⟩ := bs.one
    cases u <;> simp only [biV] at e <;> cases e
    · cases b.bl; exact .inr ⟨_, rfl, t.at (.int _)⟩
    · cases b.int; exact .inl ⟨_, rfl, t.at (.int _)⟩
theorem biR_min2 (hc : X.calm = true) : CallR X (.builtin "min") (rBi X.K .min2) := by
  refine CallR.imp (call_min2 hc) ?_
  rintro xs H Q ⟨m, al, us, r, md, bs, e, t⟩
  match us, e with
  | [.int i, .int j], e =>
    obtain ⟨x, y, rfl, b, b2⟩ := bs.two
    cases b.int; cases b2.int
    simp only [biV] at e; cases e
    exact ⟨i, j, rfl, t.at (.int _)⟩
theorem biR_max2 (hc : X.calm = true) : CallR X (.builtin "max") (rBi X.K .max2) := by
  refine CallR.imp (call_max2 hc) ?_
  rintro xs H Q ⟨m, al, us, r, md, bs, e, t⟩
  match us, e with
  | [.int i, .int j], e =>
    obtain ⟨x, y, rfl, b, b2⟩ := bs.two
    cases b.int; cases b2.int
    simp only [biV] at e; cases e
    exact ⟨i, j, rfl, t.at (.int _)⟩
theorem maxI_spec : ∀ (r : List Int) (i : Int), i ≤ maxI i r ∧ (∀ y ∈ r, y ≤ maxI i r) ∧ maxI i r ∈ i :: r
  | [], i => by simp [maxI]
  | x :: r, i => by
    have h := maxI_spec r (if x > i then x else i)
    unfold maxI
    obtain ⟨h1, h2, h3⟩ := h
    by_cases c : x > i
    · rw [if_pos c] at h1 h2 h3 ⊢
      refine ⟨by omega, fun y hy => ?_, ?_⟩
      · rcases List.mem_cons.mp hy with rfl | hy
        · exact h1
        · exact h2 y hy
      · exact List.mem_cons_of_mem _ h3
    · rw [if_neg c] at h1 h2 h3 ⊢
      refine ⟨h1, fun y hy => ?_, ?_⟩
      · rcases List.mem_cons.mp hy with rfl | hy
        · omega
        · exact h2 y hy
      · rcases List.mem_cons.mp h3 with h3 | h3
        · rw [h3]; exact List.mem_cons_self
        · exact List.mem_cons_of_mem _ (List.mem_cons_of_mem _ h3)
theorem minI_spec : ∀ (r : List Int) (i : Int), minI i r ≤ i ∧ (∀ y ∈ r, minI i r ≤ y) ∧ minI i r ∈ i :: r
  | [], i => by simp [minI]
  | x :: r, i => by
    have h := minI_spec r (if x < i then x else i)
    unfold minI
    obtain ⟨h1, h2, h3⟩ := h
    by_cases c : x < i
    · rw [if_pos c] at h1 h2 h3 ⊢
      refine ⟨by omega, fun y hy => ?_, ?_⟩
      · rcases List.mem_cons.mp hy with rfl | hy
        · exact h1
        · exact h2 y hy
      · exact List.mem_cons_of_mem _ h3
    · rw [if_neg c] at h1 h2 h3 ⊢
      refine ⟨h1, fun y hy => ?_, ?_⟩
      · rcases List.mem_cons.mp hy with rfl | hy
        · omega
        · exact h2 y hy
      · rcases List.mem_cons.mp h3 with h3 | h3
        · rw [h3]; exact List.mem_cons_self
        · exact List.mem_cons_of_mem _ (List.mem_cons_of_mem _ h3)
theorem cr_or' {f : Value} {r1 r2 : List V → Hp → VK → Prop} (h1 : CallR X f r1) (h2 : CallR X f r2) : CallR X f fun vs H Q => r1 vs H Q ∨ r2 vs H Q := by
  intro pins s σ H vs us Q I r h
  rcases h with h | h
  · exact h1 pins s σ H vs us Q I r h
  · exact h2 pins s σ H vs us Q I r h
theorem biR_maxS (hc : X.calm = true) (hu : X.A.units + 66 < cLine) : CallR X (.builtin "max") (rBi X.K .maxS) := by
  refine CallR.imp (cr_or' (cr_max hc) (cr_maxT hc hu)) ?_
  rintro xs H Q ⟨m, al, us, r, md, bs, e, t⟩
  match us, e with
  | [.lst ys], e =>
    obtain ⟨x, rfl, b⟩ := bs.one
    simp only [biV] at e
    cases c : intsU ys with
    | none => rw [c] at e; cases e
    | some is =>
      rw [c] at e
      cases is with
      | nil => cases e
      | cons i is =>
        cases e
        obtain ⟨a, vs, rfl, h1, h2⟩ := b.lst
        have h3 := h1.sq
        rw [h2.intsU c] at h3
        refine .inl ⟨a, i :: is, rfl, h3, by simp, fun z hz hy => ?_⟩
        have sp := maxI_spec is i
        have e1 : z = maxI i is := by
          have := hy _ sp.2.2
          have h4 : z ≤ maxI i is := by
            rcases List.mem_cons.mp hz with rfl | hz
            · exact sp.1
            · exact sp.2.1 z hz
          omega
        rw [e1]; exact t.at (.int _)
  | [.tup ys], e =>
    obtain ⟨x, rfl, b⟩ := bs.one
    simp only [biV] at e
    cases c : intsU ys with
    | none => rw [c] at e; cases e
    | some is =>
      rw [c] at e
      cases is with
      | nil => cases e
      | cons i is =>
        cases e
        obtain ⟨a, vs, rfl, h1, h2, _⟩ := b.tup
        rw [h2.intsU c] at h1
        exact .inr ⟨a, i, is, rfl, h1, t.at (.int _)⟩
theorem biR_minS (hc : X.calm = true) (hu : X.A.units + 66 < cLine) : CallR X (.builtin "min") (rBi X.K .minS) := by
  refine CallR.imp (cr_or' (cr_min hc) (cr_minT hc hu)) ?_
  rintro xs H Q ⟨m, al, us, r, md, bs, e, t⟩
  match us, e with
  | [.lst ys], e =>
    obtain ⟨x, rfl, b⟩ := bs.one
    simp only [biV] at e
    cases c : intsU ys with
    | none => rw [c] at e; cases e
    | some is =>
      rw [c] at e
      cases is with
      | nil => cases e
      | cons i is =>
        cases e
        obtain ⟨a, vs, rfl, h1, h2⟩ := b.lst
        have h3 := h1.sq
        rw [h2.intsU c] at h3
        refine .inl ⟨a, i :: is, rfl, h3, by simp, fun z hz hy => ?_⟩
        have sp := minI_spec is i
        have e1 : z = minI i is := by
          have := hy _ sp.2.2
          have h4 : minI i is ≤ z := by
            rcases List.mem_cons.mp hz with rfl | hz
            · exact sp.1
            · exact sp.2.1 z hz
          omega
        rw [e1]; exact t.at (.int _)
  | [.tup ys], e =>
    obtain ⟨x, rfl, b⟩ := bs.one
    simp only [biV] at e
    cases c : intsU ys with
    | none => rw [c] at e; cases e
    | some is =>
      rw [c] at e
      cases is with
      | nil => cases e
      | cons i is =>
        cases e
        obtain ⟨a, vs, rfl, h1, h2, _⟩ := b.tup
        rw [h2.intsU c] at h1
        exact .inr ⟨a, i, is, rfl, h1, t.at (.int _)⟩
theorem biR_sum (hc : X.calm = true) : CallR X (.builtin "sum") (rBi X.K .sum) := by
  refine CallR.imp (cr_or' (cr_sum hc) (cr_sumT hc)) ?_
  rintro xs H Q ⟨m, al, us, r, md, bs, e, t⟩
  match us, e with
  | [.lst ys], e =>
    obtain ⟨x, rfl, b⟩ := bs.one
    simp only [biV] at e
    cases c : intsU ys with
    | none => rw [c] at e; cases e
    | some is =>
      rw [c] at e; cases e
      obtain ⟨a, vs, rfl, h1, h2⟩ := b.lst
      have h3 := h1.sq
      rw [h2.intsU c] at h3
      exact .inl ⟨a, is, rfl, h3, t.at (.int _)⟩
  | [.tup ys], e =>
    obtain ⟨x, rfl, b⟩ := bs.one
    simp only [biV] at e
    cases c : intsU ys with
    | none => rw [c] at e; cases e
    | some is =>
      rw [c] at e; cases e
      obtain ⟨a, vs, rfl, h1, h2, _⟩ := b.tup
      rw [h2.intsU c] at h1
      exact .inr ⟨a, is, rfl, h1, t.at (.int _)⟩
theorem biR_all (hc : X.calm = true) : CallR X (.builtin "all") (rBi X.K .all) := by
  refine CallR.imp (cr_all hc) ?_
  rintro xs H Q ⟨m, al, us, r, md, bs, e, t⟩
  match us, e with
  | [.lst ys], e =>
    obtain ⟨x, rfl, b⟩ := bs.one
    simp only [biV] at e
    cases c : boolsU ys with
    | none => rw [c] at e; cases e
    | some is =>
      rw [c] at e; cases e
      obtain ⟨a, vs, rfl, h1, h2⟩ := b.lst
      have h3 := h1.sq
      rw [h2.boolsU c] at h3
      exact ⟨a, is, rfl, h3, t.at (.bl _)⟩
theorem biR_any (hc : X.calm = true) : CallR X (.builtin "any") (rBi X.K .any) := by
  refine CallR.imp (cr_any hc) ?_
  rintro xs H Q ⟨m, al, us, r, md, bs, e, t⟩
  match us, e with
  | [.lst ys], e =>
    obtain ⟨x, rfl, b⟩ := bs.one
    simp only [biV] at e
    cases c : boolsU ys with
    | none => rw [c] at e; cases e
    | some is =>
      rw [c] at e; cases e
      obtain ⟨a, vs, rfl, h1, h2⟩ := b.lst
      have h3 := h1.sq
      rw [h2.boolsU c] at h3
      exact ⟨a, is, rfl, h3, t.at (.bl _)⟩
theorem biR_list : CallR X (.type "list") (rBi X.K .list) := by
  refine CallR.imp call_list_of ?_
  rintro xs H Q ⟨m, al, us, r, md, bs, e, t⟩
  match us, e with
  | [u], e =>
    obtain ⟨x, rfl, b⟩ := bs.one
    cases u <;> simp only [biV, items] at e <;> cases e
    · obtain ⟨a, vs, rfl, h1, h2, _⟩ := b.tup
      exact ⟨a, vs, rfl, .inr h1, fun l hl => t.newL md h2 hl⟩
    · obtain ⟨a, vs, rfl, h1, h2⟩ := b.lst
      exact ⟨a, vs, rfl, .inl h1.sq, fun l hl => t.newL md h2 hl⟩
theorem biR_tuple : CallR X (.type "tuple") (rBi X.K .tuple) := by
  refine CallR.imp cr_tupX ?_
  rintro xs H Q ⟨m, al, us, r, md, bs, e, t⟩
  match us, e with
  | [u], e =>
    obtain ⟨x, rfl, b⟩ := bs.one
    cases u <;> simp only [biV, items] at e <;> cases e
    · obtain ⟨a, vs, rfl, h1, h2, h3⟩ := b.tup
      exact ⟨a, vs, rfl, .inr ⟨h1, t.at h3⟩⟩
    · obtain ⟨a, vs, rfl, h1, h2⟩ := b.lst
      exact ⟨a, vs, rfl, .inl ⟨h1.sq, fun l its hl => t.newT md h2 hl⟩⟩
end
end Ev

end
section
set_option Elab.async false
set_option linter.all false
set_option maxRecDepth 100000
set_option maxHeartbeats 2000000
namespace Ev
open PySem L2

/-! ### does a term of the evaluator say what a piece of syntax says? -/
structure FnE where
  name : Str
  np : Nat
structure KwE where
  f : Nat
  npos : Nat
  ks : List Str
/-- an exception class of the program's own, over ValueError or LookupError, without own __init__ or with one that keeps a field -/
structure XcE where
  name : Str
  t : XcT
/-- the program's tables: its defs, its calls with keywords, its constants, its defaults, its exception classes -/
structure Tb where
  fns : List FnE
  kws : List KwE
  cons : List (Str × U)
  dfs : List (Nat × List U)
  xs : List XcE
  mth : Bool
/-- a def's defaults -/
def dfOf (T : Tb) (f : Nat) : List U := (T.dfs.lookup f).getD []
structure Ck where
  N : List Str
  sc : Scope
  fn : Str → Bool
inductive Mo where
  | esc | brw | tst
def visB (sc : Scope) (x : Str) : Bool := match sc.names.lookup x with
  | some .local => true
  | some .cell => true
  | some .free => true
  | _ => false
def glB (sc : Scope) (x : Str) : Bool := match sc.names.lookup x with
  | some .globalImplicit => true
  | _ => false
def locB (k : Ck) (x : Str) : Bool := match k.sc.names.lookup x with
  | some .local => true
  | some .cell => k.fn x
  | _ => false
def plainN (x : Str) : Bool := !(x == ("__debug__" : Str)) && !(x == ("__classdict__" : Str)) && !decide (x = "__name__")
def varOk (k : Ck) (i : Nat) : Expr → Bool
  | .Name x _ => decide (k.N[i]? = some x) && visB k.sc x && plainN x
  | _ => false
/-- the name of a global -/
def gName? (k : Ck) : Expr → Option Str
  | .Name x _ => if glB k.sc x && plainN x then some x else none
  | _ => none
def isG (k : Ck) (n : Str) (e : Expr) : Bool := match gName? k e with
  | some x => decide (x = n)
  | none => false
mutual
def sameU : U → U → Bool
  | .non, b => (match b with | .non => true | _ => false)
  | .bl a, b => (match b with | .bl c => a == c | _ => false)
  | .int i, b => (match b with | .int j => i == j | _ => false)
  | .str x, b => (match b with | .str y => decide (x = y) | _ => false)
  | .tup xs, b => (match b with | .tup ys => sameUs xs ys | _ => false)
  | .lst xs, b => (match b with | .lst ys => sameUs xs ys | _ => false)
  | .dct _, _ => false
  | .ref _, _ => false
  | .dctT _, _ => false
  | .fnv _ _, _ => false
def sameUs : List U → List U → Bool
  | [], b => (match b with | [] => true | _ => false)
  | x :: xs, b => (match b with | y :: ys => sameU x y && sameUs xs ys | [] => false)
end
mutual
theorem sameU_eq : ∀ (u w : U), sameU u w = true → u = w
  | .non, w, h => by cases w <;> simp [sameU] at h ⊢
  | .bl _, w, h => by cases w <;> simp [sameU] at h ⊢; exact h
  | .int _, w, h => by cases w <;> simp [sameU] at h ⊢; exact h
  | .str _, w, h => by cases w <;> simp [sameU] at h ⊢; exact h
  | .tup xs, w, h => by
    cases w <;> simp [sameU] at h ⊢
    exact sameUs_eq xs _ h
  | .lst xs, w, h => by
    cases w <;> simp [sameU] at h ⊢
    exact sameUs_eq xs _ h
  | .dct _, w, h => by simp [sameU] at h
  | .ref _, w, h => by simp [sameU] at h
  | .dctT _, w, h => by simp [sameU] at h
  | .fnv _ _, w, h => by simp [sameU] at h
theorem sameUs_eq : ∀ (us ws : List U), sameUs us ws = true → us = ws
  | [], ws, h => by cases ws <;> simp [sameUs] at h ⊢
  | x :: xs, ws, h => by
    cases ws <;> simp [sameUs] at h ⊢
    exact ⟨sameU_eq x _ h.1, sameUs_eq xs _ h.2⟩
end
def conOk (T : Tb) (k : Ck) (u : U) : Expr → Bool
  | .Constant c _ _ => (match c, u with
    | .none, .non => true
    | .bool b, .bl c => b == c
    | .int i, .int j => i == j
    | .str x, .str y => decide (x = y)
    | _, _ => false)
  | e => (match gName? k e with
    | some x => (match T.cons.lookup x with
      | some w => sameU u w
      | none => (match u with
        | .fnv f n => (match nth f T.fns with | some fe => decide (x = n) && decide (fe.name = n) | none => false)
        | _ => false))
    | none => false)
def opIs : Op2 → Operator → Bool
  | .add, .Add => true | .sub, .Sub => true | .mul, .Mult => true | .fdiv, .FloorDiv => true | .mod, .Mod => true | .pow, .Pow => true | .shl, .LShift => true | .shr, .RShift => true | .band, .BitAnd => true | .bxor, .BitXor => true
  | _, _ => false
theorem opIs_eq {o : Op2} {p : Operator} (h : opIs o p = true) : p = opSyn o := by cases o <;> cases p <;> first | rfl | cases h
def cmpIs : Cmp → CmpOp → Bool
  | .eq, .Eq => true | .ne, .NotEq => true | .lt, .Lt => true | .le, .LtE => true | .gt, .Gt => true | .ge, .GtE => true | .isin, .In => true | .notin, .NotIn => true | .is_, .Is => true | .isnot, .IsNot => true
  | _, _ => false
theorem cmpIs_eq {o : Cmp} {p : CmpOp} (h : cmpIs o p = true) : p = cmpSyn o := by cases o <;> cases p <;> first | rfl | cases h
/-- no set display on the right of in -/
def noSet : Expr → Bool
  | .Set .. => false
  | _ => true
def noStar : Expr → Bool
  | .Starred .. => false
  | _ => true
def isSubE : Expr → Bool
  | .Subscript .. => true
  | _ => false
def notSlice : Expr → Bool
  | .Slice .. => false
  | _ => true
/-- a built-in by its one word -/
def biName : Bi → Option Str
  | .len => some "len" | .abs => some "abs" | .int1 => some "int" | .min2 => some "min" | .max2 => some "max" | .minS => some "min" | .maxS => some "max" | .sum => some "sum" | .all => some "all" | .any => some "any" | .list => some "list" | .tuple => some "tuple"
  | .sorted => some "sorted"
  | _ => none
def tyName : Ty → Str
  | .int => "int" | .bool => "bool" | .tuple => "tuple" | .list => "list" | .str => "str"
def tysOk (k : Ck) : List Ty → List Expr → Bool
  | [], [] => true
  | t :: ts, e :: es => isG k (tyName t) e && tysOk k ts es
  | _, _ => false
def lenA : A → Nat
  | .nil => 0
  | .cons _ r => lenA r + 1
def relK (scope sc : Scope) : Scope := relS scope sc
def idxN : List Str → Str → Option Nat
  | [], _ => none
  | y :: r, x => if y = x then some 0 else (match idxN r x with | some i => some (i + 1) | none => none)
/-- a block's own names -/
def ownOf (N : List Str) (scope : Scope) : List (Str × Nat) := scope.names.filterMap fun y => match y.2 with
  | .local => (match idxN N y.1 with | some i => some (y.1, i) | none => none)
  | .cell => (match idxN N y.1 with | some i => some (y.1, i) | none => none)
  | _ => none
def sameN (w v : List Nat) : Bool := (w.all fun i => v.contains i) && v.all fun i => w.contains i
def chkTg : Tg → Ck → Expr → Bool
  | .nm i, k, e => (match e with | .Name x _ => decide (k.N[i]? = some x) && locB k x | _ => false)
  | .t2 a b, k, e => (match e with | .Tuple [x, y] _ _ => chkTg a k x && chkTg b k y | _ => false)
  | .t3 a b c, k, e => (match e with | .Tuple [x, y, z] _ _ => chkTg a k x && chkTg b k y && chkTg c k z | _ => false)
  | .t4 a b c d, k, e => (match e with | .Tuple [x, y, z, w] _ _ => chkTg a k x && chkTg b k y && chkTg c k z && chkTg d k w | _ => false)
def isNameE : Expr → Bool
  | .Name .. => true
  | _ => false
def isTupE : Expr → Bool
  | .Tuple .. => true
  | _ => false
def tgSlots : Tg → List Nat
  | .nm i => [i]
  | .t2 a b => tgSlots a ++ tgSlots b
  | .t3 a b c => tgSlots a ++ (tgSlots b ++ tgSlots c)
  | .t4 a b c d => tgSlots a ++ (tgSlots b ++ (tgSlots c ++ tgSlots d))
/-- the context of a comprehension's block -/
def Ck.blk (k : Ck) (scope : Scope) : Ck := ⟨k.N, relS scope k.sc, fun x => scope.names.lookup x == some .cell⟩
section
variable (T : Tb)
mutual
def chk : C → Mo → Ck → Expr → Bool
  | .con u, _, k, e => conOk T k u e
  | .var i, _, k, e => varOk k i e
  | .peek i, m, k, e => (match m with | .esc => false | _ => varOk k i e)
  | .tup as, _, k, e => (match e with | .Tuple es _ _ => decide (lenA as ≤ 1000) && chkA as .esc k es | _ => false)
  | .lst as, _, k, e => (match e with | .List es _ => decide (lenA as ≤ 1000) && chkA as .esc k es | _ => false)
  | .slst as, _, k, e => (match e with | .List es _ => decide (lenA as ≤ 1000) && chkA as .esc k es | _ => false)
  | .op o a b, _, k, e => (match e with | .BinOp x p y _ => opIs o p && chk a .brw k x && chk b .brw k y | _ => false)
  | .neg a, _, k, e => (match e with | .UnaryOp .USub x _ => chk a .brw k x | _ => false)
  | .cmp o a b, _, k, e => (match e with | .Compare x [p] [y] _ => cmpIs o p && noSet y && chk a .brw k x && chk b .brw k y | _ => false)
  | .chain o q a b c, _, k, e => (match e with | .Compare x [p, p2] [y, z] _ => cmpIs o p && cmpIs q p2 && noSet y && noSet z && chk a .brw k x && chk b .brw k y && chk c .brw k z | _ => false)
  | .not a, m, k, e => (match e with | .UnaryOp .Not x _ => chk a (match m with | .tst => .tst | _ => .brw) k x | _ => false)
  | .and a b, m, k, e => (match e with
    | .BoolOp .And [x, y] p => chk a m k x && chk b m k y
    | .BoolOp .And (x :: y :: z :: r) p => chk a m k x && chk b m k (.BoolOp .And (y :: z :: r) p)
    | _ => false)
  | .or a b, m, k, e => (match e with
    | .BoolOp .Or [x, y] p => chk a m k x && chk b m k y
    | .BoolOp .Or (x :: y :: z :: r) p => chk a m k x && chk b m k (.BoolOp .Or (y :: z :: r) p)
    | _ => false)
  | .ife t a b, m, k, e => (match e with | .IfExp x y z _ => chk t .tst k x && chk a m k y && chk b m k z | _ => false)
  | .ix a b, _, k, e => (match e with | .Subscript x y _ => notSlice y && chk a .brw k x && chk b .brw k y | _ => false)
  | .sl a lo hi, _, k, e => (match e with | .Subscript x (.Slice (some y) (some z) none _) _ => chk a .brw k x && chk lo .brw k y && chk hi .brw k z | _ => false)
  | .slL a lo, _, k, e => (match e with | .Subscript x (.Slice (some y) none none _) _ => chk a .brw k x && chk lo .brw k y | _ => false)
  | .slH a hi, _, k, e => (match e with | .Subscript x (.Slice none (some z) none _) _ => chk a .brw k x && chk hi .brw k z | _ => false)
  | .rev _, _, _, _ => false
  | .call f as, _, k, e => (match e with
    | .Call g es [] _ => (match gName? k g, nth f T.fns with | some x, some fe => decide (x = fe.name) && decide (es.length = fe.np) && chkA as .esc k es | _, _ => false)
    | _ => false)
  | .callK f kw as bs, _, k, e => (match e with
    | .Call g es ks _ => (match gName? k g, nth f T.fns, nth kw T.kws with
      | some x, some fe, some ke => decide (x = fe.name) && decide (ke.f = f) && decide (es.length = ke.npos) && decide (lenA bs = ke.ks.length) && decide (ks.map (·.arg) = ke.ks.map some) && decide (ke.ks ≠ []) && chkA as .esc k es && chkA bs .esc k (ks.map (·.value))
      | _, _, _ => false)
    | _ => false)
  | .bi b as, _, k, e => (match e with
    | .Call g es [] _ => (match biName b with
      | some n => isG k n g && chkA as .brw k es && decide (es ≠ [])
      | none => (match b with
        | .isinst ts => isG k "isinstance" g && (match as, es with
          | .cons a .nil, [x, y] => noStar x && chk a .brw k x && (match ts, y with
            | [t], .Name .. => isG k (tyName t) y
            | _, .Tuple ys _ _ => tysOk k ts ys && decide (ys.length ≤ 1000) && decide (ts.length ≤ 1000)
            | _, _ => false)
          | _, _ => false)
        | .sortedSet => isG k "sorted" g && (match as, es with
          | .cons a .nil, [.Call g2 [x] [] _] => isG k "set" g2 && noStar x && chk a .brw k x
          | _, _ => false)
        | .listRange => isG k "list" g && (match as, es with
          | .cons a .nil, [.Call g2 [x] [] _] => isG k "range" g2 && noStar x && chk a .brw k x
          | _, _ => false)
        | _ => false))
    | _ => false)
  | .comp w tg it t e', _, k, e => (match e with
    | .ListComp elt [⟨tg', iter, ifs, 0⟩] scope _ => noSet iter && (tgSlots tg).all (fun i => w.contains i) && sameN w ((ownOf k.N scope).map (·.2)) && blkC k.N k.sc scope (ownOf k.N scope) && chkI it .brw k tg' iter && chkTg tg (k.blk scope) tg' &&
        (match ifs with | [] => (match t with | .con (.bl true) => true | _ => false) | [x] => chk t .tst (k.blk scope) x | _ => false) && chk e' .esc (k.blk scope) elt
    | _ => false)
  | .comp2 w tg it t tg2 it2 t2 e', _, k, e => false
  | .refNe a, _, k, e => (match e with | .Compare x [.NotEq] [.List [] _] _ => chk a .brw k x | _ => false)
  | .dict1 a, _, k, e => (match e with | .Call g [x] [] _ => isG k "dict" g && noStar x && chk a .brw k x | _ => false)
  | .dGet a b, _, k, e => (match e with | .Subscript x y _ => notSlice y && chk a .brw k x && chk b .brw k y | _ => false)
  | .dIn neg a b, _, k, e => (match e with | .Compare x [p] [y] _ => (match p with | .In => !neg | .NotIn => neg | _ => false) && noSet y && chk a .brw k x && chk b .brw k y | _ => false)
  | .callD f as ds, _, k, e => (match e with
    | .Call g es [] _ => (match gName? k g, nth f T.fns with | some x, some fe => decide (x = fe.name) && decide (es.length + ds.length = fe.np) && decide (ds.length ≤ (dfOf T f).length) && !ds.isEmpty && sameUs ((dfOf T f).drop ((dfOf T f).length - ds.length)) ds && chkA as .esc k es | _, _ => false)
    | _ => false)
  | .callV g as, _, k, e => (match e with
    | .Call ge es [] _ => isSubE ge && chk g .brw k ge && decide (es ≠ []) && chkA as .esc k es
    | _ => false)
  | .slS a lo st, _, k, e => (match e with
    | .Subscript x (.Slice (some y) none (some (.Constant (.int n) _ _)) _) _ => decide (n = st) && decide (2 ≤ st) && decide (st < 1000) && chk a .brw k x && chk lo .brw k y
    | _ => false)
  | .dictT a, _, k, e => (match e with | .Call g [x] [] _ => isG k "dict" g && noStar x && chk a .brw k x | _ => false)
  | .dInT neg a b, _, k, e => (match e with | .Compare x [p] [y] _ => (match p with | .In => !neg | .NotIn => neg | _ => false) && noSet y && chk a .brw k x && chk b .brw k y | _ => false)
  | .mth l a b, _, k, e => (match e with | .Call g [x, y] [] _ => T.mth && isG k (if l then "lcm" else "gcd") g && noStar x && noStar y && chk a .brw k x && chk b .brw k y | _ => false)
  | .dLit i j, _, _, e => (match e with | .Dict [some (.Constant (.int a) _ _)] [.Constant (.int b) _ _] _ => decide (a = i) && decide (b = j) | _ => false)
  | .sortedR a, _, k, e => (match e with | .Call g [x] [] _ => isG k "sorted" g && noStar x && chk a .brw k x | _ => false)
def chkA : A → Mo → Ck → List Expr → Bool
  | .nil, _, _, es => (match es with | [] => true | _ => false)
  | .cons c r, m, k, es => (match es with | e :: es => noStar e && chk c m k e && chkA r m k es | [] => false)
def chkI : It → Mo → Ck → Expr → Expr → Bool
  | .seq c, m, k, _, e => chk c m k e
  | .enum c, m, k, tg, e => (match e with | .Call g [x] [] _ => isTupE tg && isG k "enumerate" g && noStar x && chk c m k x | _ => false)
  | .zip2 a b, m, k, tg, e => (match e with | .Call g [x, y] [] _ => isTupE tg && isG k "zip" g && noStar x && noStar y && chk a m k x && chk b m k y | _ => false)
  | .zips c, m, k, tg, e => (match e with | .Call g [.Starred x _] [] _ => isNameE tg && isG k "zip" g && chk c m k x | _ => false)
  | .rng1 c, m, k, _, e => (match e with | .Call g [x] [] _ => isG k "range" g && noStar x && chk c .brw k x | _ => false)
  | .rng2 a b, m, k, _, e => (match e with | .Call g [x, y] [] _ => isG k "range" g && noStar x && noStar y && chk a .brw k x && chk b .brw k y | _ => false)
  | .enumZ c, m, k, tg, e => (match e with | .Call g [.Call g2 [.Starred x _] [] _] [] _ => isTupE tg && isG k "enumerate" g && isG k "zip" g2 && chk c m k x | _ => false)
  | .rng3 _ _ _, _, _, _, _ => false
end
end
end Ev

end
section
set_option Elab.async false
set_option linter.all false
set_option maxRecDepth 100000
set_option maxHeartbeats 2000000
namespace Ev
open PySem L2
def isLC : Expr → Bool
  | .ListComp .. => true
  | .SetComp .. => true
  | .DictComp .. => true
  | _ => false
def isFn (k : Ck) : Bool := match k.sc.kind with
  | .function => true
  | _ => false
/-- x = [..] on one line -/
def swapOne (k : Ck) (ex : Expr) (x : Str) (p : Pos) : Bool := match ex with
  | .ListComp _ _ scope cp => k.sc.names.lookup x == some .local && p.line == cp.line && !(scope.names.any fun (n, kk) => n == x && (kk == .local || kk == .cell))
  | _ => false
def locName (k : Ck) (line : Nat) : Expr → Option Str
  | .Name id pos => if k.sc.names.lookup id == some .local && pos.line == line then some id else none
  | _ => none
/-- which names two or three stores at once have: some none, stored in order; none, not told -/
def swM (k : Ck) (ts vs : List Expr) : Option (Option (List Str)) :=
  if isFn k = false then none else
  if (!(ts.length == 2 || ts.length == 3) || vs.length != ts.length) = true then some none else
  if vs.all noStar = false then none else
  let names := ts.filterMap (locName k ((ts.head?.map (·.pos.line)).getD 0))
  if (names.length != ts.length || names.eraseDups.length != names.length) = true then some none else
  if vs.all (foldedForSure 8) = true then some none else
  if vs.all (constantsAlone 8) = true then none else some (some names)
theorem no_any (f : Expr → Bool) (hf : ∀ x, noStar x = true → f x = false) : ∀ vs : List Expr, vs.all noStar = true → vs.any f = false
  | [], _ => rfl
  | x :: r, h => by
    rw [List.all_cons] at h
    have h := Bool.and_eq_true_iff.mp h
    rw [List.any_cons, hf x h.1, no_any f hf r h.2]
    rfl
theorem sw_eq {k : Ck} {env : PySem.Env} (hs : env.scope = k.sc) {ts vs : List Expr} {a c : Nat} {b d : Pos} {r : Option (List Str)} (h : swM k ts vs = some r) : swappedStores [.Tuple ts a b] (.Tuple vs c d) env = pure r := by
  have hn : ∀ id, env.kindOf id = k.sc.names.lookup id := fun id => by unfold Env.kindOf; rw [hs]
  unfold swM at h
  by_cases hf : isFn k = false
  · rw [if_pos hf] at h; cases h
  · rw [if_neg hf] at h
    have hb : env.blockKind = .function := by
      unfold Env.blockKind
      rw [hs]
      unfold isFn at hf
      cases q : k.sc.kind <;> rw [q] at hf <;> first | rfl | exact absurd rfl hf
    unfold swappedStores
    simp only [hb, hn]
    have hx : (ScopeKind.function != ScopeKind.function) = false := by decide
    rw [hx]
    simp only [Bool.or_false]
    generalize (!(ts.length == 2 || ts.length == 3) || vs.length != ts.length) = c1 at h ⊢
    by_cases c1t : c1 = true
    · rw [if_pos c1t] at h ⊢
      cases h; rfl
    rw [if_neg c1t] at h ⊢
    by_cases hst : vs.all noStar = false
    · rw [if_pos hst] at h; cases h
    rw [if_neg hst] at h
    rw [no_any _ ?_ vs (by cases q : vs.all noStar <;> simp_all), if_neg Bool.false_ne_true]
    rotate_left
    · intro x hx
      cases x <;> first | rfl | (cases hx; done)
    have key : ∀ f : Expr → Option Str, (∀ x, f x = locName k ((ts.head?.map (·.pos.line)).getD 0) x) → ts.filterMap f = ts.filterMap (locName k ((ts.head?.map (·.pos.line)).getD 0)) := fun f h => by rw [funext h]
    rw [key _ ?_]
    rotate_left
    · intro x
      cases x <;> rfl
    generalize (vs.all (foldedForSure 8)) = c4 at h ⊢
    generalize (vs.all (constantsAlone 8)) = c5 at h ⊢
    revert h
    dsimp only
    repeat' split
    all_goals first | (intro h; cases h; rfl) | (intro h; cases h)
/-- none of the swapped stores -/
def swNo (k : Ck) (t ex : Expr) : Bool := match t, ex with
  | .Tuple ts _ _, .Tuple vs _ _ => (match swM k ts vs with | some none => true | _ => false)
  | _, _ => true
def sameNames : List Str → List Str → Bool
  | [], [] => true
  | x :: xs, y :: ys => decide (x = y) && sameNames xs ys
  | _, _ => false
def swIs (k : Ck) (ts vs : List Expr) (xs : List Str) : Bool := match swM k ts vs with
  | some (some ys) => sameNames ys xs
  | _ => false
def isComp : C → Bool
  | .comp .. => true
  | _ => false
def isCall : Expr → Bool
  | .Call .. => true
  | _ => false
def nameI (k : Ck) (i : Nat) (x : Str) : Bool := decide (k.N[i]? = some x) && k.sc.names.lookup x == some .local
section
variable (T : Tb)
/-- an item of the row that an except suite stores -/
def chkHi (k : Ck) (o : Option Nat) : Hi → Expr → Bool
  | .str m, .Constant (.str x) _ _ => decide (x = m) && PyData.strOk m
  | .bl b, .Constant (.bool c) _ _ => b == c
  | .non, .Constant .none _ _ => true
  | .isi le, .Call g [x, y] [] _ => (match o with | some i => isG k "isinstance" g && varOk k i x && isG k (if le then "LookupError" else "ValueError") y | none => false)
  | .fld n, .Attribute x m _ => (match o with | some i => decide (m = n) && varOk k i x | none => false)
  | _, _ => false
def chkHis (k : Ck) (o : Option Nat) : List Hi → List Expr → Bool
  | [], [] => true
  | h :: hs, e :: es => chkHi k o h e && chkHis k o hs es
  | _, _ => false
/-- what an except suite stores -/
def chkHv (k : Ck) (o : Option Nat) : Hv → Expr → Bool
  | .row is, .List es _ => chkHis k o is es && decide (is.length ≤ 1000)
  | .con b, .Constant (.bool c) _ _ => b == c
  | _, _ => false
def chkHs (k : Ck) : List Hd → List ExceptHandler → Bool
  | [], [] => true
  | h :: hs, .ExceptHandler (some cx) nm [.Assign [.Name y py] ex ps] pos :: r => (match nth h.cls T.xs with | some xe => isG k xe.name cx | none => false) &&
      (match h.slot, nm with | some i, some n => nameI k i n && decide (i ≠ h.tgt) | none, none => true | _, _ => false) && nameI k h.tgt y && !isLC ex && chkHv k h.slot h.v ex && chkHs k hs r
  | _, _ => false
mutual
def chkS : S → Ck → Stmt → Bool
  | .asg fz i o e, k, st => (match st with
    | .Assign [.Name x p] ex _ => isFn k && decide (k.N[i]? = some x) && locB k x && chk T e .esc k ex && (match ex with
      | .ListComp .. => isComp e
      | .SetComp .. => false
      | .DictComp .. => false
      | _ => true)
    | _ => false)
  | .asgT fz tg e, k, st => (match st with
    | .Assign [t] ex _ => isTupE t && chkTg tg k t && chk T e .esc k ex && !isLC ex && swNo k t ex
    | _ => false)
  | .par2 fz i oi a j oj b, k, st => (match st with
    | .Assign [.Tuple [.Name x px, .Name y py] kt pt] (.Tuple [e1, e2] k2 p2) _ => nameI k i x && nameI k j y && decide (i ≠ j) && noStar e1 && noStar e2 && chk T a .esc k e1 && chk T b .esc k e2 && swIs k [.Name x px, .Name y py] [e1, e2] [x, y]
    | _ => false)
  | .par3 fz i j l as, k, st => (match st with
    | .Assign [.Tuple [.Name x px, .Name y py, .Name z pz] kt pt] (.Tuple [e1, e2, e3] k2 p2) _ => nameI k i x && nameI k j y && nameI k l z && decide (i ≠ j) && decide (i ≠ l) && decide (j ≠ l) && chkA T as .esc k [e1, e2, e3] && swIs k [.Name x px, .Name y py, .Name z pz] [e1, e2, e3] [x, y, z]
    | _ => false)
  | .asgIx fz x kx e, k, st => (match st with
    | .Assign [.Subscript o ix _] ex _ => varOk k x o && notSlice ix && chk T kx .brw k ix && chk T e .esc k ex && !isLC ex
    | _ => false)
  | .aug fz i o e, k, st => (match st with
    | .AugAssign (.Name x p) op ex _ => (match o, op with | .add, .Add => true | .sub, .Sub => true | _, _ => false) && decide (k.N[i]? = some x) && locB k x && chk T e .brw k ex
    | _ => false)
  | .app fz x e, k, st => (match st with
    | .Expr (.Call (.Attribute o nm ap) [ex] [] cp) _ => decide (nm = "append") && varOk k x o && noStar ex && chk T e .esc k ex && ap.endLine == cp.line
    | _ => false)
  | .appPop fz x y kk, k, st => (match st with
    | .Expr (.Call (.Attribute o nm ap) [.Call (.Attribute o2 nm2 ap2) [ix] [] cp2] [] cp) _ => decide (nm = "append") && varOk k x o && decide (nm2 = "pop") && varOk k y o2 && noStar ix && chk T kk .brw k ix && ap.endLine == cp.line && ap2.endLine == cp2.line
    | _ => false)
  | .ret fz e, k, st => (match st with | .Return (some ex) _ => chk T e .esc k ex | _ => false)
  | .retV i, k, st => (match st with | .Return (some ex) _ => varOk k i ex | _ => false)
  | .retN, k, st => (match st with | .Return none _ => true | _ => false)
  | .ife fz t a b, k, st => (match st with | .If c p q _ => chk T t .tst k c && chkB a k p && chkB b k q | _ => false)
  | .for_ fz tg it b, k, st => (match st with | .For t iter body [] _ => noSet iter && chkI T it .esc k t iter && chkTg tg k t && chkB b k body | _ => false)
  | .while_ fz t b, k, st => (match st with | .While c body [] _ => chk T t .tst k c && chkB b k body | _ => false)
  | .ex fz e, k, st => (match st with | .Expr ex _ => isCall ex && chk T e .brw k ex | _ => false)
  | .popS fz y kk, k, st => (match st with
    | .Expr (.Call (.Attribute o2 nm2 ap2) [ix] [] cp2) _ => decide (nm2 = "pop") && varOk k y o2 && noStar ix && chk T kk .brw k ix && ap2.endLine == cp2.line
    | _ => false)
  | .appR fz a e, k, st => (match st with
    | .Expr (.Call (.Attribute (.Subscript o ix sp) nm ap) [ex] [] cp) _ => decide (nm = "append") && chk T a .brw k (.Subscript o ix sp) && noStar ex && chk T e .brw k ex && ap.endLine == cp.line
    | _ => false)
  | .raise c, k, st => (match st with
    | .Raise (some (.Call g [] [] _)) none _ => (match nth c T.xs with | some xe => isG k xe.name g && xe.t.fld.isNone | none => false)
    | _ => false)
  | .raiseA fz c e, k, st => (match st with
    | .Raise (some (.Call g [x] [] _)) none _ => (match nth c T.xs with | some xe => isG k xe.name g && xe.t.fld.isSome && noStar x && chk T e .esc k x | none => false)
    | _ => false)
  | .insS fz x kx e, k, st => (match st with
    | .Expr (.Call (.Attribute o nm ap) [ix, ex] [] cp) _ => decide (nm = "insert") && varOk k x o && noStar ix && noStar ex && chk T kx .brw k ix && chk T e .esc k ex && ap.endLine == cp.line
    | _ => false)
  | .try_ xs b hs, k, st => (match st with
    | .Try body hds [] [] _ => decide (xs = T.xs.map (·.t)) && decide (hs ≠ []) && chkB b k body && chkHs T k hs hds
    | _ => false)
  | .pass, _, st => (match st with | .Pass _ => true | _ => false)
  | .cont, _, st => (match st with | .Continue _ => true | _ => false)
  | .brk, _, st => (match st with | .Break _ => true | _ => false)
  | .never, _, _ => true
def chkB : B → Ck → List Stmt → Bool
  | .nil, _, sts => (match sts with | [] => true | _ => false)
  | .cons s b, k, sts => (match sts with | st :: sts => chkS s k st && chkB b k sts | [] => false)
end
end
end Ev

end
section
set_option Elab.async false
set_option linter.all false
set_option maxRecDepth 100000
set_option maxHeartbeats 2000000
namespace CompX
open PySem PySem.Spec PyProof.Rows L2
/-! ### exceptions in the air of a frame L, behind expressions -/
/-- as the layer's XE, the frame told -/
def XF (X : Cx) (W : WX) (L : Addr) (u : Value) (s' : Shared) : Prop :=
  ∃ (a : Addr) (B : Heap) (sI : Shared) (pins : List (Addr × Obj)) (σ : L2.St) (H : Hp) (cls : Value) (d : Option Addr),
    u = .ref a ∧ Inv X pins σ H sI ∧ (∀ b o, sI.heap.get? b = some o → b ∉ frs X.stack → B.get? b = some o) ∧ sI.heap.UpToSlots s'.heap ∧
      Sky B X.stack a (Zc cls d) L s'.heap ∧ H a = none ∧ s'.os = sI.os ∧ AllBare s'.gens ∧ W cls d σ H
/-- the air over a frame that X's block runs in -/
structure TkF (X : Cx) (W : WX) : Prop where
  ex : ∃ L e0 l0, X.env.frame = some L ∧ X.stack = e0 :: l0 ∧ e0.frame = some L ∧ ∀ u s', XF X W L u s' → X.xe u s'
theorem TkF.of {X : Cx} {W : WX} (tk : Takes X W) (hs : X.stack = X.env :: X.outer) (hf : X.env.frame = some X.env.locals) : TkF X W := ⟨_, X.env, X.outer, hf, hs, hf, tk⟩
section
variable {X : Cx} {pins : List (Addr × Obj)} {σ : L2.St} {H : Hp} {s s' : Shared} {W : WX} {Ec : XK} {L : Addr}
theorem XF.of_call (I : Inv X pins σ H s) (hW : ∀ cls d H', Ec cls d H' → W cls d σ H') {u : Value} (c : L2.CX X.prog X.w X.stack H s Ec u s') : XF X W L u s' := by
  obtain ⟨a, B, H2, cls, d, rfl, fly, ok2, ub, na, os, ag, hE⟩ := c
  obtain ⟨G, y1, y2⟩ := restrict s'.heap fun b => (B.get? b).isSome || decide (b ∈ frs X.stack)
  have hin : B.StaysIn s'.heap := fly.1
  have gB : ∀ b o, B.get? b = some o → G.get? b = some o := fun b o e => (y1 b (by simp [e])).trans (hin b o e)
  have gF : ∀ b, b ∈ frs X.stack → G.get? b = s'.heap.get? b := fun b hb => y1 b (by simp [hb])
  have back : ∀ b o, G.get? b = some o → s'.heap.get? b = some o ∧ ((B.get? b).isSome = true ∨ b ∈ frs X.stack) := fun b o e => by
    by_cases q : ((B.get? b).isSome || decide (b ∈ frs X.stack)) = true
    · rw [y1 b q] at e
      exact ⟨e, by simpa [Bool.or_eq_true] using q⟩
    · rw [y2 b (by simpa using q)] at e; cases e
  have J : Inv X pins σ H2 { s with heap := G, gens := s'.gens, drawn := s'.drawn, toks := s'.toks } := by
    refine I.call (ch := []) ⟨fun b o e n hb _ => gB b o (ub.keep b o e n hb), fun b o e n hb _ => ?_, fun b o e n _ => ub.free b o e n, fun b o e _ => ?_, ub.tups, ub.frzs, ub.tbls⟩ (ok2.kept gB) ag (fun _ z => nomatch z)
    · obtain ⟨sl, q⟩ := ub.slot b o e hb
      exact ⟨sl, (gF b hb).trans q⟩
    · by_cases hb : b ∈ frs X.stack
      · obtain ⟨sl, q⟩ := ub.slot b o e hb
        exact ⟨_, (gF b hb).trans q⟩
      · obtain ⟨o', q⟩ := ub.there b o e hb
        exact ⟨o', gB b o' q⟩
  refine ⟨a, B, _, pins, σ, H2, cls, d, rfl, J, fun b o e hb => ?_, Heap.UpToSlots.of_keeps fun b o e => (back b o e).1, .inr (.inl fly), na, os, ag, hW _ _ _ hE⟩
  obtain ⟨e', h⟩ := back b o e
  rcases h with h | h
  · obtain ⟨o', q⟩ := Option.isSome_iff_exists.mp h
    have z := hin b o' q
    rw [e'] at z; cases z
    exact q
  · exact absurd h hb
theorem passF (tk : TkF X W) (σ : L2.St) : PassesAt (L2.CX X.prog X.w) X σ (WE W σ) := fun _ _ _ e s' I c => by
  obtain ⟨L, e0, l0, _, _, _, t⟩ := tk.ex
  exact t e s' (XF.of_call I (fun _ _ _ h => h) c)
end

/-! ### out of a comprehension's block -/
abbrev blkX (X : Cx) (s : Shared) (H : Hp) (scope : Scope) (cenv : Env) (fp : List Addr) (xe : Value → Shared → Prop) : Cx := { X.blk s H scope cenv fp with xe := xe }
theorem up_ns {h h' : Heap} {C : Addr} {m : Str → Option Value} (hn : h.Ns C m) (up : h.UpToSlots h') : h'.Ns C m := hn.upToSlots up
/-- what is left of the ground when C is put aside -/
theorem held_aside {B h h2 : Heap} {l : List Env} {a C L : Addr} {Z : Obj → Prop} {m m2 : Str → Option Value} (hn : h.Ns C m) (hn2 : h2.Ns C m2) (sb : Heap.SameBut C h h2) (hh : HandSPX.HeldZ B l a Z L h) : HandSPX.HeldZ (PySem.W.hideAll B [C]) l a Z L h2 := by
  obtain ⟨k1, k2, k3, oe, vs, T, oT, ts, he, hz, hd, h1, hnT, hTe, hT, hdT, h3⟩ := hh
  have nf : ∀ b o vs, h.get? b = some o → o.data = .fields vs → b ≠ C := fun b o vs e d z => by
    obtain ⟨oC, es, ep, e1, e2, _⟩ := hn
    rw [z, e1] at e
    cases e
    rw [e2] at d; cases d
  have hid : ∀ b o, (PySem.W.hideAll B [C]).get? b = some o → B.get? b = some o ∧ b ≠ C := fun b o e => ⟨PySem.W.of_hideAll _ e, fun z => by
    rw [z, PySem.W.hideAll_none [C] (by simp)] at e; cases e⟩
  have hno : ∀ b, B.get? b = none → (PySem.W.hideAll B [C]).get? b = none := fun b e => by
    cases q : (PySem.W.hideAll B [C]).get? b with
    | none => rfl
    | some o => rw [(hid b o q).1] at e; cases e
  refine ⟨fun b o e => ?_, hno a k2, ?_, oe, vs, T, oT, ts, (sb.2 a (nf _ _ _ he hd)).trans he, hz, hd, h1, hno T hnT, hTe, (sb.2 T (nf _ _ _ hT hdT)).trans hT, hdT, h3⟩
  · obtain ⟨e1, ne⟩ := hid b o e
    exact (sb.2 b ne).trans (k1 b o e1)
  · refine funFrames_none (Heap.FunFrames.sameBut sb hn2 k3) fun F hF => ?_
    obtain ⟨e, _⟩ := k3.mem hF
    exact hno F e
theorem takes_blk {X : Cx} {pins : List (Addr × Obj)} {σ : L2.St} {H3 : Hp} {s3 : Shared} {scope : Scope} {ce : Env} {fp : List Addr} {W : WX} (I3 : Inv X pins σ H3 s3) (hcf : ce.frame = X.env.frame) (hC : s3.heap.objs.size ≤ ce.locals)
    (f3 : ∀ b ∈ fp, FpOk X pins H3 b ∧ b < s3.heap.objs.size) (tk : TkF X W) :
    TkF (blkX X s3 H3 scope ce fp (notedBy (model X.prog X.w) X.A ce (CompFails (model X.prog X.w) X.A X.xe ce))) (fun cls d _ H => W cls d σ H) := by
  obtain ⟨L, e0, l0, hL, hst, h0, t⟩ := tk.ex
  refine ⟨L, e0, l0, hcf.trans hL, hst, h0, fun u s' x => ?_⟩
  obtain ⟨a, B, sI, pn, σ1, H, cls, d, rfl, I, nb, up, sky, na, os, ag, w⟩ := x
  have frm : X.A.frames = some (e0 :: l0) := by rw [I3.ok.frames, hst]
  have sky : Sky B (e0 :: l0) a (Zc cls d) L s'.heap := by rw [← hst]; exact sky
  have nb : ∀ b o, sI.heap.get? b = some o → b ∉ frs X.stack → B.get? b = some o := nb
  show wpAny (model X.prog X.w) X.A (noteFrame (.ref a) ce) _ _ s'
  rw [noteFrame_env _ ((hcf.trans hL).trans h0.symm)]
  have fin : ∀ h1, HandSPX.HeldZ B (e0 :: l0) a (Zc cls d) L h1 → s'.heap.UpToSlots h1 → CompFails (model X.prog X.w) X.A X.xe ce (.ref a) { s' with heap := h1 } := fun h1 hh up1 => by
    obtain ⟨m, hn, _⟩ := I.loc
    have hn : sI.heap.Ns ce.locals m := hn
    have n1 : h1.Ns ce.locals m := up_ns (up_ns hn up) up1
    refine ⟨m, n1, fun h2 m2 n2 sb => ?_⟩
    have hh2 := held_aside n1 n2 sb hh
    unfold PySem.passOn
    obtain ⟨_, _, _, oe, vs, T, oT, ts, he, hz, hd, hv1, hr⟩ := id hh2
    refine wpAny_bind (wpAny_field he hd hv1 ?_)
    rw [if_neg (show ¬ ((Value.ref T == Value.none) = true) from by simp), hcf.trans hL]
    have last : wpAny (model X.prog X.w) X.A (setFlight (.ref a) (some L)) (fun _ t4 => wpAny (model X.prog X.w) X.A (throw (.ref a) : Sem Value) (fun _ _ => False) X.xe t4) X.xe { s' with heap := h2 } := by
      refine HandSPX.setFlight_onZ hh2 fun h4 hh4 up4 => wpAny_throw (t _ _ ?_)
      have gne : ∀ b o, (PySem.W.hideAll sI.heap [ce.locals]).get? b = some o → sI.heap.get? b = some o ∧ b ≠ ce.locals := fun b o e => ⟨PySem.W.of_hideAll _ e, fun z => by
        rw [z, PySem.W.hideAll_none [ce.locals] (by simp)] at e; cases e⟩
      have gin : ∀ b o, b ≠ ce.locals → sI.heap.get? b = some o → (PySem.W.hideAll sI.heap [ce.locals]).get? b = some o := fun b o n e => PySem.W.hideAll_get _ e (by simpa using n)
      have sml : ∀ b o, s3.heap.get? b = some o → b ≠ ce.locals := fun b o e z => by
        have := Heap.lt_size e
        rw [z] at this
        exact absurd (Nat.lt_of_lt_of_le this hC) (Nat.lt_irrefl _)
      have un : Un (frs X.stack) fp H3 H s3.heap sI.heap := I.base
      have J : Inv X pins σ H { sI with heap := PySem.W.hideAll sI.heap [ce.locals] } := by
        refine I3.call' (ch := fp) (show sI.os = s3.os from I.os) ⟨fun b o e n hb hx => gin b o (sml b o e) (un.keep b o e n hb hx), fun b o e n hb hx => ?_, un.free, fun b o e hx => ?_, un.tups, un.frzs, un.tbls⟩ (fun b o e => ?_) I.bare fun b hb => ⟨(f3 b hb).1.2.2.2.1, (f3 b hb).1.2.1, (f3 b hb).1.2.2.2.2.1, (f3 b hb).1.2.2.2.2.2⟩
        · obtain ⟨sl, q⟩ := un.slot b o e n hb hx
          exact ⟨sl, gin b _ (sml b o e) q⟩
        · obtain ⟨o', q⟩ := un.there b o e hx
          exact ⟨o', gin b _ (sml b o e) q⟩
        · have hf : H ce.locals = none := I.free
          refine (I.hok b o e).stay (fun c v hc r => gin c v (fun z => ?_) r) (fun _ r => r) fun _ _ r => r
          rcases hc with hc | hc
          · rw [hc] at z
            rw [z, hf] at e; cases e
          · rw [z, hf] at hc; cases hc
      refine ⟨a, PySem.W.hideAll B [ce.locals], _, pins, σ, H, cls, d, rfl, J, fun b o e hb => ?_, fun b o e hnf => ?_, .inr (.inr (by rw [hst]; exact hh4)), na, os, ag, w⟩
      · obtain ⟨e1, n1⟩ := gne b o e
        exact PySem.W.hideAll_get _ (nb b o e1 hb) (by simpa using n1)
      · obtain ⟨e1, nC⟩ := gne b o e
        obtain ⟨sl1, q1⟩ := up b o e1 hnf
        obtain ⟨sl2, q2⟩ := up1 b _ q1 hnf
        obtain ⟨sl3, q3⟩ := up4 b _ ((sb.2 b nC).trans q2) hnf
        exact ⟨sl3, q3⟩
    first
      | exact wpAny_bind last
      | exact wpAny_bind (wpAny_pure (wpAny_bind last))
  rcases sky with ⟨hB, hn, hl, oe, vs, he, hz, hd, h1⟩ | fl | hh
  · exact HandSPX.look_newZ Zc.steady frm hl h0 he hB hn hd h1 hz fin
  · exact HandSPX.looks_onZ Zc.steady frm h0 fl fin
  · exact HandSPX.againZ h0 hh.2.2.2 (fin s'.heap hh (Heap.UpToSlots.refl _))

/-- a comprehension's reading, what is raised in its block wished for at the slots outside -/
def tLcX (W : WX) (wi : TI) (g : TG) (tt : WX → TT) (te : WX → TE) (vs : List Nat) : TE := fun σ H Q => tLc wi g (tt fun c d _ h => W c d σ h) (te fun c d _ h => W c d σ h) vs σ H Q
theorem lcx_core {X : Cx} {W : WX} {pins : List (Addr × Obj)} {s : Shared} {σ : L2.St} {H : Hp} {Q : VK} {elt tg iter : Expr} {ifs : List Expr} {scope : Scope} {own : List (Str × Nat)} {pos pos' : Pos} {wi : TI} {g : TG} {tt : WX → TT} {te : WX → TE} {use : Option (Value → Sem Unit)} {Qf : Value → Shared → Prop}
    (tk : TkF X W) (hc : X.calm = true) (hN : X.N.Nodup) (I : Inv X pins σ H s) (hi : PI X tg iter wi) (ok : BlkOk X.N X.env.scope scope own)
    (hg : ∀ (s : Shared) (H : Hp) (C : Addr) (cl : List (Str × Addr)) (fp : List Addr) (xe : Value → Shared → Prop), PG (blkX X s H scope (compEnvC scope cl C X.env) fp xe) tg g)
    (ht : ∀ (W' : WX) (s : Shared) (H : Hp) (C : Addr) (cl : List (Str × Addr)) (fp : List Addr) (xe : Value → Shared → Prop), TkF (blkX X s H scope (compEnvC scope cl C X.env) fp xe) W' → PTs (blkX X s H scope (compEnvC scope cl C X.env) fp xe) ifs (tt W'))
    (he : ∀ (W' : WX) (s : Shared) (H : Hp) (C : Addr) (cl : List (Str × Addr)) (fp : List Addr) (xe : Value → Shared → Prop), TkF (blkX X s H scope (compEnvC scope cl C X.env) fp xe) W' → PE (blkX X s H scope (compEnvC scope cl C X.env) fp xe) elt (te W'))
    (hs : ∀ x, foldedSetIterable iter X.env x = pure x) (h : tLcX W wi g tt te (own.map (·.2)) σ H Q)
    (hRR : ∀ D ce s' m H', Inv X pins σ H' s' → Q (.ref D) H' → s'.heap.Ns ce.locals m → FpOk X pins H' ce.locals → compEnds (model X.prog X.w) X.A X.xe use Qf (.ref D) ce (.ok .next) s') :
    wpAny (model X.prog X.w) X.A (comprehension (.ListComp elt [⟨tg, iter, ifs, 0⟩] scope pos) scope X.env pos' (newList []) false (eval iter X.env) use) Qf X.xe s := by
  have hfree : ∀ y ∈ scope.names, y.2 = .free → ∃ c, X.env.cells.lookup y.1 = some c := fun y hy e => (ok.free y hy e).elim (fun k => I.ok.has _ (.inl k)) fun k => I.ok.has _ (.inr k)
  have h : tLc wi g (tt fun c d _ h => W c d σ h) (te fun c d _ h => W c d σ h) (own.map (·.2)) σ H Q := h
  refine comprehension_at (use := use) rfl hs (closure_ok hfree) ok.kind (fun y hy e => (ok.uniq y hy).trans (congrArg some e)) (thn (hi.run pins s σ H _ I h) fun xv s1 hx => thn hx fun itv s2 h2 => ?_)
  obtain ⟨it, fp, tn, J, H2, e, I2, T, st2, f2, q⟩ := h2
  subst e
  refine wpAny_newObj_type (newEnv_comp ?_) (by show 0 ≤ sizeLine; decide)
  generalize zD : s2.heap.objs.size = D
  have dn : H2 D = none := I2.hok.fresh (Nat.le_of_eq zD)
  obtain ⟨Wm, ⟨m0, w0⟩, turn⟩ := q D dn
  generalize z3 : ({ s2 with heap := s2.heap.push { cls := .type "list", data := .seq ([] : List Value).toArray } } : Shared) = s3
  have I3 : Inv X pins σ (upd H2 D (.lst [])) s3 := by
    rw [← z3]
    refine I2.laid (t' := s2.toks) (fun b o e => Heap.get?_push_of_some _ e) (Nat.le_of_eq zD) ⟨Nat.zero_le _, [], 0, .nil, ?_⟩
    rw [← zD]
    exact Heap.get?_push_size _ rfl
  have p3 : s3.heap = s2.heap.push { cls := .type "list", data := .seq ([] : List Value).toArray } := by rw [← z3]
  have below : ∀ b ∈ fp, b < s2.heap.objs.size := fun b hb => by
    obtain ⟨o, e, _⟩ := T.obj _ _ st2 b hb
    exact Heap.lt_size e
  have f3 : ∀ b ∈ fp, FpOk X pins (upd H2 D (.lst [])) b ∧ b < s3.heap.objs.size := fun b hb => by
    have hlt := below b hb
    refine ⟨⟨?_, (f2 b hb).2⟩, by rw [p3, Heap.size_push]; exact Nat.lt_succ_of_lt hlt⟩
    rw [upd_ne (by rw [← zD]; exact Nat.ne_of_lt hlt)]
    exact (f2 b hb).1
  have st3 : tn 0 s3.heap := T.keep _ _ _ st2 fun b _ o e => by rw [p3]; exact Heap.get?_push_of_some _ e
  have I4 := block_start I3 ok hN f3
  generalize zcl : cellsFrom (s3.heap.objs.size + 1) scope.names (cloFrom X.env.cells scope.names []) = cl at I4
  have pg := hg s3 (upd H2 D (.lst [])) s3.heap.objs.size cl fp
  have pt := fun W' => ht W' s3 (upd H2 D (.lst [])) s3.heap.objs.size cl fp
  have pe := fun W' => he W' s3 (upd H2 D (.lst [])) s3.heap.objs.size cl fp
  show codeAny _ _ (.compStart (.ListComp elt [⟨tg, iter, ifs, 0⟩] scope pos) 0 (.ref it) (.ref D) (compEnvC scope cl s3.heap.objs.size X.env)) (compEnds (model X.prog X.w) X.A X.xe use Qf (.ref D) (compEnvC scope cl s3.heap.objs.size X.env)) { s3 with heap := pushCells (s3.heap.push { cls := .type "dict", data := .dict #[] }) scope.names }
  have nfp : ∀ b ∈ fp, (upd H2 D (.lst [])) b = none := fun b hb => (f3 b hb).1.1
  have cF : (compEnvC scope cl s3.heap.objs.size X.env).frame = X.env.frame := rfl
  generalize hce : compEnvC scope cl s3.heap.objs.size X.env = ce at I4 pg pt pe cF ⊢
  have cL : ce.locals = s3.heap.objs.size := by subst hce; rfl
  have tb := takes_blk (scope := scope) I3 cF (Nat.le_of_eq cL.symm) f3 tk
  generalize zE : notedBy (model X.prog X.w) X.A ce (CompFails (model X.prog X.w) X.A X.xe ce) = E' at tb
  have pg := pg E'
  have pt := pt _ _ tb
  have pe := pe _ _ tb
  generalize z5 : upd H2 D (.lst []) = H3 at I3 I4 pg pt pe w0 nfp f3 tb
  generalize z4 : ({ s3 with heap := pushCells (s3.heap.push { cls := .type "dict", data := .dict #[] }) scope.names } : Shared) = s4 at I4 ⊢
  have I4 : Inv (blkX X s3 H3 scope ce fp E') [] (wipe σ (own.map (·.2))) H3 s4 := ⟨⟨I4.ok.mod, I4.ok.kind, I4.ok.glob, I4.ok.blt, I4.ok.above, I4.ok.inj, I4.ok.has, I4.ok.cab, I4.ok.hd, I4.ok.frames, I4.ok.stk, I4.ok.exf, I4.ok.bs, I4.ok.bsz, I4.ok.noex, I4.ok.exfs, I4.ok.funs, I4.ok.frf⟩, I4.os, I4.bare, I4.base, I4.loc, I4.cell, I4.free, I4.freeC, I4.pin, I4.hok, I4.len⟩
  have st4 : tn 0 s4.heap := T.keep _ _ _ st3 fun b _ o e => by rw [← z4]; exact pushCells_keeps _ _ _ _ (Heap.get?_push_of_some _ e)
  have stat : ∀ {σ' : L2.St} {H' : Hp} {s' : Shared}, Inv (blkX X s3 H3 scope ce fp E') [] σ' H' s' → (∀ b ∈ fp, H' b = none) → ∀ b ∈ fp, FpOk (blkX X s3 H3 scope ce fp E') [] H' b := fun {σ' H' s'} I' hn b hb =>
    ⟨hn b hb, (I'.ok.exf b hb).1, I'.ok.exfs b hb, .inl hb, fun x c e => (I'.ok.exf b hb).2 x c e, fun p hp => absurd (show p ∈ ([] : List (Addr × Obj)) ++ [] from hp) (by simp)⟩
  have loop : codeAny (model X.prog X.w) X.A (.compLoop (.ListComp elt [⟨tg, iter, ifs, 0⟩] scope pos) 0 (.ref it) (.ref D) ce) (compEnds (model X.prog X.w) X.A X.xe use Qf (.ref D) ce) s4 := by
    refine compLoop_any (fun n s' => ∃ i H', Inv (blkX X s3 H3 scope ce fp E') [] (wipe σ (own.map (·.2))) H' s' ∧ tn i s'.heap ∧ (∀ b ∈ fp, H' b = none) ∧ Wm i n H') ?_ m0 ⟨0, H3, I4, st4, nfp, w0⟩
    rintro n s5 ⟨i, H5, I5, st5, n5, w5⟩
    have zE2 : (notedBy (model X.prog X.w) X.A ce fun e s' => compEnds (model X.prog X.w) X.A X.xe use Qf (.ref D) ce (.error e) s') = E' := zE
    rw [zE2]
    rcases turn i n H5 w5 with ⟨stop, qq⟩ | ⟨go, Nx, hNx, step⟩
    · refine thnF (T.done (blkX X s3 H3 scope ce fp E') rfl rfl rfl hc i [] s5 _ H5 (fun _ _ => False) I5 (stat I5 n5) st5 stop) fun r s6 ⟨hr, I6⟩ => ?_
      subst hr
      have I7 : Inv X pins σ H5 s6 := I3.call' (ch := fp) I6.os I6.base I6.hok I6.bare fun b hb => ⟨(f3 b hb).1.2.2.2.1, (f3 b hb).1.2.1, (f3 b hb).1.2.2.2.2.1, (f3 b hb).1.2.2.2.2.2⟩
      have nC : H5 ce.locals = none := I6.free
      obtain ⟨m, hn, _⟩ := I6.loc
      exact hRR D ce s6 m H5 I7 qq hn (by rw [cL] at nC ⊢; exact I3.fpOk (Nat.le_refl _) nC)
    · refine thnF (T.item (blkX X s3 H3 scope ce fp E') rfl rfl rfl hc i [] s5 _ H5 (fun _ _ => False) I5 (stat I5 n5) st5 go) fun r s6 ⟨u, hr, h6⟩ => ?_
      subst hr
      refine thnF h6 fun _ s7 ⟨x, H7, I7, r7, y7, st7, n7⟩ => ?_
      have I8 := I7.pinned (stat I7 n7) (T.obj _ _ st7)
      refine thn (pg.run _ s7 _ H7 x u _ I8 r7 (step x H7 y7)) fun _ s8 ⟨σ8, H8, I8, hw8, q8⟩ => ?_
      refine thn (pt.run _ s8 σ8 H8 _ I8 q8) fun b s9 ⟨H9, I9, q9⟩ => ?_
      have fin : ∀ {s' : Shared} {H' : Hp}, Inv (blkX X s3 H3 scope ce fp E') ([] ++ pinsAt fp s7.heap) σ8 H' s' → Nx H' → ∃ m, m < n ∧ ∃ i H', Inv (blkX X s3 H3 scope ce fp E') [] (wipe σ (own.map (·.2))) H' s' ∧ tn i s'.heap ∧ (∀ b ∈ fp, H' b = none) ∧ Wm i m H' := fun {s' H'} I' nx => by
        obtain ⟨m', hm, w'⟩ := hNx H' nx
        have kept : ∀ b ∈ fp, ∀ o, s7.heap.get? b = some o → s'.heap.get? b = some o ∧ H' b = none := fun b hb o e =>
          have z := I'.pin (b, o) (List.mem_append_right _ (List.mem_append_right _ (mem_pinsAt hb e)))
          ⟨z.1, z.2.1⟩
        have hl : (wipe σ (own.map (·.2))).length = σ8.length := by rw [← hw8, wipe_length]
        refine ⟨m', hm, i + 1, H', (I'.unpinned (pins := [])).weak hl (fun j v e => ?_), T.keep _ _ _ st7 fun b hb o e => (kept b hb o e).1, fun b hb => ?_, w'⟩
        · rw [← hw8] at e
          exact (wipe_some e).1
        · obtain ⟨o, e, _⟩ := T.obj _ _ st7 b hb
          exact (kept b hb o e).2
      cases b with
      | false =>
        simp only [Bool.false_eq_true, if_false] at q9 ⊢
        exact fin I9 q9
      | true =>
        simp only [if_true] at q9 ⊢
        refine thn (pe.run _ s9 σ8 H9 _ I9 q9) fun z s10 ⟨yv, H10, I10, r10, acc, hD10, hz10, nx⟩ => ?_
        exact app_ok (X := blkX X s3 H3 scope ce fp E') I10 hD10 hz10 r10 fun s11 I11 => fin I11 nx
  exact codeAny_compStart_list loop (T.self X.A 0 _ _ _ st4 loop)
section
variable {X : Cx} {W : WX} {elt tg iter : Expr} {ifs : List Expr} {scope : Scope} {own : List (Str × Nat)} {pos : Pos} {wi : TI} {g : TG} {tt : WX → TT} {te : WX → TE}
theorem pe_lcX (tk : TkF X W) (hc : X.calm = true) (hN : X.N.Nodup) (hi : PI X tg iter wi) (ok : BlkOk X.N X.env.scope scope own)
    (hg : ∀ (s : Shared) (H : Hp) (C : Addr) (cl : List (Str × Addr)) (fp : List Addr) (xe : Value → Shared → Prop), PG (blkX X s H scope (compEnvC scope cl C X.env) fp xe) tg g)
    (ht : ∀ (W' : WX) (s : Shared) (H : Hp) (C : Addr) (cl : List (Str × Addr)) (fp : List Addr) (xe : Value → Shared → Prop), TkF (blkX X s H scope (compEnvC scope cl C X.env) fp xe) W' → PTs (blkX X s H scope (compEnvC scope cl C X.env) fp xe) ifs (tt W'))
    (he : ∀ (W' : WX) (s : Shared) (H : Hp) (C : Addr) (cl : List (Str × Addr)) (fp : List Addr) (xe : Value → Shared → Prop), TkF (blkX X s H scope (compEnvC scope cl C X.env) fp xe) W' → PE (blkX X s H scope (compEnvC scope cl C X.env) fp xe) elt (te W'))
    (hs : ∀ x, foldedSetIterable iter X.env x = pure x) : PE X (.ListComp elt [⟨tg, iter, ifs, 0⟩] scope pos) (tLcX W wi g tt te (own.map (·.2))) := by
  refine ⟨fun pins s σ H Q I h => ?_⟩
  rw [eval_ListComp]
  refine lcx_core tk hc hN I hi ok hg ht he hs h fun D ce s' m H' I' q hn f => ⟨m, hn, fun h2 sb => ?_⟩
  exact ⟨.ref D, H', I'.turned (t' := s'.toks) (fun b o hb e => (sb.2 b hb).trans e) f.1 f.2.1 f.2.2.2.1 f.2.2.2.2.1 f.2.2.2.2.2, rfl, q⟩
/-- name = [..] on one line -/
theorem ps_setLcX {i : Nat} {y : Str} {py spos : Pos} (tk : TkF X W) (hc : X.calm = true) (hN : X.N.Nodup) (hy : X.N[i]? = some y) (hyl : X.env.scope.names.lookup y = some .local)
    (hsw : swapsWith (.ListComp elt [⟨tg, iter, ifs, 0⟩] scope pos) (some (.Name y py)) spos.line X.env = pure true) (hi : PI X tg iter wi) (ok : BlkOk X.N X.env.scope scope own)
    (hg : ∀ (s : Shared) (H : Hp) (C : Addr) (cl : List (Str × Addr)) (fp : List Addr) (xe : Value → Shared → Prop), PG (blkX X s H scope (compEnvC scope cl C X.env) fp xe) tg g)
    (ht : ∀ (W' : WX) (s : Shared) (H : Hp) (C : Addr) (cl : List (Str × Addr)) (fp : List Addr) (xe : Value → Shared → Prop), TkF (blkX X s H scope (compEnvC scope cl C X.env) fp xe) W' → PTs (blkX X s H scope (compEnvC scope cl C X.env) fp xe) ifs (tt W'))
    (he : ∀ (W' : WX) (s : Shared) (H : Hp) (C : Addr) (cl : List (Str × Addr)) (fp : List Addr) (xe : Value → Shared → Prop), TkF (blkX X s H scope (compEnvC scope cl C X.env) fp xe) W' → PE (blkX X s H scope (compEnvC scope cl C X.env) fp xe) elt (te W'))
    (hs : ∀ x, foldedSetIterable iter X.env x = pure x) : PS X (.Assign [.Name y py] (.ListComp elt [⟨tg, iter, ifs, 0⟩] scope pos) spos) (tAsg (tLcX W wi g tt te (own.map (·.2))) (gName i)) := by
  refine ⟨fun pins s σ H D I h => ?_⟩
  rw [exec_Assign_Name_used _ _ _ _ hsw]
  refine wpAny_bind (wpAny_standAt (wpAny_bind ?_))
  have h : tLcX W wi g tt te (own.map (·.2)) σ H (fun x H1 => gName i x σ H1 D.nx) := h
  refine wpAny_bind (thn (lcx_core (Qf := fun _ s' => SP X pins D .next s') (use := some (assign (.Name y py) X.env)) tk hc hN I hi ok hg ht he hs h fun D' ce s' m H' I' q hn f => ?_) fun _ s' hq => wpAny_pure (wpAny_pure hq))
  show wpAny _ _ (assign (.Name y py) X.env (.ref D')) _ _ _
  refine wpAny_assign_Name (store_ok2 (v := V.ref D') I' hN hy (.inl hyl) rfl (fun s2 I2 ⟨a, sb, ha⟩ => ?_) (.inr hyl))
  have ne : ce.locals ≠ a := ha.elim (fun z => by rw [z]; exact f.2.1) fun z e => f.2.2.2.2.1 y a z e.symm
  refine ⟨m, hn.sameBut sb ne, fun h3 sb3 => ?_⟩
  exact ⟨_, H', I2.turned (t' := s2.toks) (fun b o hb e => (sb3.2 b hb).trans e) f.1 f.2.1 f.2.2.2.1 f.2.2.2.2.1 f.2.2.2.2.2, q⟩
end
end CompX

end
section
set_option Elab.async false
set_option linter.all false
set_option maxRecDepth 100000
set_option maxHeartbeats 4000000
/-! an exception class whose __init__(self, p) says super().__init__(p), then self.f = p -/
namespace XArg
open PySem PySem.W PySem.Calls PyProof.Rows PySem.Spec L2 PySem.Builtin PySem.Builtin.ObjectAttr
section
variable {prog : Program} {w : World} {A : Around} {E : Value → Shared → Prop} {K : Frag} {C : Addr} {B newId initId : String} {bmB : List Value} {f : Str}
theorem eval_sup (p0 p1 p2 p3 p4 : Pos) (p : Str) (env : Env) (hl : (p2.endLine == p4.line) = true) : eval (.Call (.Attribute (.Call (.Name "super" p0) [] [] p1) "__init__" p2) [.Name p p3] [] p4) env = (do
      let ov ← attributeBase (.Call (.Name "super" p0) [] [] p1) "__init__" env (eval (.Call (.Name "super" p0) [] [] p1) env)
      standAt p2.atName
      let (f, first) ← holding [ov] (getMethod ov "__init__" (do return (← importBound (.Call (.Name "super" p0) [] [] p1) env).getD true))
      callWith p4 f first (backTo p4 (starEach [.Name p p3] env)) []) := by
  show (do
    let ov ← attributeBase (.Call (.Name "super" p0) [] [] p1) "__init__" env (eval (.Call (.Name "super" p0) [] [] p1) env)
    standAt p2.atName
    methodCall (.Call (.Name "super" p0) [] [] p1) "__init__" p2 p4 env ov 1 (backTo p4 (starEach [.Name p p3] env)) []) = _
  unfold methodCall methodCallPos
  have hf : methodCallForm 1 (backTo p4 (starEach [.Name p p3] env)) [] = true := rfl
  rw [hf, hl]
  rfl
theorem inter_fn (fd : FuncData) (L a : Addr) (h : fd.scope.kind = .function) : interactive (callEnv fd L a) = false := by
  unfold interactive
  simp [callEnv, newEnv, h]
/-- what stands in the written part -/
structure ArgC (prog : Program) (K : Frag) (C : Addr) (B newId initId : String) (bmB : List Value) (f : Str) : Prop where
  ini : excInitIn K C bmB newId = true
  ovr : excOver K C bmB = true
  sup : ks_superIn K C C "__init__" = some (some (.builtin initId))
  sub : mroIn K C (.ref C) = some true
  subB : subIn K (.ref C) (.type B) = some true
  sa : findIn K (.ref C) "__setattr__" = some (some (.builtin "object.__setattr__"))
  tk : takerIn K C f = some none
  hd : hasDictIn K C = true
  st : nsIn K cStatics "thirdparty.any" = some none
  top : (prog.main.scope.names.lookup ("super" : Str)).isSome = false
  fn : ∃ (fI : Addr) (od : Option Addr) (osl : Array (Option Value)) (name qual : Str) (params : Arguments) (scope : Scope) (dV kV doc pm ct : Value) (an : Option Addr) (cda cc : Addr) (sf p : Str) (p0 p1 p2 p3 p4 p5 p6 p7 p8 p9 : Pos) (sa : PySem.Arg) (ccl : Value) (cdd : Option Addr) (vs : Array Value) (ccs : Array (Option Value)) (file : Str) (tf : Tok) (cl : Value) (cld : Option Addr) (csl : Array (Option Value)),
    findIn K (.ref C) "__init__" = some (some (.ref fI)) ∧
    K.lookup fI = some ⟨.type "function", od, .func (ksFn name qual params [.Expr (.Call (.Attribute (.Call (.Name "super" p0) [] [] p1) "__init__" p2) [.Name p p3] [] p4) p5, .Assign [.Attribute (.Name sf p6) f p7] (.Name p p8) p9] scope dV kV doc pm an (.ref cda) ct cc), osl⟩ ∧
    codeIn K (.ref cda) qual = true ∧ K.lookup cda = some ⟨ccl, cdd, .fields vs, ccs⟩ ∧ vs[2]? = some (.str file tf) ∧ ((prog.main.file : Str) == file) = true ∧ K.lookup cc = some ⟨cl, cld, .cell (some (.ref C)), csl⟩ ∧
    (params.posonlyargs ++ params.args).head? = some sa ∧ sa.arg = sf ∧ sf ≠ p ∧ scope.names.lookup sf = some .local ∧ scope.names.lookup p = some .local ∧ scope.names.lookup ("super" : Str) = some .globalImplicit ∧ scope.names.lookup ("__class__" : Str) = some .free ∧
    (∀ x ∈ scope.names, x.2 ≠ .cell) ∧ scope.isCoroutine = false ∧ scope.isGenerator = false ∧ scope.kind = .function ∧ (sf == ("__debug__" : Str)) = false ∧ (p == ("__debug__" : Str)) = false ∧ (p2.endLine == p4.line) = true ∧
    ∀ (x y : Value), bindArgs (ksFn name qual params [.Expr (.Call (.Attribute (.Call (.Name "super" p0) [] [] p1) "__init__" p2) [.Name p p3] [] p4) p5, .Assign [.Attribute (.Name sf p6) f p7] (.Name p p8) p9] scope dV kV doc pm an (.ref cda) ct cc) ⟨[x, y], []⟩ = pure [(sf, x), (p, y)]

theorem call_argC (FB : ExcBaseFacts B newId initId bmB) (KF : KxsFacts B initId) (SF : StoreFacts B bmB "object.__setattr__" "object") (T : ArgC prog K C B newId initId bmB f) {v : Value} {s : Shared} {mg mb : Str → Option Value} {Q : Value → Shared → Prop}
    (X : K.In s.heap) (hroom : (A.under (.builtin "type.__call__" ⟨[.ref C, v], []⟩)).depth < recursionLimit) (lim : s.heap.NoLimit) (g : s.heap.Ns mainGlobals mg) (hms : mg "super" = none) (b : s.heap.Ns builtinsNs mb) (hmb : mb "super" = some (.type "super"))
    (hq : ∀ h' tk' e dx t1, (∀ b o, s.heap.get? b = some o → h'.get? b = some o) → s.heap.objs.size ≤ e → s.heap.objs.size ≤ dx → dx ≠ e → h'.get? e = some ({ cls := .ref C, dict := some dx, data := .fields #[.ref t1, .none, .none, .none, .bool false, .none] } : Obj) →
      h'.Ns1 dx (fun y => if y = f then some v else none) → Q (.ref e) { s with heap := h', toks := tk' }) :
    wpAny (model prog w) A (call (.ref C) [v]) Q E s := by
  obtain ⟨nm, N', qn, bs, bm, hdct, sn, sub, ab, col, dd, k0, k1, k2, k3, k5, hC, hT⟩ := excInit_of X T.ini
  obtain ⟨fI, od, osl, name, qual, params, scope, dV, kV, doc, pm, ct, an, cda, cc, sf, p, p0, p1, p2, p3, p4, p5, p6, p7, p8, p9, sa, ccl, cdd, vs, ccs, file, tf, cl, cld, csl, a1, a2, a3, a4, a5, a6, a7, a8, a9, a10, a11, a12, a13, a14, a15, a16, a17, a18, a19, a20, a22, a21⟩ := T.fn
  obtain ⟨hp, gs, dr, tk, os⟩ := s
  have X : K.In hp := X
  refine wpAny_call (HandSPX.call_own FB hT hC (looks_findIn X a1) (fun self => exc_bind (X _ _ a2) rfl self) (by show 1 ≤ sizeLine; rw [sizeLine_eq]; omega) ?_)
  have kk : ∀ b o, hp.get? b = some o → ((hp.push (kdv_tup [v])).push (HandSPX.excO C hp.objs.size)).get? b = some o := fun b o e => Heap.get?_push_of_some _ (Heap.get?_push_of_some _ e)
  have e0 : ((hp.push (kdv_tup [v])).push (HandSPX.excO C hp.objs.size)).get? (hp.objs.size + 1) = some (HandSPX.excO C hp.objs.size) := by heap_get
  have t0 : ((hp.push (kdv_tup [v])).push (HandSPX.excO C hp.objs.size)).get? hp.objs.size = some (kdv_tup [v]) := by heap_get
  have zs : ((hp.push (kdv_tup [v])).push (HandSPX.excO C hp.objs.size)).objs.size = hp.objs.size + 2 := by rw [Heap.size_push, Heap.size_push]
  generalize (hp.push (kdv_tup [v])).push (HandSPX.excO C hp.objs.size) = h0 at kk e0 t0 zs ⊢
  have X0 : K.In h0 := X.keeps kk
  refine ks_codeAny_call_defAt (binds := [(sf, .ref (hp.objs.size + 1)), (p, v)]) hroom (X0 _ _ a2) rfl (lim.keeps kk) (codeRec_of X0 a3) rfl (fun M A E Q hq => by first | exact wpAny_of_eq (a21 _ _) hq | (rw [a21]; exact wpAny_pure hq)) a15 (fun x hx => ?_) (fun h1 hns k1 => ?_) a16 a17 a18
  · rcases List.mem_cons.mp hx with rfl | hx
    · exact a11
    · rcases List.mem_cons.mp hx with rfl | hx
      · exact a12
      · cases hx
  have kh : ∀ b o, hp.get? b = some o → h1.get? b = some o := fun b o e => k1 b o (kk b o e)
  have mS : (fun y => [(sf, Value.ref (hp.objs.size + 1)), (p, v)].reverse.lookup y) sf = some (.ref (hp.objs.size + 1)) := by
    show [(p, v), (sf, Value.ref (hp.objs.size + 1))].lookup sf = _
    rw [List.lookup_cons, show (sf == p) = false from by simpa using a10, List.lookup_cons, beq_self_eq_true]
  have mP : (fun y => [(sf, Value.ref (hp.objs.size + 1)), (p, v)].reverse.lookup y) p = some v := by
    show [(p, v), (sf, Value.ref (hp.objs.size + 1))].lookup p = _
    rw [List.lookup_cons, beq_self_eq_true]
  generalize (fun y => [(sf, Value.ref (hp.objs.size + 1)), (p, v)].reverse.lookup y) = m at hns mS mP
  have X1 : K.In h1 := X.keeps kh
  obtain ⟨oC, hC1, hC2⟩ : ∃ oC, h1.get? C = some oC ∧ ∃ cd, oC.data = .cls cd := ⟨_, kh _ _ hC, _, rfl⟩
  obtain ⟨cd, hC2⟩ := hC2
  have e1 := k1 _ _ e0
  have t1 := k1 _ _ t0
  refine ks_wpAt_execs_cons (ks_wpAt_Expr_any (ks_wpAt_MethodCall ?_ (eval_sup _ _ _ _ _ _ _ a22)) (inter_fn _ _ _ a18))
  refine ks_wpAt_super_base a13 a14 rfl rfl (X1 _ _ a2) rfl a8 rfl (X1 _ _ a4) rfl a5 a6 T.top ?_
  refine ks_loadName_global a18 a13 (loadGlobal_builtin (g.keeps kh) hms (b.keeps kh) hmb ⟨rfl, ?_⟩)
  refine wpAny_loadName_free a18 a14 rfl ⟨_, X1 _ _ a7, rfl⟩ ?_
  refine wpAny_loadName_local a18 (by rw [a9]; exact a11) hns (by rw [a9]; exact mS) ?_
  refine ks_wpAny_isType_cls hC1 hC2 ⟨rfl, ?_⟩
  refine ks_wpAny_call_super hC1 hC2 e1 rfl (fun c e => nomatch e) (looks_mroIn X1 T.sub) (fun h2 eso k2 => ?_)
  have lL : hp.objs.size ≤ h0.objs.size := by rw [zs]; exact Nat.le_add_right _ _
  have nohp : ∀ a, hp.objs.size ≤ a → hp.get? a = none := fun a ha => by
    cases q : hp.get? a with
    | none => rfl
    | some o => exact absurd (Heap.lt_size q) (Nat.not_lt.mpr ha)
  have l1 : h0.objs.size < h1.objs.size := by
    obtain ⟨oL, _, _, hL, _⟩ := hns
    exact Heap.lt_size hL
  have F2 : Fr hp h0.objs.size h2 m := ⟨hns.keeps k2, fun b o e => k2 b o (kh b o e), lL⟩
  have N2 : News hp h0.objs.size h2 [(h1.objs.size, ks_superObj C (hp.objs.size + 1) C), (hp.objs.size + 1, excObj C hp.objs.size none .none), (hp.objs.size, kdv_tup [v])] := fun q hq => by
    rcases List.mem_cons.mp hq with rfl | hq
    · exact ⟨eso, (Nat.ne_of_lt l1).symm, nohp _ (Nat.le_trans lL (Nat.le_of_lt l1))⟩
    · rcases List.mem_cons.mp hq with rfl | hq
      · exact ⟨k2 _ _ e1, by show hp.objs.size + 1 ≠ h0.objs.size; rw [zs]; omega, nohp _ (Nat.le_succ _)⟩
      · rcases List.mem_cons.mp hq with rfl | hq
        · exact ⟨k2 _ _ t1, by show hp.objs.size ≠ h0.objs.size; rw [zs]; omega, nohp _ (Nat.le_refl _)⟩
        · cases hq
  refine kxs_method (ox := excObj C hp.objs.size none .none) (odx := none) KF F2 X N2 List.mem_cons_self ⟨k2 _ _ e1, rfl, rfl, trivial⟩ T.st T.sup T.subB rfl (fun q3 h3 F3 N3 lt3 => ?_)
  refine kxs_callWith1 N3 List.mem_cons_self (Calls.spliced_cons (ESX.ldL F3.ns mP (Calls.spliced_nil ⟨kxs_at N3 List.mem_cons_self, ?_⟩) a18 a12 a20))
  refine kxs_call F3 X N3 FB T.ini List.mem_cons_self (nw := fun o => [(q3, kxs_mw initId (hp.objs.size + 1)), (h1.objs.size, ks_superObj C (hp.objs.size + 1) C), (hp.objs.size + 1, o), (hp.objs.size, kdv_tup [v])]) (.tail (fun z => absurd (lt3 (hp.objs.size + 1, excObj C hp.objs.size none .none) (by simp)) (by rw [show q3 = hp.objs.size + 1 from z]; exact Nat.lt_irrefl _)) (.tail (fun z => by have z : h1.objs.size = hp.objs.size + 1 := z; omega) (.head fun q hq => by
    rcases List.mem_cons.mp hq with rfl | hq
    · exact fun z => absurd (show hp.objs.size = hp.objs.size + 1 from z) (by omega)
    · cases hq))) (by show 1 ≤ sizeLine; rw [sizeLine_eq]; omega) (fun t4 h4 F4 N4 lt4 => ?_)
  have e4 : h4.get? (hp.objs.size + 1) = some (excObj C t4 none .none) := (N4 (hp.objs.size + 1, excObj C t4 none .none) (by simp)).1
  have X4 : K.In h4 := X.keeps F4.keep
  refine ks_wpAt_execs_cons (ks_wpAt_Assign_Attr (wpAt_of_wpAny (ESX.ldL F4.ns mP ?_ a18 a12 a20)))
  refine ESX.ldL F4.ns mS ?_ a18 a11 a19
  have I4 : InstAt h4 (hp.objs.size + 1) (excObj C t4 none .none) C none := ⟨e4, rfl, rfl, trivial⟩
  obtain ⟨cd, hcd, hh⟩ := any_some T.hd
  have L4 : (hp.objs.size + 1 : Nat) < h4.objs.size := Heap.lt_size e4
  refine set_plain X4 I4 T.sa (osa_openX (r := none) SF X4 I4 T.ovr T.tk (fun bb => ?_))
  have hcls : Looks (model prog w) h4 (classData C) cd := looks_clsIn X4 hcd
  show wpAny _ _ (storeInOwnDict (.ref (hp.objs.size + 1)) (.ref C) (.str f _) f v bb) _ _ _
  obtain ⟨cn, cb, cm, cns, cq, ch, csn, csb, cab, ccol, cdel⟩ := cd
  dsimp only at hh
  subst hh
  unfold storeInOwnDict ownDictForStores
  repeat (first | with_reducible refine HandSPX.store_in_new ?_ ?_ | with_reducible refine wpAny_loadPart_at e4 ?_ | with_reducible refine hcls.at ?_ | wp_step)
  · exact ⟨_, #[], _, (Heap.get?_update_ne _ _ _ _ (Nat.ne_of_gt L4)).trans (Heap.get?_push_at rfl rfl), rfl, fun e he => absurd he (by simp), fun _ => rfl⟩
  · intro h5 tk5 hn5 hs5
    have keep : ∀ b o, b ≠ hp.objs.size + 1 → h4.get? b = some o → h5.get? b = some o := fun b o hb ho => (hs5.2 b (Nat.ne_of_lt (Heap.lt_size ho))).trans ((Heap.get?_update_ne _ _ _ _ hb).trans (Heap.get?_push_of_some _ ho))
    have e5 : h5.get? (hp.objs.size + 1) = some ({ cls := .ref C, dict := some h4.objs.size, data := .fields #[.ref t4, .none, .none, .none, .bool false, .none] } : Obj) :=
      (hs5.2 _ (Nat.ne_of_lt L4)).trans (Heap.get?_update_self _ (Heap.get?_push_of_some _ e4) rfl)
    refine wpAt_of_wpAny (wpAny_execs_nil ?_)
    exact ⟨rfl, hq h5 _ (hp.objs.size + 1) h4.objs.size t4 (fun b o hb => keep b o (Nat.ne_of_lt (Nat.lt_succ_of_lt (Heap.lt_size hb))) (F4.keep b o hb)) (Nat.le_succ _) (Nat.le_of_lt (Nat.lt_trans (Nat.lt_succ_self _) L4)) (Nat.ne_of_gt L4) e5 hn5⟩
end
/-! ### a check of all that -/
def pNames : List Str := ["place", "plan", "number", "line"]
theorem bind2 (name qual : Str) (e1 e2 : Option Expr) (q1 q2 : Pos) (p : Str) (hp : p ∈ pNames) (body : List Stmt) (scope : Scope) (kV doc pm : Value) (an : Option Addr) (cdv ct : Value) (cc : Addr) (x y : Value) :
    bindArgs (ksFn name qual ⟨[], [⟨"self", e1, q1⟩, ⟨p, e2, q2⟩], none, [], [], none, []⟩ body scope .none kV doc pm an cdv ct cc) ⟨[x, y], []⟩ = (pure [(("self" : Str), x), (p, y)] : Sem (List (Str × Value))) := by
  simp only [pNames, List.mem_cons, List.not_mem_nil, or_false] at hp
  rcases hp with rfl | rfl | rfl | rfl <;> rfl
/-- the body says super().__init__(p), self.f = p -/
def bodyB (f p : Str) : List Stmt → Bool
  | [.Expr (.Call (.Attribute (.Call (.Name n0 _) [] [] _) n1 p2) [.Name q _] [] p4) _, .Assign [.Attribute (.Name sf _) g _] (.Name r _) _] => decide (n0 = "super") && decide (n1 = "__init__") && decide (q = p) && decide (r = p) && decide (sf = "self") && decide (g = f) && (p2.endLine == p4.line)
  | _ => false
theorem bodyB_ok {f p : Str} {b : List Stmt} (h : bodyB f p b = true) : ∃ p0 p1 p2 p3 p4 p5 p6 p7 p8 p9, b = [.Expr (.Call (.Attribute (.Call (.Name "super" p0) [] [] p1) "__init__" p2) [.Name p p3] [] p4) p5, .Assign [.Attribute (.Name "self" p6) f p7] (.Name p p8) p9] ∧ (p2.endLine == p4.line) = true := by
  unfold bodyB at h
  split at h
  · simp only [Bool.and_eq_true, decide_eq_true_eq] at h
    obtain ⟨⟨⟨⟨⟨⟨rfl, rfl⟩, rfl⟩, rfl⟩, rfl⟩, rfl⟩, h⟩ := h
    exact ⟨_, _, _, _, _, _, _, _, _, _, rfl, h⟩
  · cases h
def scopeB (p : Str) (sc : Scope) : Bool := (match sc.kind with | .function => true | _ => false) && !sc.isCoroutine && !sc.isGenerator && (sc.names.all fun x => match x.2 with | .cell => false | _ => true) && sc.names.lookup ("self" : Str) == some .local && sc.names.lookup p == some .local && sc.names.lookup ("super" : Str) == some .globalImplicit && sc.names.lookup ("__class__" : Str) == some .free
def fdB (K : Frag) (file : Str) (f : Str) (C : Addr) (fd : FuncData) : Bool := match fd.body, fd.params, fd.closure, fd.defaults, fd.code with
  | .stmts b, ⟨[], [⟨s1, _, _⟩, ⟨p, _, _⟩], none, [], [], none, []⟩, [(cn, cc)], .none, .ref cda => decide (s1 = "self") && pNames.contains p && decide (p ∈ pNames) && decide (cn = "__class__") && bodyB f p b && scopeB p fd.scope && fd.globals == mainGlobals && fd.builtins == builtinsNs && codeIn K (.ref cda) fd.qualname &&
      (match K.lookup cda with | some ⟨_, _, .fields vs, _⟩ => (match vs[2]? with | some (Value.str fl _) => file == fl | _ => false) | _ => false) && (match K.lookup cc with | some ⟨_, _, .cell (some (.ref D)), _⟩ => D == C | _ => false)
  | _, _, _, _, _ => false
def argB (K : Frag) (file : Str) (C : Addr) (B newId initId : String) (bmB : List Value) (f : Str) : Bool := excInitIn K C bmB newId && excOver K C bmB && decide (ks_superIn K C C "__init__" = some (some (.builtin initId))) && decide (mroIn K C (.ref C) = some true) && decide (subIn K (.ref C) (.type B) = some true) &&
  decide (findIn K (.ref C) "__setattr__" = some (some (.builtin "object.__setattr__"))) && decide (takerIn K C f = some none) && hasDictIn K C && decide (nsIn K cStatics "thirdparty.any" = some none) && (match findIn K (.ref C) "__init__" with
    | some (some (.ref fI)) => (match K.lookup fI with | some ⟨.type ty, _, .func fd, _⟩ => decide (ty = "function") && fdB K file f C fd | _ => false)
    | _ => false)
theorem argB_ok {prog : Program} {K : Frag} {C : Addr} {B newId initId : String} {bmB : List Value} {f : Str} (ht : (prog.main.scope.names.lookup ("super" : Str)).isSome = false) (h : argB K prog.main.file C B newId initId bmB f = true) : ArgC prog K C B newId initId bmB f := by
  unfold argB at h
  simp only [Bool.and_eq_true, decide_eq_true_eq] at h
  obtain ⟨⟨⟨⟨⟨⟨⟨⟨⟨g1, g2⟩, g3⟩, g4⟩, g5⟩, g6⟩, g7⟩, g8⟩, g9⟩, g10⟩ := h
  refine ⟨g1, g2, g3, g4, g5, g6, g7, g8, g9, ht, ?_⟩
  cases q : findIn K (.ref C) "__init__" with
  | none => rw [q] at g10; cases g10
  | some r =>
    rw [q] at g10
    split at g10
    · rename_i fI hr
      cases hr
      split at g10
      · rename_i ty od fd osl hl
        obtain ⟨ht, hf⟩ := Bool.and_eq_true_iff.mp g10
        have ht := of_decide_eq_true ht
        subst ht
        obtain ⟨name, qual, params, bd, scope, gl, cls, df, kV, doc, pm, an, cdv, ct, bl⟩ := fd
        unfold fdB at hf
        simp only at hf
        split at hf
        · rename_i b s1 e1 q1 p e2 q2 cn cc cda
          simp only [Bool.and_eq_true, decide_eq_true_eq] at hf
          obtain ⟨⟨⟨⟨⟨⟨⟨⟨⟨⟨w1, w2⟩, w3⟩, w4⟩, w5⟩, w6⟩, w7⟩, w8⟩, w9⟩, w10⟩, w11⟩ := hf
          subst w1 w4
          obtain rfl := eq_of_beq w7
          obtain rfl := eq_of_beq w8
          obtain ⟨p0, p1, p2, p3, p4, p5, p6, p7, p8, p9, rfl, hln⟩ := bodyB_ok w5
          unfold scopeB at w6
          simp only [Bool.and_eq_true, beq_iff_eq, Bool.not_eq_true'] at w6
          obtain ⟨⟨⟨⟨⟨⟨⟨u1, u2⟩, u3⟩, u4⟩, u5⟩, u6⟩, u7⟩, u8⟩ := w6
          split at w10
          · rename_i ccl cdd vs ccs hc
            split at w10
            · rename_i fl tf hv
              split at w11
              · rename_i cl cld D csl hd
                obtain rfl := eq_of_beq w11
                refine ⟨fI, od, osl, name, qual, _, scope, .none, kV, doc, pm, ct, an, cda, cc, "self", p, p0, p1, p2, p3, p4, p5, p6, p7, p8, p9, _, ccl, cdd, vs, ccs, fl, tf, cl, cld, csl, rfl, hl, w9, hc, hv, w10, hd, rfl, rfl, ?_, u5, u6, u7, u8, fun x hx e => ?_, u2, u3, ?_, by decide, ?_, hln, bind2 _ _ _ _ _ _ _ w3 _ _ _ _ _ _ _ _ _⟩
                · rintro rfl; exact absurd w3 (by decide)
                · have := List.all_eq_true.mp u4 x hx
                  rw [e] at this; cases this
                · cases hk : scope.kind <;> rw [hk] at u1 <;> first | rfl | cases u1
                · have hp := w3
                  simp only [pNames, List.mem_cons, List.not_mem_nil, or_false] at hp
                  rcases hp with rfl | rfl | rfl | rfl <;> decide
              · cases w11
            · cases w10
          · cases w10
        · cases hf
      · cases g10
    · cases g10
section
variable {X : Cx} {C : Addr} {B newId initId : String} {bmB : List Value} {f x : Str} {e : Expr} {te : TE} {p pos : Pos}
/-- C(e), such a class -/
theorem pmk_arg (FB : ExcBaseFacts B newId initId bmB) (KF : KxsFacts B initId) (SF : StoreFacts B bmB "object.__setattr__" "object") (T : ArgC X.prog X.K C B newId initId bmB f) (gC : X.mg x = some (.ref C)) (kC : keepIn X.K (.ref C) = true) (r : Raises X (.ref C)) (hg : Gl X x)
    (hdb : (x == ("__debug__" : Str)) = false) (hms : X.mg "super" = none) (hdp : X.A.depth + 5 < recursionLimit) (he : PE X e te) (hst : starEach [e] X.env = [(false, eval e X.env)]) :
    PMk X (.Call (.Name x p) [e] [] pos) (fun σ H Q => te σ H fun y H1 => ∃ z, [y] = [z] ∧ ∀ dx, H1 dx = none → Q (.ref C) (some dx) (upd H1 dx (.xd [(f, z)]))) := by
  intro pins s σ H Q I hw
  refine wpAny_Call_Name_kw (ld_glob I hg gC ?_ hdb)
  have pa : PA X [e] (tCons te tNil) := pa_cons he pa_nil (by rw [hst] <;> rfl)
  refine PySem.W.callWith_K (h₀ := X.base) I.ok.mod.kin kC (thn (pa.run pos pins s σ H (fun vs H1 => ∃ y, vs = [y] ∧ ∀ dx, H1 dx = none → Q (.ref C) (some dx) (upd H1 dx (.xd [(f, y)]))) I hw) fun us s1 ⟨vs, H1, I1, r1, y, ev, q⟩ => ⟨I1.kIn, ?_⟩) hst rfl
  subst ev
  obtain ⟨u, rfl, ry⟩ : ∃ u, us = [u] ∧ RelV y u := by
    cases r1 with
    | cons a b => cases b; exact ⟨_, rfl, a⟩
  obtain ⟨mm, fr⟩ := I1.fr
  obtain ⟨mb, hb1, hb2⟩ := I1.ok.mod.blt
  show wpAny _ _ (call (.ref C) [u]) _ _ _
  refine call_argC FB KF SF T I1.kIn (by show X.A.depth + 1 < recursionLimit; omega) (I1.ok.mod.nolimit.keeps fr.keep) (I1.ok.mod.glob.keeps fr.keep) hms (hb1.keeps fr.keep) ((hb2 _ (by decide +kernel)).trans (by decide +kernel)) fun h' tk' a dx t1 k la ld ne ha hn => ?_
  obtain ⟨G, y1, y2⟩ := restrict h' fun b => (s1.heap.get? b).isSome || b == dx
  have kG : ∀ b o, s1.heap.get? b = some o → G.get? b = some o := fun b o e => by
    rw [y1 b (by simp [e])]
    exact k b o e
  have fresh : ∀ b, s1.heap.objs.size ≤ b → s1.heap.get? b = none := fun b hb => by
    cases q : s1.heap.get? b with
    | none => rfl
    | some o => exact absurd (Heap.lt_size q) (Nat.not_lt.mpr hb)
  have gh : ∀ b o, G.get? b = some o → h'.get? b = some o := fun b o e => by
    cases q : ((s1.heap.get? b).isSome || b == dx) with
    | false => rw [y2 b q] at e; cases e
    | true => rw [y1 b q] at e; exact e
  have J : Inv X pins σ (upd H1 dx (.xd [(f, y)])) { s1 with heap := G, toks := tk' } := by
    refine I1.laid (t' := tk') kG ld ⟨_, hn.at fun o e => by rw [y1 dx (by simp)]; exact e, fun g => ?_⟩
    show RelO (([(f, y)] : List (Str × V)).lookup g) (if g = f then some u else none)
    rw [List.lookup_cons]
    by_cases c : g = f
    · rw [if_pos c, show (g == f) = true from by simpa using c]
      exact ry
    · rw [if_neg c, show (g == f) = false from by simpa using c]
      exact trivial
  have na : H1 a = none := I1.hok.fresh la
  refine ⟨a, _, _, _, _, .ref C, some dx, rfl, J, gh, ?_, ha, ⟨rfl, rfl⟩, rfl, rfl, ?_, rfl, I1.bare, r, q dx (I1.hok.fresh ld)⟩
  · show G.get? a = none
    rw [y2 a (by simp [fresh a la, Ne.symm ne])]
  · rw [upd_ne (Ne.symm ne)]; exact na
end
end XArg

end
section
set_option Elab.async false
set_option linter.all false
set_option maxRecDepth 100000
set_option maxHeartbeats 2000000
namespace Ev
open PySem L2

section
variable {K : PySem.W.Frag} {H H1 H2 H' : Hp} {m m' : Addr → Prop} {al al1 al2 al' : List Addr} {ρ : Env} {σ : L2.St} {s s1 s2 s' : Sto} {u : U} {v : V} {us : List U} {vs : List V} {r : Rv}

theorem Sh.step (h : Sh K H m al u v) (a : Step H H1 al al1) (sb : ∀ c ∈ al, m c) : Sh K H1 (mU m al1) al1 u v :=
  h.mono (fun b o e n => a.ext b o e fun z => n (sb b z)) (fun b o e n => a.notm sb e n) a.nth
theorem Shs.step (h : Shs K H m al us vs) (a : Step H H1 al al1) (sb : ∀ c ∈ al, m c) : Shs K H1 (mU m al1) al1 us vs :=
  h.mono (fun b o e n => a.ext b o e fun z => n (sb b z)) (fun b o e n => a.notm sb e n) a.nth
theorem Sh.weak (h : Sh K H m al u v) (w : ∀ a, m' a → m a) : Sh K H m' al u v := h.mono (fun _ _ e _ => e) (fun b _ _ n z => n (w b z)) fun _ _ z => z
theorem Shs.weak (h : Shs K H m al us vs) (w : ∀ a, m' a → m a) : Shs K H m' al us vs := h.mono (fun _ _ e _ => e) (fun b _ _ n z => n (w b z)) fun _ _ z => z
theorem Step.notin (a : Step H H1 al al1) {c : Addr} {o : HO} (h : H c = some o) (n : c ∉ al) : c ∉ al1 := fun z => by
  obtain ⟨g, e, q⟩ := a.pre
  rw [e] at z
  rcases List.mem_append.mp z with z | z
  · exact n z
  · rw [q c z] at h; cases h
theorem BR.step (h : BR K H m al u v) (a : Step H H1 al al1) (sb : ∀ c ∈ al, m c) : BR K H1 (mU m al1) al1 u v := by
  cases h with
  | sh h => exact .sh (h.step a sb)
  | own h1 h2 h3 => exact .own (a.ext _ _ h1 h2) (a.notin h1 h2) (h3.step a sb)
theorem BR.weak (h : BR K H m al u v) (w : ∀ a, m' a → m a) : BR K H m' al u v := by
  cases h with
  | sh h => exact .sh (h.weak w)
  | own h1 h2 h3 => exact .own h1 h2 (h3.weak w)
theorem Step.none (a : Step H H1 al al1) {c : Addr} (z : H1 c = none) : H c = none := by
  cases q : H c with
  | none => rfl
  | some o => obtain ⟨o', q'⟩ := a.dom c o q; rw [z] at q'; cases q'
theorem Step.grow (a : Step H H1 al al1) (g : Grow H1 H') : Step H H' al al1 := a.trans g.step
theorem ST.grow (t : ST K m al s H) (g : Grow H H') : ST K m al s H' := ⟨t.len, t.nd, t.sub, fun k us e => by
  obtain ⟨a, e1, e2⟩ := t.at_ k us e
  exact ⟨a, e1, g _ _ e2⟩⟩
theorem ST.weak (t : ST K m al s H) (w : ∀ a, m' a → m a) (sb : ∀ a ∈ al, m' a) : ST K m' al s H := ⟨t.len, t.nd, sb, fun k us e => t.at_ k us e⟩
theorem ST.trk (t : ST K m al s H) {a : Addr} (h : a ∈ al) : ∃ o, H a = some o := by
  obtain ⟨k, hk, e⟩ := List.getElem_of_mem h
  have hk' : k < s.length := by rw [← t.len]; exact hk
  cases q : s[k] with
  | lst us =>
    obtain ⟨b, e1, e2⟩ := t.at_ k us (by rw [List.getElem?_eq_getElem hk', q])
    rw [List.getElem?_eq_getElem hk, e] at e1
    cases e1
    exact ⟨_, e2⟩
theorem mU_sub {a : Addr} (z : mU m al a) : mU (mU m al1) al a := by
  rcases z with z | z
  · exact .inl (.inl z)
  · exact .inr z
theorem VR.weak (h : VR K H H' m al r v) (w : ∀ a, m' a → m a) : VR K H H' m' al r v := ⟨h.sh.weak w, fun f us e => by
  obtain ⟨a, vs, e1, e2, e3, e4⟩ := h.fr f us e
  exact ⟨a, vs, e1, e2, e3.weak fun b z => z.elim (fun z => .inl (w b z)) .inr, e4.1, fun z => e4.2 (w a z)⟩⟩
theorem VR.back (h : VR K H1 H' m al r v) (a : Step H H1 al1 al2) : VR K H H' m al r v := ⟨h.sh, fun f us e => by
  obtain ⟨c, vs, e1, e2, e3, e4⟩ := h.fr f us e
  exact ⟨c, vs, e1, e2, e3, a.none e4.1, e4.2⟩⟩

/-- the store and the slots -/
structure SC (K : PySem.W.Frag) (m : Addr → Prop) (al : List Addr) (s : Sto) (ρ : Env) (σ : L2.St) (H : Hp) : Prop where
  t : ST K m al s H
  r : SR K m al ρ σ H
theorem SC.step (c : SC K m al s ρ σ H) (a : Step H H1 al al1) (t : ST K (mU m al1) al1 s1 H1) : SC K (mU m al1) al1 s1 ρ σ H1 where
  t := t
  r := ⟨c.r.len, fun b z => by
      rcases z with z | z
      · obtain ⟨o, e⟩ := c.r.md b z
        exact a.dom b o e
      · exact t.trk z,
    fun i u e => by
      obtain ⟨v, e1, e2⟩ := c.r.sh i u e
      exact ⟨v, e1, e2.step a c.t.sub⟩,
    fun i u e => by
      obtain ⟨us, b, vs, e1, e2, e3, e4, e5, e6⟩ := c.r.own i u e
      exact ⟨us, b, vs, e1, e2, a.ext _ _ e3 e6, e4.step a c.t.sub, .inl e5, a.notin e3 e6⟩,
    c.r.inj⟩
theorem SC.md (c : SC K m al s ρ σ H) : Md m H := c.r.md
end

/-! ### readings -/
section
variable (F : CallF) (KW : Kt) (K : PySem.W.Frag)
def tE (c : C) : TE := fun σ H Q => ∃ ρ s m al r s', SC K m al s ρ σ H ∧ evE F KW c ρ s = .ok r s' ∧
  ∀ v H' al', Step H H' al al' → ST K (mU m al') al' s' H' → VR K H H' (mU m al') al' r v → Q v H'
def tB (c : C) : TE := fun σ H Q => ∃ ρ s m al r s', SC K m al s ρ σ H ∧ evE F KW c ρ s = .ok r s' ∧
  ∀ v H' al', Step H H' al al' → ST K (mU m al') al' s' H' → BR K H' (mU m al') al' r.u v → Q v H'
def tT (c : C) : TT := fun σ H Q => ∃ ρ s m al r s' k, SC K m al s ρ σ H ∧ evE F KW c ρ s = .ok r s' ∧ truth r.u = some k ∧
  ∀ H' al', Step H H' al al' → ST K (mU m al') al' s' H' → Q k H'
def tAs (a : A) : TA := fun σ H Q => ∃ ρ s m al us s', SC K m al s ρ σ H ∧ evA F KW a ρ s = .ok us s' ∧
  ∀ vs H' al', Step H H' al al' → ST K (mU m al') al' s' H' → Shs K H' (mU m al') al' us vs → Q vs H'
def tAb (a : A) : TA := fun σ H Q => ∃ ρ s m al us s', SC K m al s ρ σ H ∧ evA F KW a ρ s = .ok us s' ∧
  ∀ vs H' al', Step H H' al al' → ST K (mU m al') al' s' H' → BRs K H' (mU m al') al' us vs → Q vs H'
/-- what later heaps keep -/
def PP (m : Addr → Prop) (al : List Addr) (md : Mo) (H H2 : Hp) : Prop := match md with
  | .esc => ∀ b o, H b = some o → ¬ m b → H2 b = some o
  | _ => ∀ b o, H b = some o → b ∉ al → H2 b = some o
/-- what an iterator hands on -/
inductive ItemOf (m : Addr → Prop) (al : List Addr) (H H2 H3 : Hp) : U → V → Prop
  | old {u : U} {x : V} : H3 = H2 → Sh K H m al u x → ItemOf m al H H2 H3 u x
  | new {ws : List U} {xs : List V} {T : Addr} {its : List Value} : H2 T = none → H3 = upd H2 T (tupO its xs) → Shs K H m al ws xs → ItemOf m al H H2 H3 (.tup ws) (.ref T)
  | new2 {w : U} {y : V} {ws : List U} {xs : List V} {T T2 : Addr} {its its2 : List Value} : H2 T = none → T2 ≠ T → H2 T2 = none → H3 = upd (upd H2 T (tupO its xs)) T2 (tupO its2 [y, .ref T]) → Sh K H m al w y → Shs K H m al ws xs → ItemOf m al H H2 H3 (.tup [w, .tup ws]) (.ref T2)
structure Yl (m : Addr → Prop) (al : List Addr) (md : Mo) (H : Hp) (J : L2.It) (us : List U) : Prop where
  go : ∀ i H2, PP m al md H H2 → i < us.length → J.go i H2
  st : ∀ H2, PP m al md H H2 → J.stop us.length H2
  yl : ∀ (i : Nat) H2 x H3 u, PP m al md H H2 → us[i]? = some u → J.yld i H2 x H3 → ItemOf K m al H H2 H3 u x
def tI (md : Mo) (it : Ev.It) : TI := fun σ H R => ∃ ρ s m al us s', SC K m al s ρ σ H ∧ evI F KW it ρ s = .ok us s' ∧
  ∀ J H' al', Step H H' al al' → ST K (mU m al') al' s' H' → Yl K (mU m al') al' md H' J us → R J H'
end
theorem PE.imp {X : Cx} {e : Expr} {t t' : TE} (h : PE X e t) (i : ∀ σ H Q, t' σ H Q → t σ H Q) : PE X e t' := ⟨fun pins s σ H Q I q => h.run pins s σ H Q I (i σ H Q q)⟩
theorem PT.imp {X : Cx} {e : Expr} {t t' : TT} (h : PT X e t) (i : ∀ σ H Q, t' σ H Q → t σ H Q) : PT X e t' := ⟨fun pins s σ H Q I q => h.run pins s σ H Q I (i σ H Q q)⟩
theorem PA.imp {X : Cx} {e : List Expr} {t t' : TA} (h : PA X e t) (i : ∀ σ H Q, t' σ H Q → t σ H Q) : PA X e t' := ⟨fun pos pins s σ H Q I q => h.run pos pins s σ H Q I (i σ H Q q)⟩
theorem PI.imp {X : Cx} {tg e : Expr} {t t' : TI} (h : PI X tg e t) (i : ∀ σ H Q, t' σ H Q → t σ H Q) : PI X tg e t' := ⟨fun pins s σ H Q I q => h.run pins s σ H Q I (i σ H Q q)⟩
theorem bind_ok {α β : Type} {x : RE α} {f : α → Sto → RE β} {b : β} {s : Sto} (h : x.bind f = .ok b s) : ∃ a s1, x = .ok a s1 ∧ f a s1 = .ok b s := by
  cases x with
  | ok a s1 => exact ⟨a, s1, rfl, h⟩
  | exc _ _ => cases h
  | bad => cases h
theorem ofO_ok {α : Type} {s s' : Sto} {o : Option α} {a : α} (h : ofO s o = .ok a s') : o = some a ∧ s = s' := by
  cases o with
  | none => cases h
  | some b => cases h; exact ⟨rfl, rfl⟩

theorem bindO_ok {α β : Type} {s s' : Sto} {o : Option α} {f : α → Sto → RE β} {b : β} (h : (ofO s o).bind f = .ok b s') : ∃ a, o = some a ∧ f a s = .ok b s' := by
  cases o with
  | none => cases h
  | some a => exact ⟨a, rfl, h⟩

/-! ### what a context must have -/
/-- the classes that exceptions have, the field that they keep -/
def xnOf (T : Tb) (mg : Str → Option Value) (i : Nat) : Value × Str := match nth i T.xs with
  | some x => ((mg x.name).getD .none, x.t.fld.getD "")
  | none => (.none, "")
/-- what is wished where x is raised -/
def XOut (K : PySem.W.Frag) (xn : Nat → Value × Str) (Wf : Value → Option Addr → Hp → Prop) (m : Addr → Prop) (al' : List Addr) (x : Xc) (H' : Hp) : Prop := match x.arg with
  | none => Wf (xn x.cls).1 none H'
  | some u => ∀ d y, H' d = some (.xd [((xn x.cls).2, y)]) → ¬ mU m al' d → Sh K H' (mU m al') al' u y → Wf (xn x.cls).1 (some d) H'
/-- a def as the evaluator has it -/
def spF (F : CallF) (xn : Nat → Value × Str) (K : PySem.W.Frag) (f n : Nat) : Sp := fun vs H Q E => ∃ s m al us, Md m H ∧ ST K m al s H ∧ Shs K H m al us vs ∧ us.length = n ∧
  ((∃ r s', F f us s = .ok r s' ∧ ∀ v H' al', Step H H' al al' → ST K (mU m al') al' s' H' → VR K H H' (mU m al') al' r v → Q v H') ∨
    ∃ x s', F f us s = .exc x s' ∧ ∀ H' al', Step H H' al al' → ST K (mU m al') al' s' H' → XOut K xn E m al' x H')
structure CallOk (T : Tb) (F : CallF) (X : Cx) (f : Nat) (fe : FnE) : Prop where
  ex : ∃ (a : Addr) (fd : FuncData) (ps : List Str) (d : Nat), FnOk X.prog X.w X.K X.mg X.base (L2.CX X.prog X.w) d a fd ps (spF F (xnOf T X.mg) X.K f fe.np) ∧ Room d X.A ∧ X.mg fe.name = some (.ref a) ∧ PySem.W.keepIn X.K (.ref a) = true ∧ Binds X.K fd ps [] ∧ ps.length = fe.np
structure KwOk (T : Tb) (F : CallF) (KW : Kt) (X : Cx) (kw : Nat) (ke : KwE) (fe : FnE) : Prop where
  ex : ∃ (a : Addr) (fd : FuncData) (ps : List Str) (d : Nat) (g : List Value → List Value → List Value) (gV : List V → List V → List V), FnOk X.prog X.w X.K X.mg X.base (L2.CX X.prog X.w) d a fd ps (spF F (xnOf T X.mg) X.K ke.f fe.np) ∧ Room d X.A ∧ X.mg fe.name = some (.ref a) ∧ PySem.W.keepIn X.K (.ref a) = true ∧
    KBinds X.K fd ps ke.ks g gV ∧ ps.length = fe.np ∧ ∃ p, nth kw KW.ks = some p ∧ ∀ (K : PySem.W.Frag) (H : Hp) (m : Addr → Prop) (al : List Addr) us ws vs zs xs, us.length = ke.npos → ws.length = ke.ks.length → Shs K H m al us vs → Shs K H m al ws zs → permU p (us ++ ws) = some xs → xs.length = fe.np ∧ Shs K H m al xs (gV vs zs)
/-- a constant's value, as a default -/
def dvV : U → V
  | .bl b => .bl b
  | .int i => .int i
  | _ => .non
def plainDv : U → Bool
  | .non => true
  | .bl _ => true
  | .int _ => true
  | _ => false
/-- a def called with its last parameters left to their defaults -/
structure DfOk (T : Tb) (F : CallF) (X : Cx) (f : Nat) (fe : FnE) (us : List U) : Prop where
  ex : ∃ (a : Addr) (fd : FuncData) (ps : List Str) (d : Nat) (ds : List Value), FnOk X.prog X.w X.K X.mg X.base (L2.CX X.prog X.w) d a fd ps (spF F (xnOf T X.mg) X.K f fe.np) ∧ Room d X.A ∧ X.mg fe.name = some (.ref a) ∧ PySem.W.keepIn X.K (.ref a) = true ∧ Binds X.K fd ps ds ∧ Vals (us.map dvV) ds ∧ us.all plainDv = true
/-- the built-ins' names that the evaluator calls -/
def bltNames : List Str := ["len", "abs", "int", "min", "max", "sum", "all", "any", "list", "tuple", "sorted", "set", "isinstance", "range", "enumerate", "zip", "bool", "str", "dict", "ValueError", "LookupError", "super"]
def bOf (le : Bool) : String := if le then "LookupError" else "ValueError"
def bmOf (le : Bool) : List Value := if le then [.type "LookupError", .type "Exception", .type "BaseException", .type "object"] else [.type "ValueError", .type "Exception", .type "BaseException", .type "object"]
def newOf (le : Bool) : String := if le then "LookupError.__new__" else "ValueError.__new__"
def iniOf (le : Bool) : String := if le then "LookupError.__init__" else "ValueError.__init__"
theorem fb_of : ∀ le, ExcBaseFacts (bOf le) (newOf le) (iniOf le) (bmOf le)
  | true => PySem.F.excBase_LookupError
  | false => PySem.F.excBase_ValueError
theorem kf_of : ∀ le, PySem.W.KxsFacts (bOf le) (iniOf le)
  | true => PySem.W.kxs_LookupError
  | false => PySem.W.kxs_ValueError
theorem sf_of : ∀ le, StoreFacts (bOf le) (bmOf le) "object.__setattr__" "object"
  | true => PySem.F.store_LookupError
  | false => PySem.F.store_ValueError
/-- what is known of an exception class at C -/
structure XcK (P : Program) (K : PySem.W.Frag) (x : XcT) (C : Addr) : Prop where
  q : x.fld = none → PySem.W.excIn K C (bmOf x.le) (newOf x.le) = true
  kp : PySem.W.keepIn K (.ref C) = true
  sb : PySem.W.subIn K (.ref C) (.type "BaseException") = some true
  ty : PySem.W.typeIn K (.ref C) = some (.type "type")
  ec : ExcC K C
  ve : PySem.W.kitOne K (.ref C) (.type "ValueError") = some (!x.le)
  le : PySem.W.kitOne K (.ref C) (.type "LookupError") = some x.le
  ar : ∀ f, x.fld = some f → XArg.ArgC P K C (bOf x.le) (newOf x.le) (iniOf x.le) (bmOf x.le) f
  xf : XfC K C
  no : ∀ f, x.fld = some f → PySem.W.findIn K (.ref C) f = some none
/-- the exception classes of a program -/
structure XcOk (P : Program) (T : Tb) (K : PySem.W.Frag) (mg : Str → Option Value) : Prop where
  at_ : ∀ i x, nth i T.xs = some x → ∃ C, mg x.name = some (.ref C) ∧ XcK P K x.t C
  exm : ∀ i x j y C D, nth i T.xs = some x → nth j T.xs = some y → mg x.name = some (.ref C) → mg y.name = some (.ref D) → PySem.W.exmOne K (.ref C) (.ref D) = some (i == j)
/-- the defs' objects by their names -/
structure NmOk (T : Tb) (KW : Kt) (K : PySem.W.Frag) (mg : Str → Option Value) : Prop where
  nm : ∀ f n k, nameAt KW f n k = true → ∃ fe, nth f T.fns = some fe ∧ fe.name = n ∧ fe.np = k
  at_ : ∀ f fe, nth f T.fns = some fe → ∃ a o, mg fe.name = some (.ref a) ∧ K.lookup a = some o ∧ fnName o = some fe.name
  un : ∀ f fe a o, nth f T.fns = some fe → K.lookup a = some o → fnName o = some fe.name → mg fe.name = some (.ref a)
structure XOk (T : Tb) (F : CallF) (KW : Kt) (k : Ck) (X : Cx) : Prop where
  N : X.N = k.N
  nd : k.N.Nodup
  sc : X.env.scope = k.sc
  fn : X.fn = k.fn
  calm : X.calm = true
  units : X.A.units + 66 < cLine
  blt : ∀ n ∈ bltNames, X.mg n = none
  cons : ∀ x u, T.cons.lookup x = some u → ∃ v w, X.mg x = some w ∧ RelV v w ∧ ∀ H m al, Sh X.K H m al u v
  fns : ∀ f fe, nth f T.fns = some fe → CallOk T F X f fe
  kws : ∀ kw ke fe, nth kw T.kws = some ke → nth ke.f T.fns = some fe → KwOk T F KW X kw ke fe
  dfs : ∀ f fe j, nth f T.fns = some fe → j < (dfOf T f).length → DfOk T F X f fe ((dfOf T f).drop j)
  xcs : XcOk X.prog T X.K X.mg
  nms : NmOk T KW X.K X.mg
  dep : X.A.depth + 5 < recursionLimit
  mth : T.mth = true → X.mg "gcd" = some (.builtin "math.gcd") ∧ X.mg "lcm" = some (.builtin "math.lcm")
end Ev

namespace Ev
open PySem L2
section
variable {K : PySem.W.Frag} {xn : Nat → Value × Str} {Wf : Value → Option Addr → Hp → Prop} {m m' : Addr → Prop} {al' : List Addr} {x : Xc} {H' : Hp}
theorem XOut.mono (h : XOut K xn Wf m al' x H') (w : ∀ a, mU m al' a → mU m' al' a) : XOut K xn Wf m' al' x H' := by
  unfold XOut at h ⊢
  cases q : x.arg with
  | none => rw [q] at h; exact h
  | some u =>
    rw [q] at h
    exact fun d y h1 h2 h3 => h d y h1 (fun z => h2 (w d z)) (h3.weak w)
theorem XOut.mm {al1 : List Addr} (h : XOut K xn Wf m al' x H') : XOut K xn Wf (mU m al1) al' x H' := h.mono fun _ z => mU_sub z
end
end Ev

end
section
set_option Elab.async false
set_option linter.all false
set_option maxRecDepth 100000
set_option maxHeartbeats 2000000
namespace Ev
open PySem L2
section
variable {X : Cx} {F : CallF} {KW : Kt} {a b c : C} {x y z : Expr} {pos : Pos}

/-! ### from one reading to another -/
theorem tE_tB {e : Expr} (h : PE X e (tE F KW X.K a)) : PE X e (tB F KW X.K a) := PE.imp h fun σ H Q ⟨ρ, s, m, al, r, s', sc, e, q⟩ => ⟨ρ, s, m, al, r, s', sc, e, fun v H' al' st t vr => q v H' al' st t (.sh vr.sh)⟩
/-- a test whose truth is its value's -/
theorem tB_tT {e : Expr} (h : PE X e (tB F KW X.K a)) (he : ∀ whole, isTrue e X.env whole = (do let v ← whole; standAt e.pos; holding [v] (truthy v))) : PT X e (tT F KW X.K a) :=
  PT.imp (pt_truth h he) fun σ H Q ⟨ρ, s, m, al, r, s', k, sc, e, tr, q⟩ => ⟨ρ, s, m, al, r, s', sc, e, fun v H' al' st t br => ⟨k, br.truth tr, q H' al' st t⟩⟩
/-- what one way asks of a term -/
def Goal (F : CallF) (KW : Kt) (X : Cx) (c : C) (e : Expr) : Mo → Prop
  | .esc => PE X e (tE F KW X.K c)
  | .brw => PE X e (tB F KW X.K c)
  | .tst => PT X e (tT F KW X.K c)
theorem Goal.of {e : Expr} (m : Mo) (h : PE X e (tE F KW X.K a)) (he : ∀ whole, isTrue e X.env whole = (do let v ← whole; standAt e.pos; holding [v] (truthy v))) : Goal F KW X a e m := by
  cases m with
  | esc => exact h
  | brw => exact tE_tB h
  | tst => exact tB_tT (tE_tB h) he

/-! ### leaves -/
theorem snd_con {u : U} {e : Expr} {v : V} (h : PE X e (tC v)) (r : ∀ H m al, Sh X.K H m al u v) : PE X e (tE F KW X.K (.con u)) :=
  PE.imp h fun σ H Q ⟨ρ, s, m, al, r', s', sc, e, q⟩ => by
    simp only [evE] at e
    cases e
    exact q v H al Step.refl (sc.t.weak (fun b z => z.elim id (sc.t.sub b)) fun b z => .inr z) ⟨r _ _ _, fun z => nomatch z⟩
theorem mU_id {m : Addr → Prop} {al : List Addr} (sb : ∀ a ∈ al, m a) : ∀ a, mU m al a → m a := fun a z => z.elim id (sb a)
theorem ST.up {K : PySem.W.Frag} {m : Addr → Prop} {al : List Addr} {s : Sto} {H : Hp} (t : ST K m al s H) : ST K (mU m al) al s H := t.weak (mU_id t.sub) fun _ z => .inr z
theorem snd_var {i : Nat} {e : Expr} (h : PE X e (tVar i)) : PE X e (tE F KW X.K (.var i)) :=
  PE.imp h fun σ H Q ⟨ρ, s, m, al, r', s', sc, e, q⟩ => by
    simp only [evE] at e
    cases l : look i ρ with
    | sh u =>
      rw [l] at e
      cases e
      obtain ⟨v, e1, e2⟩ := sc.r.sh i u l
      exact ⟨v, e1, q v H al Step.refl sc.t.up ⟨e2.weak (mU_id sc.t.sub), fun z => nomatch z⟩⟩
    | un => rw [l] at e; cases e
    | own u => rw [l] at e; cases e
theorem snd_peek {i : Nat} {e : Expr} (h : PE X e (tVar i)) : PE X e (tB F KW X.K (.peek i)) :=
  PE.imp h fun σ H Q ⟨ρ, s, m, al, r', s', sc, e, q⟩ => by
    simp only [evE] at e
    cases l : look i ρ with
    | sh u =>
      rw [l] at e
      cases e
      obtain ⟨v, e1, e2⟩ := sc.r.sh i u l
      exact ⟨v, e1, q v H al Step.refl sc.t.up (.sh (e2.weak (mU_id sc.t.sub)))⟩
    | un => rw [l] at e; cases e
    | own u =>
      rw [l] at e
      cases e
      obtain ⟨us, b, vs, rfl, e2, e3, e4, e5, e6⟩ := sc.r.own i u l
      exact ⟨_, e2, q _ H al Step.refl sc.t.up (.own e3 e6 (e4.weak (mU_id sc.t.sub)))⟩

/-! ### two operands -/
theorem two_op {o : Op2} : ∀ σ H (Q : VK), tE F KW X.K (.op o a b) σ H Q → tOp (rOp X.K o) (tB F KW X.K a) (tB F KW X.K b) σ H Q := by
  rintro σ H Q ⟨ρ, s, m, al, r, s', sc, e, q⟩
  simp only [evE] at e
  obtain ⟨ra, s1, e1, e⟩ := bind_ok e
  obtain ⟨rb, s2, e2, e⟩ := bind_ok e
  obtain ⟨e3, rfl⟩ := ofO_ok e
  refine ⟨ρ, s, m, al, ra, s1, sc, e1, fun v1 H1 al1 st1 t1 b1 => ⟨ρ, s1, mU m al1, al1, rb, _, sc.step st1 t1, e2, fun v2 H2 al2 st2 t2 b2 => ?_⟩⟩
  have sc2 := (sc.step st1 t1).step st2 t2
  refine ⟨mU (mU m al1) al2, al2, _, _, r, sc2.md, b1.step st2 t1.sub, b2, e3, fun v H' g vr => ?_⟩
  exact q v H' al2 ((st1.trans st2).grow g) ((t2.grow g).weak (fun _ z => mU_sub z) fun _ z => .inr z) ((vr.back (st1.trans st2)).weak fun _ z => mU_sub z)
theorem snd_op {o : Op2} (ha : PE X x (tB F KW X.K a)) (hb : PE X y (tB F KW X.K b)) : PE X (.BinOp x (opSyn o) y pos) (tE F KW X.K (.op o a b)) := PE.imp (pe_op (opR o) ha hb) two_op
theorem snd_neg (ha : PE X x (tB F KW X.K a)) : PE X (.UnaryOp .USub x pos) (tE F KW X.K (.neg a)) :=
  PE.imp (pe_un un_neg ha) fun σ H Q ⟨ρ, s, m, al, r, s', sc, e, q⟩ => by
    simp only [evE] at e
    obtain ⟨ra, s1, e1, e⟩ := bind_ok e
    obtain ⟨u, f⟩ := ra
    cases u <;> simp only at e <;> cases e
    exact ⟨ρ, s, m, al, _, _, sc, e1, fun v H1 al1 st t b => by cases b.int; exact ⟨_, rfl, q _ H1 al1 st t ⟨.int _, fun z => nomatch z⟩⟩⟩
theorem two_cmp {o : Cmp} {R : V → Hp → Prop} {σ : L2.St} {H : Hp} {ρ : Env} {s s2 : Sto} {m : Addr → Prop} {al : List Addr} {ra rb : Rv} {k : Bool} {s1 : Sto} (sc : SC X.K m al s ρ σ H) (e1 : evE F KW a ρ s = .ok ra s1) (e2 : evE F KW b ρ s1 = .ok rb s2) (e3 : cmp2 o ra.u rb.u = some k)
    (q : ∀ H' al', Step H H' al al' → ST X.K (mU m al') al' s2 H' → R (.bl k) H') : tOp (rCmp X.K o) (tB F KW X.K a) (tB F KW X.K b) σ H R := by
  refine ⟨ρ, s, m, al, ra, s1, sc, e1, fun v1 H1 al1 st1 t1 b1 => ⟨ρ, s1, mU m al1, al1, rb, _, sc.step st1 t1, e2, fun v2 H2 al2 st2 t2 b2 => ?_⟩⟩
  exact ⟨mU (mU m al1) al2, al2, _, _, k, b1.step st2 t1.sub, b2, e3, q H2 al2 (st1.trans st2) (t2.weak (fun _ z => mU_sub z) fun _ z => .inr z)⟩
theorem noSet_mark {o : CmpOp} {y : Expr} (h : noSet y = true) : behindInMarks o y = false := by
  cases y <;> first | rfl | cases h
theorem snd_cmp {o : Cmp} (hu : X.A.units + 65 < cLine) (hy : noSet y = true) (ha : PE X x (tB F KW X.K a)) (hb : PE X y (tB F KW X.K b)) : PE X (.Compare x [cmpSyn o] [y] pos) (tE F KW X.K (.cmp o a b)) :=
  PE.imp (pe_cmpR (cmpR hu o) ha hb (noSet_mark hy)) fun σ H Q ⟨ρ, s, m, al, r, s', sc, e, q⟩ => by
    simp only [evE] at e
    obtain ⟨ra, s1, e1, e⟩ := bind_ok e
    obtain ⟨rb, s2, e2, e⟩ := bind_ok e
    obtain ⟨k, e3, e⟩ := bindO_ok e
    cases e
    exact two_cmp sc e1 e2 e3 fun H' al' st t => q _ H' al' st t ⟨.bl _, fun z => nomatch z⟩
theorem snd_cmpT {o : Cmp} (hu : X.A.units + 65 < cLine) (hy : noSet y = true) (ha : PE X x (tB F KW X.K a)) (hb : PE X y (tB F KW X.K b)) : PT X (.Compare x [cmpSyn o] [y] pos) (tT F KW X.K (.cmp o a b)) :=
  PT.imp (pt_cmpR (cmpR hu o) ha hb (noSet_mark hy)) fun σ H Q ⟨ρ, s, m, al, r, s', k, sc, e, tr, q⟩ => by
    simp only [evE] at e
    obtain ⟨ra, s1, e1, e⟩ := bind_ok e
    obtain ⟨rb, s2, e2, e⟩ := bind_ok e
    obtain ⟨k', e3, e⟩ := bindO_ok e
    cases e
    cases tr
    exact two_cmp sc e1 e2 e3 fun H' al' st t => ⟨_, rfl, q H' al' st t⟩
/-- the rest of a chain -/
theorem chain_in {o p : Cmp} {σ : L2.St} {H : Hp} {ρ : Env} {s s' : Sto} {m : Addr → Prop} {al : List Addr} {r : Rv} {R : V → Hp → Prop} (sc : SC X.K m al s ρ σ H) (e : evE F KW (.chain o p a b c) ρ s = .ok r s')
    (q : ∀ k, r = ⟨.bl k, false⟩ → ∀ H' al', Step H H' al al' → ST X.K (mU m al') al' s' H' → R (.bl k) H') : tChain (rCmp X.K o) (rCmp X.K p) (tB F KW X.K a) (tB F KW X.K b) (tB F KW X.K c) σ H R := by
  simp only [evE] at e
  obtain ⟨ra, s1, e1, e⟩ := bind_ok e
  obtain ⟨rb, s2, e2, e⟩ := bind_ok e
  obtain ⟨k, e3, e⟩ := bindO_ok e
  refine ⟨ρ, s, m, al, ra, s1, sc, e1, fun v1 H1 al1 st1 t1 b1 => ⟨ρ, s1, mU m al1, al1, rb, _, sc.step st1 t1, e2, fun v2 H2 al2 st2 t2 b2 => ?_⟩⟩
  have sc2 := (sc.step st1 t1).step st2 t2
  refine ⟨mU (mU m al1) al2, al2, _, _, k, b1.step st2 t1.sub, b2, e3, k, rfl, ?_⟩
  cases k with
  | false =>
    cases e
    rw [if_neg Bool.false_ne_true]
    exact q _ rfl H2 al2 (st1.trans st2) (t2.weak (fun _ z => mU_sub z) fun _ z => .inr z)
  | true =>
    rw [if_pos rfl]
    simp only at e
    obtain ⟨rc, s4, e4, e⟩ := bind_ok e
    obtain ⟨k2, e5, e⟩ := bindO_ok e
    cases e
    refine ⟨ρ, _, mU (mU m al1) al2, al2, rc, _, sc2, e4, fun v3 H3 al3 st3 t3 b3 => ?_⟩
    exact ⟨mU (mU (mU m al1) al2) al3, al3, _, _, k2, b2.step st3 t2.sub, b3, e5, q _ rfl H3 al3 ((st1.trans st2).trans st3) (t3.weak (fun _ z => mU_sub (mU_sub z)) fun _ z => .inr z)⟩
end
end Ev

end
section
set_option Elab.async false
set_option linter.all false
set_option maxRecDepth 100000
set_option maxHeartbeats 2000000
namespace Ev
open PySem L2
section
variable {X : Cx} {F : CallF} {KW : Kt} {a b c : C} {x y z : Expr} {pos : Pos}
theorem snd_chain {o p : Cmp} (hu : X.A.units + 65 < cLine) (hz : noSet z = true) (ha : PE X x (tB F KW X.K a)) (hb : PE X y (tB F KW X.K b)) (hc : PE X z (tB F KW X.K c)) :
    PE X (.Compare x [cmpSyn o, cmpSyn p] [y, z] pos) (tE F KW X.K (.chain o p a b c)) :=
  PE.imp (pe_chain (cmpR hu o) (cmpR hu p) ha hb hc (noSet_mark hz)) fun σ H Q ⟨ρ, s, m, al, r, s', sc, e, q⟩ => chain_in sc e fun k er H' al' st t => q _ H' al' st t (by rw [er]; exact ⟨.bl _, fun z => nomatch z⟩)
theorem snd_chainT {o p : Cmp} (hu : X.A.units + 65 < cLine) (hz : noSet z = true) (ha : PE X x (tB F KW X.K a)) (hb : PE X y (tB F KW X.K b)) (hc : PE X z (tB F KW X.K c)) :
    PT X (.Compare x [cmpSyn o, cmpSyn p] [y, z] pos) (tT F KW X.K (.chain o p a b c)) :=
  PT.imp (pt_chain (cmpR hu o) (cmpR hu p) ha hb hc (noSet_mark hz)) fun σ H Q ⟨ρ, s, m, al, r, s', k, sc, e, tr, q⟩ => chain_in sc e fun k' er H' al' st t => by
    rw [er] at tr
    cases tr
    exact ⟨_, rfl, q H' al' st t⟩

/-! ### not, and, or, if -/
theorem snd_not (ha : PE X x (tB F KW X.K a)) : PE X (.UnaryOp .Not x pos) (tE F KW X.K (.not a)) :=
  PE.imp (pe_notT ha) fun σ H Q ⟨ρ, s, m, al, r, s', sc, e, q⟩ => by
    simp only [evE] at e
    obtain ⟨ra, s1, e1, e⟩ := bind_ok e
    obtain ⟨k, e2, e⟩ := bindO_ok e
    cases e
    exact ⟨ρ, s, m, al, ra, _, sc, e1, fun v H' al' st t b => ⟨k, b.truth e2, q _ H' al' st t ⟨.bl _, fun z => nomatch z⟩⟩⟩
theorem snd_notT (ha : PT X x (tT F KW X.K a)) : PT X (.UnaryOp .Not x pos) (tT F KW X.K (.not a)) :=
  PT.imp (pt_not ha) fun σ H Q ⟨ρ, s, m, al, r, s', k, sc, e, tr, q⟩ => by
    simp only [evE] at e
    obtain ⟨ra, s1, e1, e⟩ := bind_ok e
    obtain ⟨k', e2, e⟩ := bindO_ok e
    cases e
    cases tr
    exact ⟨ρ, s, m, al, ra, _, k', sc, e1, e2, fun H' al' st t => q H' al' st t⟩
theorem and_ok {ρ : Env} {s s' : Sto} {r : Rv} (e : evE F KW (.and a b) ρ s = .ok r s') : ∃ ra s1, evE F KW a ρ s = .ok ra s1 ∧ ((truth ra.u = some true ∧ evE F KW b ρ s1 = .ok r s') ∨ (truth ra.u = some false ∧ r = ra ∧ s' = s1)) := by
  simp only [evE] at e
  obtain ⟨ra, s1, e1, e⟩ := bind_ok e
  obtain ⟨k, e2, e⟩ := bindO_ok e
  refine ⟨ra, s1, e1, ?_⟩
  cases k with
  | true => exact .inl ⟨e2, e⟩
  | false => cases e; exact .inr ⟨e2, rfl, rfl⟩
theorem or_ok {ρ : Env} {s s' : Sto} {r : Rv} (e : evE F KW (.or a b) ρ s = .ok r s') : ∃ ra s1, evE F KW a ρ s = .ok ra s1 ∧ ((truth ra.u = some false ∧ evE F KW b ρ s1 = .ok r s') ∨ (truth ra.u = some true ∧ r = ra ∧ s' = s1)) := by
  simp only [evE] at e
  obtain ⟨ra, s1, e1, e⟩ := bind_ok e
  obtain ⟨k, e2, e⟩ := bindO_ok e
  refine ⟨ra, s1, e1, ?_⟩
  cases k with
  | false => exact .inl ⟨e2, e⟩
  | true => cases e; exact .inr ⟨e2, rfl, rfl⟩
theorem ife_ok {t : C} {ρ : Env} {s s' : Sto} {r : Rv} (e : evE F KW (.ife t a b) ρ s = .ok r s') : ∃ ra s1 k, evE F KW t ρ s = .ok ra s1 ∧ truth ra.u = some k ∧ evE F KW (if k = true then a else b) ρ s1 = .ok r s' := by
  simp only [evE] at e
  obtain ⟨ra, s1, e1, e⟩ := bind_ok e
  obtain ⟨k, e2, e⟩ := bindO_ok e
  refine ⟨ra, s1, k, e1, e2, ?_⟩
  cases k <;> exact e
section
variable {K : PySem.W.Frag} {m : Addr → Prop} {al al1 al2 : List Addr} {s1 s2 : Sto} {H H1 H2 : Hp}
theorem ST.mm (t : ST K (mU (mU m al1) al2) al2 s2 H2) : ST K (mU m al2) al2 s2 H2 := t.weak (fun _ z => mU_sub z) fun _ z => .inr z
theorem VR.mm {r : Rv} {v : V} (h : VR K H1 H2 (mU (mU m al1) al2) al2 r v) : VR K H1 H2 (mU m al2) al2 r v := h.weak fun _ z => mU_sub z
theorem BR.mm {u : U} {v : V} (h : BR K H2 (mU (mU m al1) al2) al2 u v) : BR K H2 (mU m al2) al2 u v := h.weak fun _ z => mU_sub z
theorem VR.br {r : Rv} {v : V} (h : VR K H1 H2 m al r v) : BR K H2 m al r.u v := .sh h.sh
end
theorem snd_and {rest : List Expr} (ha : PE X x (tE F KW X.K a)) (hb : PE X (.BoolOp .And (y :: rest) pos) (tE F KW X.K b)) : PE X (.BoolOp .And (x :: y :: rest) pos) (tE F KW X.K (.and a b)) :=
  PE.imp (pe_andT ha hb) fun σ H Q ⟨ρ, s, m, al, r, s', sc, e, q⟩ => by
    obtain ⟨ra, s1, e1, h⟩ := and_ok e
    refine ⟨ρ, s, m, al, ra, s1, sc, e1, fun v H1 al1 st1 t1 r1 => ?_⟩
    rcases h with ⟨h, e2⟩ | ⟨h, rfl, rfl⟩
    · exact ⟨true, r1.br.truth h, by rw [if_pos rfl]; exact ⟨ρ, s1, _, al1, r, s', sc.step st1 t1, e2, fun v H' al' st t vr => q v H' al' (st1.trans st) t.mm ((vr.back st1).mm)⟩⟩
    · exact ⟨false, r1.br.truth h, by rw [if_neg Bool.false_ne_true]; exact q v H1 al1 st1 t1 r1⟩
theorem snd_andB {rest : List Expr} (ha : PE X x (tB F KW X.K a)) (hb : PE X (.BoolOp .And (y :: rest) pos) (tB F KW X.K b)) : PE X (.BoolOp .And (x :: y :: rest) pos) (tB F KW X.K (.and a b)) :=
  PE.imp (pe_andT ha hb) fun σ H Q ⟨ρ, s, m, al, r, s', sc, e, q⟩ => by
    obtain ⟨ra, s1, e1, h⟩ := and_ok e
    refine ⟨ρ, s, m, al, ra, s1, sc, e1, fun v H1 al1 st1 t1 r1 => ?_⟩
    rcases h with ⟨h, e2⟩ | ⟨h, rfl, rfl⟩
    · exact ⟨true, r1.truth h, by rw [if_pos rfl]; exact ⟨ρ, s1, _, al1, r, s', sc.step st1 t1, e2, fun v H' al' st t vr => q v H' al' (st1.trans st) t.mm vr.mm⟩⟩
    · exact ⟨false, r1.truth h, by rw [if_neg Bool.false_ne_true]; exact q v H1 al1 st1 t1 r1⟩
theorem snd_or {rest : List Expr} (ha : PE X x (tE F KW X.K a)) (hb : PE X (.BoolOp .Or (y :: rest) pos) (tE F KW X.K b)) : PE X (.BoolOp .Or (x :: y :: rest) pos) (tE F KW X.K (.or a b)) :=
  PE.imp (pe_orT ha hb) fun σ H Q ⟨ρ, s, m, al, r, s', sc, e, q⟩ => by
    obtain ⟨ra, s1, e1, h⟩ := or_ok e
    refine ⟨ρ, s, m, al, ra, s1, sc, e1, fun v H1 al1 st1 t1 r1 => ?_⟩
    rcases h with ⟨h, e2⟩ | ⟨h, rfl, rfl⟩
    · exact ⟨false, r1.br.truth h, by rw [if_neg Bool.false_ne_true]; exact ⟨ρ, s1, _, al1, r, s', sc.step st1 t1, e2, fun v H' al' st t vr => q v H' al' (st1.trans st) t.mm ((vr.back st1).mm)⟩⟩
    · exact ⟨true, r1.br.truth h, by rw [if_pos rfl]; exact q v H1 al1 st1 t1 r1⟩
theorem snd_orB {rest : List Expr} (ha : PE X x (tB F KW X.K a)) (hb : PE X (.BoolOp .Or (y :: rest) pos) (tB F KW X.K b)) : PE X (.BoolOp .Or (x :: y :: rest) pos) (tB F KW X.K (.or a b)) :=
  PE.imp (pe_orT ha hb) fun σ H Q ⟨ρ, s, m, al, r, s', sc, e, q⟩ => by
    obtain ⟨ra, s1, e1, h⟩ := or_ok e
    refine ⟨ρ, s, m, al, ra, s1, sc, e1, fun v H1 al1 st1 t1 r1 => ?_⟩
    rcases h with ⟨h, e2⟩ | ⟨h, rfl, rfl⟩
    · exact ⟨false, r1.truth h, by rw [if_neg Bool.false_ne_true]; exact ⟨ρ, s1, _, al1, r, s', sc.step st1 t1, e2, fun v H' al' st t vr => q v H' al' (st1.trans st) t.mm vr.mm⟩⟩
    · exact ⟨true, r1.truth h, by rw [if_pos rfl]; exact q v H1 al1 st1 t1 r1⟩
theorem snd_andT {rest : List Expr} (ha : PT X x (tT F KW X.K a)) (hb : PW X (.BoolOp .And (y :: rest) pos) (tT F KW X.K b)) : PW X (.BoolOp .And (x :: y :: rest) pos) (tT F KW X.K (.and a b)) := by
  have h0 := pw_and (pos := pos) ha hb
  refine ⟨fun whole pins s0 σ H Q I h => h0.run whole pins s0 σ H Q I ?_⟩
  obtain ⟨ρ, s, m, al, r, s', k, sc, e, tr, q⟩ := h
  obtain ⟨ra, s1, e1, h⟩ := and_ok e
  rcases h with ⟨h, e2⟩ | ⟨h, rfl, rfl⟩
  · exact ⟨ρ, s, m, al, ra, s1, true, sc, e1, h, fun H1 al1 st1 t1 => iteT ⟨ρ, s1, _, al1, r, s', k, sc.step st1 t1, e2, tr, fun H' al' st t => q H' al' (st1.trans st) t.mm⟩⟩
  · rw [h] at tr; cases tr
    exact ⟨ρ, s, m, al, _, _, false, sc, e1, h, fun H1 al1 st1 t1 => iteF (q H1 al1 st1 t1)⟩
theorem snd_orT {rest : List Expr} (ha : PT X x (tT F KW X.K a)) (hb : PW X (.BoolOp .Or (y :: rest) pos) (tT F KW X.K b)) : PW X (.BoolOp .Or (x :: y :: rest) pos) (tT F KW X.K (.or a b)) := by
  have h0 := pw_or (pos := pos) ha hb
  refine ⟨fun whole pins s0 σ H Q I h => h0.run whole pins s0 σ H Q I ?_⟩
  obtain ⟨ρ, s, m, al, r, s', k, sc, e, tr, q⟩ := h
  obtain ⟨ra, s1, e1, h⟩ := or_ok e
  rcases h with ⟨h, e2⟩ | ⟨h, rfl, rfl⟩
  · exact ⟨ρ, s, m, al, ra, s1, false, sc, e1, h, fun H1 al1 st1 t1 => iteF ⟨ρ, s1, _, al1, r, s', k, sc.step st1 t1, e2, tr, fun H' al' st t => q H' al' (st1.trans st) t.mm⟩⟩
  · rw [h] at tr; cases tr
    exact ⟨ρ, s, m, al, _, _, true, sc, e1, h, fun H1 al1 st1 t1 => iteT (q H1 al1 st1 t1)⟩
theorem snd_ife {t : C} (ht : PT X x (tT F KW X.K t)) (ha : PE X y (tE F KW X.K a)) (hb : PE X z (tE F KW X.K b)) : PE X (.IfExp x y z pos) (tE F KW X.K (.ife t a b)) :=
  PE.imp (pe_ifExp ht ha hb) fun σ H Q ⟨ρ, s, m, al, r, s', sc, e, q⟩ => by
    obtain ⟨ra, s1, k, e1, h, e2⟩ := ife_ok e
    refine ⟨ρ, s, m, al, ra, s1, k, sc, e1, h, fun H1 al1 st1 t1 => ?_⟩
    cases k with
    | true =>
      rw [if_pos rfl] at e2 ⊢
      exact ⟨ρ, s1, _, al1, r, s', sc.step st1 t1, e2, fun v H' al' st t vr => q v H' al' (st1.trans st) t.mm ((vr.back st1).mm)⟩
    | false =>
      rw [if_neg Bool.false_ne_true] at e2 ⊢
      exact ⟨ρ, s1, _, al1, r, s', sc.step st1 t1, e2, fun v H' al' st t vr => q v H' al' (st1.trans st) t.mm ((vr.back st1).mm)⟩
theorem snd_ifeB {t : C} (ht : PT X x (tT F KW X.K t)) (ha : PE X y (tB F KW X.K a)) (hb : PE X z (tB F KW X.K b)) : PE X (.IfExp x y z pos) (tB F KW X.K (.ife t a b)) :=
  PE.imp (pe_ifExp ht ha hb) fun σ H Q ⟨ρ, s, m, al, r, s', sc, e, q⟩ => by
    obtain ⟨ra, s1, k, e1, h, e2⟩ := ife_ok e
    refine ⟨ρ, s, m, al, ra, s1, k, sc, e1, h, fun H1 al1 st1 t1 => ?_⟩
    cases k with
    | true =>
      rw [if_pos rfl] at e2 ⊢
      exact ⟨ρ, s1, _, al1, r, s', sc.step st1 t1, e2, fun v H' al' st t vr => q v H' al' (st1.trans st) t.mm vr.mm⟩
    | false =>
      rw [if_neg Bool.false_ne_true] at e2 ⊢
      exact ⟨ρ, s1, _, al1, r, s', sc.step st1 t1, e2, fun v H' al' st t vr => q v H' al' (st1.trans st) t.mm vr.mm⟩
/-- a test of a conditional -/
theorem pt_ife {t : TT} {ta tb : TT} (ht : PT X x t) (ha : PT X y ta) (hb : PT X z tb) : PT X (.IfExp x y z pos) (fun σ H Q => t σ H fun k H1 => if k = true then ta σ H1 Q else tb σ H1 Q) := by
  refine ⟨fun pins s σ H Q I h => ?_⟩
  unfold PySem.isTrue
  refine wpAny_bind (thn (ht.run pins s σ H _ I h) fun k s1 ⟨H1, I1, q⟩ => ?_)
  cases k with
  | true => rw [if_pos rfl] at q ⊢; exact ha.run pins s1 σ H1 Q I1 q
  | false => rw [if_neg Bool.false_ne_true] at q ⊢; exact hb.run pins s1 σ H1 Q I1 q
theorem snd_ifeT {t : C} (ht : PT X x (tT F KW X.K t)) (ha : PT X y (tT F KW X.K a)) (hb : PT X z (tT F KW X.K b)) : PT X (.IfExp x y z pos) (tT F KW X.K (.ife t a b)) :=
  PT.imp (pt_ife ht ha hb) fun σ H Q ⟨ρ, s, m, al, r, s', k', sc, e, tr, q⟩ => by
    obtain ⟨ra, s1, k, e1, h, e2⟩ := ife_ok e
    refine ⟨ρ, s, m, al, ra, s1, k, sc, e1, h, fun H1 al1 st1 t1 => ?_⟩
    cases k with
    | true =>
      rw [if_pos rfl] at e2 ⊢
      exact ⟨ρ, s1, _, al1, r, s', k', sc.step st1 t1, e2, tr, fun H' al' st t => q H' al' (st1.trans st) t.mm⟩
    | false =>
      rw [if_neg Bool.false_ne_true] at e2 ⊢
      exact ⟨ρ, s1, _, al1, r, s', k', sc.step st1 t1, e2, tr, fun H' al' st t => q H' al' (st1.trans st) t.mm⟩

/-! ### subscripts, slices -/
theorem snd_ix (hs : PlainIx y) (ha : PE X x (tB F KW X.K a)) (hb : PE X y (tB F KW X.K b)) : PE X (.Subscript x y pos) (tE F KW X.K (.ix a b)) :=
  PE.imp (pe_ix ixR ha hb hs) fun σ H Q ⟨ρ, s, m, al, r, s', sc, e, q⟩ => by
    simp only [evE] at e
    obtain ⟨ra, s1, e1, e⟩ := bind_ok e
    obtain ⟨rb, s2, e2, e⟩ := bind_ok e
    obtain ⟨u, e3, e⟩ := bindO_ok e
    cases e
    refine ⟨ρ, s, m, al, ra, s1, sc, e1, fun v1 H1 al1 st1 t1 b1 => ⟨ρ, s1, mU m al1, al1, rb, _, sc.step st1 t1, e2, fun v2 H2 al2 st2 t2 b2 => ?_⟩⟩
    exact ⟨_, al2, _, _, _, u, t2, b1.step st2 t1.sub, b2, e3, fun v sh => q v H2 al2 (st1.trans st2) t2.mm ⟨sh.weak fun _ z => mU_sub z, fun z => nomatch z⟩⟩
theorem sl_in {u : U} {r : Rv} {s' : Sto} {m : Addr → Prop} {al al2 : List Addr} {m2 : Addr → Prop} {H H2 : Hp} {v : V} {lo hi : Option Int} {Q : VK} {ρ : Env} {σ : L2.St} (sc2 : SC X.K m2 al2 s' ρ σ H2) (st : Step H H2 al al2) (w : ∀ a, mU m al2 a → m2 a) (b : BR X.K H2 m2 al2 u v)
    (e : getSl u lo hi = some r) (q : ∀ v H' al', Step H H' al al' → ST X.K (mU m al') al' s' H' → VR X.K H H' (mU m al') al' r v → Q v H') : rSlU X.K v lo hi H2 Q :=
  ⟨m2, al2, u, r, sc2.md, b, e, fun v H' g vr => q v H' al2 (st.grow g) ((sc2.t.grow g).weak w fun _ z => .inr z) ((vr.back st).weak w)⟩
theorem bnd_int {u : U} {i : Int} (h : bnd u = some i) : u = .int i := by cases u <;> simp [bnd] at h; rw [h]
theorem snd_sl (ha : PE X x (tB F KW X.K a)) (hb : PE X y (tB F KW X.K b)) (hc : PE X z (tB F KW X.K c)) {p2 : Pos} : PE X (.Subscript x (.Slice (some y) (some z) none p2) pos) (tE F KW X.K (.sl a b c)) :=
  PE.imp (pe_slice slR ha (po_some hb) (po_some hc)) fun σ H Q ⟨ρ, s, m, al, r, s', sc, e, q⟩ => by
    simp only [evE] at e
    obtain ⟨ra, s1, e1, e⟩ := bind_ok e
    obtain ⟨rb, s2, e2, e⟩ := bind_ok e
    obtain ⟨i, e4, e⟩ := bindO_ok e
    obtain ⟨rc, s3, e3, e⟩ := bind_ok e
    obtain ⟨j, e5, e⟩ := bindO_ok e
    obtain ⟨e6, rfl⟩ := ofO_ok e
    have h4 := bnd_int e4
    have h5 := bnd_int e5
    refine ⟨ρ, s, m, al, ra, s1, sc, e1, fun v1 H1 al1 st1 t1 b1 => ⟨ρ, s1, mU m al1, al1, rb, _, sc.step st1 t1, e2, fun v2 H2 al2 st2 t2 b2 => ⟨i, ?_, ρ, s2, _, al2, rc, _, (sc.step st1 t1).step st2 t2, e3, fun v3 H3 al3 st3 t3 b3 => ⟨j, ?_, ?_⟩⟩⟩⟩
    · rw [h4] at b2; exact b2.int
    · rw [h5] at b3; exact b3.int
    · exact sl_in (((sc.step st1 t1).step st2 t2).step st3 t3) ((st1.trans st2).trans st3) (fun _ z => mU_sub (mU_sub z)) ((b1.step st2 t1.sub).step st3 t2.sub) e6 q
theorem snd_slL (ha : PE X x (tB F KW X.K a)) (hb : PE X y (tB F KW X.K b)) {p2 : Pos} : PE X (.Subscript x (.Slice (some y) none none p2) pos) (tE F KW X.K (.slL a b)) :=
  PE.imp (pe_slice slR ha (po_some hb) po_none) fun σ H Q ⟨ρ, s, m, al, r, s', sc, e, q⟩ => by
    simp only [evE] at e
    obtain ⟨ra, s1, e1, e⟩ := bind_ok e
    obtain ⟨rb, s2, e2, e⟩ := bind_ok e
    obtain ⟨i, e4, e⟩ := bindO_ok e
    obtain ⟨e6, rfl⟩ := ofO_ok e
    have h4 := bnd_int e4
    refine ⟨ρ, s, m, al, ra, s1, sc, e1, fun v1 H1 al1 st1 t1 b1 => ⟨ρ, s1, mU m al1, al1, rb, _, sc.step st1 t1, e2, fun v2 H2 al2 st2 t2 b2 => ⟨i, ?_, ?_⟩⟩⟩
    · rw [h4] at b2; exact b2.int
    · exact sl_in ((sc.step st1 t1).step st2 t2) (st1.trans st2) (fun _ z => mU_sub z) (b1.step st2 t1.sub) e6 q
theorem snd_slH (ha : PE X x (tB F KW X.K a)) (hb : PE X y (tB F KW X.K b)) {p2 : Pos} : PE X (.Subscript x (.Slice none (some y) none p2) pos) (tE F KW X.K (.slH a b)) :=
  PE.imp (pe_slice slR ha po_none (po_some hb)) fun σ H Q ⟨ρ, s, m, al, r, s', sc, e, q⟩ => by
    simp only [evE] at e
    obtain ⟨ra, s1, e1, e⟩ := bind_ok e
    obtain ⟨rb, s2, e2, e⟩ := bind_ok e
    obtain ⟨i, e4, e⟩ := bindO_ok e
    obtain ⟨e6, rfl⟩ := ofO_ok e
    have h4 := bnd_int e4
    refine ⟨ρ, s, m, al, ra, s1, sc, e1, fun v1 H1 al1 st1 t1 b1 => ⟨ρ, s1, mU m al1, al1, rb, _, sc.step st1 t1, e2, fun v2 H2 al2 st2 t2 b2 => ⟨i, ?_, ?_⟩⟩⟩
    · rw [h4] at b2; exact b2.int
    · exact sl_in ((sc.step st1 t1).step st2 t2) (st1.trans st2) (fun _ z => mU_sub z) (b1.step st2 t1.sub) e6 q
end
end Ev

end
section
set_option Elab.async false
set_option linter.all false
set_option maxRecDepth 100000
set_option maxHeartbeats 2000000
namespace Ev
open PySem L2
section
variable {X : Cx} {F : CallF} {KW : Kt} {a b c : C} {as : A} {x y z : Expr} {es : List Expr} {pos : Pos}
theorem star_of (h : noStar x = true) (env : PySem.Env) : starEach (x :: es) env = (false, PySem.eval x env) :: starEach es env := by
  cases x <;> first | rfl | cases h
def noStars : List Expr → Bool
  | [] => true
  | e :: r => noStar e && noStars r
theorem stars_plain (pos : Pos) (env : PySem.Env) : ∀ {es : List Expr}, noStars es = true → (backTo pos (starEach es env)).any (·.1) = false
  | [], _ => rfl
  | e :: r, h => by
    have h := Bool.and_eq_true_iff.mp h
    rw [star_of h.1]
    have q := stars_plain pos env h.2
    show (false || (backTo pos (starEach r env)).any (·.1)) = false
    rw [q]
    rfl
theorem evA_len : ∀ (as : A) (ρ : Env) (s s' : Sto) (us : List U), evA F KW as ρ s = .ok us s' → us.length = lenA as
  | .nil, ρ, s, s', us, e => by simp only [evA] at e; cases e; rfl
  | .cons c r, ρ, s, s', us, e => by
    simp only [evA] at e
    obtain ⟨x, s1, e1, e⟩ := bind_ok e
    obtain ⟨xs, s2, e2, e⟩ := bind_ok e
    cases e
    show xs.length + 1 = lenA r + 1
    rw [evA_len r ρ s1 _ xs e2]

/-! ### arguments -/
theorem snd_nil : PA X [] (tAs F KW X.K .nil) := PA.imp pa_nil fun σ H Q ⟨ρ, s, m, al, us, s', sc, e, q⟩ => by
  simp only [evA] at e; cases e
  exact q [] H al Step.refl sc.t.up .nil
theorem snd_nilB : PA X [] (tAb F KW X.K .nil) := PA.imp pa_nil fun σ H Q ⟨ρ, s, m, al, us, s', sc, e, q⟩ => by
  simp only [evA] at e; cases e
  exact q [] H al Step.refl sc.t.up .nil
theorem snd_cons (hs : noStar x = true) (ha : PE X x (tE F KW X.K a)) (hr : PA X es (tAs F KW X.K as)) : PA X (x :: es) (tAs F KW X.K (.cons a as)) :=
  PA.imp (pa_cons ha hr (star_of hs _)) fun σ H Q ⟨ρ, s, m, al, us, s', sc, e, q⟩ => by
    simp only [evA] at e
    obtain ⟨ra, s1, e1, e⟩ := bind_ok e
    obtain ⟨xs, s2, e2, e⟩ := bind_ok e
    cases e
    refine ⟨ρ, s, m, al, ra, s1, sc, e1, fun v1 H1 al1 st1 t1 r1 => ⟨ρ, s1, _, al1, xs, _, sc.step st1 t1, e2, fun vs H2 al2 st2 t2 rs => ?_⟩⟩
    exact q _ H2 al2 (st1.trans st2) t2.mm (.cons ((r1.sh.step st2 t1.sub).weak fun _ z => mU_sub z) (rs.weak fun _ z => mU_sub z))
theorem BRs.step {K : PySem.W.Frag} {H H1 : Hp} {m : Addr → Prop} {al al1 : List Addr} {us : List U} {vs : List V} (h : BRs K H m al us vs) (a : Step H H1 al al1) (sb : ∀ c ∈ al, m c) : BRs K H1 (mU m al1) al1 us vs := by
  induction h with
  | nil => exact .nil
  | cons h1 _ ih => exact .cons (h1.step a sb) ih
theorem BRs.weak {K : PySem.W.Frag} {H : Hp} {m m' : Addr → Prop} {al : List Addr} {us : List U} {vs : List V} (h : BRs K H m al us vs) (w : ∀ a, m' a → m a) : BRs K H m' al us vs := by
  induction h with
  | nil => exact .nil
  | cons h1 _ ih => exact .cons (h1.weak w) ih
theorem snd_consB (hs : noStar x = true) (ha : PE X x (tB F KW X.K a)) (hr : PA X es (tAb F KW X.K as)) : PA X (x :: es) (tAb F KW X.K (.cons a as)) :=
  PA.imp (pa_cons ha hr (star_of hs _)) fun σ H Q ⟨ρ, s, m, al, us, s', sc, e, q⟩ => by
    simp only [evA] at e
    obtain ⟨ra, s1, e1, e⟩ := bind_ok e
    obtain ⟨xs, s2, e2, e⟩ := bind_ok e
    cases e
    refine ⟨ρ, s, m, al, ra, s1, sc, e1, fun v1 H1 al1 st1 t1 r1 => ⟨ρ, s1, _, al1, xs, _, sc.step st1 t1, e2, fun vs H2 al2 st2 t2 rs => ?_⟩⟩
    exact q _ H2 al2 (st1.trans st2) t2.mm (.cons ((r1.step st2 t1.sub).weak fun _ z => mU_sub z) (rs.weak fun _ z => mU_sub z))

/-! ### displays -/
theorem small_line {n : Nat} (h : n ≤ 1000) : n ≤ sizeLine := Nat.le_of_lt (small1000 h)
theorem VR.newL {K : PySem.W.Frag} {H H1 : Hp} {m : Addr → Prop} {al al1 : List Addr} {us : List U} {vs : List V} {p : Addr} {f : Bool} (md : Md m H1) (st : Step H H1 al al1) (r : Shs K H1 m al1 us vs) (hp : H1 p = none) :
    VR K H (upd H1 p (.lst vs)) m al1 ⟨.lst us, f⟩ (.ref p) :=
  ⟨.lst upd_same (md.not hp) (r.grow (Grow.new hp)), fun _ us' e => by cases e; exact ⟨p, vs, rfl, upd_same, r.newE hp, st.none hp, md.not hp⟩⟩
theorem VR.newT {K : PySem.W.Frag} {H H1 : Hp} {m : Addr → Prop} {al1 : List Addr} {us : List U} {vs : List V} {p : Addr} {its : List Value} (md : Md m H1) (r : Shs K H1 m al1 us vs) (hp : H1 p = none) :
    VR K H (upd H1 p (tupO its vs)) m al1 ⟨.tup us, false⟩ (.ref p) := ⟨.tup upd_same (md.not hp) (r.grow (Grow.new hp)), fun z => nomatch z⟩
theorem snd_tup {k : Nat} (hl : lenA as ≤ 1000) (ha : PA X es (tAs F KW X.K as)) : PE X (.Tuple es k pos) (tE F KW X.K (.tup as)) :=
  PE.imp (pe_tupX ha) fun σ H Q ⟨ρ, s, m, al, r, s', sc, e, q⟩ => by
    simp only [evE] at e
    obtain ⟨us, s1, e1, e⟩ := bind_ok e
    cases e
    refine ⟨ρ, s, m, al, us, _, sc, e1, fun vs H1 al1 st t rs => ⟨by rw [← rs.length, evA_len as _ _ _ _ e1]; exact small_line hl, fun p its hp => ?_⟩⟩
    exact q _ _ al1 (st.grow (Grow.new hp)) (t.grow (Grow.new hp)) (VR.newT (sc.step st t).md rs hp)
theorem snd_lst (hl : lenA as ≤ 1000) (ha : PA X es (tAs F KW X.K as)) : PE X (.List es pos) (tE F KW X.K (.lst as)) :=
  PE.imp (pe_lst ha) fun σ H Q ⟨ρ, s, m, al, r, s', sc, e, q⟩ => by
    simp only [evE] at e
    obtain ⟨us, s1, e1, e⟩ := bind_ok e
    cases e
    refine ⟨ρ, s, m, al, us, _, sc, e1, fun vs H1 al1 st t rs => ⟨by rw [← rs.length, evA_len as _ _ _ _ e1]; exact small_line hl, fun p hp => ?_⟩⟩
    exact q _ _ al1 (st.grow (Grow.new hp)) (t.grow (Grow.new hp)) (VR.newL (sc.step st t).md st rs hp)
theorem ST.push {K : PySem.W.Frag} {m : Addr → Prop} {al : List Addr} {s : Sto} {H : Hp} {is : List Int} {p : Addr} (t : ST K m al s H) (hp : H p = none) :
    Step H (upd H p (.lst (is.map V.int))) al (al ++ [p]) ∧ ST K (mU m (al ++ [p])) (al ++ [p]) (s ++ [.lst is]) (upd H p (.lst (is.map V.int))) := by
  have st : Step H (upd H p (.lst (is.map V.int))) al (al ++ [p]) := ⟨⟨[p], rfl, fun a ha => by rw [List.mem_singleton.mp ha]; exact hp⟩, fun b o e _ => Grow.new hp b o e, fun b o e => ⟨o, Grow.new hp b o e⟩⟩
  have np : p ∉ al := fun z => by obtain ⟨o, e⟩ := t.trk z; rw [hp] at e; cases e
  refine ⟨st, by rw [List.length_append, List.length_append, t.len] <;> rfl, List.nodup_append.mpr ⟨t.nd, by simp, fun a ha b hb e => ?_⟩, fun a ha => .inr ha, fun k ws e => ?_⟩
  · rw [List.mem_singleton.mp hb] at e
    exact np (e ▸ ha)
  · by_cases hk : k < s.length
    · rw [List.getElem?_append_left hk] at e
      obtain ⟨a, e1, e2⟩ := t.at_ k ws e
      refine ⟨a, ?_, Grow.new hp _ _ e2⟩
      rw [List.getElem?_append_left (by rw [t.len]; exact hk)]
      exact e1
    · have hk' : s.length ≤ k := Nat.le_of_not_lt hk
      rw [List.getElem?_append_right hk'] at e
      have h0 : k - s.length = 0 := by
        cases q : k - s.length with
        | zero => rfl
        | succ n => rw [q] at e; simp at e
      rw [h0] at e
      simp at e
      subst e
      refine ⟨p, ?_, upd_same⟩
      rw [List.getElem?_append_right (by rw [t.len]; exact hk'), t.len, h0]
      rfl
theorem snd_slst (hl : lenA as ≤ 1000) (ha : PA X es (tAs F KW X.K as)) : PE X (.List es pos) (tE F KW X.K (.slst as)) :=
  PE.imp (pe_lst ha) fun σ H Q ⟨ρ, s, m, al, r, s', sc, e, q⟩ => by
    simp only [evE] at e
    obtain ⟨us, s1, e1, e⟩ := bind_ok e
    obtain ⟨is, e2, e⟩ := bindO_ok e
    cases e
    refine ⟨ρ, s, m, al, us, _, sc, e1, fun vs H1 al1 st t rs => ⟨by rw [← rs.length, evA_len as _ _ _ _ e1]; exact small_line hl, fun p hp => ?_⟩⟩
    rw [rs.intsU e2]
    obtain ⟨st2, t2⟩ := t.push (is := is) hp
    refine q _ _ (al1 ++ [p]) (st.trans st2) t2.mm ⟨.ref ?_, fun z => nomatch z⟩
    rw [nth_get, ← t.len]
    simp

/-! ### calls -/
theorem snd_call {T : Tb} {f : Nat} {fe : FnE} {n : Str} {p : Pos} (C : CallOk T F X f fe) (hg : Gl X fe.name) (hd : (fe.name == ("__debug__" : Str)) = false) (hs : noStars es = true) (hl : lenA as = fe.np) (he : es.length = fe.np) (ha : PA X es (tAs F KW X.K as)) :
    PE X (.Call (.Name fe.name p) es [] pos) (tE F KW X.K (.call f as)) := by
  obtain ⟨a, fd, ps, d, G, hr, hm, hk, hb, hp⟩ := C.ex
  have key : ∀ σ H (Q : VK), tE F KW X.K (.call f as) σ H Q → tCall (spF F (xnOf T X.mg) X.K f fe.np) [] E0 (tAs F KW X.K as) σ H Q := fun σ H Q ⟨ρ, s, m, al, r, s', sc, e, q⟩ => by
    simp only [evE] at e
    obtain ⟨us, s1, e1, e⟩ := bind_ok e
    refine ⟨ρ, s, m, al, us, s1, sc, e1, fun vs H1 al1 st t rs => ?_⟩
    show spF F (xnOf T X.mg) X.K f fe.np (vs ++ []) H1 Q E0
    rw [List.append_nil]
    exact ⟨s1, _, al1, us, (sc.step st t).md, t, rs, by rw [evA_len as _ _ _ _ e1, hl], .inl ⟨r, s', e, fun v H' al' st' t' vr => q v H' al' (st.trans st') t'.mm ((vr.back st).mm)⟩⟩
  cases es with
  | nil =>
    have h0 := pe_call0 (p := p) (pos := pos) G hr hg hm hk hb .nil passL hd
    refine PE.imp h0 fun σ H Q h => ?_
    obtain ⟨ρ, s, m, al, us, s1, sc, e1, q⟩ := key σ H Q h
    have hn : us = [] := by
      have := evA_len as _ _ _ _ e1
      rw [hl, ← he] at this
      exact List.length_eq_zero_iff.mp this
    subst hn
    have ha0 : as = .nil := by
      cases as with
      | nil => rfl
      | cons c r => rw [← he] at hl; cases hl
    subst ha0
    simp only [evA] at e1; cases e1
    exact q [] H al Step.refl sc.t.up .nil
  | cons e es =>
    have hs' := Bool.and_eq_true_iff.mp hs
    exact PE.imp (pe_call (p := p) (pos := pos) G hr hg hm hk hb .nil passL ha hd (star_of hs'.1 _) (stars_plain _ _ hs'.2)) key

/-! ### calls with keywords -/
theorem kw_all (pos : Pos) (env : PySem.Env) : ∀ {kws : List Keyword} {ks : List Str}, kws.map (·.arg) = ks.map some → (backToKw pos (keywordEach kws env)).all (·.1.isSome) = true ∧ (backToKw pos (keywordEach kws env)).filterMap (·.1) = ks ∧ (backToKw pos (keywordEach kws env)).any (·.1.isNone) = false
  | [], [], _ => ⟨rfl, rfl, rfl⟩
  | [], _ :: _, h => by simp at h
  | _ :: _, [], h => by simp at h
  | ⟨a, v, p⟩ :: r, k :: ks, h => by
    simp only [List.map_cons, List.cons.injEq] at h
    obtain ⟨h1, h2⟩ := h
    subst h1
    obtain ⟨q1, q2, q3⟩ := kw_all pos env h2
    refine ⟨?_, ?_, ?_⟩
    · show (true && (backToKw pos (keywordEach r env)).all (·.1.isSome)) = true
      rw [q1]; rfl
    · show k :: (backToKw pos (keywordEach r env)).filterMap (·.1) = _
      rw [q2]
    · show (false || (backToKw pos (keywordEach r env)).any (·.1.isNone)) = false
      rw [q3]; rfl
theorem PK.imp {kws : List Keyword} {t t' : TA} (h : PK X kws t) (i : ∀ σ H Q, t' σ H Q → t σ H Q) : PK X kws t' := ⟨fun pos pins s σ H Q I q => h.run pos pins s σ H Q I (i σ H Q q)⟩
theorem snd_kNil : PK X [] (tAs F KW X.K .nil) := PK.imp pk_nil fun σ H Q ⟨ρ, s, m, al, us, s', sc, e, q⟩ => by
  simp only [evA] at e; cases e
  exact q [] H al Step.refl sc.t.up .nil
theorem snd_kCons {nm : Option Str} {kpos : Pos} {kws : List Keyword} (ha : PE X x (tE F KW X.K a)) (hr : PK X kws (tAs F KW X.K as)) : PK X (⟨nm, x, kpos⟩ :: kws) (tAs F KW X.K (.cons a as)) :=
  PK.imp (pk_cons ha hr) fun σ H Q ⟨ρ, s, m, al, us, s', sc, e, q⟩ => by
    simp only [evA] at e
    obtain ⟨ra, s1, e1, e⟩ := bind_ok e
    obtain ⟨xs, s2, e2, e⟩ := bind_ok e
    cases e
    refine ⟨ρ, s, m, al, ra, s1, sc, e1, fun v1 H1 al1 st1 t1 r1 => ⟨ρ, s1, _, al1, xs, _, sc.step st1 t1, e2, fun vs H2 al2 st2 t2 rs => ?_⟩⟩
    exact q _ H2 al2 (st1.trans st2) t2.mm (.cons ((r1.sh.step st2 t1.sub).weak fun _ z => mU_sub z) (rs.weak fun _ z => mU_sub z))
/-- f(k = v, ..), no positional argument -/
theorem pe_callK0 {CX : CXT} {k : Nat} {f : Addr} {fd : FuncData} {ps ks : List Str} {sp : Sp} {E : XK} {n : Str} {p : Pos} {kws : List Keyword} {tk : TA} {g : List Value → List Value → List Value} {gV : List V → List V → List V}
    (F : FnOk X.prog X.w X.K X.mg X.base CX k f fd ps sp) (hr : Room k X.A) (hg : Gl X n) (hm : X.mg n = some (.ref f)) (hk : PySem.W.keepIn X.K (.ref f) = true) (hb : KBinds X.K fd ps ks g gV) (hx : Passes CX X E)
    (hkw : PK X kws tk) (hall : (backToKw pos (keywordEach kws X.env)).all (·.1.isSome) = true) (hks : (backToKw pos (keywordEach kws X.env)).filterMap (·.1) = ks)
    (hdb : (n == ("__debug__" : Str)) = false) (hpl : (backToKw pos (keywordEach kws X.env)).any (·.1.isNone) = false) :
    PE X (.Call (.Name n p) [] kws pos) (tCallK sp gV E tNil tk) := by
  refine ⟨fun pins s σ H Q I h => ?_⟩
  refine PySem.wpAny_Call_Name_kw (ld_glob I hg hm ?_ hdb)
  refine PySem.W.callWith_KW0 (h₀ := X.base) I.ok.mod.kin hk hall ?_ (by show (false || _) = false; rw [hpl]; rfl)
  have h : tk σ H fun zs H2 => sp (gV [] zs) H2 Q E := h
  refine thn (hkw.run pos pins s σ H _ I h) fun ws s2 ⟨zs, H2, I2, rz, q2⟩ => ⟨I2.kIn, ?_⟩
  rw [hks]
  exact run_fnk F hr hb hx I2 .nil rz q2
theorem snd_callK {T : Tb} {kw : Nat} {ke : KwE} {fe : FnE} {p : Pos} {bs : A} {kws : List Keyword} (C : KwOk T F KW X kw ke fe) (hg : Gl X fe.name) (hd : (fe.name == ("__debug__" : Str)) = false) (hs : noStars es = true) (he : es.length = ke.npos) (hla : lenA as = es.length) (hlb : lenA bs = ke.ks.length)
    (hk : kws.map (·.arg) = ke.ks.map some) (ha : PA X es (tAs F KW X.K as)) (hbs : PK X kws (tAs F KW X.K bs)) :
    PE X (.Call (.Name fe.name p) es kws pos) (tE F KW X.K (.callK ke.f kw as bs)) := by
  obtain ⟨a, fd, ps, d, g, gV, G, hr, hm, hkp, hb, hp, pm, epm, perm⟩ := C.ex
  obtain ⟨k1, k2, k3⟩ := kw_all pos X.env hk
  have key : ∀ σ H (Q : VK), tE F KW X.K (.callK ke.f kw as bs) σ H Q → tCallK (spF F (xnOf T X.mg) X.K ke.f fe.np) gV E0 (tAs F KW X.K as) (tAs F KW X.K bs) σ H Q := fun σ H Q ⟨ρ, s, m, al, r, s', sc, e, q⟩ => by
    simp only [evE] at e
    obtain ⟨us, s1, e1, e⟩ := bind_ok e
    obtain ⟨ws, s2, e2, e⟩ := bind_ok e
    obtain ⟨xs, e3, e⟩ := bindO_ok e
    rw [epm] at e3
    refine ⟨ρ, s, m, al, us, s1, sc, e1, fun vs H1 al1 st1 t1 r1 => ⟨ρ, s1, _, al1, ws, s2, sc.step st1 t1, e2, fun zs H2 al2 st2 t2 r2 => ?_⟩⟩
    have sc2 := (sc.step st1 t1).step st2 t2
    obtain ⟨lx, sx⟩ := perm X.K H2 _ al2 us ws vs zs xs (by rw [evA_len as _ _ _ _ e1, hla, he]) (by rw [evA_len bs _ _ _ _ e2, hlb]) (r1.step st2 t1.sub) r2 e3
    refine ⟨s2, _, al2, xs, sc2.md, t2, sx, lx, .inl ⟨r, s', e, fun v H' al' st t vr => ?_⟩⟩
    exact q v H' al' ((st1.trans st2).trans st) (t.mm.mm) (((vr.back (st1.trans st2)).mm).mm)
  cases es with
  | nil =>
    refine PE.imp (pe_callK0 (p := p) (pos := pos) G hr hg hm hkp hb passL hbs k1 k2 hd k3) fun σ H Q h => ?_
    obtain ⟨ρ, s, m, al, us, s1, sc, e1, q⟩ := key σ H Q h
    have ha0 : as = .nil := by
      cases as with
      | nil => rfl
      | cons c r => cases hla
    subst ha0
    simp only [evA] at e1; cases e1
    exact q [] H al Step.refl sc.t.up .nil
  | cons e es =>
    have hs' := Bool.and_eq_true_iff.mp hs
    refine PE.imp (pe_callK (p := p) (pos := pos) G hr hg hm hkp hb passL ha hbs k1 k2 hd (star_of hs'.1 _) ?_) key
    rw [stars_plain pos X.env (es := e :: es) hs, k3]
    rfl
end
end Ev

end
section
set_option Elab.async false
set_option linter.all false
set_option maxRecDepth 100000
set_option maxHeartbeats 2000000
namespace Ev
open PySem L2
section
variable {X : Cx} {F : CallF} {KW : Kt} {a b c : C} {as : A} {x y z : Expr} {es : List Expr} {pos p : Pos}
theorem bi_in {b : Bi} : ∀ σ H (Q : VK), tE F KW X.K (.bi b as) σ H Q → tCB (rBi X.K b) (tAb F KW X.K as) σ H Q := by
  rintro σ H Q ⟨ρ, s, m, al, r, s', sc, e, q⟩
  simp only [evE] at e
  obtain ⟨us, s1, e1, e⟩ := bind_ok e
  obtain ⟨e2, rfl⟩ := ofO_ok e
  refine ⟨ρ, s, m, al, us, s1, sc, e1, fun vs H1 al1 st t bs => ⟨_, al1, us, r, (sc.step st t).md, bs, e2, fun v H' g vr => ?_⟩⟩
  exact q v H' al1 (st.grow g) (t.grow g) (vr.back st)
theorem stars_of : ∀ {es : List Expr} (h : noStars es = true), (backTo pos (starEach es X.env)).any (·.1) = false := fun h => stars_plain pos X.env h
theorem snd_biB {bi : Bi} {id : String} {n : Str} (hc : CallR X (.builtin id) (rBi X.K bi)) (hg : Gl X n) (hm : X.mg n = none) (hv : bootBuiltins n = some (.builtin id)) (hn : n ≠ "__name__") (hdb : (n == ("__debug__" : Str)) = false) (hne : es ≠ []) (hs : noStars es = true) (ha : PA X es (tAb F KW X.K as)) :
    PE X (.Call (.Name n p) es [] pos) (tE F KW X.K (.bi bi as)) := by
  cases es with
  | nil => exact absurd rfl hne
  | cons e es =>
    have hs' := Bool.and_eq_true_iff.mp hs
    exact PE.imp (pe_callB hc hg hm hv ha hn hdb (star_of hs'.1 _) (stars_plain _ _ hs'.2)) bi_in
theorem snd_biT {bi : Bi} {id : String} {n : Str} (hc : CallR X (.type id) (rBi X.K bi)) (hg : Gl X n) (hm : X.mg n = none) (hv : bootBuiltins n = some (.type id)) (hn : n ≠ "__name__") (hdb : (n == ("__debug__" : Str)) = false) (hne : es ≠ []) (hs : noStars es = true) (ha : PA X es (tAb F KW X.K as)) :
    PE X (.Call (.Name n p) es [] pos) (tE F KW X.K (.bi bi as)) := by
  cases es with
  | nil => exact absurd rfl hne
  | cons e es =>
    have hs' := Bool.and_eq_true_iff.mp hs
    exact PE.imp (pe_callTy hc hg hm hv ha hn hdb (star_of hs'.1 _) (stars_plain _ _ hs'.2)) bi_in

theorem BR.grow {K : PySem.W.Frag} {H H' : Hp} {m : Addr → Prop} {al : List Addr} {u : U} {v : V} (h : BR K H m al u v) (g : Grow H H') : BR K H' m al u v := by
  cases h with
  | sh h => exact .sh (h.grow g)
  | own h1 h2 h3 => exact .own (g _ _ h1) h2 (h3.grow g)
/-! ### isinstance -/
def tyOf : U → Option String
  | .non => some "NoneType" | .bl _ => some "bool" | .int _ => some "int" | .str _ => some "str" | .tup _ => some "tuple" | .lst _ => some "list" | .dct _ => some "dict"
  | _ => none
theorem SqT.tyx {K : PySem.W.Frag} {H : Hp} {a : Addr} {vs : List V} (h : SqT K H a vs) : TyX K H (.ref a) (.type "tuple") := by
  rcases h with (h | ⟨o, h⟩) | ⟨o, its, n, h1, h2, _⟩
  · exact .base (.tup h)
  · exact .fTuple h
  · exact .kTuple h1 h2
theorem SqL.tyx {K : PySem.W.Frag} {H : Hp} {a : Addr} {vs : List V} (h : SqL K H a vs) : TyX K H (.ref a) (.type "list") := by
  rcases h with (h | ⟨o, h⟩) | ⟨o, its, n, h1, h2, _⟩
  · exact .base (.lst h)
  · exact .base (.frz h)
  · exact .kList h1 h2
theorem Sh.tyx {K : PySem.W.Frag} {H : Hp} {m : Addr → Prop} {al : List Addr} {u : U} {v : V} (h : Sh K H m al u v) {T : String} (e : tyOf u = some T) : TyX K H v (.type T) := by
  cases h with
  | non => cases e; exact .base .non
  | bl b => cases e; exact .base (.bl b)
  | int i => cases e; exact .base (.int i)
  | str x => cases e; exact .base (.str x)
  | tup h1 h2 h3 => cases e; exact SqT.tyx (sqt_of h1)
  | tupK h1 h2 h4 h3 => cases e; exact SqT.tyx (sqt_k h1 h2 h4)
  | lst h1 h2 h3 => cases e; exact SqL.tyx (SqL.of h1)
  | lstF h1 h2 h3 => cases e; exact .base (.frz h1)
  | lstK h1 h2 h4 h3 => cases e; exact .kList h1 rfl
  | ref h1 => cases e
  | dct h0 h1 h2 h3 => cases e; exact .base (.dK h1)
  | dctT h0 h1 h2 h3 => cases e
  | fnv h1 h2 => cases e
theorem BR.tyx {K : PySem.W.Frag} {H : Hp} {m : Addr → Prop} {al : List Addr} {u : U} {v : V} (h : BR K H m al u v) {T : String} (e : tyOf u = some T) : TyX K H v (.type T) := by
  cases h with
  | sh h => exact h.tyx e
  | own h1 h2 h3 => cases e; exact SqL.tyx (SqL.of h1)
def tyS : Ty → String
  | .int => "int" | .bool => "bool" | .tuple => "tuple" | .list => "list" | .str => "str"
theorem isTy_kit {K : PySem.W.Frag} (t : Ty) (u : U) {T : String} (e : tyOf u = some T) : PySem.W.kitOne K (.type T) (.type (tyS t)) = some (isTy t u) := by
  refine kit_ty ?_
  cases u <;> simp only [tyOf] at e <;> cases e <;> cases t <;> first | (show _ = some true; decide +kernel) | (show _ = some false; decide +kernel)
theorem plain_ty {u : U} (h : isPlain u = true) : ∃ T, tyOf u = some T := by
  cases u <;> first | exact ⟨_, rfl⟩ | cases h
theorem tys_kit {K : PySem.W.Frag} (u : U) {T : String} (e : tyOf u = some T) : ∀ ts : List Ty, PySem.W.kitAny K (.type T) (ts.map fun t => Value.type (tyS t)) = some (ts.any fun t => isTy t u)
  | [] => rfl
  | t :: ts => kitAny_cons (isTy_kit t u e) (fun h => by rw [List.any_cons, h, Bool.false_or]; exact tys_kit u e ts) fun h => by rw [List.any_cons, h]; rfl
theorem tys_pair : ∀ ts : List Ty, PySem.Paired ClsV (ts.map fun t => V.ty (tyS t)) (ts.map fun t => Value.type (tyS t))
  | [] => .nil
  | t :: ts => .cons (.ty _) (tys_pair ts)

/-- a class by its name -/
theorem ty_name (t : Ty) : bootBuiltins (tyName t) = some (.type (tyS t)) ∧ tyName t ≠ "__name__" ∧ (tyName t == ("__debug__" : Str)) = false ∧ tyName t ∈ bltNames := by
  cases t <;> refine ⟨by decide +kernel, by decide +kernel, by decide +kernel, by decide +kernel⟩
theorem pe_ty {t : Ty} (hg : Gl X (tyName t)) (hm : X.mg (tyName t) = none) : PE X (.Name (tyName t) p) (tC (.ty (tyS t))) :=
  pe_bltn hg hm (ty_name t).1 rfl (ty_name t).2.1 (ty_name t).2.2.1
theorem isi_ok {ts : List Ty} {ρ : Env} {s s' : Sto} {r : Rv} (e : evE F KW (.bi (.isinst ts) (.cons a .nil)) ρ s = .ok r s') : ∃ ra T, evE F KW a ρ s = .ok ra s' ∧ tyOf ra.u = some T ∧ r = ⟨.bl (ts.any fun t => isTy t ra.u), false⟩ := by
  simp only [evE, evA] at e
  obtain ⟨us, s1, e1, e⟩ := bind_ok e
  obtain ⟨ra, s2, e2, e1⟩ := bind_ok e1
  obtain ⟨xs, s3, e3, e1⟩ := bind_ok e1
  cases e3
  cases e1
  obtain ⟨e, rfl⟩ := ofO_ok e
  simp only [biV] at e
  cases c : isPlain ra.u with
  | false => rw [c] at e; cases e
  | true =>
    rw [c] at e
    cases e
    obtain ⟨T, hT⟩ := plain_ty c
    exact ⟨ra, T, e2, hT, rfl⟩
theorem snd_isi1 {t : Ty} {p1 p2 : Pos} (hg : Gl X "isinstance") (hm : X.mg "isinstance" = none) (hs : noStar x = true) (ha : PE X x (tB F KW X.K a)) (hg2 : Gl X (tyName t)) (hm2 : X.mg (tyName t) = none) :
    PE X (.Call (.Name "isinstance" p1) [x, .Name (tyName t) p2] [] pos) (tE F KW X.K (.bi (.isinst [t]) (.cons a .nil))) :=
  PE.imp (pe_callB call_isi hg hm (by decide +kernel) (pa_cons ha (pa_cons (pe_ty hg2 hm2) pa_nil) (star_of hs _)) (by decide +kernel) (by decide +kernel) (star_of hs _)) fun σ H Q ⟨ρ, s, m, al, r, s', sc, e, q⟩ => by
    obtain ⟨ra, T, e1, hT, er⟩ := isi_ok e
    refine ⟨ρ, s, m, al, ra, s', sc, e1, fun v H1 al1 st t1 b => ⟨v, _, _, _, _, rfl, .ty _, b.tyx hT, isTy_kit t ra.u hT, ?_⟩⟩
    have q' := q (.bl (isTy t ra.u)) H1 al1 st t1
    rw [er] at q'
    rw [List.any_cons, List.any_nil, Bool.or_false] at q'
    exact q' ⟨.bl _, fun z => nomatch z⟩
def tTys (ts : List Ty) : TA := fun _ H Q => Q (ts.map fun t => V.ty (tyS t)) H
theorem pa_tys (k : Ck) (hsc : X.env.scope = k.sc) (hb : ∀ n ∈ bltNames, X.mg n = none) : ∀ (ts : List Ty) (ys : List Expr), tysOk k ts ys = true → PA X ys (tTys ts)
  | [], [], _ => pa_nil
  | [], _ :: _, h => nomatch h
  | _ :: _, [], h => nomatch h
  | t :: ts, y :: ys, h => by
    have h := Bool.and_eq_true_iff.mp h
    have h1 := h.1
    obtain ⟨n, p, rfl⟩ : ∃ n p, y = .Name n p := by cases y <;> first | exact ⟨_, _, rfl⟩ | (cases h1; done)
    unfold isG gName? at h1
    simp only at h1
    by_cases c : (glB k.sc n && plainN n) = true
    · rw [if_pos c] at h1
      simp only [decide_eq_true_eq] at h1
      subst h1
      have hg : Gl X (tyName t) := by
        show X.env.scope.names.lookup (tyName t) = _
        rw [hsc]
        have c1 := (Bool.and_eq_true_iff.mp c).1
        unfold glB at c1
        cases q : k.sc.names.lookup (tyName t) with
        | none => rw [q] at c1; cases c1
        | some w => rw [q] at c1; cases w <;> first | rfl | cases c1
      exact PA.imp (pa_cons (pe_ty hg (hb _ (ty_name t).2.2.2)) (pa_tys k hsc hb ts ys h.2)) fun σ H Q h => h
    · rw [if_neg c] at h1; cases h1
theorem snd_isiT {ts : List Ty} {ys : List Expr} {n : Nat} {p1 p2 : Pos} (hl : ys.length ≤ 1000) (hg : Gl X "isinstance") (hm : X.mg "isinstance" = none) (hs : noStar x = true) (ha : PE X x (tB F KW X.K a)) (hy : PA X ys (tTys ts)) (hl : ts.length ≤ 1000) :
    PE X (.Call (.Name "isinstance" p1) [x, .Tuple ys n p2] [] pos) (tE F KW X.K (.bi (.isinst ts) (.cons a .nil))) :=
  PE.imp (pe_callB call_isiT hg hm (by decide +kernel) (pa_cons ha (pa_cons (pe_tup hy) pa_nil) (star_of hs _)) (by decide +kernel) (by decide +kernel) (star_of hs _)) fun σ H Q ⟨ρ, s, m, al, r, s', sc, e, q⟩ => by
    obtain ⟨ra, T, e1, hT, er⟩ := isi_ok e
    refine ⟨ρ, s, m, al, ra, s', sc, e1, fun v H1 al1 st t1 b => ⟨by rw [List.length_map]; exact small_line hl, fun tp htp => ?_⟩⟩
    refine ⟨v, tp, _, _, _, _, rfl, upd_same, tys_pair ts, (b.grow (Grow.new htp)).tyx hT, tys_kit ra.u hT ts, ?_⟩
    have q' := q (.bl (ts.any fun t => isTy t ra.u)) (upd H1 tp (.tup (ts.map fun t => V.ty (tyS t)))) al1 (st.grow (Grow.new htp)) (t1.grow (Grow.new htp))
    rw [er] at q'
    exact q' ⟨.bl _, fun z => nomatch z⟩

/-! ### list(range(n)) -/
theorem snd_listRange {p1 p2 pos2 : Pos} (hc : X.calm = true) (hg : Gl X "list") (hm : X.mg "list" = none) (hg2 : Gl X "range") (hm2 : X.mg "range" = none) (hs : noStar x = true) (ha : PE X x (tB F KW X.K a)) :
    PE X (.Call (.Name "list" p1) [.Call (.Name "range" p2) [x] [] pos2] [] pos) (tE F KW X.K (.bi .listRange (.cons a .nil))) :=
  PE.imp (pe_listRg hc hg hm (prg_1 hg2 hm2 ha (star_of hs _))) fun σ H Q ⟨ρ, s, m, al, r, s', sc, e, q⟩ => by
    simp only [evE, evA] at e
    obtain ⟨us, s1, e1, e⟩ := bind_ok e
    obtain ⟨ra, s2, e2, e1⟩ := bind_ok e1
    obtain ⟨xs, s3, e3, e1⟩ := bind_ok e1
    cases e3
    cases e1
    obtain ⟨e, rfl⟩ := ofO_ok e
    obtain ⟨u, f⟩ := ra
    obtain ⟨n, hn⟩ : ∃ n, u = .int n := by
      cases u <;> simp only [biV] at e <;> first | exact ⟨_, rfl⟩ | (cases e; done)
    subst hn
    simp only [biV] at e
    by_cases c : (decide (n ≤ 1000000) && decide (-1000000 ≤ n)) = true
    · rw [if_pos c] at e
      cases e
      have c := Bool.and_eq_true_iff.mp c
      have c1 : n ≤ 1000000 := of_decide_eq_true c.1
      have c2 : -1000000 ≤ n := of_decide_eq_true c.2
      refine ⟨ρ, s, m, al, _, _, sc, e2, fun v H1 al1 st t b => ?_⟩
      cases b.int
      refine ⟨n, rfl, ⟨by omega, by omega, by omega, by omega, by omega⟩, fun p hp => ?_⟩
      refine q _ _ al1 (st.grow (Grow.new hp)) (t.grow (Grow.new hp)) ?_
      have hV : Shs X.K H1 (mU m al1) al1 ((List.range n.toNat).map fun k : Nat => U.int k) (rgV 0 n) := by
        unfold rgV
        rw [Int.sub_zero]
        generalize List.range n.toNat = L
        induction L with
        | nil => exact .nil
        | cons k L ih =>
          refine .cons ?_ ih
          show Sh _ _ _ _ (U.int k) (V.int (0 + (k : Int)))
          rw [Int.zero_add]
          exact .int _
      exact VR.newL (sc.step st t).md st hV hp
    · rw [if_neg c] at e; cases e
end
end Ev

end
section
set_option Elab.async false
set_option linter.all false
set_option maxRecDepth 100000
set_option maxHeartbeats 2000000
namespace Ev
open PySem L2
/-! ### sorted -/
theorem insI_perm (x : Int) : ∀ l : List Int, (insI x l).Perm (x :: l)
  | [] => .refl _
  | y :: r => by
    unfold insI
    by_cases c : x ≤ y
    · rw [if_pos c]
    · rw [if_neg c]
      exact ((insI_perm x r).cons y).trans (.swap x y r)
theorem sortI_perm' : ∀ l : List Int, (sortI l).Perm l
  | [] => .refl _
  | x :: r => (insI_perm x _).trans ((sortI_perm' r).cons x)
theorem insI_up (x : Int) : ∀ l : List Int, l.Pairwise (· ≤ ·) → (insI x l).Pairwise (· ≤ ·)
  | [], _ => by simp [insI]
  | y :: r, h => by
    unfold insI
    have h1 := List.pairwise_cons.mp h
    by_cases c : x ≤ y
    · rw [if_pos c]
      refine List.pairwise_cons.mpr ⟨fun z hz => ?_, h⟩
      rcases List.mem_cons.mp hz with e | hz
      · rw [e]; exact c
      · exact Int.le_trans c (h1.1 z hz)
    · rw [if_neg c]
      refine List.pairwise_cons.mpr ⟨fun z hz => ?_, insI_up x r h1.2⟩
      rcases List.mem_cons.mp ((insI_perm x r).mem_iff.mp hz) with e | hz
      · rw [e]; omega
      · exact h1.1 z hz
theorem sortI_up : ∀ l : List Int, (sortI l).Pairwise (· ≤ ·)
  | [] => .nil
  | x :: r => insI_up x _ (sortI_up r)
theorem sortI_of {a l : List Int} (p : a.Perm l) (u : a.Pairwise (· ≤ ·)) : a = sortI l :=
  List.Perm.eq_of_pairwise (fun _ _ _ _ h1 h2 => Int.le_antisymm h1 h2) u (sortI_up l) (p.trans (sortI_perm' l).symm)
theorem insS_mem (x : Int) (z : Int) : ∀ l : List Int, z ∈ insS x l ↔ z = x ∨ z ∈ l
  | [] => by simp [insS]
  | y :: r => by
    unfold insS
    by_cases c : x < y
    · rw [if_pos c, List.mem_cons]
    · rw [if_neg c]
      by_cases d : (x == y) = true
      · rw [if_pos d]
        have d := eq_of_beq d
        subst d
        rw [List.mem_cons]
        constructor
        · exact .inr
        · rintro (h | h)
          · exact .inl h
          · exact h
      · rw [if_neg d, List.mem_cons, insS_mem x z r, List.mem_cons]
        constructor
        · rintro (h | h | h)
          · exact .inr (.inl h)
          · exact .inl h
          · exact .inr (.inr h)
        · rintro (h | h | h)
          · exact .inr (.inl h)
          · exact .inl h
          · exact .inr (.inr h)
theorem insS_up (x : Int) : ∀ l : List Int, l.Pairwise (· < ·) → (insS x l).Pairwise (· < ·)
  | [], _ => by simp [insS]
  | y :: r, h => by
    unfold insS
    have h1 := List.pairwise_cons.mp h
    by_cases c : x < y
    · rw [if_pos c]
      refine List.pairwise_cons.mpr ⟨fun z hz => ?_, h⟩
      rcases List.mem_cons.mp hz with e | hz
      · rw [e]; exact c
      · exact Int.lt_trans c (h1.1 z hz)
    · rw [if_neg c]
      by_cases d : (x == y) = true
      · rw [if_pos d]; exact h
      · rw [if_neg d]
        refine List.pairwise_cons.mpr ⟨fun z hz => ?_, insS_up x r h1.2⟩
        rcases (insS_mem x z r).mp hz with e | hz
        · rw [e]
          have : x ≠ y := fun e => d (by rw [e]; exact beq_self_eq_true y)
          omega
        · exact h1.1 z hz
theorem sortS_mem (z : Int) : ∀ l : List Int, z ∈ sortS l ↔ z ∈ l
  | [] => by simp [sortS]
  | x :: r => by
    show z ∈ insS x (sortS r) ↔ _
    rw [insS_mem, sortS_mem z r, List.mem_cons]
theorem sortS_up : ∀ l : List Int, (sortS l).Pairwise (· < ·)
  | [] => .nil
  | x :: r => insS_up x _ (sortS_up r)
theorem lt_mem_eq {a b : List Int} (ha : a.Pairwise (· < ·)) (hb : b.Pairwise (· < ·)) (h : ∀ z, z ∈ a ↔ z ∈ b) : a = b := by
  have na : a.Nodup := ha.imp fun {x y} h e => by omega
  have nb : b.Nodup := hb.imp fun {x y} h e => by omega
  refine List.Perm.eq_of_pairwise (le := (· < ·)) (fun x y _ _ h1 h2 => by omega) ha hb ?_
  exact (List.perm_ext_iff_of_nodup na nb).mpr h
section
variable {X : Cx}
open PySem.Spec PyProof.Rows
/-- the items of a tuple, collected -/
theorem collect_tup {P : Program} {w : World} {A : Around} {E : Value → Shared → Prop} {s : Shared} {l : Addr} {vs : List Value} {Q : List Value → Shared → Prop} (hl : s.heap.IsTuple l vs.toArray)
    (h : Q vs { s with heap := (s.heap.push (seqObj "list" #[] 0)).update s.heap.objs.size (Obj.mapSeq (· ++ vs.toArray)) }) (hsz : vs.length ≤ sizeLine) :
    wpAny (model P w) A (collect (.ref l)) Q E s := by
  obtain ⟨o, ho, hc, n, hd⟩ := id hl
  unfold collect
  refine wpAny_bind (wpAny_runValue (codeAny_builtin entry_proto_collect' ?_))
  show wpAny _ _ (do again (.builtin "list.__iadd__" ⟨[← newList [], .ref l], []⟩)) _ _ s
  refine wpAny_bind (wpAny_newList (wpAny_pure ⟨Code.quiet_builtin _ (by decide +kernel), codeAny_builtin entry_list_iadd' ?_⟩))
  show wpAny _ _ (Builtin.List.listExtendWith (.ref s.heap.objs.size) (.ref l) (.ref s.heap.objs.size)) _ _ { s with heap := s.heap.push (seqObj "list" #[] 0) }
  unfold Builtin.List.listExtendWith
  have ho' : (s.heap.push (seqObj "list" #[] 0)).get? l = some o := Heap.get?_push_of_some _ ho
  refine wpAny_bind (wpAny_typeOf (T := "tuple") ⟨o, ho', hc⟩ ?_)
  have ht : (Value.type "tuple" == Value.type "tuple") = true := by rfl
  rw [if_pos (by rw [ht]; simp)]
  refine wpAny_bind (listItems_at ho' hd ?_)
  refine wpAny_bind (listItems_at (xs := #[]) (n := 0) (Heap.get?_push_size _ rfl) rfl ?_)
  rw [if_neg (by simp)]
  refine wpAny_bind (listUpdate_at (xs := #[]) (n := 0) (Heap.get?_push_size _ rfl) rfl ?_ (Nat.zero_le _) (by show (#[] ++ vs.toArray).size ≤ sizeLine + 1; simp only [Array.size_append, List.size_toArray, List.length_nil]; omega))
  refine wpAny_pure ?_
  show wpAny (model P w) A (do
      let o ← load s.heap.objs.size
      match o.data with
      | .seq xs _ => pure xs.toList
      | _ => unsupported "internal:collect") Q E { s with heap := (s.heap.push (seqObj "list" #[] 0)).update s.heap.objs.size (Obj.mapSeq (· ++ vs.toArray)) }
  refine wpAny_bind (wpAny_load (get?_update_seq (Heap.get?_push_size _ rfl) _) ?_)
  show wpAny _ _ (pure ((#[] : Array Value) ++ vs.toArray).toList) Q E _
  rw [show ((#[] : Array Value) ++ vs.toArray).toList = vs by simp]
  exact wpAny_pure h
/-- sorted(t), t a tuple -/
theorem sorted_tup {P : Program} {w : World} {A : Around} {E : Value → Shared → Prop} {s : Shared} {l : Addr} {vs : List Value} {ltv : Value → Value → Bool} {Q : Value → Shared → Prop} (O : SrtO.Swo ltv) (hl : s.heap.IsTuple l vs.toArray) (hz : vs.length ≤ sizeLine)
    (hS : 2 ≤ vs.length → ∀ (h₁ : Heap) (a : Addr), h₁.get? a = some (seqObj "list" vs.toArray 0) → (∀ b o, s.heap.get? b = some o → b ≠ a ∧ h₁.get? b = some o) → SrtO.SortableO P w A.in1.in1 { s with heap := h₁ } a vs ltv)
    (h : ∀ out : List Value, SrtO.Srtd ltv out → SrtO.Stb ltv out vs → Q (.ref (s.heap.objs.size + 1)) { s with heap := sortedAll s.heap vs out.toArray }) :
    wpAny (model P w) A (call (.builtin "sorted") [.ref l]) Q E s := by
  refine Calls.call_function_entry kind_sorted plain_sorted entry_sorted (args_sorted1 _) ?_
  unfold Builtin.«sorted»
  refine wpAny_bind (m := checkCount "sorted" 1 1 _) (wpAny_pure ?_)
  refine wpAny_bind (collect_tup hl ?_ hz)
  refine wpAny_bind (wpAny_newList ?_ hz)
  have hsz : ((s.heap.push (seqObj "list" #[] 0)).update s.heap.objs.size (Obj.mapSeq (· ++ vs.toArray))).objs.size = s.heap.objs.size + 1 := by
    rw [Heap.size_update, size_push']
  have hoL : (((s.heap.push (seqObj "list" #[] 0)).update s.heap.objs.size (Obj.mapSeq (· ++ vs.toArray))).push (seqObj "list" vs.toArray 0)).get? (s.heap.objs.size + 1) = some (seqObj "list" vs.toArray 0) := by
    rw [← hsz]; exact Heap.get?_push_size _ rfl
  have keep : ∀ b o, s.heap.get? b = some o → b ≠ s.heap.objs.size + 1 ∧ (((s.heap.push (seqObj "list" #[] 0)).update s.heap.objs.size (Obj.mapSeq (· ++ vs.toArray))).push (seqObj "list" vs.toArray 0)).get? b = some o := fun b o q => by
    have hlt : b < s.heap.objs.size := Heap.lt_size q
    refine ⟨Nat.ne_of_lt (Nat.lt_succ_of_lt hlt), Heap.get?_push_of_some _ ?_⟩
    rw [Heap.get?_update_ne _ _ _ _ (Nat.ne_of_lt hlt)]
    exact Heap.get?_push_of_some _ q
  show wpAny _ _ _ _ _ { s with heap := ((s.heap.push (seqObj "list" #[] 0)).update s.heap.objs.size (Obj.mapSeq (· ++ vs.toArray))).push (seqObj "list" vs.toArray 0) }
  rw [hsz]
  refine wpAny_bind (wpAny_holding (wpAny_call_entry slot_list_sort ⟨_, hoL, rfl⟩ entry_list_sort (SrtO.list_sort_ord O hoL hz (fun h2 => hS h2 _ _ hoL keep) fun out hs hb => ⟨_, rfl, ?_⟩) (args_list_sort _)))
  exact wpAny_pure ⟨_, rfl, h out hs hb⟩
/-- sorted(xs), ints in a list or a tuple -/
def rSrt (K : PySem.W.Frag) : List V → Hp → VK → Prop := fun vs H Q => ∃ (a : Addr) (ns : List Int), vs = [V.ref a] ∧ (SqL K H a (ns.map V.int) ∨ SqT K H a (ns.map V.int)) ∧
  ∀ p : Addr, H p = none → Q (.ref p) (upd H p (.lst ((Ev.sortI ns).map V.int)))
theorem cr_srt : CallR X (.builtin "sorted") (rSrt X.K) := by
  intro pins s σ H vs us Q I r h
  obtain ⟨a, ns, rfl, hs, q⟩ := h
  have fin : ∀ (its : List Value), Vals (ns.map V.int) its → (ns.map V.int).length ≤ sizeLine → ∀ out : List Value, SrtO.Srtd SrtO.ltIv out → SrtO.Stb SrtO.ltIv out its →
      EP X pins σ Q (.ref (s.heap.objs.size + 1)) { s with heap := sortedAll s.heap its out.toArray } := fun its rv hz out h1 h2 => by
    have hi := rv.ints
    obtain ⟨k1, k2, k3⟩ := SrtO.ints_out hi h1 h2
    obtain ⟨ep, he'⟩ := PyProof.Rows.sortedAll_at s.heap its out.toArray
    have hlen : ((out.map SrtO.iv).map V.int).length ≤ sizeLine := by
      rw [List.length_map, k2.length_eq]
      rw [List.length_map] at hz
      exact hz
    refine ⟨.ref _, upd H (s.heap.objs.size + 1) (.lst ((out.map SrtO.iv).map V.int)), I.laid (t' := s.toks) (fun _ _ => PyProof.Rows.sortedAll_old) (Nat.le_succ _) ⟨hlen, out, ep, vals_of_ints k1, he'⟩, rfl, ?_⟩
    rw [sortI_of k2 k3]
    exact q _ (I.hok.fresh (Nat.le_succ _))
  rw [Vals.ref1 r]
  rcases hs with hs | hs
  · obtain ⟨its, rv, hl, hz⟩ := I.list hs
    exact SrtO.sorted_ord SrtO.swo_int hl.isList (by rw [← rv.length]; exact hz) (fun h2 h₁ a' _ _ => SrtO.ints_sortable rv.ints h2) (fin its rv hz)
  · obtain ⟨its, rv, hl, hz⟩ := I.tuple hs
    exact sorted_tup SrtO.swo_int hl (by rw [← rv.length]; exact hz) (fun h2 h₁ a' _ _ => SrtO.ints_sortable rv.ints h2) (fin its rv hz)
end
end Ev

end
section
set_option Elab.async false
set_option linter.all false
set_option maxRecDepth 100000
set_option maxHeartbeats 2000000
namespace Ev
open PySem L2
/-! ### tuples in order -/
theorem lex_eq : ∀ {a b : List Int}, HT.lexLt a b = false → HT.lexLt b a = false → a = b
  | [], [], _, _ => rfl
  | [], y :: ys, h, _ => by rw [HT.lexLt_nil_cons] at h; cases h
  | x :: xs, [], _, h => by rw [HT.lexLt_nil_cons] at h; cases h
  | x :: xs, y :: ys, h1, h2 => by
    rw [HT.lexLt_cons] at h1 h2
    by_cases e : x = y
    · subst e
      rw [if_pos rfl] at h1 h2
      rw [lex_eq h1 h2]
    · rw [if_neg e] at h1
      rw [if_neg (Ne.symm e)] at h2
      have a := of_decide_eq_false h1
      have b := of_decide_eq_false h2
      omega
theorem lex_self (a : List Int) : HT.lexLt a a = false := by
  cases h : HT.lexLt a a with
  | false => rfl
  | true => have := NtL.lex_asym a a h; rw [h] at this; cases this
theorem insT_perm (x : List Int) : ∀ l : List (List Int), (insT x l).Perm (x :: l)
  | [] => .refl _
  | y :: r => by
    unfold insT
    split
    · exact ((insT_perm x r).cons y).trans (.swap x y r)
    · exact .refl _
theorem sortT_perm : ∀ l : List (List Int), (sortT l).Perm l
  | [] => .refl _
  | x :: r => (insT_perm x _).trans ((sortT_perm r).cons x)
/-- not above -/
abbrev leT (a b : List Int) : Prop := HT.lexLt b a = false
theorem leT_tr {a b c : List Int} (h1 : leT a b) (h2 : leT b c) : leT a c := NtL.lex_tr a b c h1 h2
theorem insT_up (x : List Int) : ∀ l : List (List Int), l.Pairwise leT → (insT x l).Pairwise leT
  | [], _ => by simp [insT]
  | y :: r, h => by
    have h1 := List.pairwise_cons.mp h
    unfold insT
    by_cases c : HT.lexLt y x = true
    · rw [if_pos c]
      refine List.pairwise_cons.mpr ⟨fun z hz => ?_, insT_up x r h1.2⟩
      rcases List.mem_cons.mp ((insT_perm x r).mem_iff.mp hz) with e | hz
      · rw [e]; exact NtL.lex_asym _ _ c
      · exact h1.1 z hz
    · rw [if_neg c]
      have c : HT.lexLt y x = false := by simpa using c
      refine List.pairwise_cons.mpr ⟨fun z hz => ?_, h⟩
      rcases List.mem_cons.mp hz with e | hz
      · rw [e]; exact c
      · exact leT_tr c (h1.1 z hz)
theorem sortT_up : ∀ l : List (List Int), (sortT l).Pairwise leT
  | [] => .nil
  | x :: r => insT_up x _ (sortT_up r)
theorem sortT_of {a l : List (List Int)} (p : a.Perm l) (u : a.Pairwise leT) : a = sortT l :=
  List.Perm.eq_of_pairwise (le := leT) (fun _ _ _ _ h1 h2 => lex_eq h2 h1) u (sortT_up l) (p.trans (sortT_perm l).symm)
theorem insTS_mem (x z : List Int) : ∀ l : List (List Int), z ∈ insTS x l ↔ z = x ∨ z ∈ l
  | [] => by simp [insTS]
  | y :: r => by
    unfold insTS
    split
    · rw [List.mem_cons, insTS_mem x z r, List.mem_cons]
      constructor
      · rintro (h | h | h)
        · exact .inr (.inl h)
        · exact .inl h
        · exact .inr (.inr h)
      · rintro (h | h | h)
        · exact .inr (.inl h)
        · exact .inl h
        · exact .inr (.inr h)
    · split
      · rename_i h
        have e := eq_of_beq h
        subst e
        rw [List.mem_cons]
        constructor
        · exact .inr
        · rintro (h | h)
          · exact .inl h
          · exact h
      · rw [List.mem_cons]
abbrev ltT (a b : List Int) : Prop := HT.lexLt a b = true
theorem ltT_tr {a b c : List Int} (h1 : ltT a b) (h2 : ltT b c) : ltT a c := by
  cases h : HT.lexLt a c with
  | true => exact h
  | false =>
    have h3 : leT c a := h
    have h4 : leT a b := NtL.lex_asym _ _ h1
    have h5 : HT.lexLt b c = false := leT_tr h3 h4
    rw [h2] at h5; cases h5
theorem insTS_up (x : List Int) : ∀ l : List (List Int), l.Pairwise ltT → (insTS x l).Pairwise ltT
  | [], _ => by simp [insTS]
  | y :: r, h => by
    have h1 := List.pairwise_cons.mp h
    unfold insTS
    by_cases c : HT.lexLt y x = true
    · rw [if_pos c]
      refine List.pairwise_cons.mpr ⟨fun z hz => ?_, insTS_up x r h1.2⟩
      rcases (insTS_mem x z r).mp hz with e | hz
      · rw [e]; exact c
      · exact h1.1 z hz
    · rw [if_neg c]
      by_cases d : (x == y) = true
      · rw [if_pos d]; exact h
      · rw [if_neg d]
        have c : HT.lexLt y x = false := by simpa using c
        have hxy : ltT x y := by
          cases q : HT.lexLt x y with
          | true => exact q
          | false => exact absurd (beq_iff_eq.mpr (lex_eq q c)) d
        refine List.pairwise_cons.mpr ⟨fun z hz => ?_, h⟩
        rcases List.mem_cons.mp hz with e | hz
        · rw [e]; exact hxy
        · exact ltT_tr hxy (h1.1 z hz)
theorem sortTS_mem (z : List Int) : ∀ l : List (List Int), z ∈ sortTS l ↔ z ∈ l
  | [] => by simp [sortTS]
  | x :: r => by
    show z ∈ insTS x (sortTS r) ↔ _
    rw [insTS_mem, sortTS_mem z r, List.mem_cons]
theorem sortTS_up : ∀ l : List (List Int), (sortTS l).Pairwise ltT
  | [] => .nil
  | x :: r => insTS_up x _ (sortTS_up r)
theorem ltT_mem_eq {a b : List (List Int)} (ha : a.Pairwise ltT) (hb : b.Pairwise ltT) (h : ∀ z, z ∈ a ↔ z ∈ b) : a = b := by
  have ne : ∀ {x y : List Int}, ltT x y → x ≠ y := fun {x y} h e => by subst e; rw [ltT, lex_self] at h; cases h
  have na : a.Nodup := ha.imp ne
  have nb : b.Nodup := hb.imp ne
  refine List.Perm.eq_of_pairwise (le := ltT) (fun x y _ _ h1 h2 => absurd (NtL.lex_asym _ _ h1) (by rw [h2]; simp)) ha hb ?_
  exact (List.perm_ext_iff_of_nodup na nb).mpr h
/-- order by code, of tuples of one length -/
theorem code_lex {B : Int} : ∀ {a b : List Int}, a.length = b.length → TS.Bd B a → TS.Bd B b → (TS.code B a < TS.code B b ↔ HT.lexLt a b = true)
  | [], [], _, _, _ => by rw [HT.lexLt_nil_nil]; simp
  | [], _ :: _, h, _, _ => by simp at h
  | _ :: _, [], h, _, _ => by simp at h
  | x :: xs, y :: ys, h, h1, h2 => by
    have h' : xs.length = ys.length := by simpa using h
    rw [HT.lexLt_cons]
    by_cases e : x = y
    · subst e
      rw [if_pos rfl, TS.code_same h']
      exact code_lex h' h1.tail h2.tail
    · rw [if_neg e, decide_eq_true_eq]
      constructor
      · intro z
        rcases Int.lt_trichotomy x y with q | q | q
        · exact q
        · exact absurd q e
        · have := TS.code_lt h'.symm h2.tail h1.tail q
          omega
      · exact fun z => TS.code_lt h' h1.tail h2.tail z
section
open PySem.Spec PyProof.Rows
variable {prog : Program} {w : World} {A : Around} {s : Shared} {Q : Bool → Shared → Prop}
theorem lexk {b c : Bool} {xs ys : List Value} {ns ms : List Int} (i : Nat) (hx : IntsAre xs ns) (hy : IntsAre ys ms) (hc : ∀ (l1 l2 : Nat), ns.length + l2 = ms.length + l1 → c = decide (l1 < l2)) (h : Q (HT.lexLt ns ms) s) : PySem.W.KatLex prog w A b c Q (xs.zip ys) i s := by
  induction hx generalizing ys ms i with
  | nil =>
    cases hy with
    | nil =>
      rw [HT.lexLt_nil_nil] at h
      have e : c = false := by rw [hc 0 0 rfl]; rfl
      rw [e]
      exact PySem.W.kat_nil h
    | @cons q u ys ms hy =>
      rw [HT.lexLt_nil_cons] at h
      have e : c = true := by
        rw [hc 0 (ms.length + 1) (by simp)]
        exact decide_eq_true (by omega)
      rw [e]
      show PySem.W.KatLex prog w A b true Q [] i s
      exact PySem.W.kat_nil h
  | @cons p t xs ns hx ih =>
    cases hy with
    | nil =>
      rw [HT.lexLt_cons_nil] at h
      have e : c = false := by
        rw [hc (ns.length + 1) 0 (by simp)]
        exact decide_eq_false (by omega)
      rw [e]
      show PySem.W.KatLex prog w A b false Q [] i s
      exact PySem.W.kat_nil h
    | @cons q u ys ms hy =>
      show PySem.W.KatLex prog w A b c Q ((Value.int p t, Value.int q u) :: xs.zip ys) i s
      rw [HT.lexLt_cons] at h
      refine PySem.W.kat_cons (wpAny_eqBool_int ?_)
      by_cases e : p = q
      · subst e
        rw [if_pos rfl] at h
        rw [beq_self_eq_true]
        refine PySem.W.kat_yes ?_
        exact ih (i + 1) hy (fun l1 l2 hl => hc l1 l2 (by simp only [List.length_cons]; omega)) h
      · rw [if_neg e] at h
        rw [show (p == q) = false from beq_eq_false_iff_ne.mpr e]
        exact PySem.W.kat_no (TS.oneLt_ints _ h)
theorem firsts1 {h : Heap} : ∀ vs : List Value, (∀ v ∈ vs, ∃ ns, TS.TupInts h v ns ∧ ns ≠ []) → ∃ fs, PySem.W.KatTups h vs fs ∧ fs.length = vs.length ∧ ∀ f, f ∈ fs → ∃ n t, f = Value.int n t
  | [], _ => ⟨[], PySem.W.KatTups.nil, rfl, fun f hf => by simp at hf⟩
  | v :: vs, x => by
    obtain ⟨fs, k, hl, hi⟩ := firsts1 vs fun u hu => x u (List.mem_cons_of_mem _ hu)
    obtain ⟨ns, ⟨a, xs, rfl, ⟨o, ho, hc, n, hdt⟩, i⟩, hn⟩ := x v (List.mem_cons_self ..)
    obtain ⟨y, ys, e⟩ : ∃ y ys, xs.toList = y :: ys := by
      cases q : xs.toList with
      | nil =>
        rw [q] at i
        have l := i.length
        rw [List.length_nil] at l
        exact absurd (List.eq_nil_of_length_eq_zero l.symm) hn
      | cons y ys => exact ⟨y, ys, rfl⟩
    obtain ⟨m, t, hy⟩ := i.all y (by rw [e]; exact List.mem_cons_self ..)
    refine ⟨y :: fs, PySem.W.KatTups.cons ho hc hdt ?_ k, by simp [hl], ?_⟩
    · have z := congrArg (fun l : List Value => l[0]?) e
      simpa using z
    · intro f hf
      rcases List.mem_cons.mp hf with rfl | hf
      · exact ⟨m, t, hy⟩
      · exact hi f hf
theorem tup_cmp {vs : List Value} {k : Value → List Int} {b : Bool} (hp : ∀ v ∈ vs, TS.TupInts s.heap v (k v)) : SrtO.Cmp prog w A s (tuples' b) (fun p => p.1 ∈ vs) (SrtO.lt2 fun v u => HT.lexLt (k v) (k u)) := by
  intro p q hm hm'
  have h1 := hp _ hm
  have h2 := hp _ hm'
  show wpAny (model prog w) A (keyLt' (tuples' b) p.1 q.1) (fun r s' => s' = s ∧ r = HT.lexLt (k p.1) (k q.1)) (fun _ _ => False) s
  obtain ⟨a, xs, e1, ⟨o, ho, hc, n, hdt⟩, i⟩ := h1
  obtain ⟨a', ys, e2, ⟨o', ho', hc', n', hdt'⟩, i'⟩ := h2
  rw [e1, e2] at *
  refine PySem.W.kat_lt ho hdt ho' hdt' ?_
  have l1 := i.length
  have l2 := i'.length
  rw [Array.length_toList] at l1 l2
  exact lexk 0 i i' (fun m1 m2 hm => decide_eq_decide.mpr (by omega)) ⟨rfl, rfl⟩
theorem tup_sortable {a : Addr} {vs : List Value} {k : Value → List Int} (h0 : 0 < vs.length) (hp : ∀ v ∈ vs, TS.TupInts s.heap v (k v) ∧ k v ≠ []) (ha : ∀ o, s.heap.get? a = some o → o.cls ≠ .type "tuple") : SrtO.SortableO prog w A s a vs fun v u => HT.lexLt (k v) (k u) := by
  intro h' keep
  have hp' : ∀ v ∈ vs, TS.TupInts h' v (k v) := fun v hm => (hp v hm).1.keeps fun b o e c => keep b o (fun z => by subst z; exact ha o e c) e
  obtain ⟨fs, h1, h2, h3⟩ := firsts1 vs fun v hm => ⟨_, hp' v hm, (hp v hm).2⟩
  refine ⟨tuples' true, fun Q E hq => ?_, tup_cmp (s := { s with heap := h' }) hp'⟩
  refine PySem.W.kat_kind (T := .type "int") h1 (by omega) (fun f hm => ?_) (by rfl) ?_
  · obtain ⟨x, t, rfl⟩ := h3 f hm
    exact PySem.W.Looks.now
  · have e : (Value.type "int" != Value.type "tuple") = true := by first | decide +kernel | rfl | decide
    rw [e]
    exact hq
end
section
variable {X : Cx}
open PySem.Spec PyProof.Rows
/-- sorted(xs), tuples of ints, none empty, in a list or a tuple -/
def rSrtT (K : PySem.W.Frag) : List V → Hp → VK → Prop := fun vs H Q => ∃ (a : Addr) (xs : List V), vs = [V.ref a] ∧ (SqL K H a xs ∨ SqT K H a xs) ∧ (∀ x ∈ xs, ∃ ns, TupI K H x ns ∧ ns ≠ []) ∧
  ∀ (ys : List V) (p : Addr), ys.Perm xs → ys.Pairwise (fun x y => ∀ n m, TupI K H x n → TupI K H y m → leT n m) → H p = none → Q (.ref p) (upd H p (.lst ys))
theorem cr_srtT : CallR X (.builtin "sorted") (rSrtT X.K) := by
  intro pins s σ H vs us Q I r h
  obtain ⟨a, xs, rfl, hs, hx, q⟩ := h
  have ref : ∀ x ∈ xs, ∃ a, x = V.ref a := fun x m => by
    obtain ⟨ns, ⟨t, e, _⟩, _⟩ := hx x m
    exact ⟨t, e⟩
  have fin : ∀ (its : List Value), Vals xs its → xs.length ≤ sizeLine → ∀ out : List Value, SrtO.Srtd (fun v u => HT.lexLt (TS.intsOf s.heap v) (TS.intsOf s.heap u)) out → out.Perm its →
      EP X pins σ Q (.ref (s.heap.objs.size + 1)) { s with heap := sortedAll s.heap its out.toArray } := fun its rv hz out h1 h2 => by
    obtain ⟨e1, e2⟩ := bkV_refs rv ref
    obtain ⟨ep, he'⟩ := PyProof.Rows.sortedAll_at s.heap its out.toArray
    have h3 : ∀ u ∈ out, ∃ a, u = Value.ref a := fun u hu => e2 u (h2.mem_iff.mp hu)
    have hp : (out.map bkV).Perm xs := by
      rw [e1]
      exact h2.map bkV
    have hlen : (out.map bkV).length ≤ sizeLine := by
      rw [hp.length_eq]
      exact hz
    refine ⟨.ref _, upd H (s.heap.objs.size + 1) (.lst (out.map bkV)), I.laid (t' := s.toks) (fun _ _ => PyProof.Rows.sortedAll_old) (Nat.le_succ _) ⟨hlen, out, ep, bkV_vals h3, he'⟩, rfl, q _ _ hp ?_ (I.hok.fresh (Nat.le_succ _))⟩
    rw [List.pairwise_map]
    refine List.Pairwise.imp (fun {u v} huv n m hn hm => ?_) h1
    obtain ⟨t, et, ht⟩ := hn
    obtain ⟨t', et', ht'⟩ := hm
    have eu := bkV_ref et
    have ev := bkV_ref et'
    have i1 : TS.intsOf s.heap u = n := by
      rw [eu]
      exact (tupI_raw I ht).ints
    have i2 : TS.intsOf s.heap v = m := by
      rw [ev]
      exact (tupI_raw I ht').ints
    show HT.lexLt m n = false
    rw [← i1, ← i2]
    exact huv
  have tup : ∀ (its : List Value), Vals xs its → ∀ v ∈ its, TS.TupInts s.heap v (TS.intsOf s.heap v) ∧ TS.intsOf s.heap v ≠ [] := fun its rv v hv => by
    obtain ⟨e1, e2⟩ := bkV_refs rv ref
    obtain ⟨t, rfl⟩ := e2 v hv
    have hm : V.ref t ∈ xs := by
      rw [e1]
      exact List.mem_map.mpr ⟨_, hv, rfl⟩
    obtain ⟨ns, ⟨t', e, ht⟩, hn⟩ := hx _ hm
    cases e
    have hT := tupI_raw I ht
    rw [hT.ints]
    exact ⟨hT, hn⟩
  have srt : ∀ (its : List Value), Vals xs its → 2 ≤ its.length → ∀ (h₁ : Heap) (a : Addr), h₁.get? a = some (seqObj "list" its.toArray 0) → (∀ b o, s.heap.get? b = some o → b ≠ a ∧ h₁.get? b = some o) → ∀ A : Around, SrtO.SortableO X.prog X.w A { s with heap := h₁ } a its (fun v u => HT.lexLt (TS.intsOf s.heap v) (TS.intsOf s.heap u)) := fun its rv h2 h₁ a ha kk A => by
    refine tup_sortable (s := { s with heap := h₁ }) (by omega) (fun v hm => ⟨(tup its rv v hm).1.keeps fun b o e _ => (kk b o e).2, (tup its rv v hm).2⟩) fun o e => ?_
    have e' : some o = some (seqObj "list" its.toArray 0) := e.symm.trans ha
    cases e'
    intro c
    exact absurd (Value.type.inj c) (by decide)
  rw [Vals.ref1 r]
  rcases hs with hs | hs
  · obtain ⟨its, rv, hl, hz⟩ := I.list hs
    exact SrtO.sorted_ord (NtL.swo_lexL _) hl.isList (by rw [← rv.length]; exact hz) (fun h2 h₁ a' ha kk => srt its rv h2 h₁ a' ha kk _) fun out h1 h2 => fin its rv hz out h1 h2.1
  · obtain ⟨its, rv, hl, hz⟩ := I.tuple hs
    exact sorted_tup (NtL.swo_lexL _) hl (by rw [← rv.length]; exact hz) (fun h2 h₁ a' ha kk => srt its rv h2 h₁ a' ha kk _) fun out h1 h2 => fin its rv hz out h1 h2.1
end
/-! ### perms of mapped lists -/
theorem perm_map_inv {α β : Type} {f : α → β} {ys bs : List β} (p : ys.Perm bs) : ∀ {ks : List α}, bs = ks.map f → ∃ ks' : List α, ks'.Perm ks ∧ ys = ks'.map f := by
  induction p with
  | nil => intro ks e; exact ⟨[], by cases ks with | nil => exact .refl _ | cons a b => simp at e, rfl⟩
  | @cons x l1 l2 p ih =>
    intro ks e
    cases ks with
    | nil => simp at e
    | cons k ks =>
      rw [List.map_cons] at e
      injection e with e1 e2
      obtain ⟨ks', p1, e3⟩ := ih e2
      exact ⟨k :: ks', p1.cons k, by rw [List.map_cons, e1, e3]⟩
  | swap x y l =>
    intro ks e
    match ks, e with
    | [], e => simp at e
    | [_], e => simp at e
    | k :: j :: ks, e =>
      rw [List.map_cons, List.map_cons] at e
      injection e with e1 e
      injection e with e2 e3
      exact ⟨j :: k :: ks, .swap _ _ _, by rw [List.map_cons, List.map_cons, e1, e2, e3]⟩
  | trans p1 p2 ih1 ih2 =>
    intro ks e
    obtain ⟨ks1, q1, e1⟩ := ih2 e
    obtain ⟨ks2, q2, e2⟩ := ih1 e1
    exact ⟨ks2, q2.trans q1, e2⟩
section
variable {K : PySem.W.Frag} {H : Hp} {m : Addr → Prop} {al : List Addr}
theorem SqT_grow {H' : Hp} {a : Addr} {xs : List V} (h : SqT K H a xs) (g : Grow H H') : SqT K H' a xs := by
  rcases h with (h | ⟨o, h⟩) | h
  · exact .inl (.inl (g _ _ h))
  · exact .inl (.inr ⟨o, g _ _ h⟩)
  · exact .inr h
theorem ints_back : ∀ {us : List U} {is : List Int}, intsU us = some is → us = is.map .int
  | [], is, h => by cases h; rfl
  | .int i :: us, is, h => by
    simp only [intsU] at h
    cases q : intsU us with
    | none => rw [q] at h; cases h
    | some js => rw [q] at h; cases h; rw [ints_back q]; rfl
  | .non :: _, _, h => nomatch h
  | .bl _ :: _, _, h => nomatch h
  | .str _ :: _, _, h => nomatch h
  | .tup _ :: _, _, h => nomatch h
  | .lst _ :: _, _, h => nomatch h
  | .dct _ :: _, _, h => nomatch h
  | .dctT _ :: _, _, h => nomatch h
  | .fnv _ _ :: _, _, h => nomatch h
  | .ref _ :: _, _, h => nomatch h
theorem tupKs : ∀ {us : List U} {vs : List V} {ts : List (List Int)}, Shs K H m al us vs → tupsU us = some ts → ∃ ks : List (Addr × List Int), ks.map (·.2) = ts ∧ vs = ks.map (fun p => V.ref p.1) ∧ us = ts.map Ev.tupI ∧ ∀ p ∈ ks, SqT K H p.1 (p.2.map V.int) ∧ Sh K H m al (Ev.tupI p.2) (.ref p.1) ∧ p.2 ≠ []
  | [], _, ts, h, e => by
    cases h; cases e
    exact ⟨[], rfl, rfl, rfl, fun p hp => nomatch hp⟩
  | .tup xs :: us, _, ts, .cons (v := v) (vs := vs) h1 h2, e => by
    simp only [tupsU] at e
    cases c1 : intsU xs with
    | none => rw [c1] at e; cases e
    | some is =>
      rw [c1] at e
      cases is with
      | nil => cases e
      | cons i is =>
        cases c2 : tupsU us with
        | none => rw [c2] at e; cases e
        | some rs =>
          rw [c2] at e
          cases e
          obtain ⟨ks, k1, k2, k3, k4⟩ := tupKs h2 c2
          have hx := ints_back c1
          subst hx
          obtain ⟨a, ws, rfl, q1, q2, q3⟩ := (BR.sh h1).tup
          have hw := q2.intsU c1
          subst hw
          refine ⟨(a, i :: is) :: ks, by rw [List.map_cons, k1], by rw [List.map_cons, k2], by rw [List.map_cons, k3]; rfl, fun p hp => ?_⟩
          rcases List.mem_cons.mp hp with rfl | hp
          · exact ⟨q1, h1, by simp⟩
          · exact k4 p hp
  | .non :: _, _, _, _, e => nomatch e
  | .bl _ :: _, _, _, _, e => nomatch e
  | .str _ :: _, _, _, _, e => nomatch e
  | .int _ :: _, _, _, _, e => nomatch e
  | .lst _ :: _, _, _, _, e => nomatch e
  | .dct _ :: _, _, _, _, e => nomatch e
  | .dctT _ :: _, _, _, _, e => nomatch e
  | .fnv _ _ :: _, _, _, _, e => nomatch e
  | .ref _ :: _, _, _, _, e => nomatch e
theorem shs_ks : ∀ {ks : List (Addr × List Int)}, (∀ p ∈ ks, Sh K H m al (Ev.tupI p.2) (.ref p.1)) → Shs K H m al ((ks.map (·.2)).map Ev.tupI) (ks.map fun p => V.ref p.1)
  | [], _ => .nil
  | p :: ks, h => .cons (h p List.mem_cons_self) (shs_ks fun q hq => h q (List.mem_cons_of_mem _ hq))
end
section
variable {X : Cx}
theorem cr_or {f : Value} {r1 r2 : List V → Hp → VK → Prop} (h1 : CallR X f r1) (h2 : CallR X f r2) : CallR X f fun vs H Q => r1 vs H Q ∨ r2 vs H Q := by
  intro pins s σ H vs us Q I r h
  rcases h with h | h
  · exact h1 pins s σ H vs us Q I r h
  · exact h2 pins s σ H vs us Q I r h
end
end Ev

end
section
set_option Elab.async false
set_option linter.all false
set_option maxRecDepth 100000
set_option maxHeartbeats 4000000
namespace Ev
open PySem L2
section
open PySem.Spec PyProof.Rows
/-! ### set of a tuple of tuples -/
abbrev newS (w : World) : Obj := { cls := .type "set", dict := none, data := .set #[] 0 (.fresh 0 0 (!w.params.followText "set-order")) }
variable {P : Program} {w : World} {A : Around} {E : Value → Shared → Prop} {s : Shared}
/-- set(xs), xs a tuple of tuples of ints (the library's row for a list, turned to a tuple) -/
theorem set_tupT {tp : Addr} {vals : Array Value} (ks : List (Addr × List Int)) {Q : Value → Shared → Prop} (hh : A.handled = none) (hin : s.heap.IsTuple tp vals) (hvs : vals.toList = ks.map fun p => Value.ref p.1)
    (hk : ∀ p ∈ ks, IsT P w s.heap p.2 p.1) (hless : ks.length < 64) (hu : A.units + 3 < cLine)
    (h : ∀ (h' : Heap) (tk : Nat) L es ep t, SetTR P w h' s.heap.objs.size L es ep t → Got ks ks.length L → (∀ b o, s.heap.get? b = some o → h'.get? b = some o) → Q (.ref s.heap.objs.size) { s with heap := h', toks := tk }) :
    wpAny (model P w) A (call (.type "set") [.ref tp]) Q E s := by
  have hcount : vals.size = ks.length := by
    have q := congrArg List.length hvs
    rw [Array.length_toList, List.length_map] at q
    exact q
  obtain ⟨c, tl, mro0⟩ := F.called_set.mro
  have made0 := F.called_set.made
  have sub0 := F.called_set.sub
  refine wpAny_call (codeAny_of_tree ?_)
  show wpAny _ _ (callAny (.type "set") _) _ _ _
  refine wpAny_pure ⟨Code.quiet_builtin _ (by decide +kernel), codeAny_builtin F.entry_type_call ?_⟩
  rw [Around.under_plain (weight_type_call_type "set" [.ref tp] []) rfl]
  have h1 := F.called_set.notType
  have h2 := F.called_set.canCreate
  have ct0 := F.typeCall_set_1 (.ref tp)
  repeat (any_goals (first | assumption | wp_step))

  refine codeAny_mono (code_set_led1 (.ref tp) (E := E) (Q₁ := fun obj s₁ => obj = .ref s.heap.objs.size ∧ s₁ = { s with heap := s.heap.push (newS w) }) ⟨rfl, rfl⟩) fun r s₁ hq1 => ?_
  cases r with
  | error e => exact hq1
  | ok fl =>
    cases fl with
    | ret obj =>
      obtain ⟨rfl, rfl⟩ := hq1
      have gotS : (s.heap.push (newS w)).get? s.heap.objs.size = some (newS w) := Heap.get?_push_size _ rfl
      have tyS0 : Shared.TypeIs { s with heap := s.heap.push (newS w) } (.ref s.heap.objs.size) "set" := ⟨_, gotS, rfl⟩
      have li0 := F.called_set.init.lookup
      have bi0 := F.called_set.init.bind (.ref s.heap.objs.size)
      repeat (any_goals (first | assumption | wp_step))

      refine codeAny_mono (codeAny_call_builtin (R := wants (fun r s₂ => r = .none ∧ ∃ h' tk L es ep t, s₂ = { s with heap := h', toks := tk } ∧ SetTR P w h' s.heap.objs.size L es ep t ∧ Got ks ks.length L ∧
          (∀ b o, s.heap.get? b = some o → h'.get? b = some o)) E) F.called_set.init.plain F.entry_set_init (check_set_init_1 tyS0 ?_)) fun r₂ s₂ hr₂ => ?_
      · obtain ⟨ol, olp, clp, nl, dlp⟩ := hin
        obtain ⟨ocls, odict, odata, oslots⟩ := ol
        simp only at clp dlp
        subst clp; subst dlp
        have olp' : (s.heap.push (newS w)).get? tp = some { cls := .type "tuple", dict := odict, data := .seq vals nl, slots := oslots } := Heap.get?_push_of_some _ olp
        have subS := F.sub_tuple_set
        have subF := F.sub_tuple_frozenset
        have neD : (Value.type "tuple" == Value.type "dict") = false := by decide
        have hin1 : (s.heap.push (newS w)).IsTuple tp vals := ⟨_, olp', rfl, nl, rfl⟩
        unfold Builtin.«set.__init__» noKeywords Builtin.Frozenset.updateFrom
        generalize hPJ : pyIter = PJ
        wp_walk
        subst hPJ

        refine wpAny_pyIter_tuple hin1 ?_
        refine wpAny_bind (wpAny_runValue ?_)
        have ltS : tp < s.heap.objs.size := Heap.lt_size olp
        have hd3 : A.in1.in1.in1.handled = none := by simp [hh]
        have szS : (s.heap.push (newS w)).objs.size = s.heap.objs.size + 1 := Heap.size_push ..
        have neI : tp ≠ (s.heap.push (newS w)).objs.size := by
          rw [Heap.size_push]; exact Nat.ne_of_lt (Nat.lt_succ_of_lt ltS)
        have offS : s.heap.objs.size ∉ [(s.heap.push (newS w)).objs.size, tp] := by
          rw [Heap.size_push]; simp only [List.mem_cons, List.mem_singleton, List.not_mem_nil, or_false, not_or]
          exact ⟨Nat.ne_of_lt (Nat.lt_succ_self _), Nat.ne_of_gt ltS⟩
        have eachV : ∀ (i : Nat) (v : Value), vals[i]? = some v → ∃ p, ks[i]? = some p ∧ v = .ref p.1 := fun i v hv => by
          have q : vals.toList[i]? = some v := by rw [Array.getElem?_toList]; exact hv
          rw [hvs, List.getElem?_map] at q
          cases hq : ks[i]? with
          | none => rw [hq] at q; cases q
          | some p =>
            rw [hq] at q
            exact ⟨p, rfl, (Option.some.inj q).symm⟩
        have nothing : ∀ b, s.heap.objs.size ≤ b → s.heap.get? b = none := fun b hb => by
          cases q : s.heap.get? b with
          | none => rfl
          | some o => exact absurd (Nat.lt_of_lt_of_le (Heap.lt_size q) hb) (Nat.lt_irrefl _)
        refine set_update_tups ((Walks.tuple hd3 _ tp neI vals).toS) s.heap.objs.size
          offS ks hcount hless eachV s.heap hk (nothing _ (Nat.le_refl _)) (fun b hb => nothing b (by
            rw [List.mem_singleton.mp hb, Heap.size_push]
            exact Nat.le_succ _)) hu (vals.size - 0) 0 _ (by omega) (Nat.zero_le _)
          ⟨⟨_, Heap.get?_push_size _ rfl, rfl, rfl⟩, (hin1.push _)⟩ (fun b o e => Heap.get?_push_of_some _ (Heap.get?_push_of_some _ e)) ?hS0 ?hR
        case hS0 =>
          have getS : ((s.heap.push (newS w)).push { cls := .type "tuple_iterator", data := .fields #[.ref tp, .int 0 0] }).get? s.heap.objs.size
              = some (newS w) := Heap.get?_push_of_some _ gotS
          exact ⟨[], #[], 0, _, setTR_fresh getS, Got.zero ks⟩
        case hR =>
          intro s' L es ep t hm gotS' g' hkp
          obtain ⟨h', g2, d', tk', os'⟩ := s'
          have eg : g2 = s.gens := hm.gens
          have ed : d' = s.drawn := hm.drawn
          have eo : os' = s.os := hm.os
          subst eg; subst ed; subst eo
          show wpAny _ _ _ _ _ _
          refine wpAny_pure ?_
          show wpAny _ _ (ret Value.none) _ _ _
          rw [hcount] at g'
          exact wpAny_pure ⟨rfl, h', tk', L, es, ep, t, rfl, gotS', g', hkp⟩

      · cases r₂ with
        | error e => exact hr₂
        | ok fl₂ =>
          cases fl₂ with
          | ret r =>
            obtain ⟨rfl, h', tk, L, es, ep, t, rfl, gotS', g', hk'⟩ := hr₂
            repeat (any_goals (first | assumption | wp_step))
            exact h _ _ _ _ _ _ gotS' g' hk'
          | _ => exact hr₂.elim
    | _ => exact hq1.elim
/-- .. as a rule -/
def rSetOfTt (K : PySem.W.Frag) (P : Program) (w : World) : List V → Hp → VK → Prop := fun xs H Q => ∃ (l : Addr) (ks : List (Addr × List Int)), xs = [V.ref l] ∧ SqT K H l (ks.map fun p => V.ref p.1) ∧ (∀ p ∈ ks, SqT K H p.1 (p.2.map V.int)) ∧ ks.length < 64 ∧
  ∀ a L, H a = none → (∀ p ∈ L, p ∈ ks) → (∀ p ∈ ks, p.2 ∈ L.map (·.2)) → Q (.ref a) (upd H a (SetTO P w a L))
theorem cr_setOfTt {X : Cx} (hcalm : X.calm = true) (hun : X.A.units + 64 < cLine) : CallR X (.type "set") (rSetOfTt X.K X.prog X.w) := by
  intro pins s σ H vs us Q I r h
  obtain ⟨tp, ks, rfl, hin, hkeys, hless, q⟩ := h
  rw [Vals.ref1 r]
  obtain ⟨its, rv, pt, _⟩ := I.tuple hin
  have fresh : H s.heap.objs.size = none := I.hok.fresh (Nat.le_refl _)
  refine set_tupT (P := X.prog) (w := X.w) ks (I.ok.hd hcalm) pt (by simpa using refs_of_vals rv) (fun p hp => I.isT (hkeys p hp)) hless (by omega) fun h' tk L es ep t R g k => ?_
  refine ⟨.ref s.heap.objs.size, upd H s.heap.objs.size (SetTO X.prog X.w s.heap.objs.size L), I.laid (t' := tk) k (Nat.le_refl _) (setTO_new R.t0), rfl, q _ L fresh (fun p hp => List.mem_of_mem_take (g.sub p hp)) fun p hp => g.all p ?_⟩
  rw [List.take_length]
  exact hp
end
end Ev

end
section
set_option Elab.async false
set_option linter.all false
set_option maxRecDepth 100000
set_option maxHeartbeats 4000000
namespace Ev
open PySem L2
section
open PySem.Spec PyProof.Rows
variable {P : Program} {w : World} {A : Around} {E : Value → Shared → Prop} {s : Shared}
/-- set(xs) of a list of ints (the library's row for a tuple, turned to a list) -/
theorem set_of_list {l : Addr} {items : Array Value} (ns : List Int) {Q : Value → Shared → Prop} (hh : A.handled = none) (hl : s.heap.IsList l items) (hit : IntsAre items.toList ns) (hb : ns.length + 1 < scanBound)
    (h : ∀ (h' : Heap) (tk c : Nat), SetR w h' s.heap.objs.size (fun j => decide (j ∈ ns)) c → c ≤ ns.length → (∀ b o, s.heap.get? b = some o → h'.get? b = some o) → Q (.ref s.heap.objs.size) { s with heap := h', toks := tk }) :
    wpAny (model P w) A (call (.type "set") [.ref l]) Q E s := by
  have hisz : items.size = ns.length := by
    have q := IntsAre.length hit
    rw [Array.length_toList] at q
    exact q
  obtain ⟨c, tl, hmro⟩ := F.called_set.mro
  have hmade := F.called_set.made
  have hsub := F.called_set.sub
  refine wpAny_call (codeAny_of_tree ?_)
  show wpAny _ _ (callAny (.type "set") _) _ _ _
  refine wpAny_pure ⟨Code.quiet_builtin _ (by decide +kernel), codeAny_builtin F.entry_type_call ?_⟩
  rw [Around.under_plain (weight_type_call_type "set" [.ref l] []) rfl]
  have h1 := F.called_set.notType
  have h2 := F.called_set.canCreate
  have hct := F.typeCall_set_1 (.ref l)
  repeat (any_goals (first | assumption | wp_step))

  refine codeAny_mono (code_set_led1 (.ref l) (E := E) (Q₁ := fun obj s₁ => obj = .ref s.heap.objs.size ∧ s₁ = { s with heap := s.heap.push { cls := .type "set", dict := none, data := .set #[] 0 (.fresh 0 0 (!w.params.followText "set-order")) } }) ⟨rfl, rfl⟩) fun r s₁ hr => ?_
  cases r with
  | error e => exact hr
  | ok fl =>
    cases fl with
    | ret obj =>
      obtain ⟨rfl, rfl⟩ := hr
      have hS : (s.heap.push { cls := .type "set", dict := none, data := .set #[] 0 (.fresh 0 0 (!w.params.followText "set-order")) }).get? s.heap.objs.size = some { cls := .type "set", dict := none, data := .set #[] 0 (.fresh 0 0 (!w.params.followText "set-order")) } := Heap.get?_push_size _ rfl
      have hT : Shared.TypeIs { s with heap := s.heap.push { cls := .type "set", dict := none, data := .set #[] 0 (.fresh 0 0 (!w.params.followText "set-order")) } } (.ref s.heap.objs.size) "set" := ⟨_, hS, rfl⟩
      have hli := F.called_set.init.lookup
      have hbi := F.called_set.init.bind (.ref s.heap.objs.size)
      repeat (any_goals (first | assumption | wp_step))

      refine codeAny_mono (codeAny_call_builtin (R := wants (fun r s₂ => r = .none ∧ ∃ h' tk c, s₂ = { s with heap := h', toks := tk } ∧ SetR w h' s.heap.objs.size (fun j => decide (j ∈ ns)) c ∧ c ≤ ns.length ∧
          (∀ b o, s.heap.get? b = some o → h'.get? b = some o)) E) F.called_set.init.plain F.entry_set_init (check_set_init_1 hT ?_)) fun r₂ s₂ hr₂ => ?_
      · obtain ⟨ol, hol, hcl, nl, hdl⟩ := hl
        obtain ⟨ocls, odict, odata, oslots⟩ := ol
        simp only at hcl hdl
        subst hcl; subst hdl
        have hol' : (s.heap.push { cls := .type "set", dict := none, data := .set #[] 0 (.fresh 0 0 (!w.params.followText "set-order")) }).get? l = some { cls := .type "list", dict := odict, data := .seq items nl, slots := oslots } := Heap.get?_push_of_some _ hol
        have hsls := F.sub_list_set
        have hslf := F.sub_list_frozenset
        have hne : (Value.type "list" == Value.type "dict") = false := by decide
        have hl1 : (s.heap.push { cls := .type "set", dict := none, data := .set #[] 0 (.fresh 0 0 (!w.params.followText "set-order")) }).IsList l items := ⟨_, hol', rfl, nl, rfl⟩
        unfold Builtin.«set.__init__» noKeywords Builtin.Frozenset.updateFrom
        generalize hPI : pyIter = PI
        wp_walk
        subst hPI

        refine wpAny_pyIter_list hl1 ?_
        refine wpAny_bind (wpAny_runValue ?_)
        have hlS : l < s.heap.objs.size := Heap.lt_size hol
        have hh3 : A.in1.in1.in1.handled = none := by simp [hh]
        have hz1 : (s.heap.push { cls := .type "set", dict := none, data := .set #[] 0 (.fresh 0 0 (!w.params.followText "set-order")) }).objs.size = s.heap.objs.size + 1 := Heap.size_push ..
        have hneI : l ≠ (s.heap.push { cls := .type "set", dict := none, data := .set #[] 0 (.fresh 0 0 (!w.params.followText "set-order")) }).objs.size := by
          rw [Heap.size_push]; exact Nat.ne_of_lt (Nat.lt_succ_of_lt hlS)
        have hSf : s.heap.objs.size ∉ [(s.heap.push { cls := .type "set", dict := none, data := .set #[] 0 (.fresh 0 0 (!w.params.followText "set-order")) }).objs.size, l] := by
          rw [Heap.size_push]; simp only [List.mem_cons, List.mem_singleton, List.not_mem_nil, or_false, not_or]
          exact ⟨Nat.ne_of_lt (Nat.lt_succ_self _), Nat.ne_of_gt hlS⟩
        have hval : ∀ (i : Nat) (v : Value), items[i]? = some v → ∃ k t, ns[i]? = some k ∧ v = .int k t := fun i v hv => by
          have hi : i < ns.length := by rw [← hisz]; exact (Array.getElem?_eq_some_iff.mp hv).1
          obtain ⟨t, e⟩ := PyProof.Rows.IntsAre.int_at hit i v (by rw [Array.getElem?_toList]; exact hv)
          refine ⟨ns[i], t, List.getElem?_eq_getElem hi, ?_⟩
          rw [e, List.getD_eq_getElem?_getD, List.getElem?_eq_getElem hi] <;> rfl
        refine set_update_ints ((Walks.list hh3 _ l hneI items).toS) s.heap.objs.size
          hSf ns hisz hb hval (items.size - 0) 0 _ (by omega) (Nat.zero_le _)
          ⟨⟨_, Heap.get?_push_size _ rfl, rfl, rfl⟩, (hl1.push _)⟩ ?hS0 ?hR
        case hS0 =>
          have hget : ((s.heap.push { cls := .type "set", dict := none, data := .set #[] 0 (.fresh 0 0 (!w.params.followText "set-order")) }).push { cls := .type "list_iterator", data := .fields #[.ref l, .int 0 0] }).get? s.heap.objs.size
              = some { cls := .type "set", dict := none, data := .set #[] 0 (.fresh 0 0 (!w.params.followText "set-order")) } := Heap.get?_push_of_some _ hS
          exact ⟨0, Nat.le_refl 0, setR_new_at hget⟩
        case hR =>
          intro s' c' hm hc' hS'
          obtain ⟨h', g2, d', tk', os'⟩ := s'
          have eg : g2 = s.gens := hm.gens
          have ed : d' = s.drawn := hm.drawn
          have eo : os' = s.os := hm.os
          subst eg; subst ed; subst eo
          show wpAny _ _ _ _ _ _
          refine wpAny_pure ?_
          show wpAny _ _ (ret Value.none) _ _ _
          rw [hisz] at hc'
          refine wpAny_pure ⟨rfl, h', tk', c', rfl, hS', hc', fun b o e => ?_⟩
          have hb0 : b < s.heap.objs.size := Heap.lt_size e
          have hb1 : b ≠ s.heap.objs.size := Nat.ne_of_lt hb0
          have hb2 : b ≠ (s.heap.push { cls := .type "set", dict := none, data := .set #[] 0 (.fresh 0 0 (!w.params.followText "set-order")) }).objs.size := by
            rw [Heap.size_push]; exact Nat.ne_of_lt (Nat.lt_succ_of_lt hb0)
          exact hm.heap b o (by simp only [List.mem_cons, List.mem_singleton, List.not_mem_nil, or_false, not_or]; exact ⟨hb1, hb2⟩) (Heap.get?_push_of_some _ (Heap.get?_push_of_some _ e))

      · cases r₂ with
        | error e => exact hr₂
        | ok fl₂ =>
          cases fl₂ with
          | ret r =>
            obtain ⟨rfl, h', tk, c', rfl, hS', hc', hk'⟩ := hr₂
            repeat (any_goals (first | assumption | wp_step))
            exact h _ _ _ hS' hc' hk'
          | _ => exact hr₂.elim
    | _ => exact hr.elim

end
section
variable {X : Cx}
open PySem.Spec PyProof.Rows
/-- set(xs), ints in a list or a tuple -/
def rSetI (K : PySem.W.Frag) (w : World) : List V → Hp → VK → Prop := fun vs H Q => ∃ (a : Addr) (ns : List Int), vs = [V.ref a] ∧ (SqL K H a (ns.map V.int) ∨ SqT K H a (ns.map V.int)) ∧ ns.length < 64 ∧
  ∀ (p : Addr) (c : Nat), c ≤ ns.length → H p = none → Q (.ref p) (upd H p (SetO w p (fun j => decide (j ∈ ns)) c))
theorem cr_setI (hc : X.calm = true) : CallR X (.type "set") (rSetI X.K X.w) := by
  intro pins s σ H vs us Q I r h
  obtain ⟨a, ns, rfl, hs, hl, q⟩ := h
  have hd := I.ok.hd hc
  have fin : ∀ (h' : Heap) (tk c : Nat), SetR X.w h' s.heap.objs.size (fun j => decide (j ∈ ns)) c → c ≤ ns.length → (∀ b o, s.heap.get? b = some o → h'.get? b = some o) → EP X pins σ Q (.ref s.heap.objs.size) { s with heap := h', toks := tk } := fun h' tk c R1 hcn k =>
    ⟨.ref s.heap.objs.size, upd H s.heap.objs.size (SetO X.w s.heap.objs.size (fun j => decide (j ∈ ns)) c), I.laid (t' := tk) k (Nat.le_refl _) (setO_new R1), rfl, q _ c hcn (I.hok.fresh (Nat.le_refl _))⟩
  rw [Vals.ref1 r]
  rcases hs with hs | hs
  · obtain ⟨its, rv, pl, hz⟩ := I.list hs
    have hi : IntsAre its.toArray.toList ns := ints_of_vals rv
    exact set_of_list ns hd pl.isList hi (by unfold scanBound; omega) fin
  · obtain ⟨its, rv, pt, hz⟩ := I.tuple hs
    have hi : IntsAre its.toArray.toList ns := ints_of_vals rv
    exact call_set_tupI ns hd pt hi (by unfold scanBound; omega) fin
end
section
variable {X : Cx} {F : CallF} {KW : Kt} {a b c : C} {as : A} {x y z : Expr} {es : List Expr} {pos p : Pos}
theorem biR_sorted : CallR X (.builtin "sorted") (rBi X.K .sorted) := by
  refine CallR.imp (cr_or cr_srt cr_srtT) ?_
  rintro xs H Q ⟨m, al, us, r, md, bs, e, t⟩
  match us, e with
  | [u], e =>
    obtain ⟨x, rfl, b⟩ := bs.one
    have key : ∀ (ys : List U) (a : Addr) (vs : List V), items u = some ys → Shs X.K H m al ys vs → (SqL X.K H a vs ∨ SqT X.K H a vs) → x = .ref a → rSrt X.K [x] H Q ∨ rSrtT X.K [x] H Q := fun ys a vs hi hs hq hx => by
      simp only [biV, hi] at e
      cases c : intsU ys with
      | some is =>
        rw [c] at e; cases e
        rw [hs.intsU c] at hq
        exact .inl ⟨a, is, by rw [hx], hq, fun p hp => t.newL md Shs.ints hp⟩
      | none =>
        rw [c] at e
        simp only at e
        cases c2 : tupsU ys with
        | none => rw [c2] at e; cases e
        | some ts =>
          rw [c2] at e; cases e
          obtain ⟨ks, k1, k2, k3, k4⟩ := tupKs hs c2
          refine .inr ⟨a, vs, by rw [hx], hq, fun x hm => ?_, fun zs p hp hu hn => ?_⟩
          · rw [k2] at hm
            obtain ⟨q, hq, rfl⟩ := List.mem_map.mp hm
            obtain ⟨q1, _, q3⟩ := k4 q hq
            exact ⟨q.2, ⟨q.1, rfl, q1⟩, q3⟩
          · obtain ⟨ks', p1, e1⟩ := perm_map_inv hp k2
            have h4 : ∀ q ∈ ks', SqT X.K H q.1 (q.2.map V.int) ∧ Sh X.K H m al (Ev.tupI q.2) (.ref q.1) ∧ q.2 ≠ [] := fun q hq => k4 q (p1.mem_iff.mp hq)
            have es : ks'.map (·.2) = sortT ts := by
              rw [← k1]
              refine sortT_of (p1.map _) ?_
              rw [e1, List.pairwise_map] at hu
              rw [List.pairwise_map]
              exact hu.imp_of_mem fun {x y} hx hy h => h _ _ ⟨_, rfl, (h4 x hx).1⟩ ⟨_, rfl, (h4 y hy).1⟩
            have r := shs_ks (K := X.K) (H := H) (m := m) (al := al) (ks := ks') fun q hq => (h4 q hq).2.1
            rw [es] at r
            rw [e1]
            exact t.newL md r hn
    cases u <;> (try (simp only [biV, items] at e; cases e; done))
    · obtain ⟨a, vs, rfl, h1, h2, _⟩ := b.tup
      exact key _ a vs rfl h2 (.inr h1) rfl
    · obtain ⟨a, vs, rfl, h1, h2⟩ := b.lst
      exact key _ a vs rfl h2 (.inl h1.sq) rfl
/-- sorted(set(x)) -/
theorem snd_sortedSet {p1 p2 pos2 : Pos} (hu : X.A.units + 64 < cLine) (hc : X.calm = true) (hg : Gl X "sorted") (hm : X.mg "sorted" = none) (hg2 : Gl X "set") (hm2 : X.mg "set" = none) (hs : noStar x = true) (ha : PE X x (tB F KW X.K a)) :
    PE X (.Call (.Name "sorted" p1) [.Call (.Name "set" p2) [x] [] pos2] [] pos) (tE F KW X.K (.bi .sortedSet (.cons a .nil))) := by
  have h1 := pe_callTy (p := p2) (pos := pos2) (cr_or (cr_setI hc) (cr_or (cr_setOfT hc hu) (cr_setOfTt hc hu))) hg2 hm2 (by decide +kernel) (pa_cons ha pa_nil (star_of hs _)) (by decide +kernel) (by decide +kernel) (star_of hs _) rfl
  refine PE.imp (pe_callB (cr_or (cr_sortedSet hc) (cr_sortedT hc)) hg hm (by decide +kernel) (pa_cons h1 pa_nil) (by decide +kernel) (by decide +kernel)) fun σ H Q ⟨ρ, s, m, al, r, s', sc, e, q⟩ => ?_
  simp only [evE, evA] at e
  obtain ⟨us, s1, e1, e⟩ := bind_ok e
  obtain ⟨ra, s2, e2, e1⟩ := bind_ok e1
  obtain ⟨xs, s3, e3, e1⟩ := bind_ok e1
  cases e3
  cases e1
  obtain ⟨e, rfl⟩ := ofO_ok e
  refine ⟨ρ, s, m, al, _, _, sc, e2, fun v H1 al1 st t b => ?_⟩
  have key : ∀ (ys : List U) (a : Addr) (vs : List V), items ra.u = some ys → Shs X.K H1 (mU m al1) al1 ys vs → (SqL X.K H1 a vs ∨ SqT X.K H1 a vs) → v = .ref a →
      (rSetI X.K X.w [v] H1 (fun x H2 => rSortedSet X.w [x] H2 Q ∨ rSortedT X.K X.prog X.w [x] H2 Q) ∨ rSetOfT X.K X.prog X.w [v] H1 (fun x H2 => rSortedSet X.w [x] H2 Q ∨ rSortedT X.K X.prog X.w [x] H2 Q) ∨ rSetOfTt X.K X.prog X.w [v] H1 fun x H2 => rSortedSet X.w [x] H2 Q ∨ rSortedT X.K X.prog X.w [x] H2 Q) := fun ys a vs hi hs hq hx => by
    simp only [biV, hi] at e
    cases c : intsU ys with
    | none =>
      rw [c] at e
      simp only at e
      cases c2 : tupsU ys with
      | none => rw [c2] at e; cases e
      | some ts =>
        rw [c2] at e
        simp only at e
        by_cases c3 : okT ts = true
        · rw [if_pos c3] at e
          cases e
          obtain ⟨ks, k1, k2, k3, k4⟩ := tupKs hs c2
          unfold okT at c3
          obtain ⟨c4, c5⟩ := Bool.and_eq_true_iff.mp c3
          have c4 := of_decide_eq_true c4
          have hkl : ks.length = ts.length := by rw [← k1, List.length_map]
          have c6 : ∀ q ∈ ks, q.2.length = (ts.headD []).length ∧ TS.Bd 18446744073709551616 q.2 := fun q hq => by
            have := List.all_eq_true.mp c5 q.2 (by rw [← k1]; exact List.mem_map_of_mem hq)
            obtain ⟨d1, d2⟩ := Bool.and_eq_true_iff.mp this
            refine ⟨eq_of_beq d1, fun x hx => ?_⟩
            have := List.all_eq_true.mp d2 x hx
            obtain ⟨d3, d4⟩ := Bool.and_eq_true_iff.mp this
            exact ⟨of_decide_eq_true d3, of_decide_eq_true d4⟩
          rw [k2] at hq
          have hne : ks ≠ [] := fun z => by
            subst z
            cases k1
            rw [k3] at c
            cases c
          have hd1 : 1 ≤ (ts.headD []).length := by
            obtain ⟨q, hq⟩ := List.exists_mem_of_ne_nil _ hne
            have h1 := (c6 q hq).1
            have h2 := (k4 q hq).2.2
            cases q2 : q.2 with
            | nil => exact absurd q2 h2
            | cons y ys => rw [q2, List.length_cons] at h1; omega
          suffices main : ∀ (p : Addr) (L : List (Addr × List Int)), H1 p = none → (∀ q ∈ L, q ∈ ks) → (∀ q ∈ ks, q.2 ∈ L.map (·.2)) → rSortedSet X.w [.ref p] (upd H1 p (SetTO X.prog X.w p L)) Q ∨ rSortedT X.K X.prog X.w [.ref p] (upd H1 p (SetTO X.prog X.w p L)) Q by
            rcases hq with hq | hq
            · exact .inr (.inl ⟨a, ks, by rw [hx], hq, fun q hq => (k4 q hq).1, by omega, fun p L hp sub all => main p L hp sub all⟩)
            · exact .inr (.inr ⟨a, ks, by rw [hx], hq, fun q hq => (k4 q hq).1, by omega, fun p L hp sub all => main p L hp sub all⟩)
          intro p L hp sub all
          refine .inr ⟨p, L, _, _, rfl, upd_same, fun q hq => ?_, hd1, fun q hq => c6 q (sub q hq), fun L' p2 pm nd few pw hp2 => ?_⟩
          · exact SqT_grow (k4 q (sub q hq)).1 (Grow.new hp)
          · have g1 : Grow H1 (upd H1 p (SetTO X.prog X.w p L)) := Grow.new hp
            have st2 := st.grow g1
            have t2 := t.grow g1
            refine q _ _ al1 (st2.grow (Grow.new hp2)) (t2.grow (Grow.new hp2)) ?_
            have hs2 : ∀ q ∈ L', Sh X.K (upd H1 p (SetTO X.prog X.w p L)) (mU m al1) al1 (Ev.tupI q.2) (.ref q.1) := fun q hq => ((k4 q (sub q (pm.mem_iff.mp hq))).2.1).grow g1
            have r := shs_ks hs2
            have es : L'.map (·.2) = sortTS ts := by
              refine ltT_mem_eq ?_ (sortTS_up ts) fun z => ?_
              · rw [List.pairwise_map]
                unfold List.Nodup at nd
                rw [List.pairwise_map] at nd
                refine (pw.and nd).imp_of_mem fun {x y} hx hy h => ?_
                have b1 := c6 x (sub x (pm.mem_iff.mp hx))
                have b2 := c6 y (sub y (pm.mem_iff.mp hy))
                cases q : HT.lexLt x.2 y.2 with
                | true => exact q
                | false =>
                  cases q2 : HT.lexLt y.2 x.2 with
                  | false => exact absurd (lex_eq q q2) h.2
                  | true =>
                    have := (code_lex (by rw [b1.1, b2.1]) b2.2 b1.2).mpr q2
                    have := h.1
                    omega
              · rw [sortTS_mem, ← k1, (pm.map _).mem_iff]
                constructor
                · intro hz
                  obtain ⟨x, hx, e⟩ := List.mem_map.mp hz
                  exact List.mem_map.mpr ⟨x, sub x hx, e⟩
                · intro hz
                  obtain ⟨x, hx, e⟩ := List.mem_map.mp hz
                  rw [← e]
                  exact all x hx
            rw [es] at r
            exact VR.newL (sc.step st2 t2).md st2 r hp2
        · rw [if_neg c3] at e; cases e
    | some is =>
      rw [c] at e
      simp only at e
      by_cases c2 : is.length < 64
      · rw [if_pos c2] at e
        cases e
        rw [hs.intsU c] at hq
        refine .inl ⟨a, is, by rw [hx], hq, c2, fun p n hn hp => .inl ⟨p, _, n, rfl, upd_same, by omega, fun ns p2 up mem _ hp2 => ?_⟩⟩
        have en : ns = sortS is := lt_mem_eq up (sortS_up is) fun z => by rw [mem z, sortS_mem z is, decide_eq_true_eq]
        subst en
        have g1 : Grow H1 (upd H1 p (SetO X.w p (fun j => decide (j ∈ is)) n)) := Grow.new hp
        have st2 := st.grow g1
        have t2 := t.grow g1
        refine q _ _ al1 (st2.grow (Grow.new hp2)) (t2.grow (Grow.new hp2)) ?_
        exact VR.newL (sc.step st2 t2).md st2 Shs.ints hp2
      · rw [if_neg c2] at e; cases e
  obtain ⟨u, f⟩ := ra
  cases u <;> (try (simp only [biV, items] at e; cases e; done))
  · obtain ⟨a, vs, rfl, h1, h2, _⟩ := b.tup
    exact key _ a vs rfl h2 (.inr h1) rfl
  · obtain ⟨a, vs, rfl, h1, h2⟩ := b.lst
    exact key _ a vs rfl h2 (.inl h1.sq) rfl
end
end Ev

end
section
set_option Elab.async false
set_option linter.all false
set_option maxRecDepth 100000
set_option maxHeartbeats 4000000
namespace Ev
open PySem L2
section
variable {X : Cx} {F : CallF} {KW : Kt} {a b c : C} {as : A} {x y z : Expr} {es : List Expr} {pos p : Pos}
/-- a list of the store, behind a value -/
theorem ref_at {K : PySem.W.Frag} {m : Addr → Prop} {al : List Addr} {s : Sto} {H : Hp} {k : Nat} {xs : List Int} {v : V} (t : ST K m al s H) (b : BR K H m al (.ref k) v) (e : nth k s = some (.lst xs)) : ∃ d, v = .ref d ∧ al[k]? = some d ∧ H d = some (.lst (xs.map V.int)) := by
  cases b with
  | sh h =>
    cases h with
    | ref h =>
      rename_i d
      rw [nth_get] at h e
      obtain ⟨d', e1, e2⟩ := t.at_ k xs e
      rw [h] at e1; cases e1
      exact ⟨d, rfl, h, e2⟩
theorem snd_sortedR {p1 : Pos} (hg : Gl X "sorted") (hm : X.mg "sorted" = none) (hs : noStar x = true) (ha : PE X x (tB F KW X.K a)) :
    PE X (.Call (.Name "sorted" p1) [x] [] pos) (tE F KW X.K (.sortedR a)) := by
  refine PE.imp (pe_callB cr_srt hg hm (by decide +kernel) (pa_cons ha pa_nil (star_of hs _)) (by decide +kernel) (by decide +kernel) (star_of hs _) rfl) fun σ H Q ⟨ρ, s, m, al, r, s', sc, e, q⟩ => ?_
  simp only [evE] at e
  obtain ⟨ra, s1, e1, e⟩ := bind_ok e
  obtain ⟨u, f⟩ := ra
  cases u <;> simp only at e <;> try (cases e; done)
  rename_i k
  cases hk : nth k s1 with
  | none => rw [hk] at e; cases e
  | some ob =>
    obtain ⟨xs⟩ := ob
    rw [hk] at e
    cases e
    refine ⟨ρ, s, m, al, _, _, sc, e1, fun v H1 al1 st t b => ?_⟩
    obtain ⟨d, rfl, _, h2⟩ := ref_at t b hk
    exact ⟨d, xs, rfl, .inl (SqL.of h2), fun p hp => q _ _ al1 (st.grow (Grow.new hp)) (t.grow (Grow.new hp)) (VR.newL (sc.step st t).md st Shs.ints hp)⟩
theorem refNe_in {R : V → Hp → Prop} {σ : L2.St} {H : Hp} {ρ : Env} {s s' : Sto} {m : Addr → Prop} {al : List Addr} {r : Rv} (sc : SC X.K m al s ρ σ H) (e : evE F KW (.refNe a) ρ s = .ok r s')
    (q : ∀ k, r = ⟨.bl k, false⟩ → ∀ H' al', Step H H' al al' → ST X.K (mU m al') al' s' H' → R (.bl k) H') : tOp (rCmp X.K .ne) (tB F KW X.K a) (tB F KW X.K (.lst .nil)) σ H R := by
  simp only [evE] at e
  obtain ⟨ra, s1, e1, e⟩ := bind_ok e
  obtain ⟨u, f⟩ := ra
  cases u <;> simp only at e <;> try (cases e; done)
  rename_i k
  cases hk : nth k s1 with
  | none => rw [hk] at e; cases e
  | some ob =>
    obtain ⟨xs⟩ := ob
    rw [hk] at e
    simp only at e
    obtain ⟨kk, e3, e⟩ := bindO_ok e
    cases e
    refine ⟨ρ, s, m, al, _, _, sc, e1, fun v1 H1 al1 st1 t1 b1 => ⟨ρ, s', mU m al1, al1, ⟨.lst [], true⟩, s', sc.step st1 t1, by simp only [evE, evA, RE.bind], fun v2 H2 al2 st2 t2 b2 => ?_⟩⟩
    obtain ⟨d, rfl, _, h2⟩ := ref_at t2 (b1.step st2 t1.sub) hk
    have c1 : BR X.K H2 (fun _ => False) [] (.lst (xs.map .int)) (.ref d) := .own h2 (by simp) Shs.ints
    have c2 : BR X.K H2 (fun _ => False) [] (.lst []) v2 := by
      obtain ⟨b, vs, rfl, h, g⟩ := b2.lst
      cases g
      rcases h with h | ⟨its, h⟩ | ⟨its, n, h, z, g⟩
      · exact .sh (.lst h (fun z => z) .nil)
      · exact .sh (.lstF h (fun z => z) .nil)
      · exact .sh (.lstK h z g .nil)
    exact ⟨_, _, _, _, kk, c1, c2, e3, q _ rfl H2 al2 (st1.trans st2) (t2.weak (fun _ z => mU_sub z) fun _ z => .inr z)⟩
theorem snd_refNe {p2 : Pos} (hu : X.A.units + 65 < cLine) (ha : PE X x (tB F KW X.K a)) (hb : PE X (.List [] p2) (tB F KW X.K (.lst .nil))) : PE X (.Compare x [.NotEq] [.List [] p2] pos) (tE F KW X.K (.refNe a)) :=
  PE.imp (pe_cmpR (cmpR hu .ne) ha hb (noSet_mark rfl)) fun σ H Q ⟨ρ, s, m, al, r, s', sc, e, q⟩ =>
    refNe_in sc e fun k hk H' al' st t => q _ H' al' st t (by rw [hk]; exact ⟨.bl _, fun z => nomatch z⟩)
theorem snd_refNeT {p2 : Pos} (hu : X.A.units + 65 < cLine) (ha : PE X x (tB F KW X.K a)) (hb : PE X (.List [] p2) (tB F KW X.K (.lst .nil))) : PT X (.Compare x [.NotEq] [.List [] p2] pos) (tT F KW X.K (.refNe a)) :=
  PT.imp (pt_cmpR (cmpR hu .ne) ha hb (noSet_mark rfl)) fun σ H Q ⟨ρ, s, m, al, r, s', k, sc, e, tr, q⟩ =>
    refNe_in sc e fun k' hk H' al' st t => by
      subst hk
      cases tr
      exact ⟨_, rfl, q H' al' st t⟩
end
end Ev

end
section
set_option Elab.async false
set_option linter.all false
set_option maxRecDepth 100000
set_option maxHeartbeats 4000000
namespace Ev
open PySem L2
section
variable {K : PySem.W.Frag} {H : Hp} {m : Addr → Prop} {al : List Addr}
theorem zipK_cons (k : Int) (v : V) (ks : List Int) (vs : List V) : zipK (k :: ks) (v :: vs) = (.inl k, v) :: zipK ks vs := rfl
theorem zipK_val : ∀ {d : List (Int × U)} {vs : List V}, Shs K H m al (d.map Prod.snd) vs → ∀ k : Int, match d.find? (fun p => p.1 == k) with
    | some p => ∃ v, valV (zipK (d.map Prod.fst) vs) (.inl k) = some v ∧ Sh K H m al p.2 v
    | none => valV (zipK (d.map Prod.fst) vs) (.inl k) = none
  | [], _, h, k => by cases h; rfl
  | (j, u) :: d, _, .cons (v := v) (vs := vs) h1 h2, k => by
    have ih := zipK_val (d := d) h2 k
    rw [List.find?_cons]
    by_cases e : j = k
    · subst e
      simp only [beq_self_eq_true]
      exact ⟨v, valV_pos (p := (Sum.inl j, v)) rfl, h1⟩
    · have e1 : (j == k) = false := beq_eq_false_iff_ne.mpr e
      have e2 : valV (zipK (((j, u) :: d).map Prod.fst) (v :: vs)) (.inl k) = valV (zipK (d.map Prod.fst) vs) (.inl k) := valV_neg (p := (Sum.inl j, v)) fun z => e (Sum.inl.inj z)
      simp only [e1, e2]
      exact ih
theorem zipK_keys : ∀ {ks : List Int} {vs : List V}, ks.length = vs.length → (zipK ks vs).map (·.1) = ks.map Sum.inl
  | [], [], _ => rfl
  | [], _ :: _, h => by simp at h
  | _ :: _, [], h => by simp at h
  | k :: ks, v :: vs, h => by
    have := zipK_keys (ks := ks) (vs := vs) (by simpa using h)
    rw [zipK_cons, List.map_cons, this]
    rfl
theorem dct_pairs : ∀ {us : List U} {vs : List V} {d : List (Int × U)}, Shs K H m al us vs → dctU us = some d → ∃ (ps : List Addr) (ws : List V), vs = ps.map V.ref ∧ Shs K H m al (d.map Prod.snd) ws ∧ Paired (fun p kv => SqT K H p [kV kv.1, kv.2]) ps (zipK (d.map Prod.fst) ws) ∧ (d.map Prod.fst).Nodup
  | [], _, d, h, e => by
    cases h; cases e
    exact ⟨[], [], rfl, .nil, .nil, .nil⟩
  | u :: us, _, d, .cons (v := v) (vs := vs) h1 h2, e => by
    obtain ⟨xs, rfl⟩ : ∃ xs, u = .tup xs := by cases u <;> first | exact ⟨_, rfl⟩ | (cases e; done)
    match xs, e with
    | [.int k, w], e =>
      simp only [dctU] at e
      cases c : dctU us with
      | none => rw [c] at e; cases e
      | some d' =>
        rw [c] at e
        simp only at e
        by_cases c2 : (d'.any fun p => p.1 == k) = true
        · rw [if_pos c2] at e; cases e
        · rw [if_neg c2] at e
          cases e
          obtain ⟨ps, ws, rfl, q2, q3, q4⟩ := dct_pairs h2 c
          obtain ⟨a, zs, rfl, g1, g2, _⟩ := (BR.sh h1).tup
          cases g2 with
          | cons r1 r2 =>
            cases r1
            cases r2 with
            | cons r3 r4 =>
              cases r4
              rename_i vv
              refine ⟨a :: ps, vv :: ws, rfl, .cons r3 q2, .cons g1 q3, List.nodup_cons.mpr ⟨fun z => c2 ?_, q4⟩⟩
              obtain ⟨p, hp, e⟩ := List.mem_map.mp z
              exact List.any_eq_true.mpr ⟨p, hp, by rw [e]; exact beq_self_eq_true k⟩
end
section
variable {X : Cx} {F : CallF} {KW : Kt} {a b c : C} {as : A} {x y z : Expr} {es : List Expr} {pos p : Pos}
theorem snd_dict1 {p1 : Pos} (hc : X.calm = true) (hg : Gl X "dict") (hm : X.mg "dict" = none) (hs : noStar x = true) (ha : PE X x (tB F KW X.K a)) :
    PE X (.Call (.Name "dict" p1) [x] [] pos) (tE F KW X.K (.dict1 a)) := by
  refine PE.imp (pe_callTy (cr_dictX hc) hg hm (by decide +kernel) (pa_cons ha pa_nil (star_of hs _)) (by decide +kernel) (by decide +kernel) (star_of hs _) rfl) fun σ H Q ⟨ρ, s, m, al, r, s', sc, e, q⟩ => ?_
  simp only [evE] at e
  obtain ⟨ra, s1, e1, e⟩ := bind_ok e
  obtain ⟨us, e2, e⟩ := bindO_ok e
  obtain ⟨d, e3, e⟩ := bindO_ok e
  cases e
  refine ⟨ρ, s, m, al, _, _, sc, e1, fun v H1 al1 st t br => ?_⟩
  have key : ∀ (l : Addr) (vs : List V), v = .ref l → Shs X.K H1 (mU m al1) al1 us vs → PrAt X.K H1 l vs → rDictX X.K [v] H1 Q := fun l vs hv hs hp => by
    subst hv
    obtain ⟨ps, ws, rfl, q2, q3, q4⟩ := dct_pairs hs e3
    refine ⟨l, ps, _, rfl, hp, q3, fun p hp => ?_⟩
    have hl := q2.length
    rw [List.length_map] at hl
    have hn : ((zipK (d.map Prod.fst) ws).map (·.1)).Nodup := by
      rw [zipK_keys (by rw [List.length_map]; exact hl)]
      exact List.Pairwise.map _ (fun a b h e => h (Sum.inl.inj e)) q4
    rw [mergeK_new _ [] (by simpa using hn), List.nil_append]
    have g := Grow.new (o := .dK (zipK (d.map Prod.fst) ws)) hp
    exact q _ _ al1 (st.grow g) (t.grow g) ⟨.dct rfl upd_same ((sc.step st t).md.not hp) (q2.grow g), fun z => nomatch z⟩
  obtain ⟨u, f⟩ := ra
  cases u <;> simp only [items] at e2 <;> cases e2
  · cases br with
    | sh h =>
      cases h with
      | tup h1 h2 h3 => exact key _ _ rfl h3 (.inr (.inl ⟨_, h1⟩))
      | tupK h1 h2 h4 h3 => exact key _ _ rfl h3 (.inr (.inr ⟨_, _, h1, h2, h4⟩))
  · obtain ⟨l, vs, rfl, h1, h2⟩ := br.lst
    exact key _ _ rfl h2 (.inl h1.sq)
theorem BR.dct {K : PySem.W.Frag} {H : Hp} {m : Addr → Prop} {al : List Addr} {d : List (Int × U)} {v : V} (h : BR K H m al (.dct d) v) : ∃ l ws, v = .ref l ∧ H l = some (.dK (zipK (d.map Prod.fst) ws)) ∧ Shs K H m al (d.map Prod.snd) ws := by
  cases h with
  | sh h => cases h with
    | dct h0 h1 h2 h3 => subst h0; exact ⟨_, _, rfl, h1, h3⟩
theorem snd_dGet (hu : X.A.units + 65 < cLine) (hs : NoSl y) (ha : PE X x (tB F KW X.K a)) (hb : PE X y (tB F KW X.K b)) : PE X (.Subscript x y pos) (tE F KW X.K (.dGet a b)) :=
  PE.imp (pe_dget (by omega) ha hb hs) fun σ H Q ⟨ρ, s, m, al, r, s', sc, e, q⟩ => by
    simp only [evE] at e
    obtain ⟨ra, s1, e1, e⟩ := bind_ok e
    obtain ⟨rb, s2, e2, e⟩ := bind_ok e
    obtain ⟨u, e3, e⟩ := bindO_ok e
    cases e
    refine ⟨ρ, s, m, al, ra, s1, sc, e1, fun v1 H1 al1 st1 t1 b1 => ⟨ρ, s1, mU m al1, al1, rb, _, sc.step st1 t1, e2, fun v2 H2 al2 st2 t2 b2 => ?_⟩⟩
    obtain ⟨ua, fa⟩ := ra
    obtain ⟨ub, fb⟩ := rb
    obtain ⟨d, rfl⟩ : ∃ d, ua = .dct d := by cases ua <;> first | exact ⟨_, rfl⟩ | (cases e3; done)
    obtain ⟨k, rfl⟩ : ∃ k, ub = .int k := by cases ub <;> first | exact ⟨_, rfl⟩ | (cases e3; done)
    simp only [dgetU] at e3
    obtain ⟨l, ws, rfl, g1, g2⟩ := (b1.step st2 t1.sub).dct
    cases b2.int
    have hv := zipK_val g2 k
    cases c : d.find? (fun p => p.1 == k) with
    | none => rw [c] at e3; cases e3
    | some p =>
      rw [c] at e3 hv
      cases e3
      obtain ⟨v, h1, h2⟩ := hv
      refine ⟨l, v, rfl, ?_, q v H2 al2 (st1.trans st2) t2.mm ⟨h2.weak fun _ z => mU_sub z, fun z => nomatch z⟩⟩
      rw [← h1]
      exact DGet.k (k := .inl k) g1
theorem dIn_in {neg : Bool} {R : V → Hp → Prop} {σ : L2.St} {H : Hp} {ρ : Env} {s s' : Sto} {m : Addr → Prop} {al : List Addr} {r : Rv} (sc : SC X.K m al s ρ σ H) (e : evE F KW (.dIn neg a b) ρ s = .ok r s')
    (q : ∀ k, r = ⟨.bl k, false⟩ → ∀ H' al', Step H H' al al' → ST X.K (mU m al') al' s' H' → R (.bl k) H') : tB F KW X.K a σ H fun y H1 => tB F KW X.K b σ H1 fun x H2 => ∃ l o, x = .ref l ∧ DGet H2 l y o ∧ R (.bl (if neg then !o.isSome else o.isSome)) H2 := by
  simp only [evE] at e
  obtain ⟨ra, s1, e1, e⟩ := bind_ok e
  obtain ⟨rb, s2, e2, e⟩ := bind_ok e
  obtain ⟨kk, e3, e⟩ := bindO_ok e
  cases e
  refine ⟨ρ, s, m, al, ra, s1, sc, e1, fun v1 H1 al1 st1 t1 b1 => ⟨ρ, s1, mU m al1, al1, rb, _, sc.step st1 t1, e2, fun v2 H2 al2 st2 t2 b2 => ?_⟩⟩
  obtain ⟨ua, fa⟩ := ra
  obtain ⟨ub, fb⟩ := rb
  obtain ⟨k, rfl⟩ : ∃ k, ua = .int k := by cases ua <;> first | exact ⟨_, rfl⟩ | (cases e3; done)
  obtain ⟨d, rfl⟩ : ∃ d, ub = .dct d := by cases ub <;> first | exact ⟨_, rfl⟩ | (cases e3; done)
  simp only [dinU] at e3
  cases e3
  cases b1.int
  obtain ⟨l, ws, rfl, g1, g2⟩ := b2.dct
  have hv := zipK_val g2 k
  refine ⟨l, _, rfl, DGet.k (k := .inl k) g1, ?_⟩
  have hb : (valV (zipK (d.map Prod.fst) ws) (.inl k)).isSome = d.any fun p => p.1 == k := by
    cases c : d.find? (fun p => p.1 == k) with
    | none =>
      rw [c] at hv
      rw [hv]
      have : (d.any fun p => p.1 == k) = false := by
        rw [← Bool.not_eq_true, List.any_eq_true]
        rintro ⟨p, hp, hk⟩
        exact (List.find?_eq_none.mp c) p hp hk
      rw [this]
      rfl
    | some p =>
      rw [c] at hv
      obtain ⟨v, h1, _⟩ := hv
      rw [h1]
      have : (d.any fun p => p.1 == k) = true := List.any_eq_true.mpr ⟨p, List.mem_of_find?_eq_some c, by have := List.find?_some c; simpa using this⟩
      rw [this]
      rfl
  rw [hb]
  exact q _ rfl H2 al2 (st1.trans st2) (t2.weak (fun _ z => mU_sub z) fun _ z => .inr z)
theorem snd_dIn (hu : X.A.units + 65 < cLine) (hy : noSet y = true) (ha : PE X x (tB F KW X.K a)) (hb : PE X y (tB F KW X.K b)) : PE X (.Compare x [.In] [y] pos) (tE F KW X.K (.dIn false a b)) :=
  PE.imp (pe_cmp (pc_din (by omega) ha hb) (noSet_mark hy)) fun σ H Q ⟨ρ, s, m, al, r, s', sc, e, q⟩ =>
    dIn_in sc e fun k hk H' al' st t => q _ H' al' st t (by rw [hk]; exact ⟨.bl _, fun z => nomatch z⟩)
theorem snd_dNotIn (hu : X.A.units + 65 < cLine) (hy : noSet y = true) (ha : PE X x (tB F KW X.K a)) (hb : PE X y (tB F KW X.K b)) : PE X (.Compare x [.NotIn] [y] pos) (tE F KW X.K (.dIn true a b)) :=
  PE.imp (pe_cmp (pc_dnotin (by omega) ha hb) (noSet_mark hy)) fun σ H Q ⟨ρ, s, m, al, r, s', sc, e, q⟩ =>
    dIn_in sc e fun k hk H' al' st t => q _ H' al' st t (by rw [hk]; exact ⟨.bl _, fun z => nomatch z⟩)
theorem snd_dInT (hu : X.A.units + 65 < cLine) (hy : noSet y = true) (ha : PE X x (tB F KW X.K a)) (hb : PE X y (tB F KW X.K b)) : PT X (.Compare x [.In] [y] pos) (tT F KW X.K (.dIn false a b)) :=
  PT.imp (pt_cmp (pc_din (by omega) ha hb) (noSet_mark hy)) fun σ H Q ⟨ρ, s, m, al, r, s', k, sc, e, tr, q⟩ =>
    dIn_in (R := fun v H => ∃ d, v = .bl d ∧ Q d H) sc e fun k' hk H' al' st t => by
      subst hk
      cases tr
      exact ⟨_, rfl, q H' al' st t⟩
theorem snd_dNotInT (hu : X.A.units + 65 < cLine) (hy : noSet y = true) (ha : PE X x (tB F KW X.K a)) (hb : PE X y (tB F KW X.K b)) : PT X (.Compare x [.NotIn] [y] pos) (tT F KW X.K (.dIn true a b)) :=
  PT.imp (pt_cmp (pc_dnotin (by omega) ha hb) (noSet_mark hy)) fun σ H Q ⟨ρ, s, m, al, r, s', k, sc, e, tr, q⟩ =>
    dIn_in (R := fun v H => ∃ d, v = .bl d ∧ Q d H) sc e fun k' hk H' al' st t => by
      subst hk
      cases tr
      exact ⟨_, rfl, q H' al' st t⟩
theorem dv_sh {K : PySem.W.Frag} {H : Hp} {m : Addr → Prop} {al : List Addr} : ∀ {ds : List U}, ds.all plainDv = true → Shs K H m al ds (ds.map dvV)
  | [], _ => .nil
  | d :: ds, h => by
    rw [List.all_cons] at h
    have h := Bool.and_eq_true_iff.mp h
    refine .cons ?_ (dv_sh h.2)
    cases d <;> first | (cases h.1; done) | exact .non | exact .bl _ | exact .int _
theorem snd_callD {T : Tb} {f : Nat} {fe : FnE} {ds : List U} {p : Pos} (C : DfOk T F X f fe ds) (hg : Gl X fe.name) (hd : (fe.name == ("__debug__" : Str)) = false) (hs : noStars es = true) (hl : lenA as = es.length) (he : es.length + ds.length = fe.np) (ha : PA X es (tAs F KW X.K as)) :
    PE X (.Call (.Name fe.name p) es [] pos) (tE F KW X.K (.callD f as ds)) := by
  obtain ⟨a, fd, ps, d, dv, G, hr, hm, hk, hb, hv, hp⟩ := C.ex
  have key : ∀ σ H (Q : VK), tE F KW X.K (.callD f as ds) σ H Q → tCall (spF F (xnOf T X.mg) X.K f fe.np) (ds.map dvV) E0 (tAs F KW X.K as) σ H Q := fun σ H Q ⟨ρ, s, m, al, r, s', sc, e, q⟩ => by
    simp only [evE] at e
    obtain ⟨us, s1, e1, e⟩ := bind_ok e
    refine ⟨ρ, s, m, al, us, s1, sc, e1, fun vs H1 al1 st t rs => ?_⟩
    show spF F (xnOf T X.mg) X.K f fe.np (vs ++ ds.map dvV) H1 Q E0
    exact ⟨s1, _, al1, us ++ ds, (sc.step st t).md, t, rs.append (dv_sh hp), by rw [List.length_append, evA_len as _ _ _ _ e1, hl, he], .inl ⟨r, s', e, fun v H' al' st' t' vr => q v H' al' (st.trans st') t'.mm ((vr.back st).mm)⟩⟩
  cases es with
  | nil =>
    have h0 := pe_call0 (p := p) (pos := pos) G hr hg hm hk hb hv passL hd
    refine PE.imp h0 fun σ H Q h => ?_
    obtain ⟨ρ, s, m, al, us, s1, sc, e1, q⟩ := key σ H Q h
    have hz : as = .nil := by
      cases as with
      | nil => rfl
      | cons c r => simp [lenA] at hl
    subst hz
    simp only [evA] at e1
    cases e1
    exact q [] H al Step.refl sc.t.up .nil
  | cons x es =>
    have hs' := Bool.and_eq_true_iff.mp hs
    exact PE.imp (pe_call (p := p) (pos := pos) G hr hg hm hk hb hv passL ha hd (star_of hs'.1 _) (stars_plain _ _ hs'.2)) key
end
end Ev

end
section
set_option Elab.async false
set_option linter.all false
set_option maxRecDepth 100000
set_option maxHeartbeats 4000000
namespace Ev
open PySem L2
section
open PySem.Spec PyProof.Rows
variable {X : Cx} {pins : List (Addr × Obj)} {σ : L2.St} {H : Hp} {s : Shared}
/-! ### dicts by tuples of ints -/
theorem ints_are {P : Program} {w : World} : ∀ {ks : List Int} {its : List Value}, Vals (ks.map V.int) its → ItemsAre (intKind P w) ks its
  | [], _, .nil => .nil
  | k :: ks, _, .cons r rr => by
    obtain ⟨t, rfl⟩ : ∃ t, _ = Value.int k t := r
    exact .cons (by show Value.isInt k (.int k t) = true; simp [Value.isInt]) (ints_are rr)
theorem tkey {P : Program} {w : World} (I : Inv X pins σ H s) {b : Addr} {ks : List Int} (h : SqT X.K H b (ks.map V.int)) : (tupleKind (intKind P w)).is s.heap ks b := by
  obtain ⟨its, rv, ⟨o, ho, hc, n, hd⟩, _⟩ := I.tuple h
  exact ⟨o, its.toArray, n, ho, hc, hd, by simpa using ints_are rv⟩
theorem dt_of {P : Program} {w : World} (I : Inv X pins σ H s) {a : Addr} {xs : List (List Int × Addr × Value)} (h : H a = some (DtO a xs)) (nd : (xs.map (·.1)).Nodup) (hk : ∀ x ∈ xs, SqT X.K H x.2.1 (x.1.map V.int)) : s.heap.DictOfH (tupleKind (intKind P w)) a xs := by
  obtain ⟨⟨P', w', o, es, ep, h1, h2, h3, h4⟩, _⟩ := I.hok a _ h
  exact ⟨o, es, ep, h1, h2, h3, h4, fun x hx => tkey I (hk x hx), nd⟩
theorem any_at (xs : List (List Int × Addr × Value)) (k : List Int) : (atKey xs k).isSome = xs.any fun x => x.1 == k := by
  induction xs with
  | nil => rfl
  | cons x r ih =>
    unfold atKey at ih ⊢
    rw [List.find?_cons, List.any_cons]
    by_cases e : x.1 = k
    · simp [e]
    · have e2 : (x.1 == k) = false := beq_eq_false_iff_ne.mpr e
      simp only [e, decide_false, e2, Bool.false_or]
      exact ih
/-- what in asks -/
def DtIn (K : PySem.W.Frag) (H : Hp) (x y : V) (r : Bool) : Prop := ∃ (a b : Addr) (xs : List (List Int × Addr × Value)) (ks : List Int), x = .ref a ∧ y = .ref b ∧ H a = some (DtO a xs) ∧ (a == sysModules) = false ∧ (xs.map (·.1)).Nodup ∧ (∀ x ∈ xs, SqT K H x.2.1 (x.1.map V.int)) ∧ SqT K H b (ks.map V.int) ∧ r = xs.any fun x => x.1 == ks
theorem pc_dinT {i o : Expr} {ty td : TE} (hu : X.A.units + 1 < cLine) (hi : PE X i ty) (ho : PE X o td) : PC X .In i o (fun σ H Q => ty σ H fun y H1 => td σ H1 fun x H2 => ∃ r, DtIn X.K H2 x y r ∧ Q (.bl r) H2) := by
  refine ⟨fun pins s σ H Q I h => ?_⟩
  refine thn (hi.run pins s σ H _ I h) fun iv s1 ⟨y, H1, I1, ry, q1⟩ => thn (ho.run pins s1 σ H1 _ I1 q1) fun u s2 ⟨x, H2, I2, rx, r, ⟨a, b, xs, ks, ex, ey, e, hd, nd, hk, hb, er⟩, q2⟩ => ?_
  subst ex ey
  cases rx
  cases ry
  refine wpAny_in_heap (tupleKind_room_in1 hu) (tkey (P := X.prog) (w := X.w) I2 hb) hd (dt_of I2 e nd hk) ?_
  rw [any_at, ← er]
  exact ⟨.bl r, H2, I2.tok _, rfl, q2⟩
theorem pc_dnotinT {i o : Expr} {ty td : TE} (hu : X.A.units + 1 < cLine) (hi : PE X i ty) (ho : PE X o td) : PC X .NotIn i o (fun σ H Q => ty σ H fun y H1 => td σ H1 fun x H2 => ∃ r, DtIn X.K H2 x y r ∧ Q (.bl (!r)) H2) := by
  refine ⟨fun pins s σ H Q I h => ?_⟩
  refine thn (hi.run pins s σ H _ I h) fun iv s1 ⟨y, H1, I1, ry, q1⟩ => thn (ho.run pins s1 σ H1 _ I1 q1) fun u s2 ⟨x, H2, I2, rx, r, ⟨a, b, xs, ks, ex, ey, e, hd, nd, hk, hb, er⟩, q2⟩ => ?_
  subst ex ey
  cases rx
  cases ry
  refine wpAny_notIn_heap (tupleKind_room_in1 hu) (tkey (P := X.prog) (w := X.w) I2 hb) hd (dt_of I2 e nd hk) ?_
  rw [any_at, ← er]
  exact ⟨.bl (!r), H2, I2.tok _, rfl, q2⟩
/-- a pair of the argument: its tuple, the key's ints, the key's tuple, the value -/
abbrev Pr : Type := Addr × List Int × Addr × V
theorem prs_of {P : Program} {w : World} (I : Inv X pins σ H s) : ∀ {ps : List Pr}, (∀ q ∈ ps, SqT X.K H q.1 [.ref q.2.2.1, q.2.2.2] ∧ SqT X.K H q.2.2.1 (q.2.1.map V.int)) →
    ∃ zs : List (List Int × Addr × Value), zs.length = ps.length ∧ zs.map (fun z => (z.1, z.2.1)) = ps.map (fun q => (q.2.1, q.2.2.1)) ∧ ∀ (j : Nat) z, zs[j]? = some z → ∃ q, ps[j]? = some q ∧ s.heap.IsTuple q.1 #[.ref z.2.1, z.2.2] ∧ (tupleKind (intKind P w)).is s.heap z.1 z.2.1
  | [], _ => ⟨[], rfl, rfl, fun j z e => by simp at e⟩
  | q :: ps, h => by
    obtain ⟨zs, h1, h2, h3⟩ := prs_of (P := P) (w := w) I fun q hq => h q (List.mem_cons_of_mem _ hq)
    obtain ⟨g1, g2⟩ := h q List.mem_cons_self
    obtain ⟨its, rv, ht, _⟩ := I.tuple g1
    cases rv with
    | cons r1 rr =>
      cases r1
      cases rr with
      | cons r2 rr =>
        cases rr
        rename_i u
        refine ⟨(q.2.1, q.2.2.1, u) :: zs, by simp [h1], by simp [h2], fun j z e => ?_⟩
        cases j with
        | zero => simp at e; subst e; exact ⟨q, rfl, ht, tkey I g2⟩
        | succ j => simpa using h3 j z (by simpa using e)
def rDictT (K : PySem.W.Frag) : List V → Hp → VK → Prop := fun vs H Q => ∃ (a : Addr) (ps : List Pr), vs = [.ref a] ∧ SqL K H a (ps.map fun q => V.ref q.1) ∧ (∀ q ∈ ps, SqT K H q.1 [.ref q.2.2.1, q.2.2.2] ∧ SqT K H q.2.2.1 (q.2.1.map V.int)) ∧ (ps.map (·.2.1)).Nodup ∧
  ∀ p xs, H p = none → (p == sysModules) = false → xs.map (fun z : List Int × Addr × Value => (z.1, z.2.1)) = ps.map (fun q => (q.2.1, q.2.2.1)) → Q (.ref p) (upd H p (DtO p xs))
theorem cr_dictT (hc : X.calm = true) (hu : X.A.units + 65 < cLine) : CallR X (.type "dict") (rDictT X.K) := by
  intro pins s σ H vs us Q I r q
  obtain ⟨a, ps, rfl, hq, hp, hn, q⟩ := q
  rw [Vals.ref1 r]
  obtain ⟨its, rv, pl, hz⟩ := I.list hq
  rw [List.length_map] at hz
  have ei : its = ps.map fun q => Value.ref q.1 := by
    have := refs_at (ps := ps.map (·.1)) (by rw [List.map_map]; exact rv)
    rw [this, List.map_map]
    rfl
  subst ei
  obtain ⟨zs, h1, h2, h3⟩ := prs_of (P := X.prog) (w := X.w) I hp
  obtain ⟨o, n, ho, hcl, hd, hdat⟩ := pl
  have hnz : (zs.map (·.1)).Nodup := by
    have e : zs.map (·.1) = ps.map (·.2.1) := by
      have := congrArg (List.map Prod.fst) h2
      rw [List.map_map, List.map_map] at this
      exact this
    rw [e]; exact hn
  refine PySem.call_dict_pairsH (knd := tupleKind (intKind X.prog X.w)) (ps := zs) (PairArg.list a (ps.map fun q => Value.ref q.1).toArray (fun j => ((ps[j]?).map (·.1)).getD 0) (zs.map fun z => (Value.ref z.2.1, z.2.2))) (I.ok.hd hc) (by show X.A.units + 1 + 1 < cLine; omega) ⟨⟨o, n, ho, hcl, hd, hdat⟩, by simp [h1], fun j k v e => ?_⟩ ⟨by simp, fun j k v e => ?_⟩ (fun h' hk x hx => ?_) (by simp [h1]; exact hz) fun h' tk hd' k => ?_
  · rw [List.getElem?_map] at e
    obtain ⟨z, e1, e2⟩ := Option.map_eq_some_iff.mp e
    cases e2
    obtain ⟨q, e3, e4, _⟩ := h3 j z e1
    exact ⟨by simp [e3], .inl (by simpa [e3] using e4)⟩
  · have e : (zs.map fun z => (Value.ref z.2.1, z.2.2))[j]? = some (k, v) := e
    rw [List.getElem?_map] at e
    obtain ⟨z, e1, e2⟩ := Option.map_eq_some_iff.mp e
    cases e2
    exact ⟨z.1, z.2.1, e1, rfl⟩
  · obtain ⟨j, hj⟩ := List.mem_iff_getElem?.mp hx
    obtain ⟨q, _, _, o, items, n, g1, g2, g3, g4⟩ := h3 j x hj
    exact ⟨o, items, n, hk _ _ (Nat.ne_of_lt (Heap.lt_size g1)) (by simp) g1, g2, g3, g4⟩
  · rw [storedAllH_nil_of_nodup zs hnz] at hd'
    have hm : (s.heap.objs.size == sysModules) = false := beq_eq_false_iff_ne.mpr (Nat.ne_of_gt I.big)
    obtain ⟨o2, es, ep, g1, g2, g3, g4, g5, g6⟩ := hd'
    have new : ObjOk X.prog X.w (upd H s.heap.objs.size (DtO s.heap.objs.size zs)) h' s.heap.objs.size (DtO s.heap.objs.size zs) :=
      ⟨⟨X.prog, X.w, o2, es, ep, g1, g2, g3, g4⟩, ⟨o2, g1⟩, fun ha hb ⟨P, w, o, es, ep, k1, k2⟩ kp => ⟨P, w, o, es, ep, kp _ k1, k2⟩⟩
    exact ⟨.ref s.heap.objs.size, upd H s.heap.objs.size (DtO s.heap.objs.size zs), I.laid (t' := tk) (fun b o e => k b o (by simp) e) (Nat.le_refl _) new, rfl, q _ zs (I.hok.fresh (Nat.le_refl _)) hm h2⟩
end
section
variable {K : PySem.W.Frag} {H : Hp} {m : Addr → Prop} {al : List Addr}
theorem intsM : ∀ is : List Int, intsU (is.map .int) = some is
  | [] => rfl
  | i :: is => by
    show (match intsU (is.map .int) with | some js => some (i :: js) | none => none) = _
    rw [intsM is]
theorem ints_ofU : ∀ {us : List U} {is : List Int}, intsU us = some is → us = is.map .int
  | [], is, h => by cases h; rfl
  | u :: us, is, h => by
    obtain ⟨i, rfl⟩ : ∃ i, u = .int i := by cases u <;> first | exact ⟨_, rfl⟩ | (cases h; done)
    simp only [intsU] at h
    cases q : intsU us with
    | none => rw [q] at h; cases h
    | some js => rw [q] at h; cases h; rw [ints_ofU q]; rfl
theorem Sh.ktup {is : List Int} {v : V} (h : Sh K H m al (.tup (is.map .int)) v) : ∃ b, v = .ref b ∧ SqT K H b (is.map V.int) := by
  obtain ⟨b, zs, rfl, g1, g2, _⟩ := (BR.sh h).tup
  rw [g2.intsU (intsM is)] at g1
  exact ⟨b, rfl, g1⟩
theorem dctT_pairs : ∀ {us : List U} {vs : List V} {d : List (List Int × U)}, Shs K H m al us vs → dctTU us = some d → ∃ ps : List Pr, vs = ps.map (fun q => V.ref q.1) ∧ (∀ q ∈ ps, SqT K H q.1 [.ref q.2.2.1, q.2.2.2] ∧ SqT K H q.2.2.1 (q.2.1.map V.int)) ∧ ps.map (·.2.1) = d.map Prod.fst ∧ (ps.map (·.2.1)).Nodup ∧
    Shs K H m al (ps.map fun q => .tup (q.2.1.map .int)) (ps.map fun q => V.ref q.2.2.1)
  | [], _, d, h, e => by
    cases h; cases e
    exact ⟨[], rfl, fun q hq => (nomatch hq), rfl, .nil, .nil⟩
  | u :: us, _, d, .cons (v := v) (vs := vs) h1 h2, e => by
    obtain ⟨xs, rfl⟩ : ∃ xs, u = .tup xs := by cases u <;> first | exact ⟨_, rfl⟩ | (cases e; done)
    match xs, e with
    | [.tup ks, w], e =>
      simp only [dctTU] at e
      cases c1 : intsU ks with
      | none => rw [c1] at e; cases e
      | some is =>
        cases c : dctTU us with
        | none => rw [c1, c] at e; cases e
        | some d' =>
          rw [c1, c] at e
          simp only at e
          by_cases c2 : (d'.any fun p => p.1 == is) = true
          · rw [if_pos c2] at e; cases e
          · rw [if_neg c2] at e
            cases e
            have ek := ints_ofU c1
            subst ek
            obtain ⟨ps, rfl, q2, q3, q4, q5⟩ := dctT_pairs h2 c
            obtain ⟨a, zs, rfl, g1, g2, _⟩ := (BR.sh h1).tup
            cases g2 with
            | cons r1 r2 =>
              cases r2 with
              | cons r3 r4 =>
                cases r4
                rename_i v1 v2
                obtain ⟨b, rfl, hb⟩ := r1.ktup
                refine ⟨(a, is, b, v2) :: ps, rfl, fun q hq => ?_, by simp [q3], List.nodup_cons.mpr ⟨fun z => c2 ?_, q4⟩, .cons r1 q5⟩
                · rcases List.mem_cons.mp hq with z | z
                  · subst z; exact ⟨g1, hb⟩
                  · exact q2 q z
                · have z : is ∈ d'.map Prod.fst := by rw [← q3]; exact z
                  obtain ⟨p, hp, e⟩ := List.mem_map.mp z
                  exact List.any_eq_true.mpr ⟨p, hp, by rw [e]; exact beq_self_eq_true is⟩
end
section
variable {X : Cx} {F : CallF} {KW : Kt} {a b c : C} {as : A} {x y z : Expr} {es : List Expr} {pos p : Pos}
theorem snd_dictT {p1 : Pos} (hu : X.A.units + 65 < cLine) (hc : X.calm = true) (hg : Gl X "dict") (hm : X.mg "dict" = none) (hs : noStar x = true) (ha : PE X x (tB F KW X.K a)) :
    PE X (.Call (.Name "dict" p1) [x] [] pos) (tE F KW X.K (.dictT a)) := by
  refine PE.imp (pe_callTy (cr_dictT hc hu) hg hm (by decide +kernel) (pa_cons ha pa_nil (star_of hs _)) (by decide +kernel) (by decide +kernel) (star_of hs _) rfl) fun σ H Q ⟨ρ, s, m, al, r, s', sc, e, q⟩ => ?_
  simp only [evE] at e
  obtain ⟨ra, s1, e1, e⟩ := bind_ok e
  obtain ⟨us, e2, e⟩ := bindO_ok e
  obtain ⟨d, e3, e⟩ := bindO_ok e
  cases e
  refine ⟨ρ, s, m, al, _, _, sc, e1, fun v H1 al1 st t br => ?_⟩
  obtain ⟨u, f⟩ := ra
  obtain ⟨l, vs, rfl, h1, h2⟩ : ∃ l vs, v = .ref l ∧ SqL X.K H1 l vs ∧ Shs X.K H1 (mU m al1) al1 us vs := by
    cases u <;> simp only [itemsL] at e2 <;> cases e2
    obtain ⟨l, vs, rfl, h1, h2⟩ := br.lst
    exact ⟨l, vs, rfl, h1.sq, h2⟩
  obtain ⟨ps, rfl, q2, q3, q4, q5⟩ := dctT_pairs h2 e3
  refine ⟨l, ps, rfl, h1, q2, q4, fun p xs hp hsy hx => ?_⟩
  have e4 : xs.map (·.1) = ps.map (·.2.1) := by
    have := congrArg (List.map Prod.fst) hx
    rw [List.map_map, List.map_map] at this
    exact this
  have e5 : (xs.map fun x => U.tup (x.1.map .int)) = ps.map fun q => .tup (q.2.1.map .int) := by
    have := congrArg (List.map fun z : List Int × Addr => U.tup (z.1.map .int)) hx
    rw [List.map_map, List.map_map] at this
    exact this
  have e6 : (xs.map fun x => V.ref x.2.1) = ps.map fun q => V.ref q.2.2.1 := by
    have := congrArg (List.map fun z : List Int × Addr => V.ref z.2) hx
    rw [List.map_map, List.map_map] at this
    exact this
  have g := Grow.new (o := DtO p xs) hp
  exact q _ _ al1 (st.grow g) (t.grow g) ⟨.dctT ⟨by rw [e4, q3], e5.symm, e6.symm, by rw [e4]; exact q4, hsy⟩ upd_same ((sc.step st t).md.not hp) (q5.grow g), fun z => nomatch z⟩
theorem BR.dctT {K : PySem.W.Frag} {H : Hp} {m : Addr → Prop} {al : List Addr} {d : List (List Int × U)} {v : V} (h : BR K H m al (.dctT d) v) : ∃ l xs, v = .ref l ∧ H l = some (DtO l xs) ∧ (l == sysModules) = false ∧ (xs.map (·.1)).Nodup ∧ d.map Prod.fst = xs.map (·.1) ∧ ∀ x ∈ xs, SqT K H x.2.1 (x.1.map V.int) := by
  cases h with
  | sh h => cases h with
    | dctT h0 h1 h2 h3 =>
      rename_i us l vs xs
      refine ⟨_, xs, rfl, h1, h0.sy, h0.nd, h0.ks, ?_⟩
      have h3 := h3
      rw [h0.us, h0.vs] at h3
      clear h0 h1
      intro x hx
      induction xs with
      | nil => cases hx
      | cons y r ih =>
        cases h3 with
        | cons g1 g2 =>
          rcases List.mem_cons.mp hx with z | z
          · subst z
            obtain ⟨b, eb, hb⟩ := g1.ktup
            cases eb
            exact hb
          · exact ih g2 z
theorem dInT_in {neg : Bool} {R : V → Hp → Prop} {σ : L2.St} {H : Hp} {ρ : Env} {s s' : Sto} {m : Addr → Prop} {al : List Addr} {r : Rv} (sc : SC X.K m al s ρ σ H) (e : evE F KW (.dInT neg a b) ρ s = .ok r s')
    (q : ∀ k, r = ⟨.bl k, false⟩ → ∀ H' al', Step H H' al al' → ST X.K (mU m al') al' s' H' → R (.bl k) H') : tB F KW X.K a σ H fun y H1 => tB F KW X.K b σ H1 fun x H2 => ∃ k, DtIn X.K H2 x y k ∧ R (.bl (if neg then !k else k)) H2 := by
  simp only [evE] at e
  obtain ⟨ra, s1, e1, e⟩ := bind_ok e
  obtain ⟨rb, s2, e2, e⟩ := bind_ok e
  obtain ⟨kk, e3, e⟩ := bindO_ok e
  cases e
  refine ⟨ρ, s, m, al, ra, s1, sc, e1, fun v1 H1 al1 st1 t1 b1 => ⟨ρ, s1, mU m al1, al1, rb, _, sc.step st1 t1, e2, fun v2 H2 al2 st2 t2 b2 => ?_⟩⟩
  obtain ⟨ua, fa⟩ := ra
  obtain ⟨ub, fb⟩ := rb
  obtain ⟨ks, rfl⟩ : ∃ k, ua = .tup k := by cases ua <;> first | exact ⟨_, rfl⟩ | (cases e3; done)
  obtain ⟨d, rfl⟩ : ∃ d, ub = .dctT d := by cases ub <;> first | exact ⟨_, rfl⟩ | (cases e3; done)
  simp only [dinTU] at e3
  cases c : intsU ks with
  | none => rw [c] at e3; cases e3
  | some is =>
    rw [c] at e3
    cases e3
    have ek := ints_ofU c
    subst ek
    have b3 := b1.step st2 t1.sub
    obtain ⟨bb, rfl, hb⟩ : ∃ bb, v1 = .ref bb ∧ SqT X.K H2 bb (is.map V.int) := by
      cases b3 with
      | sh h => exact h.ktup
    obtain ⟨l, xs, rfl, g1, g2, g3, g4, g5⟩ := b2.dctT
    have ha : (d.any fun p => p.1 == is) = xs.any fun x => x.1 == is := by
      have h1 : (d.any fun p => p.1 == is) = (d.map Prod.fst).any fun k => k == is := by rw [List.any_map]; rfl
      have h2 : (xs.any fun p => p.1 == is) = (xs.map (·.1)).any fun k => k == is := by rw [List.any_map]; rfl
      rw [h1, h2, g4]
    refine ⟨_, ⟨l, bb, xs, is, rfl, rfl, g1, g2, g3, g5, hb, ha⟩, ?_⟩
    exact q _ rfl H2 al2 (st1.trans st2) (t2.weak (fun _ z => mU_sub z) fun _ z => .inr z)
theorem snd_dKInT (hu : X.A.units + 65 < cLine) (hy : noSet y = true) (ha : PE X x (tB F KW X.K a)) (hb : PE X y (tB F KW X.K b)) : PE X (.Compare x [.In] [y] pos) (tE F KW X.K (.dInT false a b)) :=
  PE.imp (pe_cmp (pc_dinT (by omega) ha hb) (noSet_mark hy)) fun σ H Q ⟨ρ, s, m, al, r, s', sc, e, q⟩ =>
    dInT_in sc e fun k hk H' al' st t => q _ H' al' st t (by rw [hk]; exact ⟨.bl _, fun z => nomatch z⟩)
theorem snd_dKNotInT (hu : X.A.units + 65 < cLine) (hy : noSet y = true) (ha : PE X x (tB F KW X.K a)) (hb : PE X y (tB F KW X.K b)) : PE X (.Compare x [.NotIn] [y] pos) (tE F KW X.K (.dInT true a b)) :=
  PE.imp (pe_cmp (pc_dnotinT (by omega) ha hb) (noSet_mark hy)) fun σ H Q ⟨ρ, s, m, al, r, s', sc, e, q⟩ =>
    dInT_in sc e fun k hk H' al' st t => q _ H' al' st t (by rw [hk]; exact ⟨.bl _, fun z => nomatch z⟩)
theorem snd_dKInTT (hu : X.A.units + 65 < cLine) (hy : noSet y = true) (ha : PE X x (tB F KW X.K a)) (hb : PE X y (tB F KW X.K b)) : PT X (.Compare x [.In] [y] pos) (tT F KW X.K (.dInT false a b)) :=
  PT.imp (pt_cmp (pc_dinT (by omega) ha hb) (noSet_mark hy)) fun σ H Q ⟨ρ, s, m, al, r, s', k, sc, e, tr, q⟩ =>
    dInT_in (R := fun v H => ∃ d, v = .bl d ∧ Q d H) sc e fun k' hk H' al' st t => by
      subst hk
      cases tr
      exact ⟨_, rfl, q H' al' st t⟩
theorem snd_dKNotInTT (hu : X.A.units + 65 < cLine) (hy : noSet y = true) (ha : PE X x (tB F KW X.K a)) (hb : PE X y (tB F KW X.K b)) : PT X (.Compare x [.NotIn] [y] pos) (tT F KW X.K (.dInT true a b)) :=
  PT.imp (pt_cmp (pc_dnotinT (by omega) ha hb) (noSet_mark hy)) fun σ H Q ⟨ρ, s, m, al, r, s', k, sc, e, tr, q⟩ =>
    dInT_in (R := fun v H => ∃ d, v = .bl d ∧ Q d H) sc e fun k' hk H' al' st t => by
      subst hk
      cases tr
      exact ⟨_, rfl, q H' al' st t⟩
/-- {i: j} -/
theorem snd_dLit {i j : Int} {k1 k2 : Nat} {p1 p2 pos : Pos} : PE X (.Dict [some (.Constant (.int i) k1 p1)] [.Constant (.int j) k2 p2] pos) (tE F KW X.K (.dLit i j)) := by
  refine PE.imp (pe_disp (pps_cons (pe_int (X := X)) (pe_int (X := X)) pps_nil) rfl rfl (by simp) (by simp)) fun σ H Q ⟨ρ, s, m, al, r, s', sc, e, q⟩ => ?_
  simp only [evE] at e
  cases e
  intro p hp
  refine ⟨upd_same, [(.inl i, .int j)], rfl, by simp, ?_⟩
  rw [upd_upd]
  have g := Grow.new (o := .dK (mergeK [] [((.inl i : Key), V.int j)])) hp
  exact q _ _ al g.step (sc.t.up.grow g) ⟨.dct (kvs := [(i, .int j)]) (vs := [.int j]) rfl upd_same (fun z => sc.md.not hp (z.elim id (sc.t.sub p))) (.cons (.int j) .nil), fun z => nomatch z⟩
/-! math.gcd, math.lcm -/
def rLcm : List V → Hp → VK → Prop := fun vs H Q => ∃ i j : Int, vs = [.int i, .int j] ∧ i.natAbs < 2 ^ 64 ∧ j.natAbs < 2 ^ 64 ∧ Q (.int ((i.natAbs.lcm j.natAbs : Nat) : Int)) H
theorem cr_lcm : CallR X (.builtin "math.lcm") rLcm := by
  intro pins s σ H vs us Q I r h
  obtain ⟨i, j, rfl, hi, hj, q⟩ := h
  obtain ⟨t, u, rfl⟩ := Vals.int2 r
  exact PySem.W.mc_lcm hi hj fun _ => ⟨.int _, H, I.tok _, ⟨_, rfl⟩, q⟩
theorem snd_gcd {p1 : Pos} (hg : Gl X "gcd") (hm : X.mg "gcd" = some (.builtin "math.gcd")) (hs : noStar x = true) (hs2 : noStar y = true) (ha : PE X x (tB F KW X.K a)) (hb : PE X y (tB F KW X.K b)) : PE X (.Call (.Name "gcd" p1) [x, y] [] pos) (tE F KW X.K (.mth false a b)) :=
  PE.imp (pe_callBfun cr_gcd hg hm (pa_cons ha (pa_cons hb pa_nil (star_of hs2 _)) (star_of hs _)) (by decide +kernel) (star_of hs _) (by rw [star_of hs2]; rfl)) fun σ H Q ⟨ρ, s, m, al, r, s', sc, e, q⟩ => by
    simp only [evE] at e
    obtain ⟨ra, s1, e1, e⟩ := bind_ok e
    obtain ⟨rb, s2, e2, e⟩ := bind_ok e
    obtain ⟨e3, rfl⟩ := ofO_ok e
    refine ⟨ρ, s, m, al, ra, s1, sc, e1, fun v1 H1 al1 st1 t1 b1 => ⟨ρ, s1, mU m al1, al1, rb, _, sc.step st1 t1, e2, fun v2 H2 al2 st2 t2 b2 => ?_⟩⟩
    obtain ⟨ua, fa⟩ := ra
    obtain ⟨ub, fb⟩ := rb
    obtain ⟨i, rfl⟩ : ∃ k, ua = .int k := by cases ua <;> first | exact ⟨_, rfl⟩ | (cases e3; done)
    obtain ⟨j, rfl⟩ : ∃ k, ub = .int k := by cases ub <;> first | exact ⟨_, rfl⟩ | (cases e3; done)
    cases b1.int
    cases b2.int
    cases e3
    exact ⟨i, j, rfl, q _ H2 al2 (st1.trans st2) t2.mm ⟨.int _, fun z => nomatch z⟩⟩
theorem snd_lcm {p1 : Pos} (hg : Gl X "lcm") (hm : X.mg "lcm" = some (.builtin "math.lcm")) (hs : noStar x = true) (hs2 : noStar y = true) (ha : PE X x (tB F KW X.K a)) (hb : PE X y (tB F KW X.K b)) : PE X (.Call (.Name "lcm" p1) [x, y] [] pos) (tE F KW X.K (.mth true a b)) :=
  PE.imp (pe_callBfun cr_lcm hg hm (pa_cons ha (pa_cons hb pa_nil (star_of hs2 _)) (star_of hs _)) (by decide +kernel) (star_of hs _) (by rw [star_of hs2]; rfl)) fun σ H Q ⟨ρ, s, m, al, r, s', sc, e, q⟩ => by
    simp only [evE] at e
    obtain ⟨ra, s1, e1, e⟩ := bind_ok e
    obtain ⟨rb, s2, e2, e⟩ := bind_ok e
    obtain ⟨e3, rfl⟩ := ofO_ok e
    refine ⟨ρ, s, m, al, ra, s1, sc, e1, fun v1 H1 al1 st1 t1 b1 => ⟨ρ, s1, mU m al1, al1, rb, _, sc.step st1 t1, e2, fun v2 H2 al2 st2 t2 b2 => ?_⟩⟩
    obtain ⟨ua, fa⟩ := ra
    obtain ⟨ub, fb⟩ := rb
    obtain ⟨i, rfl⟩ : ∃ k, ua = .int k := by cases ua <;> first | exact ⟨_, rfl⟩ | (cases e3; done)
    obtain ⟨j, rfl⟩ : ∃ k, ub = .int k := by cases ub <;> first | exact ⟨_, rfl⟩ | (cases e3; done)
    cases b1.int
    cases b2.int
    simp only [mthV] at e3
    by_cases c : (decide (i.natAbs < 18446744073709551616) && decide (j.natAbs < 18446744073709551616)) = true
    · rw [if_pos c] at e3
      cases e3
      have c := Bool.and_eq_true_iff.mp c
      exact ⟨i, j, rfl, of_decide_eq_true c.1, of_decide_eq_true c.2, q _ H2 al2 (st1.trans st2) t2.mm ⟨.int _, fun z => nomatch z⟩⟩
    · rw [if_neg c] at e3; cases e3
end
end Ev

end
section
set_option Elab.async false
set_option linter.all false
set_option maxRecDepth 100000
set_option maxHeartbeats 4000000
namespace Ev
open PySem L2
section
open PySem.Spec PyProof.Rows
variable {X : Cx} {E : L2.St → XK} {fe e : Expr} {es : List Expr} {tf : TE} {ta : TA} {pos : Pos}
/-- g(..), g any expression that gives a def -/
theorem pe_callVal (hx : ∀ σ, PassesAt (L2.CX X.prog X.w) X σ (E σ)) (hf : PE X fe tf) (ha : PA X (e :: es) ta)
    (ht : eval (.Call fe (e :: es) [] pos) X.env = (do callWith pos (← eval fe X.env) [] (backTo pos (starEach (e :: es) X.env)) (backToKw pos (keywordEach [] X.env))))
    (he : starEach (e :: es) X.env = (false, eval e X.env) :: starEach es X.env) (hpl : (backTo pos (starEach es X.env)).any (·.1) = false) :
    PE X (.Call fe (e :: es) [] pos) (fun σ H Q => tf σ H fun y H1 => ∃ f, y = .ref f ∧ PySem.W.keepIn X.K (.ref f) = true ∧ ta σ H1 fun vs H2 => ∃ (k : Nat) (fd : FuncData) (ps : List Str) (sp : Sp), FnOk X.prog X.w X.K X.mg X.base (L2.CX X.prog X.w) k f fd ps sp ∧ Room k X.A ∧ Binds X.K fd ps [] ∧ sp vs H2 Q (E σ)) := by
  refine ⟨fun pins s σ H Q I h => ?_⟩
  refine Call_ (thn (hf.run pins s σ H _ I h) fun u s1 ⟨y, H1, I1, ry, f, ey, hk, q⟩ => ?_) ht
  subst ey
  obtain rfl : u = Value.ref f := ry
  exact PySem.W.callWith_K (h₀ := X.base) I1.ok.mod.kin hk (thn (ha.run pos pins s1 σ H1 _ I1 q) fun us s2 ⟨vs, H2, I2, r, k, fd, ps, sp, G, hr, hb, q2⟩ => ⟨I2.kIn, run_fnS G hr hb (hx σ) I2 r q2⟩) he hpl
theorem pass0S {X : Cx} : ∀ σ, PassesAt (L2.CX X.prog X.w) X σ ((fun _ _ _ _ => False : L2.St → XK) σ) := fun _ _ _ _ e s' _ ⟨_, _, _, _, _, _, _, _, _, _, _, _, h⟩ => h.elim
end
theorem BR.fnv {K : PySem.W.Frag} {H : Hp} {m : Addr → Prop} {al : List Addr} {f : Nat} {n : Str} {v : V} (h : BR K H m al (.fnv f n) v) : ∃ a o, v = .ref a ∧ K.lookup a = some o ∧ fnName o = some n := by
  cases h with
  | sh h => cases h with
    | fnv h1 h2 => exact ⟨_, _, rfl, h1, h2⟩
section
variable {X : Cx} {F : CallF} {KW : Kt} {T : Tb} {g a b : C} {as : A} {x y ge : Expr} {es : List Expr} {pos p : Pos}
/-- the def that a value is -/
theorem fn_at_v (N : NmOk T KW X.K X.mg) (C : ∀ f fe, nth f T.fns = some fe → CallOk T F X f fe) {f k : Nat} {n : Str} {H : Hp} {m : Addr → Prop} {al : List Addr} {v : V} (hn : nameAt KW f n k = true) (b : BR X.K H m al (.fnv f n) v) :
    ∃ (d : Nat) (a : Addr) (fd : FuncData) (ps : List Str), v = .ref a ∧ FnOk X.prog X.w X.K X.mg X.base (L2.CX X.prog X.w) d a fd ps (spF F (xnOf T X.mg) X.K f k) ∧ Room d X.A ∧ PySem.W.keepIn X.K (.ref a) = true ∧ Binds X.K fd ps [] := by
  obtain ⟨a, o, rfl, h1, h2⟩ := b.fnv
  obtain ⟨fe, q1, q2, q3⟩ := N.nm f n k hn
  subst q2
  have hm := N.un f fe a o q1 h1 h2
  obtain ⟨a', fd, ps, d, G, hr, hm', hk, hb, hp⟩ := (C f fe q1).ex
  rw [hm] at hm'
  cases hm'
  rw [q3] at G
  exact ⟨d, a, fd, ps, rfl, G, hr, hk, hb⟩
theorem snd_callV (N : NmOk T KW X.K X.mg) (C : ∀ f fe, nth f T.fns = some fe → CallOk T F X f fe) (hg : PE X ge (tB F KW X.K g)) (hs : noStars (x :: es) = true) (ha : PA X (x :: es) (tAs F KW X.K as))
    (ht : eval (.Call ge (x :: es) [] pos) X.env = (do callWith pos (← eval ge X.env) [] (backTo pos (starEach (x :: es) X.env)) (backToKw pos (keywordEach [] X.env)))) : PE X (.Call ge (x :: es) [] pos) (tE F KW X.K (.callV g as)) := by
  have hs' := Bool.and_eq_true_iff.mp hs
  refine PE.imp (pe_callVal pass0S hg ha ht (star_of hs'.1 _) (stars_plain _ _ hs'.2)) fun σ H Q ⟨ρ, s, m, al, r, s', sc, e, q⟩ => ?_
  simp only [evE] at e
  obtain ⟨rg, s1, e1, e⟩ := bind_ok e
  refine ⟨ρ, s, m, al, rg, s1, sc, e1, fun v H1 al1 st1 t1 b1 => ?_⟩
  obtain ⟨u, fl⟩ := rg
  cases u <;> simp only at e <;> try (cases e; done)
  rename_i f n
  obtain ⟨us, s2, e2, e⟩ := bind_ok e
  cases hn : nameAt KW f n us.length with
  | false => rw [hn] at e; cases e
  | true =>
    rw [hn] at e
    simp only at e
    obtain ⟨d, a, fd, ps, rfl, G, hr, hk, hb⟩ := fn_at_v N C hn b1
    refine ⟨a, rfl, hk, ρ, s1, _, al1, us, s2, sc.step st1 t1, e2, fun vs H2 al2 st2 t2 rs => ⟨d, fd, ps, _, G, hr, hb, ?_⟩⟩
    exact ⟨s2, _, al2, us, ((sc.step st1 t1).step st2 t2).md, t2, rs, rfl, .inl ⟨r, s', e, fun v H' al' st t vr => q v H' al' ((st1.trans st2).trans st) t.mm.mm ((vr.back (st1.trans st2)).mm.mm)⟩⟩
end

/-! ### x[i::k] -/
section
open PySem.Spec PyProof.Rows
theorem pick_vals : ∀ (ks : List Nat) {vs : List V} {its : List Value}, Vals vs its → Vals (pickL ks vs) (ks.filterMap (its.toArray[·]?))
  | [], _, _, _ => .nil
  | k :: ks, vs, its, r => by
    have ih := pick_vals ks r
    have hl := r.length
    unfold pickL at ih ⊢
    rw [List.filterMap_cons, List.filterMap_cons]
    cases h : vs[k]? with
    | none =>
      rw [List.getElem?_eq_none_iff] at h
      rw [List.getElem?_toArray, List.getElem?_eq_none (by omega)]
      exact ih
    | some v =>
      obtain ⟨w, e, q⟩ := r.get h
      rw [List.getElem?_toArray, e]
      exact .cons q ih
theorem pick_shs {K : PySem.W.Frag} {H : Hp} {m : Addr → Prop} {al : List Addr} : ∀ (ks : List Nat) {us : List U} {vs : List V}, Shs K H m al us vs → Shs K H m al (pickL ks us) (pickL ks vs)
  | [], _, _, _ => .nil
  | k :: ks, us, vs, r => by
    have ih := pick_shs ks r
    have hl := r.length
    unfold pickL at ih ⊢
    rw [List.filterMap_cons, List.filterMap_cons]
    cases h : us[k]? with
    | none =>
      rw [List.getElem?_eq_none_iff] at h
      rw [List.getElem?_eq_none (by omega)]
      exact ih
    | some u =>
      obtain ⟨v, e, q⟩ := r.nth h
      rw [e]
      exact .cons q ih
variable {X : Cx} {e y : Expr} {te ty : TE} {k st : Nat} {i3 : Nat} {p1 p2 p3 pos : Pos}
def tStepL (K : PySem.W.Frag) (st : Nat) (te ty : TE) : TE := fun σ H Q => te σ H fun x H1 => tPart ty σ H1 fun o H2 => ∃ a xs i, x = .ref a ∧ o = some i ∧ SqL K H2 a xs ∧ 0 ≤ i ∧ ∀ p, H2 p = none → Q (.ref p) (upd H2 p (.lst (pickL (PySem.sliceRange (max 0 (min i xs.length)) xs.length st) xs)))
theorem pe_stepL (h1 : 1 ≤ st) (he : PE X e te) (hy : PE X y ty) : PE X (.Subscript e (.Slice (some y) none (some (.Constant (.int st) k p1)) p3) pos) (tStepL X.K st te ty) := by
  refine ⟨fun pins s σ H Q I h => ?_⟩
  refine Subscript_ (thn (he.run pins s σ H _ I h) fun v s1 ⟨x, H1, I1, r1, q1⟩ => ?_)
  have hst : PO X (some (.Constant (.int st) k p1)) (tPart (tC (.int st))) := po_some pe_int
  refine wpAny_Slice (thn ((po_some hy).run pins s1 σ H1 _ I1 q1) fun vl s2 ⟨l, H2, I2, pl, a, xs, i, ex, el, hx, h0, q⟩ => ?_)
  subst ex el
  cases r1
  refine thn (po_none.run pins s2 σ H2 (fun o H3 => o = none ∧ H3 = H2) I2 ⟨rfl, rfl⟩) fun vu s3 ⟨u, H3, I3, pu, eu, e3⟩ => ?_
  subst eu e3
  refine thn (hst.run pins s3 σ H3 (fun o H4 => o = some (st : Int) ∧ H4 = H3) I3 ⟨st, rfl, rfl, rfl⟩) fun vs s4 ⟨o, H4, I4, ps, eo, e4⟩ => ?_
  subst eo e4
  have I5 : Inv X pins σ H4 { s4 with heap := s4.heap.push { cls := .type "slice", data := .fields #[vl, vu, vs] } } := I4.kept (t' := s4.toks) fun b ob q => Heap.get?_push_of_some _ q
  obtain ⟨its, r, ht, hz⟩ := I5.list hx
  have hlen := r.length
  show wpAny (model X.prog X.w) X.A (subscriptTail e (.Slice (some y) none (some (.Constant (.int st) k p1)) p3) (.ref a) (.ref s4.heap.objs.size)) (EP X pins σ Q) X.xe { s4 with heap := s4.heap.push { cls := .type "slice", data := .fields #[vl, vu, vs] } }
  refine tail_any (ops := [.ref a, .ref s4.heap.objs.size]) ht.isList.typeIs (PySem.slot_list_getitem.lookup) ?_ (by with_unfolding_all rfl)
  refine wpAny_getItem_list_slice ht.isList (Heap.IsSliceOf.new _ vl vu vs) pl pu ps (fun z => by have z : (st : Int) = 0 := Option.some.inj z; omega) ?_ (by rw [List.size_toArray]; omega)
  have hb : sliceBounds (some i) none (some (st : Int)) its.toArray.size = (max 0 (min i xs.length), (xs.length : Int), (st : Int)) := by
    unfold sliceBounds
    have c1 : ((st : Int) > 0) := by omega
    have c2 : ¬ i < 0 := by omega
    simp only [Option.getD_some, c1, if_true, if_neg c2, List.size_toArray, hlen]
  have hp : slicePick its.toArray (some i) none (some (st : Int)) = ((sliceRange (max 0 (min i xs.length)) xs.length st).filterMap (its.toArray[·]?)).toArray := by
    unfold slicePick
    rw [hb]
  rw [hp]
  have hv := pick_vals (sliceRange (max 0 (min i xs.length)) xs.length st) r
  refine ⟨.ref _, _, I5.laid (t' := s4.toks) (o := .lst (pickL (sliceRange (max 0 (min i xs.length)) xs.length st) xs)) (fun b ob q => Heap.get?_push_of_some _ q) (Nat.le_refl _) ?_, rfl, q _ (I5.hok.fresh (Nat.le_refl _))⟩
  refine ⟨?_, _, 0, hv, Heap.get?_push_size _ rfl⟩
  refine Nat.le_trans (List.length_filterMap_le _ _) (Nat.le_trans (sliceRange_length_le _ _ _ xs.length (fun _ => ⟨Int.le_max_left .., Int.le_refl _⟩) (fun z => absurd (show (st : Int) > 0 by omega) z)) hz)
end
section
variable {X : Cx} {F : CallF} {KW : Kt} {a b : C} {x y : Expr} {st k : Nat} {p1 p3 pos : Pos}
theorem snd_slS (h1 : 1 ≤ st) (ha : PE X x (tB F KW X.K a)) (hb : PE X y (tB F KW X.K b)) : PE X (.Subscript x (.Slice (some y) none (some (.Constant (.int st) k p1)) p3) pos) (tE F KW X.K (.slS a b st)) :=
  PE.imp (pe_stepL h1 ha hb) fun σ H Q ⟨ρ, s, m, al, r, s', sc, e, q⟩ => by
    simp only [evE] at e
    obtain ⟨ra, s1, e1, e⟩ := bind_ok e
    obtain ⟨rb, s2, e2, e⟩ := bind_ok e
    obtain ⟨i, e4, e⟩ := bindO_ok e
    obtain ⟨e6, rfl⟩ := ofO_ok e
    have h4 := bnd_int e4
    obtain ⟨ua, fa⟩ := ra
    obtain ⟨xs, rfl⟩ : ∃ xs, ua = .lst xs := by cases ua <;> first | exact ⟨_, rfl⟩ | (cases e6; done)
    simp only [getSt] at e6
    split at e6
    · rename_i hc
      cases e6
      obtain ⟨hc, _⟩ := Bool.and_eq_true_iff.mp hc
      obtain ⟨hc, _⟩ := Bool.and_eq_true_iff.mp hc
      have h0 := of_decide_eq_true hc
      refine ⟨ρ, s, m, al, _, s1, sc, e1, fun v1 H1 al1 st1 t1 b1 => ⟨ρ, s1, mU m al1, al1, rb, _, sc.step st1 t1, e2, fun v2 H2 al2 st2 t2 b2 => ⟨i, ?_, ?_⟩⟩⟩
      · rw [h4] at b2; exact b2.int
      · obtain ⟨l, vs, rfl, g1, g2⟩ := (b1.step st2 t1.sub).lst
        refine ⟨l, vs, i, rfl, rfl, g1.sq, h0, fun p hp => ?_⟩
        rw [← g2.length]
        have g := Grow.new (o := .lst (pickL (PySem.sliceRange (max 0 (min i xs.length)) xs.length st) vs)) hp
        exact q _ _ al2 ((st1.trans st2).grow g) (t2.mm.grow g) (VR.newL ((sc.step st1 t1).step st2 t2).md (st1.trans st2) (pick_shs _ g2) hp).mm
    · cases e6
end
end Ev

end
section
set_option Elab.async false
set_option linter.all false
set_option maxRecDepth 100000
set_option maxHeartbeats 2000000
namespace Ev
open PySem L2
/-! ### lists and tuples alike -/
def SqK (k : Bool) (K : PySem.W.Frag) (H : Hp) (a : Addr) (xs : List V) : Prop := match k with
  | true => SqL K H a xs
  | false => SqT K H a xs
def IsK (k : Bool) (h : Heap) (a : Addr) (its : Array Value) : Prop := match k with
  | true => h.IsList a its
  | false => h.IsTuple a its
def ItK (k : Bool) (h : Heap) (it a : Addr) (i : Nat) : Prop := match k with
  | true => h.IsListIter it a i
  | false => h.IsTupleIter it a i
def oK (k : Bool) (a : Addr) : Obj := match k with
  | true => { cls := .type "list_iterator", data := .fields #[.ref a, .int 0 0] }
  | false => { cls := .type "tuple_iterator", data := .fields #[.ref a, .int 0 0] }
section
variable {X : Cx} {pins : List (Addr × Obj)} {σ : L2.St} {H : Hp} {s : Shared} {a it : Addr} {xs ys : List V} {k : Bool} {h h' : Heap} {its : Array Value} {i : Nat}
theorem SqK.of (I : Inv X pins σ H s) (q : SqK k X.K H a xs) : ∃ its : List Value, Vals xs its ∧ IsK k s.heap a its.toArray ∧ xs.length ≤ sizeLine := by
  cases k with
  | true => obtain ⟨its, rv, p, hz⟩ := I.list q; exact ⟨its, rv, p.isList, hz⟩
  | false => obtain ⟨its, rv, p, hz⟩ := I.tuple q; exact ⟨its, rv, p, hz⟩
theorem SqK.inj (I : Inv X pins σ H s) (q : SqK k X.K H a xs) (q' : SqK k X.K H a ys) : xs = ys := by
  cases k with
  | true => exact I.list_inj q q'
  | false => exact I.tuple_inj q q'
theorem IsK.lt (q : IsK k h a its) : a < h.objs.size := by
  cases k with
  | true => obtain ⟨o, e, _⟩ := q; exact Heap.lt_size e
  | false => obtain ⟨o, e, _⟩ := q; exact Heap.lt_size e
theorem ItK.live (q : ItK k h it a i) : ∃ o, h.get? it = some o ∧ ∀ v, o.data ≠ .cell v := by
  cases k with
  | true => obtain ⟨o, e, _, d⟩ := q; exact ⟨o, e, fun v z => by rw [d] at z; cases z⟩
  | false => obtain ⟨o, e, _, d⟩ := q; exact ⟨o, e, fun v z => by rw [d] at z; cases z⟩
theorem ItK.at (q : ItK k h it a i) (e : ∀ o, h.get? it = some o → h'.get? it = some o) : ItK k h' it a i := by
  cases k with
  | true => exact Heap.IsListIter.at q e
  | false => exact Heap.IsTupleIter.at q e
theorem ItK.new : ItK k (h.push (oK k a)) h.objs.size a 0 := by
  cases k with
  | true => exact ⟨_, Heap.get?_push_size _ rfl, rfl, rfl⟩
  | false => exact ⟨_, Heap.get?_push_size _ rfl, rfl, rfl⟩
theorem ItK.of_new (e : h.get? it = some (oK k a)) : ItK k h it a 0 := by
  cases k with
  | true => exact ⟨_, e, rfl, rfl⟩
  | false => exact ⟨_, e, rfl, rfl⟩
theorem drawsK {P : Program} {w : World} {A : Around} (k : Bool) (hh : A.handled = none) (it a : Addr) (hne : a ≠ it) (its : Array Value) : Draws P w A it [it, a] its.size (fun i v => its[i]? = some v) (fun i h => ItK k h it a i ∧ IsK k h a its) := by
  cases k with
  | true => exact Draws.list hh it a hne its
  | false => exact Draws.tuple hh it a hne its
theorem beginsK (k : Bool) (a : Addr) (its : Array Value) : Begins (.ref a) (oK k a) fun h => IsK k h a its := by
  cases k with
  | true => exact begins_list a its
  | false => exact begins_tuple a its
end

/-! ### a source -/
structure Src (K : PySem.W.Frag) (m : Addr → Prop) (al : List Addr) (md : Mo) (H : Hp) (us : List U) (k : Bool) (a : Addr) (vs : List V) : Prop where
  sh : Shs K H m al us vs
  sq : ∀ H2, PP m al md H H2 → SqK k K H2 a vs
section
variable {K : PySem.W.Frag} {m : Addr → Prop} {al : List Addr} {md : Mo} {H H2 : Hp} {us : List U} {k : Bool} {a : Addr} {vs : List V} {u : U} {v : V}
theorem PP.refl : PP m al md H H := by cases md <;> exact fun _ _ e _ => e
theorem PP.at (sb : ∀ c ∈ al, m c) (p : PP m al md H H2) {b : Addr} {o : HO} (e : H b = some o) (n : ¬ m b) : H2 b = some o := by
  cases md with
  | esc => exact p b o e n
  | brw => exact p b o e fun z => n (sb b z)
  | tst => exact p b o e fun z => n (sb b z)
theorem Sh.src (sb : ∀ c ∈ al, m c) (h : Sh K H m al u v) (e : items u = some us) : ∃ k a vs, v = .ref a ∧ Src K m al md H us k a vs := by
  cases h with
  | non => cases e
  | bl b => cases e
  | int i => cases e
  | str x => cases e
  | tup h1 h2 h3 => cases e; exact ⟨false, _, _, rfl, h3, fun H2 p => sqt_of (p.at sb h1 h2)⟩
  | tupK h1 h2 h4 h3 => cases e; exact ⟨false, _, _, rfl, h3, fun H2 p => sqt_k h1 h2 h4⟩
  | lst h1 h2 h3 => cases e; exact ⟨true, _, _, rfl, h3, fun H2 p => SqL.of (p.at sb h1 h2)⟩
  | lstF h1 h2 h3 => cases e; exact ⟨true, _, _, rfl, h3, fun H2 p => .inl (.inr ⟨_, p.at sb h1 h2⟩)⟩
  | lstK h1 h2 h4 h3 => cases e; exact ⟨true, _, _, rfl, h3, fun H2 p => LstAt.sq (.inr (.inr ⟨_, _, h1, h2, h4⟩))⟩
  | ref h1 => cases e
  | dct h0 h1 h2 h3 => cases e
  | dctT h0 h1 h2 h3 => cases e
  | fnv h1 h2 => cases e
theorem BR.src (sb : ∀ c ∈ al, m c) (hm : md ≠ .esc) (h : BR K H m al u v) (e : items u = some us) : ∃ k a vs, v = .ref a ∧ Src K m al md H us k a vs := by
  cases h with
  | sh h => exact h.src sb e
  | own h1 h2 h3 =>
    cases e
    refine ⟨true, _, _, rfl, h3, fun H2 p => SqL.of ?_⟩
    cases md with
    | esc => exact absurd rfl hm
    | brw => exact p _ _ h1 h2
    | tst => exact p _ _ h1 h2
def Itk (k : Bool) (K : PySem.W.Frag) (a : Addr) : L2.It := match k with
  | true => Itl K a
  | false => Itt K a
theorem Src.yl (S : Src K m al md H us k a vs) : Yl K m al md H (Itk k K a) us := by
  have hl := S.sh.length
  have key : ∀ i u, us[i]? = some u → ∃ v, vs[i]? = some v ∧ Sh K H m al u v := fun i u e => S.sh.nth e
  cases k with
  | true =>
    refine ⟨fun i H2 p hi => ⟨vs, vs[i]'(by omega), S.sq H2 p, List.getElem?_eq_getElem (by omega)⟩, fun H2 p => ⟨vs, S.sq H2 p, by omega⟩, fun i H2 x H3 u p e y => ?_⟩
    obtain ⟨v, e1, r⟩ := key i u e
    have e2 := y.2 vs (S.sq H2 p)
    rw [e1] at e2
    cases e2
    exact .old y.1 r
  | false =>
    refine ⟨fun i H2 p hi => ⟨vs, vs[i]'(by omega), S.sq H2 p, List.getElem?_eq_getElem (by omega)⟩, fun H2 p => ⟨vs, S.sq H2 p, by omega⟩, fun i H2 x H3 u p e y => ?_⟩
    obtain ⟨v, e1, r⟩ := key i u e
    have e2 := y.2 vs (S.sq H2 p)
    rw [e1] at e2
    cases e2
    exact .old y.1 r
end
section
variable {X : Cx} {tg : Expr}
open PySem.Spec PyProof.Rows
def iSeq (K : PySem.W.Frag) (tl : TE) : TI := fun σ H R => tl σ H fun x H1 => ∃ k a xs, x = .ref a ∧ SqK k K H1 a xs ∧ R (Itk k K a) H1
theorem pi_seq {l : Expr} {tl : TE} (hl : PE X l tl) : PI X tg l (iSeq X.K tl) := by
  refine ⟨fun pins s σ H R I h => ?_⟩
  refine thn (hl.run pins s σ H _ I h) fun v s1 ⟨x, H1, I1, r1, q1⟩ => ?_
  obtain ⟨k, a, xs, e, hq, q⟩ := q1
  subst e
  cases r1
  obtain ⟨its, rv, p, hz⟩ := hq.of I1
  have hf : ∀ b ∈ [s1.heap.objs.size], FpOk X pins H1 b := fun b hb => by
    have e : b = s1.heap.objs.size := by simpa using hb
    subst e
    exact I1.fpOk (Nat.le_refl _) (I1.hok.fresh (Nat.le_refl _))
  cases k with
  | true => exact wpAny_pyIter_list p ⟨s1.heap.objs.size, [s1.heap.objs.size], _, _, H1, rfl, I1.kept (t' := s1.toks) fun b o e => Heap.get?_push_of_some _ e, turn_list a _, ⟨_, Heap.get?_push_size _ rfl, rfl, rfl⟩, hf, q⟩
  | false => exact wpAny_pyIter_tuple p ⟨s1.heap.objs.size, [s1.heap.objs.size], _, _, H1, rfl, I1.kept (t' := s1.toks) fun b o e => Heap.get?_push_of_some _ e, turn_tuple a _, ⟨_, Heap.get?_push_size _ rfl, rfl, rfl⟩, hf, q⟩

/-! ### enumerate -/
theorem meets_enum1 {v : Value} {o : Obj} {H : Heap → Prop} (B : Begins v o H) :
    Meets (Builtin.«enumerate.__new__» ⟨[.type "enumerate", v], []⟩) (fun _ R s => H s.heap ∧
      R (.ok (.ret (.ref (s.heap.push o).objs.size))) { s with heap := (s.heap.push o).push { cls := .type "enumerate", data := .fields #[.none, .bool false, .ref s.heap.objs.size, rawInt 0, .none, .none] } }) :=
  .of_wp fun prog w A R s h => by
    obtain ⟨hp, g, d, tk, os⟩ := s; obtain ⟨h1, h⟩ := h
    have hsub := sub_enumerate
    have q1 : ∀ {A' : Around} {E : Value → Shared → Prop} {Q : Value → Shared → Prop}, Q (.ref hp.objs.size) ⟨hp.push o, g, d, tk, os⟩ → wpAny (model prog w) A' (pyIter v) Q E ⟨hp, g, d, tk, os⟩ :=
      fun q => B.iter prog w _ _ ⟨hp, g, d, tk, os⟩ _ h1 q
    wp_walk using q1
    refine wpAny_stack_any fun st => wpAny_pure ?_
    split
    · rename_i c _ _ _ _ _
      cases (c == Value.type "enumerate")
      · wp_walk using q1
        exact ⟨_, rfl, h⟩
      · wp_walk using q1
        exact ⟨_, rfl, h⟩
    · wp_walk using q1
      exact ⟨_, rfl, h⟩
theorem enum_begins1 {P : Program} {w : World} {A : Around} {E : Value → Shared → Prop} {s : Shared} {v : Value} {o : Obj} {H : Heap → Prop} {Q : Value → Shared → Prop} (B : Begins v o H) (h1 : H s.heap)
    (h : ∀ h', IsEnum h' (s.heap.objs.size + 1) s.heap.objs.size 0 .none → h'.get? s.heap.objs.size = some o → h'.objs.size = s.heap.objs.size + 2 →
      (∀ b o, s.heap.get? b = some o → h'.get? b = some o) → Q (.ref (s.heap.objs.size + 1)) { s with heap := h' }) :
    wpAny (model P w) A (call (.type "enumerate") [v]) Q E s := by
  refine callType_new F.called_enumerate (by decide) (F.typeCall_enumerate_1 _) (F.newCall_enumerate_1 _) (fun obj => F.args_object_init_2 obj _) F.entry_enumerate_new
    (meets_enum1 B) ⟨h1, ?_⟩
  have hz : (s.heap.push o).objs.size = s.heap.objs.size + 1 := Heap.size_push ..
  show _ ∧ _
  rw [hz]
  have he : IsEnum ((s.heap.push o).push { cls := .type "enumerate", data := .fields #[.none, .bool false, .ref s.heap.objs.size, rawInt 0, .none, .none] }) (s.heap.objs.size + 1) s.heap.objs.size 0 .none := by
    have := Heap.get?_push_size (s.heap.push o) (o := { cls := .type "enumerate", data := .fields #[.none, .bool false, .ref s.heap.objs.size, rawInt 0, .none, .none] }) rfl
    rw [hz] at this; exact this
  refine ⟨⟨_, he, rfl⟩, h _ he (Heap.get?_push_of_some _ (Heap.get?_push_size _ B.free)) (by rw [Heap.size_push, hz]) fun b o x => Heap.get?_push_of_some _ (Heap.get?_push_of_some _ x)⟩
/-- the row at a, each item in a new pair -/
def Iek (k : Bool) (K : PySem.W.Frag) (a : Addr) : L2.It :=
  ⟨fun i H => ∃ (xs : List V) (x : V), SqK k K H a xs ∧ xs[i]? = some x, fun i H v H' => ∃ T x its, v = .ref T ∧ H T = none ∧ H' = upd H T (tupO its [.int (i : Nat), x]) ∧ ∀ xs, SqK k K H a xs → xs[i]? = some x, fun i H => ∃ xs : List V, SqK k K H a xs ∧ xs.length = i⟩
theorem turn_enumK {P : Program} {w : World} {K : PySem.W.Frag} {elts : List Expr} {kk : Nat} {tpos : Pos} (k : Bool) (a e it : Addr) :
    Turn P w K (.Tuple elts kk tpos) (Iek k K a) [e, it] e (fun i h => (∃ old, IsEnum h e it ((i : Nat) : Int) old) ∧ ItK k h it a i ∧ e ≠ it ∧ e ≠ a ∧ a ≠ it) where
  mem := by simp
  obj := fun i h st b hb => by
    obtain ⟨⟨old, he⟩, hi, _⟩ := st
    have e' : b = e ∨ b = it := by simpa using hb
    rcases e' with z | z
    · rw [z]; exact ⟨_, he, fun v q => nomatch q⟩
    · rw [z]; exact hi.live
  keep := fun i h h' st kp => let ⟨⟨old, he⟩, hi, hne⟩ := st; ⟨⟨old, kp e (by simp) _ he⟩, hi.at fun o q => kp it (by simp) o q, hne⟩
  item := by
    intro X hP hw hK hc i pins s σ H E I hf st hg
    subst hP hw hK
    obtain ⟨⟨old, he⟩, hit, hne, hea, hai⟩ := st
    obtain ⟨xs, x, hq, hx⟩ := hg
    obtain ⟨its, rv, p, hz⟩ := hq.of I
    obtain ⟨u, hu, ru⟩ := rv.get hx
    have hel : e < s.heap.objs.size := Heap.lt_size he
    have hil : it < s.heap.objs.size := by obtain ⟨_, q, _⟩ := hit.live; exact Heap.lt_size q
    have hlt : i < its.toArray.size := by
      have := (List.getElem?_eq_some_iff.mp hu).1
      simpa using this
    refine wpAny_pyNext_enum_itemD (drawsK k (by rw [Around.in1_handled]; exact I.ok.hd hc) it a hai its.toArray) he ⟨hit, p⟩ hlt hne (by simp [hne, hea]) fun u' h' tk hu' ho hit' hT hsz hk => ?_
    have eu : u' = u := by
      have h1 : its.toArray[i]? = some u := by simpa using hu
      rw [h1] at hu'; cases hu'; rfl
    subst eu
    refine ⟨_, rfl, wpAny_letOwnedTupleGo_enum (s := { s with heap := h', toks := tk + 1 }) ho fun h'' he' sb => ?_⟩
    have hT2 : h''.get? s.heap.objs.size = some { cls := .type "tuple", data := .seq #[.int i tk, u'] } := (sb.2 _ (Nat.ne_of_gt hel)).trans hT
    have new : ObjOk X.prog X.w (upd H s.heap.objs.size (tupO [.int i tk, u'] [.int (i : Nat), x])) h'' s.heap.objs.size (tupO [.int i tk, u'] [.int (i : Nat), x]) :=
      ⟨hT2, by show 2 ≤ sizeLine; decide, [.int i tk, u'], .cons ⟨_, rfl⟩ (.cons ru .nil), ⟨_, hT2, rfl, _, rfl⟩⟩
    have I1 : Inv X pins σ (upd H s.heap.objs.size (tupO [.int i tk, u'] [.int (i : Nat), x])) { s with heap := h'', toks := tk + 1 } :=
      I.turnedNew (ch := [e, it]) (fun b ob hb q => (sb.2 b (fun z => hb (by simp [z]))).trans (hk b ob (fun z => hb (by simp [z])) (fun z => hb (by simp [z])) q)) hf (Nat.le_refl _) new
    refine ⟨.ref s.heap.objs.size, _, I1, rfl, ⟨_, x, _, rfl, I.hok.fresh (Nat.le_refl _), rfl, fun ys hy => by rw [hy.inj I hq]; exact hx⟩, ⟨⟨u', ?_⟩, hit'.1.at fun o q => (sb.2 it (Ne.symm hne)).trans q, hne, hea, hai⟩, fun b hb => ?_⟩
    · have e1 : ((i + 1 : Nat) : Int) = (i : Int) + 1 := by omega
      rw [e1]; exact he'
    · have hb' : b < s.heap.objs.size := by
        have e' : b = e ∨ b = it := by simpa using hb
        rcases e' with z | z
        · rw [z]; exact hel
        · rw [z]; exact hil
      rw [upd_ne (Nat.ne_of_lt hb')]
      exact (hf b hb).1
  done := by
    intro X hP hw hK hc i pins s σ H E I hf st hg
    subst hP hw hK
    obtain ⟨⟨old, he⟩, hit, hne, hea, hai⟩ := st
    obtain ⟨xs, hq, hx⟩ := hg
    obtain ⟨its, rv, p, hz⟩ := hq.of I
    obtain ⟨f0, f1, f2, f3, f4, f5⟩ := hf it (by simp)
    have hl := rv.length
    have hn : its.toArray.size = i := by simp; omega
    refine wpAny_pyNext_enum_endD (drawsK k (by rw [Around.in1_handled]; exact I.ok.hd hc) it a hai its.toArray) he (by rw [hn]; exact ⟨hit, p⟩) fun h' eb => ⟨rfl, I.turned (t' := s.toks) (fun b o hb q => eb b o hb q) f0 f1 f3 f4 f5⟩
  self := fun A i s Q E st h => let ⟨⟨_, he⟩, _⟩ := st; wpAny_pyIter_enum he h
def iEnk (K : PySem.W.Frag) (ta : TA) : TI := fun σ H R => ta σ H fun vs H1 => ∃ k a xs, vs = [.ref a] ∧ SqK k K H1 a xs ∧ R (Iek k K a) H1
theorem pi_enk {e : Expr} {ta : TA} {p pos tpos : Pos} {elts : List Expr} {kk : Nat} (hg : Gl X "enumerate") (hm : X.mg "enumerate" = none) (ha : PA X [e] ta) (hs : starEach [e] X.env = [(false, eval e X.env)] := by rfl) :
    PI X (.Tuple elts kk tpos) (.Call (.Name "enumerate" p) [e] [] pos) (iEnk X.K ta) := by
  refine ⟨fun pins s σ H R I h => ?_⟩
  refine Call_ (ld_blt I hg hm boot_enumerate (PyProof.Rows.callWith_type1 (thn (ha.run pos pins s σ H _ I h) fun us s1 ⟨vs, H1, I1, r1, q1⟩ => ?_) hs rfl))
  obtain ⟨k, a, xs, ex, hq, q⟩ := q1
  subst ex
  cases r1 with
  | cons r rr =>
    cases rr
    cases r
    obtain ⟨its, rv, p', hz⟩ := hq.of I1
    have hal := p'.lt
    refine enum_begins1 (beginsK k a its.toArray) p' fun h' he hit hsz hk => wpAny_pyIter_enum he ?_
    have I2 : Inv X pins σ H1 { s1 with heap := h' } := I1.kept (t' := s1.toks) hk
    refine ⟨s1.heap.objs.size + 1, [s1.heap.objs.size + 1, s1.heap.objs.size], _, _, H1, rfl, I2, turn_enumK k a (s1.heap.objs.size + 1) s1.heap.objs.size, ⟨⟨.none, he⟩, ItK.of_new hit, Nat.succ_ne_self _, Nat.ne_of_gt (Nat.lt_succ_of_lt hal), Nat.ne_of_lt hal⟩, fun b hb => ?_, q⟩
    have e' : b = s1.heap.objs.size + 1 ∨ b = s1.heap.objs.size := by simpa using hb
    have hle : s1.heap.objs.size ≤ b := by
      rcases e' with z | z
      · rw [z]; exact Nat.le_add_right _ _
      · rw [z]; exact Nat.le_refl _
    exact I1.fpOk hle (I1.hok.fresh hle)
end
end Ev

end
section
set_option Elab.async false
set_option linter.all false
set_option maxRecDepth 100000
set_option maxHeartbeats 2000000
namespace Ev
open PySem L2
section
variable {K : PySem.W.Frag} {m : Addr → Prop} {al : List Addr} {md : Mo} {H H2 : Hp} {us : List U} {k : Bool} {a : Addr} {vs : List V} {u : U} {v : V}
theorem enumU_get : ∀ (us : List U) (n i : Nat) (w : U), (enumU n us)[i]? = some w → ∃ u, us[i]? = some u ∧ w = .tup [.int ((n + i : Nat) : Int), u]
  | [], n, i, w, e => by simp [enumU] at e
  | x :: xs, n, i, w, e => by
    cases i with
    | zero => simp [enumU] at e; exact ⟨x, rfl, by rw [← e]; rfl⟩
    | succ i =>
      simp only [enumU, List.getElem?_cons_succ] at e
      obtain ⟨u, e1, e2⟩ := enumU_get xs (n + 1) i w e
      refine ⟨u, by simpa using e1, ?_⟩
      rw [e2, show n + 1 + i = n + (i + 1) from by omega]
theorem enumU_len : ∀ (us : List U) (n : Nat), (enumU n us).length = us.length
  | [], _ => rfl
  | x :: xs, n => by simp [enumU, enumU_len xs]
theorem Src.yle (S : Src K m al md H us k a vs) : Yl K m al md H (Iek k K a) (enumU 0 us) := by
  have hl := S.sh.length
  refine ⟨fun i H2 p hi => ?_, fun H2 p => ⟨vs, S.sq H2 p, by rw [enumU_len]; omega⟩, fun i H2 x H3 u p e y => ?_⟩
  · rw [enumU_len] at hi
    exact ⟨vs, vs[i]'(by omega), S.sq H2 p, List.getElem?_eq_getElem (by omega)⟩
  · obtain ⟨u1, e1, rfl⟩ := enumU_get us 0 i u e
    obtain ⟨v, e2, r⟩ := S.sh.nth e1
    obtain ⟨T, x1, tits, rfl, hT, rfl, hx⟩ := y
    have e3 := hx vs (S.sq H2 p)
    rw [e2] at e3
    cases e3
    refine .new hT rfl (.cons ?_ (.cons r .nil))
    rw [Nat.zero_add]
    exact .int _
theorem rngU_get {lo : Int} {n i : Nat} {w : U} (e : (rngU lo n 1)[i]? = some w) : w = .int (lo + i) := by
  unfold rngU at e
  rw [List.getElem?_map] at e
  cases q : (List.range n)[i]? with
  | none => rw [q] at e; cases e
  | some j =>
    rw [q] at e
    have hj := List.getElem?_eq_some_iff.mp q
    obtain ⟨h1, h2⟩ := hj
    rw [List.getElem_range] at h2
    subst h2
    have e' := Option.some.inj e
    rw [← e']
    show U.int (lo + (i : Int) * 1) = _
    rw [Int.mul_one]
theorem rng_yl {lo : Int} {n : Nat} : Yl K m al md H (Itr lo n) (rngU lo n 1) := by
  have hl : (rngU lo n 1).length = n := by unfold rngU; simp
  refine ⟨fun i H2 p hi => by rw [hl] at hi; exact hi, fun H2 p => by rw [hl]; exact Nat.le_refl _, fun i H2 x H3 u p e y => ?_⟩
  rw [rngU_get e]
  obtain ⟨h1, h2⟩ := y
  rw [h2]
  exact .old h1 (.int _)
end
section
variable {X : Cx} {F : CallF} {KW : Kt} {a b c : C} {as : A} {x y z tg : Expr} {es : List Expr} {pos p : Pos}
/-- what one way asks of an iterator's term -/
def GoalI (F : CallF) (KW : Kt) (X : Cx) (it : Ev.It) (tg e : Expr) (md : Mo) : Prop := PI X tg e (tI F KW X.K md it)
theorem goal_src {md : Mo} (g : Goal F KW X a x md) (hm : md ≠ .tst) : ∃ te : TE, PE X x te ∧ ∀ {ρ : Env} {s s' : Sto} {m : Addr → Prop} {al : List Addr} {σ : L2.St} {H : Hp} {ra : Rv} {Q : VK}, SC X.K m al s ρ σ H → evE F KW a ρ s = .ok ra s' →
    (∀ v H' al', Step H H' al al' → ST X.K (mU m al') al' s' H' → (∀ us, items ra.u = some us → ∃ k q vs, v = .ref q ∧ Src X.K (mU m al') al' md H' us k q vs) → Q v H') → te σ H Q := by
  cases md with
  | tst => exact absurd rfl hm
  | esc => exact ⟨_, g, fun sc e q => ⟨_, _, _, _, _, _, sc, e, fun v H' al' st t vr => q v H' al' st t fun us hi => vr.sh.src t.sub hi⟩⟩
  | brw => exact ⟨_, g, fun sc e q => ⟨_, _, _, _, _, _, sc, e, fun v H' al' st t br => q v H' al' st t fun us hi => br.src t.sub (fun z => nomatch z) hi⟩⟩
theorem snd_seq {md : Mo} (hm : md ≠ .tst) (g : Goal F KW X a x md) : GoalI F KW X (.seq a) tg x md := by
  obtain ⟨te, pe, h⟩ := goal_src g hm
  refine PI.imp (pi_seq pe) fun σ H R ⟨ρ, s, m, al, us, s', sc, e, q⟩ => ?_
  simp only [evI] at e
  obtain ⟨ra, s1, e1, e⟩ := bind_ok e
  obtain ⟨e2, rfl⟩ := ofO_ok e
  refine h sc e1 fun v H' al' st t src => ?_
  obtain ⟨k, a, vs, rfl, S⟩ := src us e2
  exact ⟨k, a, vs, rfl, S.sq H' PP.refl, q _ H' al' st t S.yl⟩
theorem snd_enum {md : Mo} {elts : List Expr} {kk : Nat} {tpos : Pos} (hm : md ≠ .tst) (hg : Gl X "enumerate") (hmg : X.mg "enumerate" = none) (hs : noStar x = true) (g : Goal F KW X a x md) :
    GoalI F KW X (.enum a) (.Tuple elts kk tpos) (.Call (.Name "enumerate" p) [x] [] pos) md := by
  obtain ⟨te, pe, h⟩ := goal_src g hm
  refine PI.imp (pi_enk hg hmg (pa_cons pe pa_nil (star_of hs _)) (star_of hs _)) fun σ H R ⟨ρ, s, m, al, us, s', sc, e, q⟩ => ?_
  simp only [evI] at e
  obtain ⟨ra, s1, e1, e⟩ := bind_ok e
  obtain ⟨ys, e2, e⟩ := bindO_ok e
  cases e
  refine h sc e1 fun v H' al' st t src => ?_
  obtain ⟨k, a, vs, rfl, S⟩ := src ys e2
  exact ⟨k, a, vs, rfl, S.sq H' PP.refl, q _ H' al' st t S.yle⟩
theorem snd_rng1 {md : Mo} (hg : Gl X "range") (hmg : X.mg "range" = none) (hs : noStar x = true) (g : PE X x (tB F KW X.K a)) : GoalI F KW X (.rng1 a) tg (.Call (.Name "range" p) [x] [] pos) md :=
  PI.imp (pi_range1 hg hmg (pa_cons g pa_nil (star_of hs _)) (star_of hs _)) fun σ H R ⟨ρ, s, m, al, us, s', sc, e, q⟩ => by
    simp only [evI] at e
    obtain ⟨ra, s1, e1, e⟩ := bind_ok e
    obtain ⟨u, f⟩ := ra
    obtain ⟨n, hn⟩ : ∃ n, u = .int n := by
      cases u <;> first | exact ⟨_, rfl⟩ | (cases e; done)
    subst hn
    simp only at e
    by_cases c : (decide (n ≤ 1000000) && decide (-1000000 ≤ n)) = true
    · rw [if_pos c] at e
      cases e
      have c := Bool.and_eq_true_iff.mp c
      have c1 : n ≤ 1000000 := of_decide_eq_true c.1
      have c2 : -1000000 ≤ n := of_decide_eq_true c.2
      refine ⟨ρ, s, m, al, _, _, sc, e1, fun v H1 al1 st t b => ?_⟩
      cases b.int
      exact ⟨n, rfl, by omega, by omega, q _ H1 al1 st t rng_yl⟩
    · rw [if_neg c] at e; cases e
theorem snd_rng2 {md : Mo} (hg : Gl X "range") (hmg : X.mg "range" = none) (hs : noStar x = true) (hs2 : noStar y = true) (g : PE X x (tB F KW X.K a)) (g2 : PE X y (tB F KW X.K b)) : GoalI F KW X (.rng2 a b) tg (.Call (.Name "range" p) [x, y] [] pos) md :=
  PI.imp (pi_range2 hg hmg (pa_cons g (pa_cons g2 pa_nil (star_of hs2 _)) (star_of hs _)) (by rw [star_of hs, star_of hs2]; rfl) (by rw [star_of hs2]; rfl)) fun σ H R ⟨ρ, s, m, al, us, s', sc, e, q⟩ => by
    simp only [evI] at e
    obtain ⟨ra, s1, e1, e⟩ := bind_ok e
    obtain ⟨rb, s2, e2, e⟩ := bind_ok e
    obtain ⟨u, f⟩ := ra
    obtain ⟨u2, f2⟩ := rb
    obtain ⟨i, hn⟩ : ∃ n, u = .int n := by
      cases u <;> first | exact ⟨_, rfl⟩ | (cases e; done)
    subst hn
    obtain ⟨n, hn⟩ : ∃ n, u2 = .int n := by
      cases u2 <;> first | exact ⟨_, rfl⟩ | (cases e; done)
    subst hn
    simp only at e
    by_cases c : (decide (n ≤ 1000000) && decide (-1000000 ≤ n) && decide (i ≤ 1000000) && decide (-1000000 ≤ i)) = true
    · rw [if_pos c] at e
      cases e
      have c := Bool.and_eq_true_iff.mp c
      have d := Bool.and_eq_true_iff.mp c.1
      have d' := Bool.and_eq_true_iff.mp d.1
      have c1 : n ≤ 1000000 := of_decide_eq_true d'.1
      have c2 : -1000000 ≤ n := of_decide_eq_true d'.2
      have c3 : i ≤ 1000000 := of_decide_eq_true d.2
      have c4 : -1000000 ≤ i := of_decide_eq_true c.2
      refine ⟨ρ, s, m, al, _, _, sc, e1, fun v H1 al1 st t b => ⟨ρ, s1, _, al1, _, _, sc.step st t, e2, fun v2 H2 al2 st2 t2 b2 => ?_⟩⟩
      cases b.int
      cases b2.int
      refine ⟨i, n, rfl, ⟨by omega, by omega, by omega, by omega⟩, q _ H2 al2 (st.trans st2) t2.mm rng_yl⟩
    · rw [if_neg c] at e; cases e
end
end Ev

end
section
set_option Elab.async false
set_option linter.all false
set_option maxRecDepth 100000
set_option maxHeartbeats 4000000
namespace Ev
open PySem L2
section
open PySem.Spec PyProof.Rows
theorem zip_sep (N a b : Nat) (la : a < N) (lb : b < N) : ZipSep2 (N + 4) (N + 2) (N + 3) N (N + 1) [N, a] [N + 1, b] := by
  have no : ∀ (x y c : Nat), x ≠ y → x ≠ c → (x : Addr) ∉ [(y : Addr), c] := fun x y c h1 h2 h => by
    rcases List.mem_cons.mp h with z | z
    · exact h1 z
    · exact h2 (List.mem_singleton.mp z)
  have ne : ∀ x y : Nat, x ≠ y → (x : Addr) ≠ y := fun x y h => h
  exact ⟨ne _ _ (by omega), ne _ _ (by omega), ne _ _ (by omega), ne _ _ (by omega), List.mem_cons_self, no _ _ _ (by omega) (by omega), no _ _ _ (by omega) (by omega), ne _ _ (by omega), List.mem_cons_self, no _ _ _ (by omega) (by omega), no _ _ _ (by omega) (by omega), no _ _ _ (by omega) (by omega), no _ _ _ (by omega) (by omega)⟩
/-- the rows at a and b, the items in new pairs -/
def Izk (k1 k2 : Bool) (K : PySem.W.Frag) (a b : Addr) : L2.It :=
  ⟨fun i H => ∃ (xs ys : List V) (x y : V), SqK k1 K H a xs ∧ SqK k2 K H b ys ∧ xs[i]? = some x ∧ ys[i]? = some y,
    fun i H v H' => ∃ T x y its, v = .ref T ∧ H T = none ∧ H' = upd H T (tupO its [x, y]) ∧ (∀ xs, SqK k1 K H a xs → xs[i]? = some x) ∧ ∀ ys, SqK k2 K H b ys → ys[i]? = some y,
    fun i H => ∃ xs ys : List V, SqK k1 K H a xs ∧ SqK k2 K H b ys ∧ i = min xs.length ys.length⟩
theorem turn_zipK {P : Program} {w : World} {K : PySem.W.Frag} {elts : List Expr} {kk : Nat} {tpos : Pos} (k1 k2 : Bool) {a b z TI TO i1 i2 : Addr} (S : ZipSep2 z TI TO i1 i2 [i1, a] [i2, b]) :
    Turn P w K (.Tuple elts kk tpos) (Izk k1 k2 K a b) [z, TI, TO, i1, i2] z (fun i h => IsZip h z TI TO .none ∧ IsTupOf2 h TI (.ref i1) (.ref i2) ∧ (∃ x y, IsTupOf2 h TO x y) ∧ ItK k1 h i1 a i ∧ ItK k2 h i2 b i ∧ a ≠ i1 ∧ b ≠ i2) where
  mem := by simp
  obj := fun i h st c hc => by
    obtain ⟨hz, hTI, ⟨x, y, hTO⟩, h1, h2, _⟩ := st
    have e' : c = z ∨ c = TI ∨ c = TO ∨ c = i1 ∨ c = i2 := by simpa using hc
    rcases e' with q | q | q | q | q
    · rw [q]; exact ⟨_, hz, fun v q => nomatch q⟩
    · rw [q]; exact ⟨_, hTI, fun v q => nomatch q⟩
    · rw [q]; exact ⟨_, hTO, fun v q => nomatch q⟩
    · rw [q]; exact h1.live
    · rw [q]; exact h2.live
  keep := fun i h h' st k => by
    obtain ⟨hz, hTI, ⟨x, y, hTO⟩, h1, h2, hn⟩ := st
    exact ⟨k z (by simp) _ hz, k TI (by simp) _ hTI, ⟨x, y, k TO (by simp) _ hTO⟩, h1.at fun o q => k i1 (by simp) o q, h2.at fun o q => k i2 (by simp) o q, hn⟩
  item := by
    intro X hP hw hK hc i pins s σ H E I hf st hg
    subst hP hw hK
    obtain ⟨hz, hTI, ⟨x0, y0, hTO⟩, h1, h2, na, nb⟩ := st
    obtain ⟨xs, ys, x, y, hqx, hqy, hx, hy⟩ := hg
    obtain ⟨its, rv, p, _⟩ := hqx.of I
    obtain ⟨its2, rv2, p2, _⟩ := hqy.of I
    obtain ⟨u, hu, ru⟩ := rv.get hx
    obtain ⟨u2, hu2, ru2⟩ := rv2.get hy
    have hzl : z < s.heap.objs.size := Heap.lt_size hz
    have hd := I.ok.hd hc
    have hlt1 : i < its.toArray.size := by have := (List.getElem?_eq_some_iff.mp hu).1; simpa using this
    have hlt2 : i < its2.toArray.size := by have := (List.getElem?_eq_some_iff.mp hu2).1; simpa using this
    refine wpAny_pyNext_zipD2_item S (drawsK k1 (by rw [Around.in1_handled]; exact hd) i1 a na its.toArray) (drawsK k2 (by rw [Around.in1_handled]; exact hd) i2 b nb its2.toArray) hz hTI hTO ⟨h1, p⟩ ⟨h2, p2⟩ hlt1 hlt2 fun x1 x2 h' tk y1 y2 z' TO' h1' h2' hT hsz hk => ?_
    have eu : x1 = u := by
      have e : its.toArray[i]? = some u := by simpa using hu
      rw [e] at y1; cases y1; rfl
    have eu2 : x2 = u2 := by
      have e : its2.toArray[i]? = some u2 := by simpa using hu2
      rw [e] at y2; cases y2; rfl
    subst eu eu2
    refine ⟨_, rfl, wpAny_letOwnedTupleGo_zip (s := { s with heap := h', toks := tk }) z' fun h'' z'' sb => ?_⟩
    have hT2 : h''.get? s.heap.objs.size = some { cls := .type "tuple", data := .seq #[x1, x2] } := (sb.2 _ (Nat.ne_of_gt hzl)).trans hT
    have new : ObjOk X.prog X.w (upd H s.heap.objs.size (tupO [x1, x2] [x, y])) h'' s.heap.objs.size (tupO [x1, x2] [x, y]) :=
      ⟨hT2, by show 2 ≤ sizeLine; decide, [x1, x2], .cons ru (.cons ru2 .nil), ⟨_, hT2, rfl, _, rfl⟩⟩
    have I1 : Inv X pins σ (upd H s.heap.objs.size (tupO [x1, x2] [x, y])) { s with heap := h'', toks := tk } :=
      I.turnedNew (t' := tk) (ch := [z, TI, TO, i1, i2]) (fun c o hb q => (sb.2 c (fun q' => hb (by simp [q']))).trans (hk c o (fun q' => hb (by simp [q'])) (fun q' => hb (by simp [q'])) (fun q' => hb (by simp [q'])) (fun q' => hb (by simp [q'])) q)) hf (Nat.le_refl _) new
    refine ⟨.ref s.heap.objs.size, _, I1, rfl, ⟨_, x, y, _, rfl, I.hok.fresh (Nat.le_refl _), rfl, fun l hl => by rw [hl.inj I hqx]; exact hx, fun l hl => by rw [hl.inj I hqy]; exact hy⟩, ⟨z'', ?_, ⟨x1, x2, ?_⟩, ?_, ?_, na, nb⟩, fun c hcm => ?_⟩
    · exact (sb.2 _ S.TIz).trans (hk _ _ S.TIz S.TITO S.TIi1 S.TIi2 hTI)
    · exact (sb.2 _ S.TOz).trans TO'
    · exact h1'.1.at fun o q => (sb.2 _ (Ne.symm S.zi1)).trans q
    · exact h2'.1.at fun o q => (sb.2 _ (Ne.symm S.zi2)).trans q
    · have hlt : c < s.heap.objs.size := by
        have e' : c = z ∨ c = TI ∨ c = TO ∨ c = i1 ∨ c = i2 := by simpa using hcm
        rcases e' with q | q | q | q | q
        · rw [q]; exact hzl
        · rw [q]; exact Heap.lt_size hTI
        · rw [q]; exact Heap.lt_size hTO
        · rw [q]; obtain ⟨_, e1, _⟩ := h1.live; exact Heap.lt_size e1
        · rw [q]; obtain ⟨_, e2, _⟩ := h2.live; exact Heap.lt_size e2
      rw [upd_ne (Nat.ne_of_lt hlt)]
      exact (hf c hcm).1
  done := by
    intro X hP hw hK hc i pins s σ H E I hf st hg
    subst hP hw hK
    obtain ⟨hz, hTI, ⟨x0, y0, hTO⟩, h1, h2, na, nb⟩ := st
    obtain ⟨xs, ys, hqx, hqy, hend⟩ := hg
    obtain ⟨its, rv, p, _⟩ := hqx.of I
    obtain ⟨its2, rv2, p2, _⟩ := hqy.of I
    have l1 := rv.length
    have l2 := rv2.length
    have hd := I.ok.hd hc
    have s1 : its.toArray.size = xs.length := by simp; omega
    have s2 : its2.toArray.size = ys.length := by simp; omega
    refine wpAny_pyNext_zipD2_end S (drawsK k1 (by rw [Around.in1_handled]; exact hd) i1 a na its.toArray) (drawsK k2 (by rw [Around.in1_handled]; exact hd) i2 b nb its2.toArray) hz hTI hTO ⟨h1, p⟩ ⟨h2, p2⟩ (by rw [s1]; omega) (by rw [s2]; omega) (by rw [s1, s2]; omega) fun h' tk hk => ⟨rfl, I.turnedL (t' := tk) (ch := [z, TI, TO, i1, i2]) (fun c o hb q =>
      hk c o (fun q' => hb (by simp [q'])) (fun q' => hb (by simp [q'])) (fun q' => hb (by simp [q'])) (fun q' => hb (by simp [q'])) q) hf⟩
  self := fun A i s Q E st h => wpAny_pyIter_zip st.1 h
def iZk (K : PySem.W.Frag) (ta : TA) : TI := fun σ H R => ta σ H fun vs H1 => ∃ k1 k2 a b xs ys, vs = [.ref a, .ref b] ∧ SqK k1 K H1 a xs ∧ SqK k2 K H1 b ys ∧ R (Izk k1 k2 K a b) H1
theorem pi_zk {X : Cx} {e e2 : Expr} {ta : TA} {p pos tpos : Pos} {elts : List Expr} {kk : Nat} (hg : Gl X "zip") (hm : X.mg "zip" = none) (ha : PA X [e, e2] ta)
    (hs : starEach [e, e2] X.env = (false, eval e X.env) :: starEach [e2] X.env) (hpl : (backTo pos (starEach [e2] X.env)).any (·.1) = false) :
    PI X (.Tuple elts kk tpos) (.Call (.Name "zip" p) [e, e2] [] pos) (iZk X.K ta) := by
  refine ⟨fun pins s σ H R I h => ?_⟩
  refine Call_ (ld_blt I hg hm PyProof.Rows.boot_zip (PyProof.Rows.callWith_type1 (thn (ha.run pos pins s σ H _ I h) fun us s1 ⟨vs, H1, I1, r1, q1⟩ => ?_) hs hpl))
  obtain ⟨k1, k2, a, b, xs, ys, ex, hqx, hqy, q⟩ := q1
  subst ex
  cases r1 with
  | cons r rr =>
    cases rr with
    | cons r' rr =>
      cases rr
      cases r
      cases r'
      obtain ⟨its, rv, p1, _⟩ := hqx.of I1
      obtain ⟨its2, rv2, p2, _⟩ := hqy.of I1
      have la := p1.lt
      have lb := p2.lt
      have fresh5 : ∀ c, c ∈ [s1.heap.objs.size + 4, s1.heap.objs.size + 2, s1.heap.objs.size + 3, s1.heap.objs.size, s1.heap.objs.size + 1] → FpOk X pins H1 c := fun c hcm => by
        have e' : c = s1.heap.objs.size + 4 ∨ c = s1.heap.objs.size + 2 ∨ c = s1.heap.objs.size + 3 ∨ c = s1.heap.objs.size ∨ c = s1.heap.objs.size + 1 := by simpa using hcm
        have hle : s1.heap.objs.size ≤ c := by
          rcases e' with z | z | z | z | z
          · rw [z]; exact Nat.le_add_right _ _
          · rw [z]; exact Nat.le_add_right _ _
          · rw [z]; exact Nat.le_add_right _ _
          · rw [z]; exact Nat.le_refl _
          · rw [z]; exact Nat.le_add_right _ _
        exact I1.fpOk hle (I1.hok.fresh hle)
      refine zip_begins2 (beginsK k1 a its.toArray) (beginsK k2 b its2.toArray) p1 p2 fun h' hz hTI hTO h1 h2 hsz hk => wpAny_pyIter_zip hz ?_
      have I2 : Inv X pins σ H1 { s1 with heap := h' } := I1.kept (t' := s1.toks) hk
      have S : ZipSep2 (s1.heap.objs.size + 4) (s1.heap.objs.size + 2) (s1.heap.objs.size + 3) s1.heap.objs.size (s1.heap.objs.size + 1) [s1.heap.objs.size, a] [s1.heap.objs.size + 1, b] := by
        exact zip_sep _ a b la lb
      exact ⟨s1.heap.objs.size + 4, [s1.heap.objs.size + 4, s1.heap.objs.size + 2, s1.heap.objs.size + 3, s1.heap.objs.size, s1.heap.objs.size + 1], _, _, H1, rfl, I2, turn_zipK k1 k2 S, ⟨hz, hTI, ⟨_, _, hTO⟩, ItK.of_new h1, ItK.of_new h2, Nat.ne_of_lt la, Nat.ne_of_lt (Nat.lt_succ_of_lt lb)⟩, fresh5, q⟩
end
section
variable {K : PySem.W.Frag} {m : Addr → Prop} {al : List Addr} {md : Mo} {H H2 : Hp}
theorem zipU_len : ∀ (us ws : List U), (zipU us ws).length = min us.length ws.length
  | [], ws => by simp [zipU]
  | _ :: _, [] => by simp [zipU]
  | x :: xs, y :: ys => by simp only [zipU, List.length_cons, zipU_len xs ys]; omega
theorem zipU_get : ∀ (us ws : List U) (i : Nat) (u : U), (zipU us ws)[i]? = some u → ∃ x y, us[i]? = some x ∧ ws[i]? = some y ∧ u = .tup [x, y]
  | [], ws, i, u, e => by simp [zipU] at e
  | _ :: _, [], i, u, e => by simp [zipU] at e
  | x :: xs, y :: ys, i, u, e => by
    cases i with
    | zero => simp [zipU] at e; exact ⟨x, y, rfl, rfl, e.symm⟩
    | succ i =>
      simp only [zipU, List.getElem?_cons_succ] at e
      obtain ⟨a, b, e1, e2, e3⟩ := zipU_get xs ys i u e
      exact ⟨a, b, by simpa using e1, by simpa using e2, e3⟩
theorem Src.ylz {us ws : List U} {k1 k2 : Bool} {a b : Addr} {vs zs : List V} (S : Src K m al md H us k1 a vs) (S2 : Src K m al md H ws k2 b zs) : Yl K m al md H (Izk k1 k2 K a b) (zipU us ws) := by
  have hl := S.sh.length
  have hl2 := S2.sh.length
  refine ⟨fun i H2 p hi => ?_, fun H2 p => ⟨vs, zs, S.sq H2 p, S2.sq H2 p, by rw [zipU_len]; omega⟩, fun i H2 x H3 u p e y => ?_⟩
  · rw [zipU_len] at hi
    exact ⟨vs, zs, vs[i]'(by omega), zs[i]'(by omega), S.sq H2 p, S2.sq H2 p, List.getElem?_eq_getElem (by omega), List.getElem?_eq_getElem (by omega)⟩
  · obtain ⟨u1, u2, e1, e2, rfl⟩ := zipU_get us ws i u e
    obtain ⟨v1, g1, r1⟩ := S.sh.nth e1
    obtain ⟨v2, g2, r2⟩ := S2.sh.nth e2
    obtain ⟨T, x1, y1, tits, rfl, hT, rfl, hx, hy⟩ := y
    have q1 := hx vs (S.sq H2 p)
    rw [g1] at q1
    cases q1
    have q2 := hy zs (S2.sq H2 p)
    rw [g2] at q2
    cases q2
    exact .new hT rfl (.cons r1 (.cons r2 .nil))
end
section
variable {X : Cx} {F : CallF} {KW : Kt} {a b c : C} {as : A} {x y z tg : Expr} {es : List Expr} {pos p : Pos}
theorem Src.step {K : PySem.W.Frag} {m : Addr → Prop} {al al1 : List Addr} {md : Mo} {H H1 : Hp} {us : List U} {k : Bool} {q : Addr} {vs : List V} (S : Src K m al md H us k q vs) (st : Step H H1 al al1) (sb : ∀ c ∈ al, m c) : Src K (mU m al1) al1 md H1 us k q vs := by
  refine ⟨S.sh.step st sb, fun H2 p => S.sq H2 ?_⟩
  cases md with
  | esc => exact fun b o e n => p b o (st.ext b o e fun z => n (sb b z)) (st.notm sb e n)
  | brw => exact fun b o e n => p b o (st.ext b o e n) (st.notin e n)
  | tst => exact fun b o e n => p b o (st.ext b o e n) (st.notin e n)
theorem Src.mm {K : PySem.W.Frag} {m : Addr → Prop} {al al1 : List Addr} {md : Mo} {H : Hp} {us : List U} {k : Bool} {q : Addr} {vs : List V} (S : Src K (mU (mU m al) al1) al1 md H us k q vs) : Src K (mU m al1) al1 md H us k q vs := by
  refine ⟨S.sh.weak fun _ z => mU_sub z, fun H2 p => S.sq H2 ?_⟩
  cases md with
  | esc => exact fun b o e n => p b o e fun z => n (mU_sub z)
  | brw => exact p
  | tst => exact p
theorem snd_zip2 {md : Mo} {elts : List Expr} {kk : Nat} {tpos : Pos} (hm : md ≠ .tst) (hg : Gl X "zip") (hmg : X.mg "zip" = none) (hs : noStar x = true) (hs2 : noStar y = true) (g : Goal F KW X a x md) (g2 : Goal F KW X b y md) :
    GoalI F KW X (.zip2 a b) (.Tuple elts kk tpos) (.Call (.Name "zip" p) [x, y] [] pos) md := by
  obtain ⟨te, pe, h⟩ := goal_src g hm
  obtain ⟨te2, pe2, h2⟩ := goal_src g2 hm
  refine PI.imp (pi_zk hg hmg (pa_cons pe (pa_cons pe2 pa_nil (star_of hs2 _)) (star_of hs _)) (star_of hs _) (by rw [star_of hs2]; rfl)) fun σ H R ⟨ρ, s, m, al, us, s', sc, e, q⟩ => ?_
  simp only [evI] at e
  obtain ⟨ra, s1, e1, e⟩ := bind_ok e
  obtain ⟨rb, s2, e2, e⟩ := bind_ok e
  obtain ⟨ys, e3, e⟩ := bindO_ok e
  obtain ⟨ws, e4, e⟩ := bindO_ok e
  cases e
  refine h sc e1 fun v H1 al1 st t src => h2 (sc.step st t) e2 fun v2 H2 al2 st2 t2 src2 => ?_
  obtain ⟨k, q1, vs, rfl, S⟩ := src ys e3
  obtain ⟨k2, q2, zs, rfl, S2⟩ := src2 ws e4
  have S' := (S.step st2 t.sub).mm
  have S2' := S2.mm
  exact ⟨k, k2, q1, q2, vs, zs, rfl, S'.sq H2 PP.refl, S2'.sq H2 PP.refl, q _ H2 al2 (st.trans st2) t2.mm (S'.ylz S2')⟩
end
end Ev

end
section
set_option Elab.async false
set_option linter.all false
set_option maxRecDepth 100000
set_option maxHeartbeats 4000000
namespace Ev
open PySem L2
/-! ### zip of any number of rows -/
abbrev IsZipF (h : Heap) (z TI TO : Nat) (f0 f1 : Value) : Prop := h.get? z = some { cls := .type "zip", dict := none, data := .fields #[f0, f1, .bool false, .ref TI, .ref TO], slots := #[] }
abbrev IsTupOf (h : Heap) (T : Nat) (vs : List Value) : Prop := h.get? T = some { cls := .type "tuple", data := .seq vs.toArray }
def Held (f0 f1 : Value) : Prop := (f0 = .none ∨ ∃ n : Nat, f0 = rawInt n) ∧ ∃ b, f1 = .bool b
theorem IsK.at {k : Bool} {h h' : Heap} {a : Addr} {its : Array Value} (q : IsK k h a its) (e : ∀ o, h.get? a = some o → h'.get? a = some o) : IsK k h' a its := by
  cases k with
  | true => exact Heap.IsList.at q e
  | false => exact Heap.IsTuple.at q e
/-- outside of what a zip's turn changes -/
def Out (N n b : Nat) : Prop := b < N ∨ b = N + n ∨ N + n + 3 ≤ b
section
open PySem.Spec PyProof.Rows
/-- the rows' items at place i -/
structure Its (h : Heap) (N : Nat) (ks : List (Bool × Addr)) (i : Nat) (xs : List Value) : Prop where
  len : xs.length = ks.length
  low : ∀ (j : Nat) p, ks[j]? = some p → (p.2 : Nat) < N
  at_ : ∀ (j : Nat) p, ks[j]? = some p → ∃ (its : List Value) (x : Value), IsK p.1 h p.2 its.toArray ∧ its[i]? = some x ∧ xs[j]? = some x
/-- within a turn, j items drawn -/
structure Mid (h h' : Heap) (N : Nat) (ks : List (Bool × Addr)) (i j : Nat) : Prop where
  sz : h'.objs.size = h.objs.size
  fr : ∀ (b : Nat) o, Out N ks.length b → h.get? b = some o → h'.get? b = some o
  dn : ∀ (l : Nat) p, l < j → ks[l]? = some p → ItK p.1 h' (N + l : Nat) p.2 (i + 1)
  td : ∀ (l : Nat) p, j ≤ l → ks[l]? = some p → ItK p.1 h' (N + l : Nat) p.2 i
theorem Mid.other {h h1 h2 : Heap} {N : Nat} {ks : List (Bool × Addr)} {i j : Nat} (M : Mid h h1 N ks i j) {c : Nat} (s : Heap.SameBut c h1 h2) (hc : ¬ Out N ks.length c) (hi : ∀ l, l < ks.length → c ≠ N + l) : Mid h h2 N ks i j := by
  have key : ∀ l p, ks[l]? = some p → ∀ o, h1.get? (N + l : Nat) = some o → h2.get? (N + l : Nat) = some o := fun l p e o q => s.extBut _ _ (fun z => hi l (List.getElem?_eq_some_iff.mp e).1 z.symm) q
  exact ⟨s.1.trans M.sz, fun b o hb e => s.extBut _ _ (fun z => hc (by have z : b = c := z; rw [← z]; exact hb)) (M.fr b o hb e), fun l p hl e => (M.dn l p hl e).at (key l p e), fun l p hl e => (M.td l p hl e).at (key l p e)⟩
variable {P : Program} {w : World} {A : Around} {E : Value → Shared → Prop} {s : Shared} {N i : Nat} {ks : List (Bool × Addr)} {xs : List Value}
theorem drawJ {h : Heap} {j : Nat} {Q : Value → Shared → Prop} (hh : A.handled = none) (X : Its h N ks i xs) (M : Mid h s.heap N ks i j) (hj : j < ks.length)
    (hQ : ∀ x h' tk, xs[j]? = some x → Mid h h' N ks i (j + 1) → Heap.SameBut (N + j : Nat) s.heap h' → Q x { s with heap := h', toks := tk }) : wpAny (model P w) A (Builtin.SmallTypes.nextOf (.ref (N + j : Nat))) Q E s := by
  obtain ⟨p, hp⟩ : ∃ p, ks[j]? = some p := ⟨_, List.getElem?_eq_getElem hj⟩
  obtain ⟨its, x, h1, h2, h3⟩ := X.at_ j p hp
  have hlow := X.low j p hp
  have h1' : IsK p.1 s.heap p.2 its.toArray := h1.at fun o e => M.fr p.2 o (.inl hlow) e
  have hlt : i < its.toArray.size := by have := (List.getElem?_eq_some_iff.mp h2).1; simpa using this
  refine (drawsK p.1 hh (N + j : Nat) p.2 (fun z => absurd hlow (by rw [show p.2 = N + j from z]; exact Nat.not_lt.mpr (Nat.le_add_right _ _))) its.toArray).item i s Q E hlt ⟨M.td j p (Nat.le_refl _) hp, h1'⟩ fun y h' tk hy st sb => ?_
  have ey : y = x := by
    have e : its.toArray[i]? = some x := by simpa using h2
    rw [e] at hy; cases hy; rfl
  subst ey
  refine hQ y h' tk h3 ⟨sb.1.trans M.sz, fun b o hb e => sb.extBut _ _ (fun z => ?_) (M.fr b o hb e), fun l q hl e => ?_, fun l q hl e => ?_⟩ sb
  · have z : b = N + j := z
    unfold Out at hb
    omega
  · by_cases c : l = j
    · subst c
      rw [hp] at e; cases e
      exact st.1
    · exact (M.dn l q (by omega) e).at fun o g => sb.extBut _ _ (fun z => by have z : N + l = N + j := z; omega) g
  · exact (M.td l q (by omega) e).at fun o g => sb.extBut _ _ (fun z => by have z : N + l = N + j := z; omega) g
def refs (N n : Nat) : List Value := (List.range n).map fun j => Value.ref (N + j : Nat)
theorem alive_any {M : Model} {A : Around} {E : Value → Shared → Prop} {s : Shared} {a : Addr} {Q : Option Obj → Shared → Prop} (h : Q (s.heap.get? a) s) : wpAny M A (loadIfAlive a) Q E s := fun Γ p hΓ => by
  unfold loadIfAlive
  rw [Sem.wp_loadIfAlive]
  exact h
theorem refs_drop {N n j : Nat} {x : Value} {rest : List Value} (h : x :: rest = (refs N n).drop j) : j < n ∧ x = .ref (N + j : Nat) ∧ rest = (refs N n).drop (j + 1) := by
  have hl : (refs N n).length = n := by unfold refs; simp
  have hj : j < n := by
    have := congrArg List.length h
    rw [List.length_drop, hl] at this
    simp at this
    omega
  have e := List.drop_eq_getElem_cons (l := refs N n) (i := j) (by rw [hl]; exact hj)
  rw [e] at h
  cases h
  refine ⟨hj, ?_, rfl⟩
  unfold refs
  simp
theorem refsI_drop {N n j : Nat} {x : Value × Nat} {rest : List (Value × Nat)} (h : x :: rest = (refs N n).zipIdx.drop j) : j < n ∧ x = (.ref (N + j : Nat), j) ∧ rest = (refs N n).zipIdx.drop (j + 1) := by
  have hl : (refs N n).zipIdx.length = n := by unfold refs; simp
  have hj : j < n := by
    have := congrArg List.length h
    rw [List.length_drop, hl] at this
    simp at this
    omega
  have e := List.drop_eq_getElem_cons (l := (refs N n).zipIdx) (i := j) (by rw [hl]; exact hj)
  rw [e] at h
  cases h
  refine ⟨hj, ?_, rfl⟩
  unfold refs
  simp
theorem zip_free {z TI TO : Nat} {f0 f1 : Value} {Q : Bool → Shared → Prop} (hld : Held f0 f1) (hz : IsZipF s.heap z TI TO f0 f1)
    (h : ∀ b h' f0' f1', Held f0' f1' → IsZipF h' z TI TO f0' f1' → Heap.SameBut z s.heap h' → Q b { s with heap := h' }) : wpAny (model P w) A (Builtin.SmallTypes.ownedTupleIsFree (.ref z)) Q E s := by
  obtain ⟨h0, b, rfl⟩ := hld
  unfold Builtin.SmallTypes.ownedTupleIsFree
  rcases h0 with rfl | ⟨n, rfl⟩
  · exact wpAny_bind (wpAny_field hz rfl (x := .none) rfl (wpAny_pure (h true s.heap _ _ ⟨.inl rfl, b, rfl⟩ hz (Heap.SameBut.refl _ _))))
  · refine wpAny_bind (wpAny_field hz rfl (x := rawInt n) rfl ?_)
    show wpAny _ _ (loadIfAlive ((n : Int).toNat) >>= _) _ _ _
    rw [Int.toNat_natCast]
    refine wpAny_bind (alive_any ?_)
    cases s.heap.get? n with
    | none =>
      simp only [Option.isNone_none, if_true]
      exact wpAny_pure (h true s.heap _ _ ⟨.inr ⟨n, rfl⟩, b, rfl⟩ hz (Heap.SameBut.refl _ _))
    | some oT =>
      simp only [Option.isNone_some, Bool.false_eq_true, if_false]
      refine wpAny_bind (wpAny_field hz rfl (x := .bool b) rfl ?_)
      cases b with
      | true =>
        rw [if_neg (show ¬ ((Value.bool true != Value.bool true) = true) from Bool.false_ne_true)]
        exact wpAny_pure (h false s.heap _ _ ⟨.inr ⟨n, rfl⟩, true, rfl⟩ hz (Heap.SameBut.refl _ _))
      | false =>
        rw [if_pos (show (Value.bool false != Value.bool true) = true from rfl)]
        exact wpAny_bind (wpAny_setField_rec hz (by simp) fun h₁ hz₁ hs₁ => wpAny_pure (h false h₁ _ _ ⟨.inr ⟨n, rfl⟩, true, rfl⟩ hz₁ hs₁))
theorem zipN_next {T0 : List Value} {f0 f1 : Value} {Q : Value → Shared → Prop} (hh : A.handled = none) (hks : ks.length ≤ sizeLine) (hn : 0 < ks.length) (hld : Held f0 f1) (hz : IsZipF s.heap (N + ks.length + 2) (N + ks.length) (N + ks.length + 1) f0 f1) (hTI : IsTupOf s.heap (N + ks.length) (refs N ks.length))
    (hTO : IsTupOf s.heap (N + ks.length + 1) T0) (hT0 : T0.length = ks.length) (M : Mid s.heap s.heap N ks i 0) (X : Its s.heap N ks i xs)
    (hQ : ∀ h' tk f0' f1' T1, Held f0' f1' → IsZipF h' (N + ks.length + 2) (N + ks.length) (N + ks.length + 1) f0' f1' → IsTupOf h' (N + ks.length) (refs N ks.length) → IsTupOf h' (N + ks.length + 1) T1 → T1.length = ks.length →
      (∀ (l : Nat) p, ks[l]? = some p → ItK p.1 h' (N + l : Nat) p.2 (i + 1)) → IsTupOf h' s.heap.objs.size xs → h'.objs.size = s.heap.objs.size + 1 → (∀ (b : Nat) o, Out N ks.length b → s.heap.get? b = some o → h'.get? b = some o) → Q (.ref s.heap.objs.size) { s with heap := h', toks := tk }) :
    wpAny (model P w) A (Builtin.«zip.__next__» ⟨[.ref (N + ks.length + 2 : Nat)], []⟩) (fun fin s' => ∃ v, fin = .done (.ret v) ∧ Q v s') E s := by
  have hne : (refs N ks.length).toArray.isEmpty = false := by
    unfold refs
    cases q : ks.length with
    | zero => omega
    | succ n => simp [List.range_succ_eq_map]
  obtain ⟨hp, g, d, tk0, os⟩ := s
  show wpAny _ _ (field (.ref _) 2 >>= _) _ _ _
  refine wpAny_bind (wpAny_field hz rfl (x := .bool false) rfl ?_)
  show wpAny _ _ (field (.ref _) 3 >>= _) _ _ _
  refine wpAny_bind (wpAny_field hz rfl (x := .ref (N + ks.length : Nat)) rfl ?_)
  refine wpAny_bind (wpAny_seqItems hTI rfl ?_)
  simp only [hne, Bool.false_eq_true, if_false]
  refine wpAny_bind (zip_free hld hz fun b h0 f0' f1' hld' hz' sb0 => ?_)
  have nz : ¬ Out N ks.length (N + ks.length + 2) := by unfold Out; omega
  have nO : ¬ Out N ks.length (N + ks.length + 1) := by unfold Out; omega
  have M0 : Mid hp h0 N ks i 0 := M.other sb0 nz fun l hl => by omega
  have hTO0 : IsTupOf h0 (N + ks.length + 1) T0 := sb0.extBut _ _ (fun z => by have z : N + ks.length + 1 = N + ks.length + 2 := z; omega) hTO
  cases b with
  | false =>
    simp only [Bool.false_eq_true, if_false]
    rw [← Array.forIn_toList, show (refs N ks.length).toArray.toList = refs N ks.length by simp]
    refine wpAny_bind (wpAny_mono (wpAny_forIn_list _ (fun rest (st : Option Fin × Array Value) s' => st.1 = none ∧ ∃ j h' tk, j ≤ ks.length ∧ rest = (refs N ks.length).drop j ∧ s' = ⟨h', g, d, tk, os⟩ ∧ Mid hp h' N ks i j ∧ IsZipF h' (N + ks.length + 2) (N + ks.length) (N + ks.length + 1) f0' f1' ∧ IsTupOf h' (N + ks.length + 1) T0 ∧ st.2.toList = xs.take j)
      (fun (st : Option Fin × Array Value) s' => st.1 = none ∧ ∃ h' tk, s' = ⟨h', g, d, tk, os⟩ ∧ Mid hp h' N ks i ks.length ∧ IsZipF h' (N + ks.length + 2) (N + ks.length) (N + ks.length + 1) f0' f1' ∧ IsTupOf h' (N + ks.length + 1) T0 ∧ st.2.toList = xs) (fun x rest st s' hI => ?_) (fun st s' hI => ?_) (refs N ks.length) (none, #[]) ⟨rfl, 0, h0, tk0, Nat.zero_le _, rfl, rfl, M0, hz', hTO0, rfl⟩) (fun st s' hq => ?_) fun _ _ z => z)
    · obtain ⟨st1, st2⟩ := st
      obtain ⟨h1, j, h', tk, hj, er, rfl, Mj, zj, tj, ej⟩ := hI
      obtain ⟨hjn, rfl, rfl⟩ := refs_drop er
      refine wpAny_bind (wpAny_holding ?_)
      show wpAny _ _ (Builtin.SmallTypes.nextOf (.ref (N + j : Nat)) >>= _) _ _ _
      refine wpAny_bind (drawJ (s := ⟨h', g, d, tk, os⟩) hh X Mj hjn fun y h2 tk2 hy M2 sb2 => wpAny_pure ?_)
      refine wpAny_pure ⟨rfl, j + 1, h2, tk2, hjn, rfl, rfl, M2, ?_, ?_, ?_⟩
      · exact sb2.extBut _ _ (fun z => by have z : N + ks.length + 2 = N + j := z; omega) zj
      · exact sb2.extBut _ _ (fun z => by have z : N + ks.length + 1 = N + j := z; omega) tj
      · show (st2.push y).toList = _
        rw [Array.toList_push, ej, List.take_add_one, hy]
        rfl
    · obtain ⟨st1, st2⟩ := st
      obtain ⟨h1, j, h', tk, hj, er, rfl, Mj, zj, tj, ej⟩ := hI
      have hjn : j = ks.length := by
        have hl := congrArg List.length er
        rw [List.length_drop] at hl
        unfold refs at hl
        simp at hl
        omega
      subst hjn
      exact ⟨h1, h', tk, rfl, Mj, zj, tj, by rw [ej, ← X.len, List.take_length]⟩
    · obtain ⟨st1, st2⟩ := st
      obtain ⟨h1, h', tk, rfl, Mn, zn, tn, en⟩ := hq
      have h1 : st1 = none := h1
      subst h1
      have en : st2.toList = xs := en
      show wpAny _ _ (newTuple st2.toList >>= _) _ _ _
      rw [en]
      refine wpAny_bind (wpAny_newTuple ?_ (by rw [X.len]; exact hks))
      refine wpAny_pure ⟨_, rfl, ?_⟩
      have hTI' : IsTupOf h' (N + ks.length) (refs N ks.length) := Mn.fr _ _ (.inr (.inl rfl)) hTI
      have up : ∀ (b : Nat) o, h'.get? b = some o → (h'.push { cls := .type "tuple", data := .seq xs.toArray }).get? b = some o := fun b o e => Heap.get?_push_of_some _ e
      have hsz : h'.objs.size = hp.objs.size := Mn.sz
      have hnew : IsTupOf (h'.push { cls := .type "tuple", data := .seq xs.toArray }) hp.objs.size xs := by
        rw [← hsz]; exact Heap.get?_push_size _ rfl
      show Q (.ref h'.objs.size) _
      rw [hsz]
      exact hQ _ tk f0' f1' T0 hld' (up _ _ zn) (up _ _ hTI') (up _ _ tn) hT0 (fun l p e => (Mn.dn l p (List.getElem?_eq_some_iff.mp e).1 e).at fun o q => up _ _ q) hnew (by rw [Heap.size_push, hsz]) fun b o hb e => up _ _ (Mn.fr b o hb e)
  | true =>
    simp only [if_true]
    refine wpAny_bind (wpAny_rule ?_)
    refine wpAny_bind (wpAny_field (s := ⟨h0, g, d, tk0, os⟩) hz' rfl (x := .ref (N + ks.length + 1 : Nat)) rfl ?_)
    refine wpAny_bind (wpAny_setField_rec (s := ⟨h0, g, d, tk0, os⟩) hz' (by simp) fun g0 hz0 hs0 => ?_)
    replace hz0 : IsZipF g0 (N + ks.length + 2) (N + ks.length) (N + ks.length + 1) .ellipsis f1' := hz0
    replace hs0 : Heap.SameBut (N + ks.length + 2 : Nat) h0 g0 := hs0
    have Mg : Mid hp g0 N ks i 0 := M0.other hs0 nz fun l hl => by omega
    have tg : IsTupOf g0 (N + ks.length + 1) T0 := hs0.extBut _ _ (fun z => by have z : N + ks.length + 1 = N + ks.length + 2 := z; omega) hTO0
    refine wpAny_bind (wpAny_mono (wpAny_forIn_list _ (fun rest (st : Option Fin × Unit) s' => st.1 = none ∧ ∃ j h' tk T1, j ≤ ks.length ∧ rest = (refs N ks.length).zipIdx.drop j ∧ s' = ⟨h', g, d, tk, os⟩ ∧ Mid hp h' N ks i j ∧ IsZipF h' (N + ks.length + 2) (N + ks.length) (N + ks.length + 1) .ellipsis f1' ∧ IsTupOf h' (N + ks.length + 1) T1 ∧ T1.length = ks.length ∧ T1.take j = xs.take j)
      (fun (st : Option Fin × Unit) s' => st.1 = none ∧ ∃ h' tk, s' = ⟨h', g, d, tk, os⟩ ∧ Mid hp h' N ks i ks.length ∧ IsZipF h' (N + ks.length + 2) (N + ks.length) (N + ks.length + 1) .ellipsis f1' ∧ IsTupOf h' (N + ks.length + 1) xs) (fun x rest st s' hI => ?_) (fun st s' hI => ?_) (refs N ks.length).zipIdx (none, ()) ⟨rfl, 0, g0, tk0, T0, Nat.zero_le _, rfl, rfl, Mg, hz0, tg, hT0, rfl⟩) (fun st s' hq => ?_) fun _ _ z => z)
    · obtain ⟨st1, st2⟩ := st
      obtain ⟨h1, j, h', tk, T1, hj, er, rfl, Mj, zj, tj, lj, ej⟩ := hI
      obtain ⟨hjn, rfl, rfl⟩ := refsI_drop er
      refine wpAny_bind (wpAny_onRaise ?_)
      show wpAny _ _ (Builtin.SmallTypes.nextOf (.ref (N + j : Nat)) >>= _) _ _ _
      refine wpAny_bind (drawJ (s := ⟨h', g, d, tk, os⟩) hh X Mj hjn fun y h2 tk2 hy M2 sb2 => wpAny_pure ?_)
      have t2 : IsTupOf h2 (N + ks.length + 1) T1 := sb2.extBut _ _ (fun z => by have z : N + ks.length + 1 = N + j := z; omega) tj
      have z2 : IsZipF h2 (N + ks.length + 2) (N + ks.length) (N + ks.length + 1) .ellipsis f1' := sb2.extBut _ _ (fun z => by have z : N + ks.length + 2 = N + j := z; omega) zj
      refine wpAny_bind (wpAny_seqItems (s := ⟨h2, g, d, tk2, os⟩) t2 rfl ?_)
      refine wpAny_bind (wpAny_updateSeq (s := ⟨h2, g, d, tk2, os⟩) t2 rfl ?_ (by rw [List.size_toArray, lj]; exact hks) (by simp [lj]; omega))
      refine wpAny_bind (wpAny_letGo (wpAny_pure ?_))
      have su : Heap.SameBut (N + ks.length + 1 : Nat) h2 (h2.update (N + ks.length + 1 : Nat) (Obj.mapSeq fun q => q.setIfInBounds j y)) := Heap.SameBut.update ..
      refine ⟨rfl, j + 1, _, tk2, T1.set j y, hjn, rfl, rfl, M2.other su nO fun l hl => by omega, su.extBut _ _ (fun z => by have z : N + ks.length + 2 = N + ks.length + 1 := z; omega) z2, ?_, by rw [List.length_set]; exact lj, ?_⟩
      · have := Heap.get?_update_self (Obj.mapSeq fun q => q.setIfInBounds j y) t2 rfl
        show (h2.update (N + ks.length + 1 : Nat) (Obj.mapSeq fun q => q.setIfInBounds j y)).get? (N + ks.length + 1 : Nat) = _
        rw [this]
        simp [Obj.mapSeq]
      · have hjl : j < T1.length := by rw [lj]; exact hjn
        rw [List.take_add_one, List.take_add_one, List.getElem?_set_self hjl, hy, List.take_set_of_le (Nat.le_refl j), ej]
    · obtain ⟨st1, st2⟩ := st
      obtain ⟨h1, j, h', tk, T1, hj, er, rfl, Mj, zj, tj, lj, ej⟩ := hI
      have hjn : j = ks.length := by
        have hl := congrArg List.length er
        rw [List.length_drop] at hl
        unfold refs at hl
        simp at hl
        omega
      subst hjn
      have eT : T1 = xs := by
        have e1 : T1.take ks.length = T1 := by rw [← lj, List.take_length]
        have e2 : xs.take ks.length = xs := by rw [← X.len, List.take_length]
        rw [← e1, ej, e2]
      subst eT
      exact ⟨h1, h', tk, rfl, Mj, zj, tj⟩
    · obtain ⟨st1, st2⟩ := st
      obtain ⟨h1, h', tk, rfl, Mn, zn, tn⟩ := hq
      have h1 : st1 = none := h1
      subst h1
      refine wpAny_bind (wpAny_seqItems (s := ⟨h', g, d, tk, os⟩) tn rfl ?_)
      show wpAny _ _ (newTuple xs.toArray.toList >>= _) _ _ _
      rw [show xs.toArray.toList = xs by simp]
      refine wpAny_bind (wpAny_newTuple ?_ (by rw [X.len]; exact hks))
      have hTI' : IsTupOf h' (N + ks.length) (refs N ks.length) := Mn.fr _ _ (.inr (.inl rfl)) hTI
      have hsz : h'.objs.size = hp.objs.size := Mn.sz
      have zlt : (N + ks.length + 2 : Nat) < h'.objs.size := Heap.lt_size zn
      show wpAny _ _ (Builtin.SmallTypes.ownedTupleHandOut (.ref (N + ks.length + 2 : Nat)) (.ref h'.objs.size) >>= _) _ _ ⟨h'.push { cls := .type "tuple", data := .seq xs.toArray }, g, d, tk, os⟩
      refine wpAny_bind ?_
      unfold Builtin.SmallTypes.ownedTupleHandOut
      have hz₆ : IsZipF (h'.push { cls := .type "tuple", data := .seq xs.toArray }) (N + ks.length + 2) (N + ks.length) (N + ks.length + 1) .ellipsis f1' := Heap.get?_push_of_some _ zn
      refine wpAny_bind (wpAny_setField_rec (s := ⟨_, g, d, tk, os⟩) hz₆ (by simp) fun h₇ hz₇ hs₇ => ?_)
      replace hz₇ : IsZipF h₇ (N + ks.length + 2) (N + ks.length) (N + ks.length + 1) (rawInt h'.objs.size) f1' := hz₇
      replace hs₇ : Heap.SameBut (N + ks.length + 2 : Nat) (h'.push { cls := .type "tuple", data := .seq xs.toArray }) h₇ := hs₇
      refine wpAny_setField_rec (s := ⟨h₇, g, d, tk, os⟩) hz₇ (by simp) fun h₈ hz₈ hs₈ => ?_
      replace hz₈ : IsZipF h₈ (N + ks.length + 2) (N + ks.length) (N + ks.length + 1) (rawInt h'.objs.size) (.bool false) := hz₈
      replace hs₈ : Heap.SameBut (N + ks.length + 2 : Nat) h₇ h₈ := hs₈
      have up : ∀ (b : Nat) o, b ≠ N + ks.length + 2 → h'.get? b = some o → h₈.get? b = some o := fun b o hb e => hs₈.extBut _ _ hb (hs₇.extBut _ _ hb (Heap.get?_push_of_some _ e))
      have hnew : IsTupOf h₈ h'.objs.size xs := hs₈.extBut _ _ (Nat.ne_of_gt zlt) (hs₇.extBut _ _ (Nat.ne_of_gt zlt) (Heap.get?_push_size _ rfl))
      have hz8 : h₈.objs.size = h'.objs.size + 1 := by rw [hs₈.1, hs₇.1, Heap.size_push]
      rw [hsz] at hnew hz8
      refine wpAny_pure ⟨_, rfl, ?_⟩
      show Q (.ref h'.objs.size) ⟨h₈, g, d, tk, os⟩
      have hQ' := hQ h₈ tk _ _ xs ⟨.inr ⟨_, rfl⟩, false, rfl⟩ hz₈ (up _ _ (by omega) hTI') (up _ _ (by omega) tn) X.len (fun l p e => (Mn.dn l p (List.getElem?_eq_some_iff.mp e).1 e).at fun o q => up _ _ (by have := (List.getElem?_eq_some_iff.mp e).1; omega) q) hnew hz8 fun b o hb e => up _ _ (fun z => nz (by rw [← z]; exact hb)) (Mn.fr b o hb e)
      rw [hsz]
      exact hQ'
end
end Ev

end
section
set_option Elab.async false
set_option linter.all false
set_option maxRecDepth 100000
set_option maxHeartbeats 4000000
namespace Ev
open PySem L2
section
open PySem.Spec PyProof.Rows
theorem tcz (vs : List Value) : checkTypeCall "zip" ⟨vs, []⟩ = pure () := by kernel_rfl
theorem ncz (v : Value) (vs : List Value) : checkBuiltinCall "zip.__new__" ⟨.type "zip" :: v :: vs, []⟩ = pure () := by kernel_rfl
theorem aoz (obj v : Value) (vs : List Value) : argsOk "object.__init__" ⟨obj :: v :: vs, []⟩ := by unfold argsOk; kernel_rfl
def pushAll : List (Bool × Addr) → Heap → Heap
  | [], h => h
  | p :: r, h => pushAll r (h.push (oK p.1 p.2))
theorem oK_free (k : Bool) (a : Addr) : (oK k a).isFreed = false := by cases k <;> rfl
theorem pushAll_size : ∀ (ks : List (Bool × Addr)) (h : Heap), (pushAll ks h).objs.size = h.objs.size + ks.length
  | [], _ => rfl
  | p :: r, h => by
    show (pushAll r _).objs.size = _
    rw [pushAll_size r, Heap.size_push, List.length_cons]
    omega
theorem pushAll_keep : ∀ (ks : List (Bool × Addr)) (h : Heap) (b : Addr) (o : Obj), h.get? b = some o → (pushAll ks h).get? b = some o
  | [], _, _, _, e => e
  | p :: r, h, b, o, e => pushAll_keep r _ b o (Heap.get?_push_of_some _ e)
theorem pushAll_get : ∀ (ks : List (Bool × Addr)) (h : Heap) (j : Nat) (p : Bool × Addr), ks[j]? = some p → (pushAll ks h).get? (h.objs.size + j : Nat) = some (oK p.1 p.2)
  | [], _, j, p, e => by simp at e
  | q :: r, h, 0, p, e => by
    simp at e
    subst e
    exact pushAll_keep r _ _ _ (Heap.get?_push_size _ (oK_free _ _))
  | q :: r, h, j + 1, p, e => by
    have := pushAll_get r (h.push (oK q.1 q.2)) j p (by simpa using e)
    rw [Heap.size_push] at this
    rw [show h.objs.size + (j + 1) = h.objs.size + 1 + j by omega]
    exact this
theorem pushAll_snoc : ∀ (ks : List (Bool × Addr)) (p : Bool × Addr) (h : Heap), pushAll (ks ++ [p]) h = (pushAll ks h).push (oK p.1 p.2)
  | [], _, _ => rfl
  | q :: r, p, h => pushAll_snoc r p _
theorem iterAll_ks {P : Program} {w : World} {A : Around} {E : Value → Shared → Prop} {s : Shared} {ks : List (Bool × Addr)} {Q : List Value → Shared → Prop} (hk : ∀ p ∈ ks, ∃ its, IsK p.1 s.heap p.2 its)
    (h : Q (refs s.heap.objs.size ks.length) { s with heap := pushAll ks s.heap }) : wpAny (model P w) A (Builtin.SmallTypes.iterAll (ks.map fun p => Value.ref p.2)) Q E s := by
  obtain ⟨hp, g, d, tk, os⟩ := s
  unfold Builtin.SmallTypes.iterAll
  refine wpAny_bind (wpAny_mono (wpAny_forIn_list _ (fun rest (st : Array Value) s' => ∃ j, j ≤ ks.length ∧ rest = (ks.map fun p => Value.ref p.2).drop j ∧ s' = ⟨pushAll (ks.take j) hp, g, d, tk, os⟩ ∧ st.toList = refs hp.objs.size j)
    (fun (st : Array Value) s' => s' = ⟨pushAll ks hp, g, d, tk, os⟩ ∧ st.toList = refs hp.objs.size ks.length) (fun x rest st s' hI => ?_) (fun st s' hI => ?_) (ks.map fun p => Value.ref p.2) #[] ⟨0, Nat.zero_le _, rfl, rfl, rfl⟩) (fun st s' hq => ?_) fun _ _ z => z)
  · obtain ⟨j, hj, er, rfl, ej⟩ := hI
    have hl : (ks.map fun p => Value.ref p.2).length = ks.length := List.length_map _
    have hjn : j < ks.length := by
      have := congrArg List.length er
      rw [List.length_drop, hl] at this
      simp at this
      omega
    rw [List.drop_eq_getElem_cons (by rw [hl]; exact hjn)] at er
    cases er
    rw [List.getElem_map]
    obtain ⟨its, hi⟩ := hk _ (List.getElem_mem hjn)
    refine wpAny_bind (wpAny_holding ?_)
    refine (beginsK ks[j].1 ks[j].2 its).iter _ _ _ _ ⟨pushAll (ks.take j) hp, g, d, tk, os⟩ _ (hi.at fun o e => pushAll_keep _ _ _ _ e) ?_
    refine wpAny_pure ⟨j + 1, hjn, rfl, ?_, ?_⟩
    · rw [List.take_add_one, List.getElem?_eq_getElem hjn]
      show _ = Shared.mk (pushAll (ks.take j ++ [ks[j]]) hp) g d tk os
      rw [pushAll_snoc]
    · show (st.push (.ref (pushAll (ks.take j) hp).objs.size)).toList = _
      rw [Array.toList_push, ej, pushAll_size, List.length_take, Nat.min_eq_left (Nat.le_of_lt hjn)]
      unfold refs
      rw [List.range_succ, List.map_append]
      rfl
  · obtain ⟨j, hj, er, rfl, ej⟩ := hI
    have hjn : j = ks.length := by
      have hl := congrArg List.length er
      rw [List.length_drop, List.length_map] at hl
      simp at hl
      omega
    subst hjn
    exact ⟨by rw [List.take_length], ej⟩
  · obtain ⟨rfl, ej⟩ := hq
    refine wpAny_pure ?_
    rw [ej]
    exact h
abbrev zT (ks : List (Bool × Addr)) (h : Heap) : Heap := (pushAll ks h).push ({ cls := .type "tuple", data := .seq (refs h.objs.size ks.length).toArray } : Obj)
abbrev zO (ks : List (Bool × Addr)) (h : Heap) : Heap := (zT ks h).push ({ cls := .type "tuple", data := .seq ((refs h.objs.size ks.length).map fun _ => Value.none).toArray } : Obj)
abbrev zZ (ks : List (Bool × Addr)) (h : Heap) : Heap := (zO ks h).push ({ cls := .type "zip", data := .fields #[.none, .bool false, .bool false, .ref (pushAll ks h).objs.size, .ref (zT ks h).objs.size] } : Obj)
theorem meets_zipN (ks : List (Bool × Addr)) (hn : 0 < ks.length) (hz : ks.length ≤ sizeLine) : Meets (Builtin.«zip.__new__» ⟨.type "zip" :: ks.map fun p => Value.ref p.2, []⟩) (fun _ R s => (∀ p ∈ ks, ∃ its, IsK p.1 s.heap p.2 its) ∧
    R (.ok (.ret (.ref (zO ks s.heap).objs.size))) { s with heap := zZ ks s.heap }) :=
  .of_wp fun prog w A R s h => by
    obtain ⟨hp, g, d, tk, os⟩ := s; obtain ⟨hk, h⟩ := h
    have hsub := sub_zip
    have q1 : ∀ {A' : Around} {E : Value → Shared → Prop} {Q : List Value → Shared → Prop}, Q (refs hp.objs.size ks.length) ⟨pushAll ks hp, g, d, tk, os⟩ → wpAny (model prog w) A' (Builtin.SmallTypes.iterAll (ks.map fun p => Value.ref p.2)) Q E ⟨hp, g, d, tk, os⟩ :=
      fun q => iterAll_ks hk q
    have hrl : (refs hp.objs.size ks.length).length = ks.length := by unfold refs; simp
    have q2 : ∀ {A' : Around} {E : Value → Shared → Prop} {Q : Value → Shared → Prop}, Q (.ref (pushAll ks hp).objs.size) ⟨zT ks hp, g, d, tk, os⟩ → wpAny (model prog w) A' (newTuple (refs hp.objs.size ks.length)) Q E ⟨pushAll ks hp, g, d, tk, os⟩ :=
      fun q => wpAny_newTuple q (by rw [hrl]; exact hz)
    have q3 : ∀ {A' : Around} {E : Value → Shared → Prop} {Q : Value → Shared → Prop}, Q (.ref (zT ks hp).objs.size) ⟨zO ks hp, g, d, tk, os⟩ → wpAny (model prog w) A' (newTuple ((refs hp.objs.size ks.length).map fun _ => Value.none)) Q E ⟨zT ks hp, g, d, tk, os⟩ :=
      fun q => wpAny_newTuple q (by rw [List.length_map, hrl]; exact hz)
    wp_walk using q1, q2, q3
    exact ⟨_, rfl, h⟩
theorem zip_beginsN {P : Program} {w : World} {A : Around} {E : Value → Shared → Prop} {s : Shared} {ks : List (Bool × Addr)} {Q : Value → Shared → Prop} (hn : 0 < ks.length) (hz : ks.length ≤ sizeLine) (hk : ∀ p ∈ ks, ∃ its, IsK p.1 s.heap p.2 its)
    (h : ∀ h', IsZipF h' (s.heap.objs.size + ks.length + 2) (s.heap.objs.size + ks.length) (s.heap.objs.size + ks.length + 1) .none (.bool false) → IsTupOf h' (s.heap.objs.size + ks.length) (refs s.heap.objs.size ks.length) →
      (∃ T0, IsTupOf h' (s.heap.objs.size + ks.length + 1) T0 ∧ T0.length = ks.length) → (∀ (l : Nat) p, ks[l]? = some p → ItK p.1 h' (s.heap.objs.size + l : Nat) p.2 0) → (∀ c o, s.heap.get? c = some o → h'.get? c = some o) → Q (.ref (s.heap.objs.size + ks.length + 2 : Nat)) { s with heap := h' }) :
    wpAny (model P w) A (call (.type "zip") (ks.map fun p => Value.ref p.2)) Q E s := by
  have hc : ∃ v vs, (ks.map fun p => Value.ref p.2) = v :: vs := by
    cases ks with
    | nil => simp at hn
    | cons p r => exact ⟨_, _, rfl⟩
  obtain ⟨v, vs, hvs⟩ := hc
  refine callType_new F.called_zip (by decide) (tcz _) (by rw [hvs]; exact ncz v vs) (fun obj => by rw [hvs]; exact aoz obj v vs) F.entry_zip_new (meets_zipN ks hn hz) ⟨hk, ?_⟩
  have z1 : (pushAll ks s.heap).objs.size = s.heap.objs.size + ks.length := pushAll_size ks s.heap
  have z2 : (zT ks s.heap).objs.size = s.heap.objs.size + ks.length + 1 := by rw [Heap.size_push, z1]
  have z3 : (zO ks s.heap).objs.size = s.heap.objs.size + ks.length + 2 := by rw [Heap.size_push, z2]
  have gZ : (zZ ks s.heap).get? (zO ks s.heap).objs.size = some { cls := .type "zip", data := .fields #[.none, .bool false, .bool false, .ref (pushAll ks s.heap).objs.size, .ref (zT ks s.heap).objs.size] } := Heap.get?_push_size _ rfl
  have gO : (zZ ks s.heap).get? (zT ks s.heap).objs.size = some { cls := .type "tuple", data := .seq ((refs s.heap.objs.size ks.length).map fun _ => Value.none).toArray } := Heap.get?_push_of_some _ (Heap.get?_push_size _ rfl)
  have gT : (zZ ks s.heap).get? (pushAll ks s.heap).objs.size = some { cls := .type "tuple", data := .seq (refs s.heap.objs.size ks.length).toArray } := Heap.get?_push_of_some _ (Heap.get?_push_of_some _ (Heap.get?_push_size _ rfl))
  rw [z3, z1, z2] at gZ
  rw [z2] at gO
  rw [z1] at gT
  show _ ∧ _
  rw [z3]
  have up : ∀ (b : Nat) o, (pushAll ks s.heap).get? b = some o → (zZ ks s.heap).get? b = some o := fun b o e => Heap.get?_push_of_some _ (Heap.get?_push_of_some _ (Heap.get?_push_of_some _ e))
  exact ⟨⟨_, gZ, rfl⟩, h _ gZ gT ⟨_, gO, by unfold refs; simp⟩ (fun l p e => ItK.of_new (up _ _ (pushAll_get ks s.heap l p e))) fun c o e => up _ _ (pushAll_keep ks s.heap c o e)⟩
/-- the first row has come to its end -/
theorem zipN_end {P : Program} {w : World} {A : Around} {E : Value → Shared → Prop} {s : Shared} {N i : Nat} {ks : List (Bool × Addr)} {T0 : List Value} {f0 f1 : Value} {p0 : Bool × Addr} {its : List Value} {Q : Fin → Shared → Prop} (hh : A.handled = none) (h0 : ks[0]? = some p0) (hlow : (p0.2 : Nat) < N) (hi : IsK p0.1 s.heap p0.2 its.toArray) (hl : its.length = i)
    (hld : Held f0 f1) (hz : IsZipF s.heap (N + ks.length + 2) (N + ks.length) (N + ks.length + 1) f0 f1) (hTI : IsTupOf s.heap (N + ks.length) (refs N ks.length)) (hTO : IsTupOf s.heap (N + ks.length + 1) T0) (ht : ItK p0.1 s.heap (N : Nat) p0.2 i)
    (hE : ∀ h' e, (∀ (b : Nat) o, Out N ks.length b → s.heap.get? b = some o → h'.get? b = some o) → (∃ o, h'.get? e = some o ∧ o.cls = .type "StopIteration") → E (.ref e) { s with heap := h' }) :
    wpAny (model P w) A (Builtin.«zip.__next__» ⟨[.ref (N + ks.length + 2 : Nat)], []⟩) Q E s := by
  obtain ⟨p, r, hr⟩ : ∃ p r, ks = p :: r := by
    cases ks with
    | nil => cases h0
    | cons p r => exact ⟨_, _, rfl⟩
  have hlen : 0 < ks.length := by rw [hr]; simp
  have hrefs : refs N ks.length = .ref (N : Nat) :: (refs N ks.length).tail := by
    unfold refs
    rw [hr, List.length_cons, List.range_succ_eq_map]
    rfl
  have hne : (refs N ks.length).toArray.isEmpty = false := by rw [hrefs]; rfl
  obtain ⟨hp, g, d, tk0, os⟩ := s
  show wpAny _ _ (field (.ref _) 2 >>= _) _ _ _
  refine wpAny_bind (wpAny_field hz rfl (x := .bool false) rfl ?_)
  show wpAny _ _ (field (.ref _) 3 >>= _) _ _ _
  refine wpAny_bind (wpAny_field hz rfl (x := .ref (N + ks.length : Nat)) rfl ?_)
  refine wpAny_bind (wpAny_seqItems hTI rfl ?_)
  simp only [hne, Bool.false_eq_true, if_false]
  refine wpAny_bind (zip_free hld hz fun b h1 f0' f1' hld' hz' sb0 => ?_)
  have nz : ¬ Out N ks.length (N + ks.length + 2) := by unfold Out; omega
  have nN : ¬ Out N ks.length N := by unfold Out; omega
  have draw : ∀ (h2 : Heap), (∀ (b : Nat) o, b ≠ N + ks.length + 2 → hp.get? b = some o → h2.get? b = some o) → ∀ (Q' : Value → Shared → Prop) (E' : Value → Shared → Prop), (∀ h' e, Heap.ExtBut (N : Nat) h2 h' → (∃ o, h'.get? e = some o ∧ o.cls = .type "StopIteration") → E' (.ref e) ⟨h', g, d, tk0, os⟩) →
      wpAny (model P w) A (Builtin.SmallTypes.nextOf (.ref (N : Nat))) Q' E' ⟨h2, g, d, tk0, os⟩ := fun h2 hk Q' E' hE' => by
    refine (drawsK p0.1 hh (N : Nat) p0.2 (fun z => absurd hlow (by rw [show p0.2 = N from z]; exact Nat.lt_irrefl _)) its.toArray).done ⟨h2, g, d, tk0, os⟩ Q' E' ?_ hE'
    have hs : its.toArray.size = i := by rw [List.size_toArray, hl]
    rw [hs]
    exact ⟨ht.at fun o e => hk N o (by omega) e, hi.at fun o e => hk p0.2 o (fun z => absurd hlow (by rw [z]; exact Nat.not_lt.mpr (by omega))) e⟩
  cases b with
  | false =>
    simp only [Bool.false_eq_true, if_false]
    rw [← Array.forIn_toList, show (refs N ks.length).toArray.toList = refs N ks.length by simp, hrefs, List.forIn_cons]
    refine wpAny_bind (wpAny_bind (wpAny_bind (wpAny_holding ?_)))
    show wpAny _ _ (Builtin.SmallTypes.nextOf (.ref (N : Nat)) >>= _) _ _ _
    refine wpAny_bind (draw h1 (fun b o hb e => sb0.extBut _ _ hb e) _ _ fun h' e he hx => ?_)
    exact hE h' e (fun b o hb q => he _ _ (fun z => by have z : b = N := z; subst z; exact nN hb) (sb0.extBut _ _ (fun z => nz (by have z : b = N + ks.length + 2 := z; rw [← z]; exact hb)) q)) hx
  | true =>
    simp only [if_true]
    refine wpAny_bind (wpAny_rule ?_)
    refine wpAny_bind (wpAny_field (s := ⟨h1, g, d, tk0, os⟩) hz' rfl (x := .ref (N + ks.length + 1 : Nat)) rfl ?_)
    refine wpAny_bind (wpAny_setField_rec (s := ⟨h1, g, d, tk0, os⟩) hz' (by simp) fun g0 hz0 hs0 => ?_)
    replace hz0 : IsZipF g0 (N + ks.length + 2) (N + ks.length) (N + ks.length + 1) .ellipsis f1' := hz0
    replace hs0 : Heap.SameBut (N + ks.length + 2 : Nat) h1 g0 := hs0
    rw [hrefs, List.zipIdx_cons, List.forIn_cons]
    refine wpAny_bind (wpAny_bind (wpAny_bind (wpAny_onRaise ?_)))
    show wpAny _ _ (Builtin.SmallTypes.nextOf (.ref (N : Nat)) >>= _) _ _ _
    refine wpAny_bind (draw g0 (fun b o hb e => hs0.extBut _ _ hb (sb0.extBut _ _ hb e)) _ _ fun h' e he hx => ?_)
    have hz3 : IsZipF h' (N + ks.length + 2) (N + ks.length) (N + ks.length + 1) .ellipsis f1' := he _ _ (fun z => by have z : N + ks.length + 2 = N := z; omega) hz0
    refine wpAny_setField_rec (s := ⟨h', g, d, tk0, os⟩) hz3 (by simp) fun h4 hz4 hs4 => ?_
    replace hs4 : Heap.SameBut (N + ks.length + 2 : Nat) h' h4 := hs4
    obtain ⟨oe, hoe, hce⟩ := hx
    refine hE h4 e (fun b o hb q => hs4.extBut _ _ (fun z => nz (by have z : b = N + ks.length + 2 := z; rw [← z]; exact hb)) (he _ _ (fun z => by have z : b = N := z; subst z; exact nN hb) (hs0.extBut _ _ (fun z => nz (by have z : b = N + ks.length + 2 := z; rw [← z]; exact hb)) (sb0.extBut _ _ (fun z => nz (by have z : b = N + ks.length + 2 := z; rw [← z]; exact hb)) q)))) ⟨oe, hs4.extBut _ _ (fun z => ?_) hoe, hce⟩
    rw [z, hz3] at hoe
    cases hoe
    simp at hce
end
end Ev

end
section
set_option Elab.async false
set_option linter.all false
set_option maxRecDepth 100000
set_option maxHeartbeats 4000000
namespace Ev
open PySem L2
section
open PySem.Spec PyProof.Rows
def Izn (ks : List (Bool × Addr)) (K : PySem.W.Frag) : L2.It :=
  ⟨fun i H => ∀ p ∈ ks, ∃ (xs : List V) (x : V), SqK p.1 K H p.2 xs ∧ xs[i]? = some x,
    fun i H v H' => ∃ T cs its, v = .ref T ∧ H T = none ∧ H' = upd H T (tupO its cs) ∧ cs.length = ks.length ∧ ∀ (j : Nat) p, ks[j]? = some p → ∀ xs, SqK p.1 K H p.2 xs → ∃ x, xs[i]? = some x ∧ cs[j]? = some x,
    fun i H => ∃ p, ks[0]? = some p ∧ ∃ xs : List V, SqK p.1 K H p.2 xs ∧ xs.length = i⟩
/-- the items of all rows at a place -/
theorem its_all {X : Cx} {pins : List (Addr × Obj)} {σ : L2.St} {H : Hp} {s : Shared} {i : Nat} (I : Inv X pins σ H s) : ∀ ks : List (Bool × Addr), (∀ p ∈ ks, ∃ (xs : List V) (x : V), SqK p.1 X.K H p.2 xs ∧ xs[i]? = some x) →
    ∃ (us : List Value) (cs : List V), Vals cs us ∧ cs.length = ks.length ∧ us.length = ks.length ∧ (∀ (j : Nat) p, ks[j]? = some p → ∃ (its : List Value) (x : Value), IsK p.1 s.heap p.2 its.toArray ∧ its[i]? = some x ∧ us[j]? = some x) ∧
      ∀ (j : Nat) p, ks[j]? = some p → ∀ xs, SqK p.1 X.K H p.2 xs → ∃ x, xs[i]? = some x ∧ cs[j]? = some x
  | [], _ => ⟨[], [], .nil, rfl, rfl, fun j p e => by simp at e, fun j p e => by simp at e⟩
  | q :: r, h => by
    obtain ⟨us, cs, h1, h2, h3, h4, h5⟩ := its_all I r fun p hp => h p (List.mem_cons_of_mem _ hp)
    obtain ⟨xs, x, hq, hx⟩ := h q List.mem_cons_self
    obtain ⟨its, rv, p, hz⟩ := hq.of I
    obtain ⟨u, hu, ru⟩ := rv.get hx
    refine ⟨u :: us, x :: cs, .cons ru h1, by simp [h2], by simp [h3], fun j p' e => ?_, fun j p' e ys hy => ?_⟩
    · cases j with
      | zero => simp at e; subst e; exact ⟨its, u, p, hu, rfl⟩
      | succ j => simpa using h4 j p' (by simpa using e)
    · cases j with
      | zero => simp at e; subst e; exact ⟨x, by rw [hy.inj I hq]; exact hx, rfl⟩
      | succ j => simpa using h5 j p' (by simpa using e) ys hy
def fpN (N n : Nat) : List Addr := (List.range (n + 3)).map fun j => (N + j : Nat)
theorem fpN_mem {N n : Nat} {b : Nat} : b ∈ fpN N n ↔ N ≤ b ∧ b < N + n + 3 := by
  unfold fpN
  rw [List.mem_map]
  constructor
  · rintro ⟨j, hj, rfl⟩
    have := List.mem_range.mp hj
    exact ⟨Nat.le_add_right _ _, by omega⟩
  · rintro ⟨h1, h2⟩
    exact ⟨b - N, List.mem_range.mpr (by omega), by show N + (b - N) = b; omega⟩
theorem out_of {N n b : Nat} (h : b ∉ fpN N n) : Out N n b := by
  unfold Out
  rcases Nat.lt_or_ge b N with c | c
  · exact .inl c
  · rcases Nat.lt_or_ge b (N + n + 3) with d | d
    · exact absurd (fpN_mem.mpr ⟨c, d⟩) h
    · exact .inr (.inr d)
theorem three (N n b : Nat) (h1 : N + n ≤ b) (h2 : b < N + n + 3) : b = N + n ∨ b = N + n + 1 ∨ b = N + n + 2 := by omega
def tnN (N : Nat) (ks : List (Bool × Addr)) (i : Nat) (h : Heap) : Prop := ∃ f0 f1 T0, Held f0 f1 ∧ IsZipF h (N + ks.length + 2) (N + ks.length) (N + ks.length + 1) f0 f1 ∧ IsTupOf h (N + ks.length) (refs N ks.length) ∧ IsTupOf h (N + ks.length + 1) T0 ∧ T0.length = ks.length ∧ ∀ (l : Nat) p, ks[l]? = some p → ItK p.1 h (N + l : Nat) p.2 i
theorem turn_zipN {P : Program} {w : World} {K : PySem.W.Frag} {x : Str} {tpos : Pos} (N : Nat) (ks : List (Bool × Addr)) (hn : 0 < ks.length) (hz : ks.length ≤ sizeLine) (low : ∀ (j : Nat) p, ks[j]? = some p → (p.2 : Nat) < N) :
    Turn P w K (.Name x tpos) (Izn ks K) (fpN N ks.length) (N + ks.length + 2 : Nat) (tnN N ks) where
  mem := fpN_mem.mpr ⟨by omega, by omega⟩
  obj := fun i h st b hb => by
    obtain ⟨f0, f1, T0, hl, h1, h2, h3, h4, h5⟩ := st
    obtain ⟨b1, b2⟩ := fpN_mem.mp hb
    rcases Nat.lt_or_ge b (N + ks.length) with c | c
    · obtain ⟨p, hp⟩ : ∃ p, ks[b - N]? = some p := ⟨_, List.getElem?_eq_getElem (by omega)⟩
      have := (h5 _ p hp).live
      rw [show N + (b - N) = b by omega] at this
      exact this
    · rcases three N ks.length b c b2 with z | z | z
      · rw [z]; exact ⟨_, h2, fun v q => nomatch q⟩
      · rw [z]; exact ⟨_, h3, fun v q => nomatch q⟩
      · rw [z]; exact ⟨_, h1, fun v q => nomatch q⟩
  keep := fun i h h' st k => by
    obtain ⟨f0, f1, T0, hl, h1, h2, h3, h4, h5⟩ := st
    exact ⟨f0, f1, T0, hl, k _ (fpN_mem.mpr ⟨by omega, by omega⟩) _ h1, k _ (fpN_mem.mpr ⟨by omega, by omega⟩) _ h2, k _ (fpN_mem.mpr ⟨by omega, by omega⟩) _ h3, h4, fun l p e => (h5 l p e).at fun o q => k _ (fpN_mem.mpr ⟨by omega, by have := (List.getElem?_eq_some_iff.mp e).1; omega⟩) _ q⟩
  item := by
    intro X hP hw hK hc i pins s σ H E I hf st hg
    subst hP hw hK
    obtain ⟨f0, f1, T0, hl, h1, h2, h3, h4, h5⟩ := st
    obtain ⟨us, cs, rv, lc, lu, hus, hcs⟩ := its_all I ks hg
    have hd := I.ok.hd hc
    have hzl : (N + ks.length + 2 : Nat) < s.heap.objs.size := Heap.lt_size h1
    have hT : s.TypeIs (.ref (N + ks.length + 2 : Nat)) "zip" := ⟨_, h1, rfl⟩
    have M : Mid s.heap s.heap N ks i 0 := ⟨rfl, fun _ _ _ e => e, fun l p hl => absurd hl (Nat.not_lt_zero _), fun l p _ e => h5 l p e⟩
    have Xi : Its s.heap N ks i us := ⟨lu, low, hus⟩
    unfold pyNext
    refine wpAny_bind (wpAny_attempt (wpAny_callSpecial?_slot (name := Str.ofString "__next__") hT PySem.F.slot_zip_next
      (wpAny_call_entry PySem.F.slot_zip_next hT PySem.F.entry_zip_next
        (zipN_next (by first | exact hd | rw [Around.in1_handled]; exact hd) hz hn hl h1 h2 h3 h4 M Xi fun h' tk f0' f1' T1 hld' z' t' o' l' it' hT hsz hk => wpAny_pure ?_) (PySem.F.args_zip_next_1 _))))
    have hTz : Out N ks.length s.heap.objs.size := by unfold Out; omega
    have keep : ∀ (b : Nat) o, b ∉ fpN N ks.length → s.heap.get? b = some o → h'.get? b = some o := fun b o hb e => hk b o (out_of hb) e
    have new : ObjOk X.prog X.w (upd H s.heap.objs.size (tupO us cs)) h' s.heap.objs.size (tupO us cs) := ⟨hT, by rw [lc]; exact hz, us, rv, ⟨_, hT, rfl, _, rfl⟩⟩
    have I1 : Inv X pins σ (upd H s.heap.objs.size (tupO us cs)) { s with heap := h', toks := tk } := I.turnedNew (t' := tk) (ch := fpN N ks.length) (fun b o hb q => keep b o hb q) hf (Nat.le_refl _) new
    refine ⟨_, rfl, ?_⟩
    unfold letOwnedTupleGo
    refine wpAny_pure ⟨.ref s.heap.objs.size, _, I1, rfl, ⟨_, cs, _, rfl, I.hok.fresh (Nat.le_refl _), rfl, lc, hcs⟩, ⟨f0', f1', T1, hld', z', t', o', l', it'⟩, fun b hb => ?_⟩
    have hb' := fpN_mem.mp hb
    rw [upd_ne (Nat.ne_of_lt (Nat.lt_of_lt_of_le hb'.2 (show N + ks.length + 3 ≤ _ from hzl)))]
    exact (hf b hb).1
  done := by
    intro X hP hw hK hc i pins s σ H E I hf st hg
    subst hP hw hK
    obtain ⟨f0, f1, T0, hl, h1, h2, h3, h4, h5⟩ := st
    obtain ⟨p, hp, xs, hq, hx⟩ := hg
    obtain ⟨its, rv, pk, hzz⟩ := hq.of I
    have hd := I.ok.hd hc
    have hT : s.TypeIs (.ref (N + ks.length + 2 : Nat)) "zip" := ⟨_, h1, rfl⟩
    unfold pyNext
    refine wpAny_bind (wpAny_attempt (wpAny_callSpecial?_slot (name := Str.ofString "__next__") hT PySem.F.slot_zip_next
      (wpAny_call_entry PySem.F.slot_zip_next hT PySem.F.entry_zip_next
        (zipN_end (by first | exact hd | rw [Around.in1_handled]; exact hd) hp (low 0 p hp) pk (by rw [← rv.length, hx]) hl h1 h2 h3 (h5 0 p hp) fun h' e hk he => ?_) (PySem.F.args_zip_next_1 _))))
    obtain ⟨o, ho, hco⟩ := he
    refine wpAny_bind (wpAny_isInstance (T := "StopIteration") (b := true) ⟨o, ho, hco⟩ isSubtype_stop ?_)
    refine wpAny_pure ⟨rfl, I.turnedL (t' := s.toks) (ch := fpN N ks.length) (fun b o hb e => hk b o (out_of hb) e) hf⟩
  self := fun A i s Q E st h => by
    obtain ⟨f0, f1, T0, hl, h1, _⟩ := st
    have hT : s.TypeIs (.ref (N + ks.length + 2 : Nat)) "zip" := ⟨_, h1, rfl⟩
    refine wpAny_pyIter_slot hT PySem.F.slot_zip_iter (wpAny_call_entry PySem.F.slot_zip_iter hT PySem.F.entry_zip_iter ?_ (PySem.F.args_zip_iter_1 _))
    show wpAny _ _ (ret (.ref _)) _ _ s
    exact wpAny_pure ⟨_, rfl, "zip", _, hT, PySem.F.slot_zip_next.lookup, h⟩
theorem callWith_Tstar {M : Model} {A : Around} {E : Value → Shared → Prop} {s : Shared} {env : PySem.Env} {pos p : Pos} {T : String} {e : Expr} {Q : Value → Shared → Prop} (h : wpAny M A (eval e env) (fun v s₁ => PySem.W.StarOf M A E v (fun vs s₂ => wpAny M A (call (.type T) vs) Q E s₂) s₁) E s) :
    wpAny M A (callWith pos (.type T) [] (backTo pos (starEach [.Starred e p] env)) []) Q E s := by
  refine PySem.W.ks_call (P := fun _ => True) rfl (fun h _ => ⟨.machine, .inr (.inl rfl), PySem.W.Looks.of_pure rfl⟩) (PySem.W.ks_lone (wpAny_mono h (fun v s₁ hv => ?_) fun _ _ z => z))
  unfold PySem.W.StarOf at hv ⊢
  exact wpAny_mono hv (fun b s₂ h2 => ⟨h2.1, wpAny_mono h2.2 (fun vs s₃ h3 => ⟨trivial, h3⟩) fun _ _ z => z⟩) fun _ _ z => z
def iZn (K : PySem.W.Frag) (te : TE) : TI := fun σ H R => te σ H fun x H1 => ∃ k a ks, x = .ref a ∧ SqK k K H1 a (ks.map fun p : Bool × Addr => V.ref p.2) ∧ 0 < ks.length ∧ (∀ p ∈ ks, ∃ xs, SqK p.1 K H1 p.2 xs) ∧ R (Izn ks K) H1
theorem vals_refs : ∀ {ks : List (Bool × Addr)} {us : List Value}, Vals (ks.map fun p : Bool × Addr => V.ref p.2) us → us = ks.map fun p => Value.ref p.2
  | [], _, .nil => rfl
  | p :: r, _, .cons h1 h2 => by
    cases h1
    rw [vals_refs h2]
    rfl
theorem pi_zn {X : Cx} {e : Expr} {te : TE} {p p2 pos tpos : Pos} {x : Str} (hg : Gl X "zip") (hm : X.mg "zip" = none) (he : PE X e te) : PI X (.Name x tpos) (.Call (.Name "zip" p) [.Starred e p2] [] pos) (iZn X.K te) := by
  refine ⟨fun pins s σ H R I h => ?_⟩
  refine Call_ (ld_blt I hg hm PyProof.Rows.boot_zip (callWith_Tstar (thn (he.run pins s σ H _ I h) fun v s1 ⟨y, H1, I1, ry, q1⟩ => ?_)))
  obtain ⟨k, a, ks, ex, hq, hn, hks, q⟩ := q1
  subst ex
  cases ry
  have hz : ks.length ≤ sizeLine := by
    obtain ⟨_, _, _, hz⟩ := hq.of I1
    rw [List.length_map] at hz
    exact hz
  have hq' : SqT X.K H1 a (ks.map fun p : Bool × Addr => V.ref p.2) ∨ SqL X.K H1 a (ks.map fun p : Bool × Addr => V.ref p.2) := by
    cases k with
    | true => exact .inr hq
    | false => exact .inl hq
  refine StX.star_any I1 hq' fun us s2 I2 rv => ?_
  rw [vals_refs rv]
  refine zip_beginsN hn hz (fun p hp => ?_) fun h' z' t' o' it' hk => ?_
  · obtain ⟨xs, hx⟩ := hks p hp
    obtain ⟨its, _, pk, _⟩ := hx.of I2
    exact ⟨_, pk⟩
  · have low : ∀ (j : Nat) p, ks[j]? = some p → (p.2 : Nat) < s2.heap.objs.size := fun j p e => by
      obtain ⟨xs, hx⟩ := hks p (List.mem_of_getElem? e)
      obtain ⟨its, _, pk, _⟩ := hx.of I2
      exact pk.lt
    have I3 : Inv X pins σ H1 { s2 with heap := h' } := I2.kept (t' := s2.toks) hk
    have T := turn_zipN (P := X.prog) (w := X.w) (K := X.K) (x := x) (tpos := tpos) s2.heap.objs.size ks hn hz low
    obtain ⟨T0, o1, o2⟩ := o'
    have st : tnN s2.heap.objs.size ks 0 h' := ⟨_, _, T0, ⟨.inl rfl, false, rfl⟩, z', t', o1, o2, it'⟩
    refine T.self X.A 0 { s2 with heap := h' } _ _ st ?_
    exact ⟨_, _, _, _, H1, rfl, I3, T, st, fun b hb => I2.fpOk (fpN_mem.mp hb).1 (I2.hok.fresh (fpN_mem.mp hb).1), q⟩
end
end Ev

end
section
set_option Elab.async false
set_option linter.all false
set_option maxRecDepth 100000
set_option maxHeartbeats 4000000
namespace Ev
open PySem L2
theorem heads_ok : ∀ {rs : List (List U)} {hs : List U} {ts : List (List U)}, heads rs = some (hs, ts) → hs.length = rs.length ∧ ts.length = rs.length ∧ ∀ (j : Nat) row, rs[j]? = some row → ∃ x t, row = x :: t ∧ hs[j]? = some x ∧ ts[j]? = some t
  | [], hs, ts, h => by cases h; exact ⟨rfl, rfl, fun j row e => by simp at e⟩
  | [] :: _, _, _, h => by cases h
  | (x :: xs) :: r, hs, ts, h => by
    simp only [heads] at h
    cases q : heads r with
    | none => rw [q] at h; cases h
    | some y =>
      obtain ⟨hs', ts'⟩ := y
      rw [q] at h
      cases h
      obtain ⟨h1, h2, h3⟩ := heads_ok q
      refine ⟨by simp [h1], by simp [h2], fun j row e => ?_⟩
      cases j with
      | zero => simp at e; subst e; exact ⟨x, xs, rfl, rfl, rfl⟩
      | succ j => simpa using h3 j row (by simpa using e)
theorem heads_some : ∀ {rs : List (List U)} {n : Nat}, (∀ row ∈ rs, row.length = n + 1) → ∃ hs ts, heads rs = some (hs, ts) ∧ ∀ row ∈ ts, row.length = n
  | [], n, _ => ⟨[], [], rfl, fun _ z => nomatch z⟩
  | [] :: _, n, h => by have := h [] List.mem_cons_self; simp at this
  | (x :: xs) :: r, n, h => by
    obtain ⟨hs, ts, e, h2⟩ := heads_some (rs := r) fun row hr => h row (List.mem_cons_of_mem _ hr)
    refine ⟨x :: hs, xs :: ts, by simp only [heads, e], fun row hr => ?_⟩
    rcases List.mem_cons.mp hr with z | z
    · have := h (x :: xs) List.mem_cons_self
      rw [z]; simpa using this
    · exact h2 row z
theorem zipsU_ok : ∀ (n : Nat) {rs : List (List U)}, (∀ row ∈ rs, row.length = n) → (zipsU n rs).length = n ∧ ∀ (i : Nat) u, (zipsU n rs)[i]? = some u → ∃ cs, u = .tup cs ∧ cs.length = rs.length ∧ ∀ (j : Nat) row, rs[j]? = some row → ∃ x, row[i]? = some x ∧ cs[j]? = some x
  | 0, rs, _ => ⟨rfl, fun i u e => by simp [zipsU] at e⟩
  | n + 1, rs, h => by
    obtain ⟨hs, ts, e, h2⟩ := heads_some h
    obtain ⟨l1, l2, hh⟩ := heads_ok e
    obtain ⟨i1, i2⟩ := zipsU_ok n h2
    have eq : zipsU (n + 1) rs = .tup hs :: zipsU n ts := by simp only [zipsU, e]
    rw [eq]
    refine ⟨by simp [i1], fun i u e => ?_⟩
    cases i with
    | zero =>
      simp at e
      refine ⟨hs, e.symm, l1, fun j row er => ?_⟩
      obtain ⟨x, t, rfl, e1, e2⟩ := hh j row er
      exact ⟨x, rfl, e1⟩
    | succ i =>
      obtain ⟨cs, ec, lc, hc⟩ := i2 i u (by simpa using e)
      refine ⟨cs, ec, lc.trans l2, fun j row er => ?_⟩
      obtain ⟨x, t, rfl, e1, e2⟩ := hh j row er
      obtain ⟨y, y1, y2⟩ := hc j t e2
      exact ⟨y, by simpa using y1, y2⟩
section
variable {K : PySem.W.Frag} {m : Addr → Prop} {al : List Addr} {md : Mo} {H H2 : Hp}
/-- rows as sources -/
theorem rows_src (sb : ∀ c ∈ al, m c) : ∀ {us : List U} {vs : List V} {rs : List (List U)}, Shs K H m al us vs → rows us = some rs → ∃ ks : List (Bool × Addr), vs = ks.map (fun p => V.ref p.2) ∧ ks.length = rs.length ∧ ∀ (j : Nat) p, ks[j]? = some p → ∃ row ws, rs[j]? = some row ∧ Src K m al md H row p.1 p.2 ws
  | [], _, rs, .nil, e => by cases e; exact ⟨[], rfl, rfl, fun j p e => by simp at e⟩
  | u :: us, _, rs, .cons h1 h2, e => by
    simp only [rows] at e
    cases q1 : items u with
    | none => rw [q1] at e; cases e
    | some row =>
      cases q2 : rows us with
      | none => rw [q1, q2] at e; cases e
      | some rs' =>
        rw [q1, q2] at e
        cases e
        obtain ⟨k, a, ws, rfl, S⟩ := h1.src (md := md) sb q1
        obtain ⟨ks, rfl, hl, hk⟩ := rows_src sb h2 q2
        refine ⟨(k, a) :: ks, rfl, by simp [hl], fun j p e => ?_⟩
        cases j with
        | zero => simp at e; subst e; exact ⟨row, ws, rfl, S⟩
        | succ j => simpa using hk j p (by simpa using e)
theorem yl_zips {rs : List (List U)} {ks : List (Bool × Addr)} {n : Nat} (hl : ks.length = rs.length) (h0 : 0 < ks.length) (hr : ∀ row ∈ rs, row.length = n) (hk : ∀ (j : Nat) p, ks[j]? = some p → ∃ row ws, rs[j]? = some row ∧ Src K m al md H row p.1 p.2 ws) :
    Yl K m al md H (Izn ks K) (zipsU n rs) := by
  obtain ⟨z1, z2⟩ := zipsU_ok n hr
  refine ⟨fun i H2 pp hi => fun p hp => ?_, fun H2 pp => ?_, fun i H2 x H3 u pp e y => ?_⟩
  · rw [z1] at hi
    obtain ⟨j, hj⟩ := List.mem_iff_getElem?.mp hp
    obtain ⟨row, ws, e1, S⟩ := hk j p hj
    have hw : i < ws.length := by rw [← S.sh.length, hr row (List.mem_of_getElem? e1)]; exact hi
    exact ⟨ws, ws[i], S.sq H2 pp, List.getElem?_eq_getElem hw⟩
  · rw [z1]
    refine ⟨ks[0], List.getElem?_eq_getElem h0, ?_⟩
    obtain ⟨row, ws, e1, S⟩ := hk 0 ks[0] (List.getElem?_eq_getElem h0)
    exact ⟨ws, S.sq H2 pp, by rw [← S.sh.length, hr row (List.mem_of_getElem? e1)]⟩
  · obtain ⟨cs, rfl, lc, hc⟩ := z2 i u e
    obtain ⟨T, xs, tits, rfl, hT, rfl, lx, hx⟩ := y
    refine .new hT rfl (shs_of (by rw [lc, ← hl, lx]) fun j c hcj => ?_)
    have hj : j < ks.length := by rw [hl, ← lc]; exact (List.getElem?_eq_some_iff.mp hcj).1
    obtain ⟨row, ws, e1, S⟩ := hk j ks[j] (List.getElem?_eq_getElem hj)
    obtain ⟨v, e2, e3⟩ := hx j ks[j] (List.getElem?_eq_getElem hj) ws (S.sq H2 pp)
    obtain ⟨c', e4, e5⟩ := hc j row e1
    rw [hcj] at e5
    cases e5
    obtain ⟨v', e6, r⟩ := S.sh.nth e4
    rw [e2] at e6
    cases e6
    exact ⟨v, e3, r⟩
where
  shs_of : ∀ {us : List U} {vs : List V}, us.length = vs.length → (∀ (j : Nat) u, us[j]? = some u → ∃ v, vs[j]? = some v ∧ Sh K H m al u v) → Shs K H m al us vs
  | [], [], _, _ => .nil
  | [], _ :: _, h, _ => by simp at h
  | _ :: _, [], h, _ => by simp at h
  | u :: us, v :: vs, h, f => by
    obtain ⟨v', e, r⟩ := f 0 u rfl
    simp at e
    subst e
    exact .cons r (shs_of (by simpa using h) fun j u e => by simpa using f (j + 1) u (by simpa using e))
end
section
variable {X : Cx} {F : CallF} {KW : Kt} {a b c : C} {as : A} {x y z tg : Expr} {es : List Expr} {pos p p2 tpos : Pos}
theorem snd_zips {md : Mo} {nm : Str} (hm : md ≠ .tst) (hg : Gl X "zip") (hmg : X.mg "zip" = none) (g : Goal F KW X a x md) : GoalI F KW X (.zips a) (.Name nm tpos) (.Call (.Name "zip" p) [.Starred x p2] [] pos) md := by
  obtain ⟨te, pe, h⟩ := goal_src g hm
  refine PI.imp (pi_zn hg hmg pe) fun σ H R ⟨ρ, s, m, al, us, s', sc, e, q⟩ => ?_
  simp only [evI] at e
  obtain ⟨ra, s1, e1, e⟩ := bind_ok e
  obtain ⟨ys, e2, e⟩ := bindO_ok e
  obtain ⟨rs, e3, e⟩ := bindO_ok e
  refine h sc e1 fun v H' al' st t src => ?_
  obtain ⟨k, a, vs, rfl, S⟩ := src ys e2
  obtain ⟨ks, hv, hl, hk⟩ := rows_src (md := md) t.sub S.sh e3
  match rs, e, hl, hk with
  | r0 :: rs, e, hl, hk =>
    simp only at e
    cases hc : ((r0 :: rs).all fun t => t.length == r0.length) with
    | false => rw [hc] at e; cases e
    | true =>
      rw [hc] at e
      cases e
      have hr : ∀ row ∈ (r0 :: rs), row.length = r0.length := fun row hrow => by
        have := List.all_eq_true.mp hc row hrow
        simpa using this
      have h0 : 0 < ks.length := by rw [hl]; simp
      refine ⟨k, a, ks, rfl, by rw [← hv]; exact S.sq H' PP.refl, h0, fun p hp => ?_, q _ H' al' st t (yl_zips hl h0 hr hk)⟩
      obtain ⟨j, hj⟩ := List.mem_iff_getElem?.mp hp
      obtain ⟨row, ws, e1, S1⟩ := hk j p hj
      exact ⟨ws, S1.sq H' PP.refl⟩
end
end Ev

end
section

set_option Elab.async false
set_option linter.all false
set_option maxRecDepth 100000
set_option maxHeartbeats 4000000
namespace Ev
open PySem L2
section
open PySem.Spec PyProof.Rows
/-! ### enumerate over what another iterator hands on -/
/-- enumerate's turn, once the inner iterator has handed on x -/
theorem enum_nextA {prog : Program} {w : World} {A : Around} {E : Value → Shared → Prop} {s : Shared} {e it : Addr} {i : Nat} {old : Value} {Q : Value → Shared → Prop} (he : IsEnum s.heap e it i old)
    (hn : wpAny (model prog w) A (Builtin.SmallTypes.nextOf (.ref it)) (fun x s1 => ∃ old1, IsEnum s1.heap e it i old1 ∧ ∀ h' tk, IsEnumOut h' e it ((i : Int) + 1) x s1.heap.objs.size → h'.get? s1.heap.objs.size = some { cls := .type "tuple", data := .seq #[.int i tk, x] } →
      h'.objs.size = s1.heap.objs.size + 1 → (∀ b o, b ≠ e → s1.heap.get? b = some o → h'.get? b = some o) → Q (.ref s1.heap.objs.size) { s1 with heap := h', toks := tk + 1 }) E s) :
    wpAny (model prog w) A (Builtin.«enumerate.__next__» ⟨[.ref e], []⟩) (fun fin s' => ∃ v, fin = .done (.ret v) ∧ Q v s') E s := by
  show wpAny _ _ (field (.ref e) 2 >>= _) _ _ _
  refine wpAny_bind (wpAny_field he rfl (x := .ref it) rfl ?_)
  refine wpAny_bind (wpAny_mono hn (fun x s1 hx => ?_) fun _ _ z => z)
  obtain ⟨old1, k1, hQ⟩ := hx
  obtain ⟨g1, gs, dr, tk, os⟩ := s1
  show wpAny _ _ (field (.ref e) 3 >>= _) _ _ ⟨g1, gs, dr, tk, os⟩
  refine wpAny_bind (wpAny_field k1 rfl (x := rawInt i) rfl ?_)
  show wpAny _ _ (field (.ref e) 4 >>= _) _ _ ⟨g1, gs, dr, tk, os⟩
  refine wpAny_bind (wpAny_field k1 rfl (x := .none) rfl ?_)
  show wpAny _ _ (mkInt i >>= _) _ _ ⟨g1, gs, dr, tk, os⟩
  refine wpAny_bind (wpAny_mkInt ?_)
  show wpAny _ _ (setField (.ref e) 3 (rawInt ((i : Int) + 1)) >>= _) _ _ ⟨g1, gs, dr, tk + 1, os⟩
  refine wpAny_bind (wpAny_setField_rec k1 (by simp) fun g2 k2 m2 => ?_)
  replace m2 : Heap.SameBut e g1 g2 := m2
  replace k2 : IsEnum g2 e it ((i : Int) + 1) old1 := k2
  show wpAny _ _ (setField (.ref e) 4 .none >>= _) _ _ ⟨g2, gs, dr, tk + 1, os⟩
  refine wpAny_bind (wpAny_setField_rec k2 (by simp) fun g3 k3 m3 => ?_)
  replace m3 : Heap.SameBut e g2 g3 := m3
  replace k3 : IsEnum g3 e it ((i : Int) + 1) old1 := k3
  show wpAny _ _ (newTuple [.int i tk, x] >>= _) _ _ ⟨g3, gs, dr, tk + 1, os⟩
  refine wpAny_bind (wpAny_newTuple ?_)
  have z3 : g3.objs.size = g1.objs.size := by rw [m3.1, m2.1]
  have elt : e < g1.objs.size := Heap.lt_size k1
  have k4 : IsEnum (g3.push { cls := .type "tuple", data := .seq #[.int i tk, x] }) e it ((i : Int) + 1) old1 := Heap.get?_push_of_some _ k3
  have t4 : (g3.push { cls := .type "tuple", data := .seq #[.int i tk, x] }).get? g1.objs.size = some { cls := .type "tuple", data := .seq #[.int i tk, x] } := by rw [← z3]; exact Heap.get?_push_size _ rfl
  have z4 : (g3.push { cls := .type "tuple", data := .seq #[.int i tk, x] }).objs.size = g1.objs.size + 1 := by rw [Heap.size_push, z3]
  have up4 : ∀ b o, b ≠ e → g1.get? b = some o → (g3.push { cls := .type "tuple", data := .seq #[.int i tk, x] }).get? b = some o := fun b o hb q => Heap.get?_push_of_some _ (m3.extBut b o hb (m2.extBut b o hb q))
  generalize g3.push { cls := .type "tuple", data := .seq #[.int i tk, x] } = g4 at k4 t4 z4 up4
  show wpAny _ _ (Builtin.SmallTypes.ownedTupleIsFree (.ref e) >>= _) _ _ ⟨g4, gs, dr, tk + 1, os⟩
  rw [z3]
  refine wpAny_bind ?_
  unfold Builtin.SmallTypes.ownedTupleIsFree
  refine wpAny_bind (wpAny_field k4 rfl (x := .none) rfl (wpAny_pure ?_))
  simp only [if_true]
  refine wpAny_bind (wpAny_rule ?_)
  refine wpAny_bind (wpAny_field k4 rfl (x := old1) rfl ?_)
  refine wpAny_bind (wpAny_setField_rec k4 (by simp) fun g5 k5 m5 => ?_)
  replace m5 : Heap.SameBut e g4 g5 := m5
  replace k5 : IsEnum g5 e it ((i : Int) + 1) x := k5
  show wpAny _ _ (Builtin.SmallTypes.ownedTupleHandOut (.ref e) (.ref g1.objs.size) >>= _) _ _ ⟨g5, gs, dr, tk + 1, os⟩
  refine wpAny_bind ?_
  unfold Builtin.SmallTypes.ownedTupleHandOut
  refine wpAny_bind (wpAny_setField_rec k5 (by simp) fun g6 k6 m6 => ?_)
  replace m6 : Heap.SameBut e g5 g6 := m6
  replace k6 : IsEnumOut g6 e it ((i : Int) + 1) x g1.objs.size := k6
  refine wpAny_setField_rec k6 (by simp) fun g7 k7 m7 => ?_
  replace m7 : Heap.SameBut e g6 g7 := m7
  replace k7 : IsEnumOut g7 e it ((i : Int) + 1) x g1.objs.size := k7
  have nt : g1.objs.size ≠ e := Nat.ne_of_gt elt
  refine wpAny_bind (wpAny_letGo (wpAny_pure ⟨_, rfl, hQ g7 tk k7 ?_ ?_ fun b o hb q => ?_⟩))
  · exact m7.extBut _ _ nt (m6.extBut _ _ nt (m5.extBut _ _ nt t4))
  · rw [m7.1, m6.1, m5.1]; exact z4
  · exact m7.extBut b o hb (m6.extBut b o hb (m5.extBut b o hb (up4 b o hb q)))
/-- zip's turn, asked by enumerate -/
theorem nextOf_zip {prog : Program} {w : World} {A : Around} {E : Value → Shared → Prop} {s : Shared} {z : Addr} {vs : Array Value} {sl : Array (Option Value)} {Q : Value → Shared → Prop} (hz : s.heap.get? z = some { cls := .type "zip", dict := none, data := .fields vs, slots := sl })
    (h : wpAny (model prog w) A.in1 (Builtin.«zip.__next__» ⟨[.ref z], []⟩) (fun fin s' => ∃ v, fin = .done (.ret v) ∧ Q v s') E s) : wpAny (model prog w) A (Builtin.SmallTypes.nextOf (.ref z)) Q E s := by
  have hT : s.TypeIs (.ref z) "zip" := ⟨_, hz, rfl⟩
  unfold Builtin.SmallTypes.nextOf
  refine wpAny_bind (wpAny_callSpecial?_slot (name := Str.ofString "__next__") hT PySem.F.slot_zip_next
    (wpAny_call_entry PySem.F.slot_zip_next hT PySem.F.entry_zip_next (wpAny_mono h (fun fin s' hq => ?_) fun _ _ z => z) (PySem.F.args_zip_next_1 _)))
  obtain ⟨v, rfl, q⟩ := hq
  exact ⟨_, rfl, wpAny_pure q⟩
/-- .. at its end -/
theorem enum_endA {prog : Program} {w : World} {A : Around} {E : Value → Shared → Prop} {s : Shared} {e it : Addr} {i : Nat} {old : Value} {Q : Option Value → Shared → Prop} (he : IsEnum s.heap e it i old)
    (hn : ∀ (Q' : Value → Shared → Prop) (E' : Value → Shared → Prop), (∀ h' x, (∃ o, h'.get? x = some o ∧ o.cls = .type "StopIteration") → Q none { s with heap := h' } → E' (.ref x) { s with heap := h' }) → wpAny (model prog w) A.in1 (Builtin.SmallTypes.nextOf (.ref it)) Q' E' s) :
    wpAny (model prog w) A (pyNext (.ref e)) Q E s := by
  have hT : s.TypeIs (.ref e) "enumerate" := ⟨_, he, rfl⟩
  unfold pyNext
  refine wpAny_bind (wpAny_attempt (wpAny_callSpecial?_slot (name := Str.ofString "__next__") hT PySem.F.slot_enumerate_next
    (wpAny_call_entry PySem.F.slot_enumerate_next hT PySem.F.entry_enumerate_next ?_ (PySem.F.args_enumerate_next_1 _))))
  show wpAny _ _ (field (.ref e) 2 >>= _) _ _ _
  refine wpAny_bind (wpAny_field he rfl (x := .ref it) rfl ?_)
  refine wpAny_bind (hn _ _ fun h' x hx hq => ?_)
  obtain ⟨o, ho, hc⟩ := hx
  refine wpAny_bind (wpAny_isInstance (T := "StopIteration") (b := true) ⟨o, ho, hc⟩ isSubtype_stop ?_)
  exact wpAny_pure hq
/-- the columns, each in a new pair -/
def Ize (ks : List (Bool × Addr)) (K : PySem.W.Frag) : L2.It :=
  ⟨(Izn ks K).go, fun i H v H' => ∃ T T2 cs its its2, v = .ref T2 ∧ H T = none ∧ T2 ≠ T ∧ H T2 = none ∧ H' = upd (upd H T (tupO its cs)) T2 (tupO its2 [.int (i : Nat), .ref T]) ∧ cs.length = ks.length ∧ ∀ (j : Nat) p, ks[j]? = some p → ∀ xs, SqK p.1 K H p.2 xs → ∃ x, xs[i]? = some x ∧ cs[j]? = some x,
    (Izn ks K).stop⟩
theorem turn_enumZ {P : Program} {w : World} {K : PySem.W.Frag} {elts : List Expr} {kk : Nat} {tpos : Pos} (N : Nat) (ks : List (Bool × Addr)) (e : Addr) (hn : 0 < ks.length) (hz : ks.length ≤ sizeLine) (low : ∀ (j : Nat) p, ks[j]? = some p → (p.2 : Nat) < N) (he3 : N + ks.length + 3 ≤ (e : Nat)) :
    Turn P w K (.Tuple elts kk tpos) (Ize ks K) (e :: fpN N ks.length) e (fun i h => tnN N ks i h ∧ ∃ old, IsEnum h e (N + ks.length + 2 : Nat) ((i : Nat) : Int) old) := by
  have TZ := turn_zipN (P := P) (w := w) (K := K) (x := "x") (tpos := tpos) N ks hn hz low
  have oute : Out N ks.length (e : Nat) := .inr (.inr he3)
  have nfe : e ∉ fpN N ks.length := fun z => by have := (fpN_mem.mp z).2; exact absurd he3 (Nat.not_le.mpr this)
  refine ⟨List.mem_cons_self, fun i h st b hb => ?_, fun i h h' st kp => ⟨TZ.keep i h h' st.1 fun b hb => kp b (List.mem_cons_of_mem _ hb), ?_⟩, ?_, ?_, fun A i s Q E st h => let ⟨_, he⟩ := st.2; wpAny_pyIter_enum he h⟩
  · rcases List.mem_cons.mp hb with z | z
    · obtain ⟨old, he⟩ := st.2
      rw [z]; exact ⟨_, he, fun v q => nomatch q⟩
    · exact TZ.obj i h st.1 b z
  · obtain ⟨old, he⟩ := st.2
    exact ⟨old, kp e List.mem_cons_self _ he⟩
  · intro X hP hw hK hc i pins s σ H E I hf st hg
    subst hP hw hK
    obtain ⟨⟨f0, f1, T0, hl, h1, h2, h3, h4, h5⟩, old, he⟩ := st
    obtain ⟨us, cs, rv, lc, lu, hus, hcs⟩ := its_all I ks hg
    have hd := I.ok.hd hc
    have hel : (e : Nat) < s.heap.objs.size := Heap.lt_size he
    have hTe : s.TypeIs (.ref e) "enumerate" := ⟨_, he, rfl⟩
    have M : Mid s.heap s.heap N ks i 0 := ⟨rfl, fun _ _ _ e => e, fun l p hl => absurd hl (Nat.not_lt_zero _), fun l p _ e => h5 l p e⟩
    have Xi : Its s.heap N ks i us := ⟨lu, low, hus⟩
    unfold pyNext
    refine wpAny_bind (wpAny_attempt (wpAny_callSpecial?_slot (name := Str.ofString "__next__") hTe PySem.F.slot_enumerate_next
      (wpAny_call_entry PySem.F.slot_enumerate_next hTe PySem.F.entry_enumerate_next (enum_nextA he (nextOf_zip h1 (zipN_next (by first | exact hd | simpa using hd) hz hn hl h1 h2 h3 h4 M Xi fun h' tk f0' f1' T1 hld' z' t' o' l' it' hT hsz hk => ?_))) (PySem.F.args_enumerate_next_1 _))))
    refine ⟨old, hk _ _ oute he, fun g' tk' hout hT2 hsz2 hk2 => wpAny_pure ?_⟩
    refine ⟨_, rfl, wpAny_letOwnedTupleGo_enum (s := ⟨g', _, _, tk' + 1, _⟩) hout fun g'' he'' sb => ?_⟩
    have hTz : Out N ks.length s.heap.objs.size := .inr (.inr (Nat.le_trans he3 (Nat.le_of_lt hel)))
    have keep : ∀ (b : Nat) o, b ∉ fpN N ks.length → s.heap.get? b = some o → h'.get? b = some o := fun b o hb e => hk b o (out_of hb) e
    have new : ObjOk X.prog X.w (upd H s.heap.objs.size (tupO us cs)) h' s.heap.objs.size (tupO us cs) := ⟨hT, by rw [lc]; exact hz, us, rv, ⟨_, hT, rfl, _, rfl⟩⟩
    have I1 : Inv X pins σ (upd H s.heap.objs.size (tupO us cs)) { s with heap := h', toks := tk } := I.turnedNew (t' := tk) (ch := fpN N ks.length) (fun b o hb q => keep b o hb q) (fun b hb => hf b (List.mem_cons_of_mem _ hb)) (Nat.le_refl _) new
    have hne : (e : Nat) ≠ s.heap.objs.size := Nat.ne_of_lt hel
    have ne2 : h'.objs.size ≠ e := by rw [hsz]; exact Nat.ne_of_gt (Nat.lt_succ_of_lt hel)
    have neT : h'.objs.size ≠ s.heap.objs.size := by rw [hsz]; exact Nat.succ_ne_self _
    have hT3 : g''.get? h'.objs.size = some { cls := .type "tuple", data := .seq #[.int i tk', .ref s.heap.objs.size] } := (sb.2 _ ne2).trans hT2
    have keep2 : ∀ (b : Nat) o, b ≠ e → h'.get? b = some o → g''.get? b = some o := fun b o hb q => (sb.2 b hb).trans (hk2 b o hb q)
    have nT2 : upd H s.heap.objs.size (tupO us cs) h'.objs.size = none := by
      rw [upd_ne neT]
      exact I.hok.fresh (by rw [hsz]; exact Nat.le_succ _)
    have new2 : ObjOk X.prog X.w (upd (upd H s.heap.objs.size (tupO us cs)) h'.objs.size (tupO [.int i tk', .ref s.heap.objs.size] [.int (i : Nat), .ref s.heap.objs.size])) g'' h'.objs.size (tupO [.int i tk', .ref s.heap.objs.size] [.int (i : Nat), .ref s.heap.objs.size]) :=
      ⟨hT3, by show 2 ≤ sizeLine; decide, [.int i tk', .ref s.heap.objs.size], .cons ⟨_, rfl⟩ (.cons rfl .nil), ⟨_, hT3, rfl, _, rfl⟩⟩
    have I2 := I1.turnedNew (t' := tk' + 1) (h' := g'') (ch := [e]) (fun b o hb q => keep2 b o (fun z => hb (by simp [z])) q) (fun b hb => by
      have eb : b = e := by simpa using hb
      subst eb
      exact ⟨by rw [upd_ne hne]; exact (hf _ List.mem_cons_self).1, (hf _ List.mem_cons_self).2⟩) (Nat.le_refl _) new2
    refine ⟨.ref h'.objs.size, _, I2, rfl, ⟨_, _, cs, _, _, rfl, I.hok.fresh (Nat.le_refl _), neT, I.hok.fresh (by rw [hsz]; exact Nat.le_succ _), rfl, lc, hcs⟩, ⟨?_, ?_⟩, fun b hb => ?_⟩
    · exact TZ.keep (i + 1) h' g'' ⟨f0', f1', T1, hld', z', t', o', l', it'⟩ fun b hb o q => keep2 b o (fun z => nfe (by rw [← z]; exact hb)) q
    · refine ⟨.ref s.heap.objs.size, ?_⟩
      have e1 : ((i + 1 : Nat) : Int) = (i : Int) + 1 := by omega
      rw [e1]
      exact he''
    · have hb' : b < s.heap.objs.size := by
        rcases List.mem_cons.mp hb with z | z
        · rw [z]; exact hel
        · exact Nat.lt_trans (Nat.lt_of_lt_of_le (fpN_mem.mp z).2 he3) hel
      rw [upd_ne (Nat.ne_of_lt (Nat.lt_trans hb' (by rw [hsz]; exact Nat.lt_succ_self _))), upd_ne (Nat.ne_of_lt hb')]
      exact (hf b hb).1
  · intro X hP hw hK hc i pins s σ H E I hf st hg
    subst hP hw hK
    obtain ⟨⟨f0, f1, T0, hl, h1, h2, h3, h4, h5⟩, old, he⟩ := st
    obtain ⟨p, hp, xs, hq, hx⟩ := hg
    obtain ⟨its, rv, pk, hzz⟩ := hq.of I
    have hd := I.ok.hd hc
    refine enum_endA he fun Q' E' hE' => ?_
    have hT : s.TypeIs (.ref (N + ks.length + 2 : Nat)) "zip" := ⟨_, h1, rfl⟩
    unfold Builtin.SmallTypes.nextOf
    refine wpAny_bind (wpAny_callSpecial?_slot (name := Str.ofString "__next__") hT PySem.F.slot_zip_next
      (wpAny_call_entry PySem.F.slot_zip_next hT PySem.F.entry_zip_next
        (zipN_end (by first | exact hd | simpa using hd) hp (low 0 p hp) pk (by rw [← rv.length, hx]) hl h1 h2 h3 (h5 0 p hp) fun h' x hk hx => hE' h' x hx ⟨rfl, ?_⟩) (PySem.F.args_zip_next_1 _)))
    exact I.turnedL (t' := s.toks) (ch := e :: fpN N ks.length) (fun b o hb q => hk b o (out_of fun z => hb (List.mem_cons_of_mem _ z)) q) hf
theorem meets_enumS {v : Value} {H : Heap → Prop} (B : ∀ (prog : Program) (w : World) (A : Around) (E : Value → Shared → Prop) (s : Shared) (Q : Value → Shared → Prop), H s.heap → Q v s → wpAny (model prog w) A (pyIter v) Q E s) :
    Meets (Builtin.«enumerate.__new__» ⟨[.type "enumerate", v], []⟩) (fun _ R s => H s.heap ∧
      R (.ok (.ret (.ref s.heap.objs.size))) { s with heap := s.heap.push { cls := .type "enumerate", data := .fields #[.none, .bool false, v, rawInt 0, .none, .none] } }) :=
  .of_wp fun prog w A R s h => by
    obtain ⟨hp, g, d, tk, os⟩ := s; obtain ⟨h1, h⟩ := h
    have hsub := sub_enumerate
    have q1 : ∀ {A' : Around} {E : Value → Shared → Prop} {Q : Value → Shared → Prop}, Q v ⟨hp, g, d, tk, os⟩ → wpAny (model prog w) A' (pyIter v) Q E ⟨hp, g, d, tk, os⟩ :=
      fun q => B prog w _ _ ⟨hp, g, d, tk, os⟩ _ h1 q
    wp_walk using q1
    refine wpAny_stack_any fun st => wpAny_pure ?_
    split
    · rename_i c _ _ _ _ _
      cases (c == Value.type "enumerate")
      · wp_walk using q1
        exact ⟨_, rfl, h⟩
      · wp_walk using q1
        exact ⟨_, rfl, h⟩
    · wp_walk using q1
      exact ⟨_, rfl, h⟩
theorem enum_beginsS {P : Program} {w : World} {A : Around} {E : Value → Shared → Prop} {s : Shared} {z : Addr} {H : Heap → Prop} {Q : Value → Shared → Prop} (B : ∀ (prog : Program) (w : World) (A : Around) (E : Value → Shared → Prop) (s : Shared) (Q : Value → Shared → Prop), H s.heap → Q (.ref z) s → wpAny (model prog w) A (pyIter (.ref z)) Q E s) (h1 : H s.heap)
    (h : ∀ h', IsEnum h' s.heap.objs.size z 0 .none → (∀ b o, s.heap.get? b = some o → h'.get? b = some o) → Q (.ref s.heap.objs.size) { s with heap := h' }) :
    wpAny (model P w) A (call (.type "enumerate") [.ref z]) Q E s := by
  refine callType_new F.called_enumerate (by decide) (F.typeCall_enumerate_1 _) (F.newCall_enumerate_1 _) (fun obj => F.args_object_init_2 obj _) F.entry_enumerate_new
    (meets_enumS B) ⟨h1, ?_⟩
  have he : IsEnum (s.heap.push { cls := .type "enumerate", data := .fields #[.none, .bool false, .ref z, rawInt 0, .none, .none] }) s.heap.objs.size z 0 .none := Heap.get?_push_size s.heap rfl
  exact ⟨⟨_, he, rfl⟩, h _ he fun b o x => Heap.get?_push_of_some _ x⟩
def iEnz (K : PySem.W.Frag) (te : TE) : TI := fun σ H R => te σ H fun x H1 => ∃ k a ks, x = .ref a ∧ SqK k K H1 a (ks.map fun p : Bool × Addr => V.ref p.2) ∧ 0 < ks.length ∧ (∀ p ∈ ks, ∃ xs, SqK p.1 K H1 p.2 xs) ∧ R (Ize ks K) H1
theorem pi_enz {X : Cx} {e : Expr} {te : TE} {p p2 p3 pos pos2 tpos : Pos} {elts : List Expr} {kk : Nat} (hg0 : Gl X "enumerate") (hm0 : X.mg "enumerate" = none) (hg : Gl X "zip") (hm : X.mg "zip" = none) (he : PE X e te) :
    PI X (.Tuple elts kk tpos) (.Call (.Name "enumerate" p3) [.Call (.Name "zip" p) [.Starred e p2] [] pos] [] pos2) (iEnz X.K te) := by
  refine ⟨fun pins s σ H R I h => ?_⟩
  refine Call_ (ld_blt I hg0 hm0 boot_enumerate (PyProof.Rows.callWith_type1 (show wpAny _ _ (spliced [(false, eval (.Call (.Name "zip" p) [.Starred e p2] [] pos) X.env)]) _ _ _ from Calls.spliced_cons ?_) rfl rfl))
  refine Call_ (ld_blt I hg hm PyProof.Rows.boot_zip (callWith_Tstar (thn (he.run pins s σ H _ I h) fun v s1 ⟨y, H1, I1, ry, q1⟩ => ?_)))
  obtain ⟨k, a, ks, ex, hq, hn, hks, q⟩ := q1
  subst ex
  cases ry
  have hz : ks.length ≤ sizeLine := by
    obtain ⟨_, _, _, hz⟩ := hq.of I1
    rw [List.length_map] at hz
    exact hz
  have hq' : SqT X.K H1 a (ks.map fun p : Bool × Addr => V.ref p.2) ∨ SqL X.K H1 a (ks.map fun p : Bool × Addr => V.ref p.2) := by
    cases k with
    | true => exact .inr hq
    | false => exact .inl hq
  refine StX.star_any I1 hq' fun us s2 I2 rv => ?_
  rw [vals_refs rv]
  refine zip_beginsN hn hz (fun p hp => ?_) fun h' z' t' o' it' hk => ?_
  · obtain ⟨xs, hx⟩ := hks p hp
    obtain ⟨its, _, pk, _⟩ := hx.of I2
    exact ⟨_, pk⟩
  have low : ∀ (j : Nat) p, ks[j]? = some p → (p.2 : Nat) < s2.heap.objs.size := fun j p e => by
    obtain ⟨xs, hx⟩ := hks p (List.mem_of_getElem? e)
    obtain ⟨its, _, pk, _⟩ := hx.of I2
    exact pk.lt
  have I3 : Inv X pins σ H1 { s2 with heap := h' } := I2.kept (t' := s2.toks) hk
  have TZ := turn_zipN (P := X.prog) (w := X.w) (K := X.K) (x := "x") (tpos := tpos) s2.heap.objs.size ks hn hz low
  obtain ⟨T0, o1, o2⟩ := o'
  have st : tnN s2.heap.objs.size ks 0 h' := ⟨_, _, T0, ⟨.inl rfl, false, rfl⟩, z', t', o1, o2, it'⟩
  have hzl : (s2.heap.objs.size + ks.length + 2 : Nat) < h'.objs.size := Heap.lt_size z'
  refine Calls.spliced_nil (enum_beginsS (s := { s2 with heap := h' }) (H := fun h => h.get? (s2.heap.objs.size + ks.length + 2 : Nat) = h'.get? (s2.heap.objs.size + ks.length + 2 : Nat)) (fun prog w A E s Q hx hq => ?_) rfl fun h2 he2 k2 => wpAny_pyIter_enum he2 ?_)
  · have hT : s.TypeIs (.ref (s2.heap.objs.size + ks.length + 2 : Nat)) "zip" := ⟨_, hx.trans z', rfl⟩
    refine wpAny_pyIter_slot hT PySem.F.slot_zip_iter (wpAny_call_entry PySem.F.slot_zip_iter hT PySem.F.entry_zip_iter ?_ (PySem.F.args_zip_iter_1 _))
    show wpAny _ _ (ret (.ref _)) _ _ s
    exact wpAny_pure ⟨_, rfl, "zip", _, hT, PySem.F.slot_zip_next.lookup, hq⟩
  · have I4 : Inv X pins σ H1 { s2 with heap := h2 } := I3.kept (t' := s2.toks) k2
    refine ⟨_, _, _, _, H1, rfl, I4, turn_enumZ s2.heap.objs.size ks h'.objs.size hn hz low hzl, ⟨TZ.keep 0 h' h2 st fun b _ o q => k2 b o q, ⟨_, he2⟩⟩, fun b hb => ?_, q⟩
    have hle : s2.heap.objs.size ≤ b := by
      rcases List.mem_cons.mp hb with z | z
      · rw [z]; exact Nat.le_of_lt (Nat.lt_of_le_of_lt (by omega) hzl)
      · exact (fpN_mem.mp z).1
    exact I2.fpOk hle (I2.hok.fresh hle)
end
section
variable {K : PySem.W.Frag} {m : Addr → Prop} {al : List Addr} {md : Mo} {H H2 : Hp}
theorem yl_enumZ {us : List U} {ks : List (Bool × Addr)} (h : Yl K m al md H (Izn ks K) us) : Yl K m al md H (Ize ks K) (enumU 0 us) := by
  refine ⟨fun i H2 p hi => h.go i H2 p (by rw [enumU_len] at hi; exact hi), fun H2 p => by rw [enumU_len]; exact h.st H2 p, fun i H2 x H3 u p e y => ?_⟩
  obtain ⟨u1, e1, rfl⟩ := enumU_get us 0 i u e
  obtain ⟨T, T2, cs, its, its2, rfl, hT, hne, hT2, rfl, lc, hx⟩ := y
  have k := h.yl i H2 (.ref T) (upd H2 T (tupO its cs)) u1 p e1 ⟨T, cs, its, rfl, hT, rfl, lc, hx⟩
  rw [Nat.zero_add]
  generalize hR : upd H2 T (tupO its cs) = H3 at k
  generalize hV : V.ref T = vT at k
  cases k with
  | old e0 _ =>
    have q1 : H3 T = H2 T := by rw [e0]
    rw [← hR, upd_same, hT] at q1
    cases q1
  | new g1 g2 g3 =>
    cases hV
    have q1 : upd H2 T (tupO its cs) T = upd H2 T (tupO _ _) T := congrFun (hR.trans g2) T
    rw [upd_same, upd_same] at q1
    injection q1 with q1
    have q2 := q1
    unfold tupO at q2
    injection q2 with q3 q4
    injection q4 with q5
    subst q5
    rw [← hR]
    exact .new2 hT hne hT2 rfl (.int _) g3
  | new2 g1 g2 g3 g4 g5 g6 =>
    exfalso
    cases hV
    rename_i w1 y1 ws1 xs1 T1 i1 i2
    have q6 := congrFun (hR.trans g4) T1
    rw [upd_ne (Ne.symm g2), g1, upd_ne (Ne.symm g2), upd_same] at q6
    cases q6
end
section
variable {X : Cx} {F : CallF} {KW : Kt} {a : C} {x : Expr} {pos p p2 p3 pos2 tpos : Pos}
theorem snd_enumZ {md : Mo} {elts : List Expr} {kk : Nat} (hm : md ≠ .tst) (hg0 : Gl X "enumerate") (hmg0 : X.mg "enumerate" = none) (hg : Gl X "zip") (hmg : X.mg "zip" = none) (g : Goal F KW X a x md) :
    GoalI F KW X (.enumZ a) (.Tuple elts kk tpos) (.Call (.Name "enumerate" p3) [.Call (.Name "zip" p) [.Starred x p2] [] pos] [] pos2) md := by
  obtain ⟨te, pe, h⟩ := goal_src g hm
  refine PI.imp (pi_enz hg0 hmg0 hg hmg pe) fun σ H R ⟨ρ, s, m, al, us, s', sc, e, q⟩ => ?_
  simp only [evI] at e
  obtain ⟨ra, s1, e1, e⟩ := bind_ok e
  obtain ⟨ys, e2, e⟩ := bindO_ok e
  obtain ⟨rs, e3, e⟩ := bindO_ok e
  refine h sc e1 fun v H' al' st t src => ?_
  obtain ⟨k, a, vs, rfl, S⟩ := src ys e2
  obtain ⟨ks, hv, hl, hk⟩ := rows_src (md := md) t.sub S.sh e3
  match rs, e, hl, hk with
  | r0 :: rs, e, hl, hk =>
    simp only at e
    cases hc : ((r0 :: rs).all fun t => t.length == r0.length) with
    | false => rw [hc] at e; cases e
    | true =>
      rw [hc] at e
      cases e
      have hr : ∀ row ∈ (r0 :: rs), row.length = r0.length := fun row hrow => by
        have := List.all_eq_true.mp hc row hrow
        simpa using this
      have h0 : 0 < ks.length := by rw [hl]; simp
      refine ⟨k, a, ks, rfl, by rw [← hv]; exact S.sq H' PP.refl, h0, fun p hp => ?_, q _ H' al' st t (yl_enumZ (yl_zips hl h0 hr hk))⟩
      obtain ⟨j, hj⟩ := List.mem_iff_getElem?.mp hp
      obtain ⟨row, ws, e1, S1⟩ := hk j p hj
      exact ⟨ws, S1.sq H' PP.refl⟩
end
end Ev

end
section
set_option Elab.async false
set_option linter.all false
set_option maxRecDepth 100000
set_option maxHeartbeats 2000000
namespace Ev
open PySem L2
theorem put_len (i : Nat) (s : Slot) : ∀ ρ : Env, (put i s ρ).length = ρ.length := by
  induction i with
  | zero => intro ρ; cases ρ <;> rfl
  | succ i ih => intro ρ; cases ρ with
    | nil => rfl
    | cons t r => simp [put, ih r]
theorem look_put_same {i : Nat} {s : Slot} : ∀ {ρ : Env}, i < ρ.length → look i (put i s ρ) = s := by
  induction i with
  | zero => intro ρ h; cases ρ with
    | nil => cases h
    | cons t r => rfl
  | succ i ih => intro ρ h; cases ρ with
    | nil => cases h
    | cons t r => exact ih (Nat.lt_of_succ_lt_succ h)
theorem look_put_ne {s : Slot} : ∀ {i j : Nat} {ρ : Env}, j ≠ i → look j (put i s ρ) = look j ρ
  | i, j, [], _ => by cases i <;> cases j <;> rfl
  | 0, 0, _ :: _, h => absurd rfl h
  | 0, j + 1, _ :: _, _ => rfl
  | i + 1, 0, _ :: _, _ => rfl
  | i + 1, j + 1, _ :: r, h => look_put_ne (ρ := r) fun e => h (by rw [e])
theorem look_ge : ∀ {i : Nat} {ρ : Env}, ρ.length ≤ i → look i ρ = .un
  | 0, [], _ => rfl
  | _ + 1, [], _ => rfl
  | 0, _ :: _, h => absurd h (by simp)
  | i + 1, _ :: r, h => look_ge (i := i) (ρ := r) (by simpa using h)
/-- what stands in a slot after a store -/
theorem look_put {i j : Nat} {s t : Slot} {ρ : Env} (h : look j (put i s ρ) = t) : (j = i ∧ i < ρ.length ∧ t = s) ∨ (j ≠ i ∧ look j ρ = t) ∨ t = .un := by
  by_cases e : j = i
  · subst e
    by_cases l : j < ρ.length
    · rw [look_put_same l] at h; exact .inl ⟨rfl, l, h.symm⟩
    · rw [look_ge (by rw [put_len]; exact Nat.le_of_not_lt l)] at h; exact .inr (.inr h.symm)
  · rw [look_put_ne e] at h; exact .inr (.inl ⟨e, h⟩)
section
variable {K : PySem.W.Frag} {H : Hp} {m : Addr → Prop} {al : List Addr} {ρ : Env} {σ : L2.St} {i : Nat} {u : U} {v : V} {s : Sto}
theorem SR.setSh (r : SR K m al ρ σ H) (h : Sh K H m al u v) : SR K m al (put i (.sh u) ρ) (σ.set i (some v)) H := by
  refine ⟨by rw [put_len, List.length_set]; exact r.len, r.md, fun j w e => ?_, fun j w e => ?_, fun j j' w w' a e1 e2 e3 e4 => ?_⟩
  · rcases look_put e with ⟨rfl, l, e⟩ | ⟨n, e⟩ | e
    · cases e; exact ⟨v, List.getElem?_set_self (by rw [← r.len]; exact l), h⟩
    · obtain ⟨x, e1, e2⟩ := r.sh j w e
      exact ⟨x, by rw [List.getElem?_set_ne (Ne.symm n)]; exact e1, e2⟩
    · cases e
  · rcases look_put e with ⟨rfl, l, e⟩ | ⟨n, e⟩ | e
    · cases e
    · obtain ⟨us, a, vs, e1, e2, e3⟩ := r.own j w e
      exact ⟨us, a, vs, e1, by rw [List.getElem?_set_ne (Ne.symm n)]; exact e2, e3⟩
    · cases e
  · rcases look_put e1 with ⟨rfl, l, e1⟩ | ⟨n1, e1⟩ | e1
    · cases e1
    · rcases look_put e2 with ⟨rfl, l, e2⟩ | ⟨n2, e2⟩ | e2
      · cases e2
      · rw [List.getElem?_set_ne (Ne.symm n1)] at e3
        rw [List.getElem?_set_ne (Ne.symm n2)] at e4
        exact r.inj j j' w w' a e1 e2 e3 e4
      · cases e2
    · cases e1
theorem SR.wipe (r : SR K m al ρ σ H) : ∀ w : List Nat, SR K m al (wipeE w ρ) (L2.wipe σ w) H
  | [] => r
  | j :: w => by
    have q := SR.wipe r w
    refine ⟨by show (put j .un (wipeE w ρ)).length = ((L2.wipe σ w).set j none).length; rw [put_len, List.length_set]; exact q.len, r.md, fun k u e => ?_, fun k u e => ?_, fun k k' u u' a e1 e2 e3 e4 => ?_⟩
    · rcases look_put e with ⟨_, _, e⟩ | ⟨n, e⟩ | e
      · cases e
      · obtain ⟨x, e1, e2⟩ := q.sh k u e
        exact ⟨x, by show ((L2.wipe σ w).set j none)[k]? = _; rw [List.getElem?_set_ne (Ne.symm n)]; exact e1, e2⟩
      · cases e
    · rcases look_put e with ⟨_, _, e⟩ | ⟨n, e⟩ | e
      · cases e
      · obtain ⟨us, a, vs, e1, e2, e3⟩ := q.own k u e
        exact ⟨us, a, vs, e1, by show ((L2.wipe σ w).set j none)[k]? = _; rw [List.getElem?_set_ne (Ne.symm n)]; exact e2, e3⟩
      · cases e
    · rcases look_put e1 with ⟨_, _, e1⟩ | ⟨n1, e1⟩ | e1
      · cases e1
      · rcases look_put e2 with ⟨_, _, e2⟩ | ⟨n2, e2⟩ | e2
        · cases e2
        · have e3 : ((L2.wipe σ w).set j none)[k]? = _ := e3
          have e4 : ((L2.wipe σ w).set j none)[k']? = _ := e4
          rw [List.getElem?_set_ne (Ne.symm n1)] at e3
          rw [List.getElem?_set_ne (Ne.symm n2)] at e4
          exact q.inj k k' u u' a e1 e2 e3 e4
        · cases e2
      · cases e1
theorem wipe_get {σ : L2.St} : ∀ {w : List Nat} {i : Nat}, (L2.wipe σ w)[i]? = if i ∈ w then (σ[i]?).map (fun _ => none) else σ[i]?
  | [], i => by simp [L2.wipe]
  | j :: w, i => by
    show ((L2.wipe σ w).set j none)[i]? = _
    rw [List.getElem?_set, L2.wipe_length, wipe_get (w := w)]
    by_cases e : j = i
    · subst e
      rw [if_pos rfl, if_pos List.mem_cons_self]
      by_cases l : j < σ.length
      · rw [if_pos l, List.getElem?_eq_getElem l]; rfl
      · rw [if_neg l, List.getElem?_eq_none (Nat.le_of_not_lt l)]; rfl
    · rw [if_neg e]
      have : (i ∈ j :: w) ↔ i ∈ w := by simp [Ne.symm e]
      by_cases c : i ∈ w
      · rw [if_pos c, if_pos (this.mpr c)]
      · rw [if_neg c, if_neg fun z => c (this.mp z)]
theorem wipe_same {w v : List Nat} (h : sameN w v = true) (σ : L2.St) : L2.wipe σ w = L2.wipe σ v := by
  have h := Bool.and_eq_true_iff.mp h
  have h1 := List.all_eq_true.mp h.1
  have h2 := List.all_eq_true.mp h.2
  refine List.ext_getElem? fun i => ?_
  rw [wipe_get, wipe_get]
  have : (i ∈ w) ↔ i ∈ v := ⟨fun z => by simpa using h1 i z, fun z => by simpa using h2 i z⟩
  by_cases c : i ∈ w
  · rw [if_pos c, if_pos (this.mp c)]
  · rw [if_neg c, if_neg fun z => c (this.mpr z)]
end

/-! ### targets -/
/-- alike but at some slots -/
structure Off (l : List Nat) (σ σ' : L2.St) : Prop where
  len : σ'.length = σ.length
  get : ∀ j, j ∉ l → σ'[j]? = σ[j]?
theorem Off.trans {l l' : List Nat} {σ σ1 σ2 : L2.St} (a : Off l σ σ1) (b : Off l' σ1 σ2) : Off (l ++ l') σ σ2 := ⟨b.len.trans a.len, fun j h => (b.get j fun z => h (List.mem_append_right _ z)).trans (a.get j fun z => h (List.mem_append_left _ z))⟩
theorem Off.wipe {l w : List Nat} {σ σ' : L2.St} (a : Off l σ σ') (h : ∀ j ∈ l, j ∈ w) : L2.wipe σ' w = L2.wipe σ w := by
  refine List.ext_getElem? fun i => ?_
  rw [wipe_get, wipe_get]
  by_cases c : i ∈ w
  · rw [if_pos c, if_pos c]
    by_cases z : i < σ.length
    · rw [List.getElem?_eq_getElem z, List.getElem?_eq_getElem (by rw [a.len]; exact z)]; rfl
    · rw [List.getElem?_eq_none (Nat.le_of_not_lt z), List.getElem?_eq_none (by rw [a.len]; exact Nat.le_of_not_lt z)]
  · rw [if_neg c, if_neg c]
    exact a.get i fun z => c (h i z)
section
variable {X : Cx} {k : Ck}
def tG (K : PySem.W.Frag) (tg : Tg) : TG := fun v σ H Q => ∃ ρ m al u ρ', (∀ c ∈ al, m c) ∧ SR K m al ρ σ H ∧ Sh K H m al u v ∧ bindTg tg u ρ = some ρ' ∧ ∀ σ', SR K m al ρ' σ' H → Off (tgSlots tg) σ σ' → Q σ' H
structure Names (k : Ck) (X : Cx) : Prop where
  N : X.N = k.N
  nd : k.N.Nodup
  sc : X.env.scope = k.sc
  fn : X.fn = k.fn
  calm : X.calm = true
theorem loc_of {x : Str} (O : Names k X) (h : locB k x = true) : L2.Loc X.env.scope x ∧ (X.fn x = true ∨ X.env.scope.names.lookup x = some .local) := by
  unfold locB at h
  unfold L2.Loc
  rw [O.sc, O.fn]
  cases q : k.sc.names.lookup x with
  | none => rw [q] at h; cases h
  | some c =>
    rw [q] at h
    cases c <;> first | (cases h; done) | skip
    · exact ⟨.inl rfl, .inr rfl⟩
    · exact ⟨.inr rfl, .inl h⟩
def gAny (K : PySem.W.Frag) (n : Nat) (t : TGs) : TG := fun v σ H Q => ∃ k a xs, v = .ref a ∧ SqK k K H a xs ∧ xs.length = n ∧ t xs σ H Q
theorem pg_any {es : List Expr} {kk : Nat} {t : TGs} {n : Nat} {pos : Pos} (hc : X.calm = true) (h : PGs X es t)
    (hn : (assignEach es X.env).length = n) (hst : (assignEach es X.env).findIdx? (·.1) = none) : PG X (.Tuple es kk pos) (gAny X.K n t) := by
  refine ⟨fun pins s σ H v u Q I r ⟨k, a, xs, e, hq, hl, q⟩ => ?_⟩
  cases k with
  | true => exact (pg_unl hc h hn hst).run pins s σ H v u Q I r ⟨a, xs, e, hq, hl, q⟩
  | false => exact (pg_tup hc h hn hst).run pins s σ H v u Q I r ⟨a, xs, e, hq, hl, q⟩
theorem PG.imp {e : Expr} {t t' : TG} (h : PG X e t) (i : ∀ v σ H Q, t' v σ H Q → t v σ H Q) : PG X e t' := ⟨fun pins s σ H v u Q I r q => h.run pins s σ H v u Q I r (i _ _ _ _ q)⟩
theorem asg_of {x : Expr} {es : List Expr} (h : noStar x = true) (env : PySem.Env) : assignEach (x :: es) env = (false, assign x env) :: assignEach es env := by
  cases x <;> first | rfl | cases h
theorem asg_map {x : Expr} {es : List Expr} (h : noStar x = true) (env : PySem.Env) : (assignEach (x :: es) env).map (·.2) = assign x env :: (assignEach es env).map (·.2) := by
  cases x <;> first | rfl | cases h
theorem tg_star {tg : Tg} {x : Expr} (h : chkTg tg k x = true) : noStar x = true := by
  cases tg <;> cases x <;> first | rfl | (simp [chkTg] at h; done)
theorem pg_of (O : Names k X) : ∀ (tg : Tg) (x : Expr), chkTg tg k x = true → PG X x (tG X.K tg)
  | .nm i, x, h => by
    cases x <;> simp only [chkTg] at h <;> try (cases h; done)
    have h := Bool.and_eq_true_iff.mp h
    obtain ⟨l, f⟩ := loc_of O h.2
    refine PG.imp (pg_name (i := i) (by rw [O.N]; exact O.nd) (by rw [O.N]; exact of_decide_eq_true h.1) l f) ?_
    rintro v σ H Q ⟨ρ, m, al, u, ρ', sb, r, sh, e, q⟩
    cases e
    exact q _ (r.setSh sh) ⟨List.length_set, fun j hj => List.getElem?_set_ne fun z => hj (by simp [tgSlots, z])⟩
  | .t2 a b, x, h => by
    cases x <;> simp only [chkTg] at h <;> try (cases h; done)
    rename_i es kk pos
    match es, h with
    | [x, y], h =>
      have h := Bool.and_eq_true_iff.mp h
      have s1 := tg_star h.1
      have s2 := tg_star h.2
      refine PG.imp (pg_any O.calm (pgs_cons (pg_of O a x h.1) (pgs_cons (pg_of O b y h.2) pgs_nil (asg_map s2 _)) (asg_map s1 _)) (by (rw [asg_of s1, asg_of s2]) <;> rfl) (by (rw [asg_of s1, asg_of s2]) <;> rfl)) ?_
      rintro v σ H Q ⟨ρ, m, al, u, ρ', sb, r, sh, e, q⟩
      simp only [bindTg] at e
      cases i1 : items u with
      | none => rw [i1] at e; cases e
      | some us =>
        rw [i1] at e
        match us, e with
        | [w1, w2], e =>
          obtain ⟨kd, p, vs, rfl, S⟩ := sh.src (md := .esc) sb i1
          have hs := S.sh
          cases hs with
          | cons v1 hs => cases hs with
            | cons v2 hs =>
              cases hs
              simp only at e
              cases e1 : bindTg a w1 ρ with
              | none => rw [e1] at e; cases e
              | some ρ1 =>
                rw [e1] at e
                exact ⟨kd, p, _, rfl, S.sq H PP.refl, rfl, _, _, rfl, ρ, m, al, w1, ρ1, sb, r, v1, e1, fun σ1 r1 o1 => ⟨_, _, rfl, ρ1, m, al, w2, ρ', sb, r1, v2, e, fun σ2 r2 o2 => ⟨rfl, q σ2 r2 (o1.trans o2)⟩⟩⟩
  | .t3 a b c, x, h => by
    cases x <;> simp only [chkTg] at h <;> try (cases h; done)
    rename_i es kk pos
    match es, h with
    | [x, y, z], h =>
      have h := Bool.and_eq_true_iff.mp h
      have h' := Bool.and_eq_true_iff.mp h.1
      have s1 := tg_star h'.1
      have s2 := tg_star h'.2
      have s3 := tg_star h.2
      refine PG.imp (pg_any O.calm (pgs_cons (pg_of O a x h'.1) (pgs_cons (pg_of O b y h'.2) (pgs_cons (pg_of O c z h.2) pgs_nil (asg_map s3 _)) (asg_map s2 _)) (asg_map s1 _)) (by (rw [asg_of s1, asg_of s2, asg_of s3]) <;> rfl) (by (rw [asg_of s1, asg_of s2, asg_of s3]) <;> rfl)) ?_
      rintro v σ H Q ⟨ρ, m, al, u, ρ', sb, r, sh, e, q⟩
      simp only [bindTg] at e
      cases i1 : items u with
      | none => rw [i1] at e; cases e
      | some us =>
        rw [i1] at e
        match us, e with
        | [w1, w2, w3], e =>
          obtain ⟨kd, p, vs, rfl, S⟩ := sh.src (md := .esc) sb i1
          have hs := S.sh
          cases hs with
          | cons v1 hs => cases hs with
            | cons v2 hs => cases hs with
              | cons v3 hs =>
                cases hs
                simp only at e
                cases e1 : bindTg a w1 ρ with
                | none => rw [e1] at e; cases e
                | some ρ1 =>
                  rw [e1] at e
                  simp only at e
                  cases e2 : bindTg b w2 ρ1 with
                  | none => rw [e2] at e; cases e
                  | some ρ2 =>
                    rw [e2] at e
                    exact ⟨kd, p, _, rfl, S.sq H PP.refl, rfl, _, _, rfl, ρ, m, al, w1, ρ1, sb, r, v1, e1, fun σ1 r1 o1 => ⟨_, _, rfl, ρ1, m, al, w2, ρ2, sb, r1, v2, e2, fun σ2 r2 o2 => ⟨_, _, rfl, ρ2, m, al, w3, ρ', sb, r2, v3, e, fun σ3 r3 o3 => ⟨rfl, q σ3 r3 (o1.trans (o2.trans o3))⟩⟩⟩⟩
  | .t4 a b c d, x, h => by
    cases x <;> simp only [chkTg] at h <;> try (cases h; done)
    rename_i es kk pos
    match es, h with
    | [x, y, z, t], h =>
      have h := Bool.and_eq_true_iff.mp h
      have h' := Bool.and_eq_true_iff.mp h.1
      have h'' := Bool.and_eq_true_iff.mp h'.1
      have s1 := tg_star h''.1
      have s2 := tg_star h''.2
      have s3 := tg_star h'.2
      have s4 := tg_star h.2
      refine PG.imp (pg_any O.calm (pgs_cons (pg_of O a x h''.1) (pgs_cons (pg_of O b y h''.2) (pgs_cons (pg_of O c z h'.2) (pgs_cons (pg_of O d t h.2) pgs_nil (asg_map s4 _)) (asg_map s3 _)) (asg_map s2 _)) (asg_map s1 _)) (by (rw [asg_of s1, asg_of s2, asg_of s3, asg_of s4]) <;> rfl) (by (rw [asg_of s1, asg_of s2, asg_of s3, asg_of s4]) <;> rfl)) ?_
      rintro v σ H Q ⟨ρ, m, al, u, ρ', sb, r, sh, e, q⟩
      simp only [bindTg] at e
      cases i1 : items u with
      | none => rw [i1] at e; cases e
      | some us =>
        rw [i1] at e
        match us, e with
        | [w1, w2, w3, w4], e =>
          obtain ⟨kd, p, vs, rfl, S⟩ := sh.src (md := .esc) sb i1
          have hs := S.sh
          cases hs with
          | cons v1 hs => cases hs with
            | cons v2 hs => cases hs with
              | cons v3 hs => cases hs with
                | cons v4 hs =>
                  cases hs
                  simp only at e
                  cases e1 : bindTg a w1 ρ with
                  | none => rw [e1] at e; cases e
                  | some ρ1 =>
                    rw [e1] at e
                    simp only at e
                    cases e2 : bindTg b w2 ρ1 with
                    | none => rw [e2] at e; cases e
                    | some ρ2 =>
                      rw [e2] at e
                      simp only at e
                      cases e3 : bindTg c w3 ρ2 with
                      | none => rw [e3] at e; cases e
                      | some ρ3 =>
                        rw [e3] at e
                        exact ⟨kd, p, _, rfl, S.sq H PP.refl, rfl, _, _, rfl, ρ, m, al, w1, ρ1, sb, r, v1, e1, fun σ1 r1 o1 => ⟨_, _, rfl, ρ1, m, al, w2, ρ2, sb, r1, v2, e2, fun σ2 r2 o2 => ⟨_, _, rfl, ρ2, m, al, w3, ρ3, sb, r2, v3, e3, fun σ3 r3 o3 => ⟨_, _, rfl, ρ3, m, al, w4, ρ', sb, r3, v4, e, fun σ4 r4 o4 => ⟨rfl, q σ4 r4 (o1.trans (o2.trans (o3.trans o4)))⟩⟩⟩⟩⟩
end
end Ev

end
section
set_option Elab.async false
set_option linter.all false
set_option maxRecDepth 100000
set_option maxHeartbeats 2000000
namespace Ev
open PySem L2
section
variable {K : PySem.W.Frag} {H H1 H2 : Hp} {m m1 m2 : Addr → Prop} {al al1 al2 : List Addr} {ρ : Env} {σ : L2.St} {s : Sto} {us : List U} {vs : List V} {u : U} {v : V}
theorem SR.over (r : SR K m1 al1 ρ σ H1) (st : Step H1 H al1 al) (sb : ∀ c ∈ al1, m1 c) (hm : ∀ b o, H1 b = some o → ¬ m1 b → ¬ m2 b) (md : ∀ b, m2 b → ∃ o, H b = some o) (w : ∀ b, m1 b → m2 b) : SR K m2 al ρ σ H :=
  ⟨r.len, md, fun i u e => by
      obtain ⟨v, e1, e2⟩ := r.sh i u e
      exact ⟨v, e1, e2.mono (fun b o e n => st.ext b o e fun z => n (sb b z)) hm st.nth⟩,
    fun i u e => by
      obtain ⟨us, a, vs, e1, e2, e3, e4, e5, e6⟩ := r.own i u e
      exact ⟨us, a, vs, e1, e2, st.ext _ _ e3 e6, e4.mono (fun b o e n => st.ext b o e fun z => n (sb b z)) hm st.nth, w _ e5, st.notin e3 e6⟩,
    r.inj⟩
/-- a write at an address of m (not the store's) -/
theorem Sh.write (h : Sh K H m al u v) {D : Addr} (hD : m D) {o : HO} : Sh K (upd H D o) m al u v := h.mono (fun b q e n => by rw [upd_ne fun z => n (by rw [z]; exact hD)]; exact e) (fun _ _ _ z => z) fun _ _ z => z
theorem Shs.write (h : Shs K H m al us vs) {D : Addr} (hD : m D) {o : HO} : Shs K (upd H D o) m al us vs := h.mono (fun b q e n => by rw [upd_ne fun z => n (by rw [z]; exact hD)]; exact e) (fun _ _ _ z => z) fun _ _ z => z
theorem ST.write (t : ST K m al s H) {D : Addr} (hD : m D) (hn : D ∉ al) {o : HO} : ST K m al s (upd H D o) := ⟨t.len, t.nd, t.sub, fun k us e => by
  obtain ⟨a, e1, e2⟩ := t.at_ k us e
  refine ⟨a, e1, ?_⟩
  rw [upd_ne fun z => hn (by rw [← z]; exact List.mem_of_getElem? e1)]
  exact e2⟩
end

theorem wipe_wipe {σ : L2.St} {w : List Nat} : L2.wipe (L2.wipe σ w) w = L2.wipe σ w := by
  refine List.ext_getElem? fun i => ?_
  rw [wipe_get, wipe_get]
  by_cases c : i ∈ w
  · simp only [if_pos c]
    cases σ[i]? <;> rfl
  · simp only [if_neg c]
def turnF (F : CallF) (KW : Kt) (tg : Tg) (t e : C) (ρw : Env) (u : U) (s : Sto) : RE (Option U) := match bindTg tg u ρw with
  | some r1 => (evE F KW t r1 s).bind fun x s => (ofO s (truth x.u)).bind fun k s => (match k with
    | true => (evE F KW e r1 s).bind fun y s => .ok (some y.u) s
    | false => .ok none s)
  | none => .bad
theorem turn_ok {F : CallF} {KW : Kt} {tg : Tg} {t e : C} {ρw : Env} {u : U} {s s' : Sto} {o : Option U} (h : turnF F KW tg t e ρw u s = .ok o s') : ∃ ρ1 ra s1 k, bindTg tg u ρw = some ρ1 ∧ evE F KW t ρ1 s = .ok ra s1 ∧ truth ra.u = some k ∧
    ((k = true ∧ ∃ rb, evE F KW e ρ1 s1 = .ok rb s' ∧ o = some rb.u) ∨ (k = false ∧ o = none ∧ s' = s1)) := by
  unfold turnF at h
  cases b : bindTg tg u ρw with
  | none => rw [b] at h; cases h
  | some ρ1 =>
    rw [b] at h
    simp only at h
    obtain ⟨ra, s1, e1, h⟩ := bind_ok h
    obtain ⟨k, e2, h⟩ := bindO_ok h
    refine ⟨ρ1, ra, s1, k, rfl, e1, e2, ?_⟩
    cases k with
    | true =>
      obtain ⟨rb, s2, e3, h⟩ := bind_ok h
      cases h
      exact .inl ⟨rfl, rb, e3, rfl⟩
    | false => cases h; exact .inr ⟨rfl, rfl, rfl⟩
theorem compL_cons {f : U → Sto → RE (Option U)} {u : U} {us ys : List U} {s s' : Sto} (h : compL f (u :: us) s = .ok ys s') : ∃ o s1 zs, f u s = .ok o s1 ∧ compL f us s1 = .ok zs s' ∧ ys = (match o with | some y => y :: zs | none => zs) := by
  simp only [compL] at h
  cases q : f u s with
  | bad => rw [q] at h; cases h
  | exc x s => rw [q] at h; cases h
  | ok o s1 =>
    rw [q] at h
    cases o with
    | none => exact ⟨none, s1, ys, rfl, h, rfl⟩
    | some y =>
      simp only at h
      cases q2 : compL f us s1 with
      | bad => rw [q2] at h; cases h
      | exc x s => rw [q2] at h; cases h
      | ok zs s2 =>
        rw [q2] at h
        cases h
        exact ⟨some y, s1, zs, rfl, q2, rfl⟩
section
variable {X : Cx} {F : CallF} {KW : Kt}
/-- the tests of a comprehension -/
def tTs (F : CallF) (KW : Kt) (K : PySem.W.Frag) (t : C) : TT := tT F KW K t
theorem lc_in {w vs : List Nat} {tg : Tg} {it : Ev.It} {t e : C} (hw : ∀ σ, L2.wipe σ w = L2.wipe σ vs) (hs : ∀ j ∈ tgSlots tg, j ∈ w) :
    ∀ σ H (Q : VK), tE F KW X.K (.comp w tg it t e) σ H Q → tLc (tI F KW X.K .brw it) (tG X.K tg) (tT F KW X.K t) (tE F KW X.K e) vs σ H Q := by
  rintro σ H Q ⟨ρ, s, m, al, r, s', sc, ev, q⟩
  simp only [evE] at ev
  obtain ⟨us, s1, e1, ev⟩ := bind_ok ev
  cases hl : inLim us with
  | false => rw [hl] at ev; cases ev
  | true =>
  rw [hl] at ev
  simp only at ev
  obtain ⟨ys, s2, e2, ev⟩ := bind_ok ev
  cases ev
  have e2 : compL (turnF F KW tg t e (wipeE w ρ)) us s1 = .ok ys s' := e2
  have hlim : us.length ≤ lim := of_decide_eq_true hl
  refine ⟨ρ, s, m, al, us, s1, sc, e1, fun J H1 al1 st1 t1 yl => fun D hD => ?_⟩
  have sc1 := sc.step st1 t1
  -- the turns
  let m' : List Addr → Addr → Prop := fun l a => mU m l a ∨ a = D
  have hm : ∀ {Hi : Hp} {ali : List Addr}, Step H1 Hi al1 ali → ∀ b o, H1 b = some o → ¬ mU m al1 b → ¬ m' ali b := fun st b o e n z => by
    rcases z with (z | z) | z
    · exact n (.inl z)
    · obtain ⟨g, eg, hg⟩ := st.pre
      rw [eg] at z
      rcases List.mem_append.mp z with z | z
      · exact n (.inr z)
      · rw [hg b z] at e; cases e
    · rw [z, hD] at e; cases e
  have pp : ∀ {Hi : Hp} {ali : List Addr}, Step H1 Hi al1 ali → PP (mU m al1) al1 .brw H1 Hi := fun st => st.ext
  have wk : ∀ {l1 l2 : List Addr} b, m' l2 b → mU (m' l1) l2 b := fun b z => by
    rcases z with (z | z) | z
    · exact .inl (.inl (.inl z))
    · exact .inr z
    · exact .inl (.inr z)
  let Iv : Nat → Hp → Prop := fun i Hi => ∃ si ali done rest acc, compL (turnF F KW tg t e (wipeE w ρ)) (us.drop i) si = .ok rest s' ∧ ys = done ++ rest ∧ done.length ≤ i ∧ Step H1 Hi al1 ali ∧ D ∉ ali ∧ ST X.K (m' ali) ali si Hi ∧ Hi D = some (.lst acc) ∧ Shs X.K Hi (m' ali) ali done acc
  refine ⟨fun i n Hi => n = us.length - i ∧ i ≤ us.length ∧ Iv i Hi, ⟨us.length, rfl, Nat.zero_le _, s1, al1, [], ys, [], e2, rfl, Nat.le_refl _, (Grow.new hD).step, ?_, ?_, upd_same, .nil⟩, ?_⟩
  · intro z
    obtain ⟨o, e⟩ := t1.trk z
    rw [hD] at e; cases e
  · have t2 : ST X.K (m' al1) al1 s1 H1 := ⟨t1.len, t1.nd, fun a ha => .inl (.inr ha), fun k us e => t1.at_ k us e⟩
    exact t2.grow (Grow.new hD)
  · rintro i n Hi ⟨hn, hi, si, ali, done, rest, acc, e3, ey, hd, st, hDa, t2, hDh, sh⟩
    by_cases lt : i < us.length
    · have dr : us.drop i = us[i] :: us.drop (i + 1) := List.drop_eq_getElem_cons lt
      rw [dr] at e3
      obtain ⟨o, sa0, zs, ef, ezs, er⟩ := compL_cons e3
      obtain ⟨ρ1, ra, sa, k, eb, et, etr, alt⟩ := turn_ok ef
      refine .inr ⟨yl.go i Hi (pp st) lt, Iv (i + 1), fun H' h' => ⟨us.length - (i + 1), by omega, rfl, lt, h'⟩, fun x H3 hy => ?_⟩
      obtain ⟨g3, hD3, hx⟩ : Grow Hi H3 ∧ H3 D = some (.lst acc) ∧ Sh X.K H3 (m' ali) ali us[i] x := by
        have key := yl.yl i Hi x H3 us[i] (pp st) (List.getElem?_eq_getElem lt) hy
        generalize us[i] = u0 at key
        cases key with
        | old h1 h2 =>
          subst h1
          exact ⟨Grow.refl, hDh, h2.mono (fun b o e n => st.ext b o e fun z => n (.inr z)) (hm st) st.nth⟩
        | new h1 h2 h3 =>
          subst h2
          refine ⟨Grow.new h1, Grow.new h1 _ _ hDh, .tup upd_same (fun z => ?_) ((h3.mono (fun b o e n => st.ext b o e fun z => n (.inr z)) (hm st) st.nth).grow (Grow.new h1))⟩
          rcases z with (z | z) | z
          · obtain ⟨o, e⟩ := sc1.r.md _ (.inl z)
            obtain ⟨o', e'⟩ := st.dom _ _ e
            rw [h1] at e'; cases e'
          · obtain ⟨o, e⟩ := t2.trk z
            rw [h1] at e; cases e
          · rw [z, hDh] at h1; cases h1
        | @new2 w0 y0 ws0 xs0 T T2 its its2 h1 hne h2 h3 h4 h5 =>
          subst h3
          have nm : ∀ {b : Addr}, Hi b = none → ¬ m' ali b := fun {b} hb z => by
            rcases z with (z | z) | z
            · obtain ⟨o, e⟩ := sc1.r.md _ (.inl z)
              obtain ⟨o', e'⟩ := st.dom _ _ e
              rw [hb] at e'; cases e'
            · obtain ⟨o, e⟩ := t2.trk z
              rw [hb] at e; cases e
            · rw [z, hDh] at hb; cases hb
          have g1 := Grow.new (o := tupO its xs0) h1
          have hT2 : upd Hi T (tupO its xs0) T2 = none := (upd_ne hne).trans h2
          have g2 := Grow.new (o := tupO its2 [y0, .ref T]) hT2
          have g := g1.trans g2
          have up : ∀ b o, H1 b = some o → ¬ mU m al1 b → Hi b = some o := fun b o e n => st.ext b o e fun z => n (.inr z)
          exact ⟨g, g _ _ hDh, .tup upd_same (nm h2) (.cons ((h4.mono up (hm st) st.nth).grow g) (.cons (.tup (g2 _ _ upd_same) (nm h1) ((h5.mono up (hm st) st.nth).grow g)) .nil))⟩
      have st3 : Step H1 H3 al1 ali := st.grow g3
      have t3 := t2.grow g3
      have r3 : SR X.K (m' ali) ali (wipeE w ρ) (L2.wipe σ vs) H3 := by
        rw [← hw]
        refine (sc1.r.over st3 t1.sub (hm st) (fun b z => ?_) fun b z => ?_).wipe w
        · rcases z with (z | z) | z
          · obtain ⟨o, e⟩ := sc1.r.md _ (.inl z)
            exact st3.dom _ _ e
          · exact t3.trk z
          · rw [z]; exact ⟨_, hD3⟩
        · rcases z with z | z
          · exact .inl (.inl z)
          · exact .inl (.inr (st.sub _ z))
      refine ⟨wipeE w ρ, m' ali, ali, us[i], ρ1, t3.sub, r3, hx, eb, fun σ2 r2 off => ⟨by rw [← hw σ2, off.wipe hs, hw, wipe_wipe], ?_⟩⟩
      have sc2 : SC X.K (m' ali) ali si ρ1 σ2 H3 := ⟨t3, r2⟩
      refine ⟨ρ1, si, m' ali, ali, ra, sa, k, sc2, et, etr, fun H4 al4 st4 t4 => ?_⟩
      have hD4 := st4.ext _ _ hD3 hDa
      have hDa4 := st4.notin hD3 hDa
      have sh4 := (sh.grow g3).step st4 t3.sub
      rcases alt with ⟨rfl, rb, ee, rfl⟩ | ⟨rfl, rfl, rfl⟩
      · show tE F KW X.K e σ2 H4 _
        refine ⟨ρ1, sa, mU (m' ali) al4, al4, rb, sa0, sc2.step st4 t4, ee, fun v H5 al5 st5 t5 vr => ?_⟩
        have hD5 := st5.ext _ _ hD4 hDa4
        have hDa5 := st5.notin hD4 hDa4
        have sh5 := sh4.step st5 t4.sub
        have w5 : ∀ b, m' al5 b → mU (mU (m' ali) al4) al5 b := fun b z => by
          rcases z with (z | z) | z
          · exact .inl (.inl (.inl (.inl z)))
          · exact .inr z
          · exact .inl (.inl (.inr z))
        have mD : m' al5 D := .inr rfl
        refine ⟨acc, hD5, ?_, sa0, al5, done ++ [rb.u], zs, acc ++ [v], ezs, ?_, ?_, ?_, hDa5, (t5.weak w5 fun a ha => .inl (.inr ha)).write mD hDa5, upd_same, ((sh5.weak w5).append (.cons (vr.sh.weak w5) .nil)).write mD⟩
        · rw [← sh.length]
          exact Nat.lt_of_le_of_lt (Nat.le_trans hd (Nat.le_trans hi hlim)) (by unfold lim; decide)
        · rw [ey, er, List.append_assoc]; rfl
        · rw [List.length_append]; exact Nat.succ_le_succ hd
        · have s15 := (st3.trans st4).trans st5
          refine ⟨s15.pre, fun b o e hb => ?_, fun b o e => ?_⟩
          · rw [upd_ne fun z => by rw [z, hD] at e; cases e]
            exact s15.ext b o e hb
          · rw [upd_ne fun z => by rw [z, hD] at e; cases e]
            exact s15.dom b o e
      · show Iv (i + 1) H4
        exact ⟨_, al4, done, zs, acc, ezs, by rw [ey, er], Nat.le_succ_of_le hd, st3.trans st4, hDa4, t4.weak wk fun a ha => .inl (.inr ha), hD4, sh4.weak wk⟩
    · have hi' : i = us.length := Nat.le_antisymm hi (Nat.le_of_not_lt lt)
      subst hi'
      rw [List.drop_length] at e3
      cases e3
      refine .inl ⟨yl.st Hi (pp st), ?_⟩
      have dn : H D = none := st1.none hD
      have nm : ¬ mU m ali D := fun z => by
        rcases z with z | z
        · obtain ⟨o, e⟩ := sc.md _ z
          rw [dn] at e; cases e
        · exact hDa z
      rw [List.append_nil] at ey
      subst ey
      refine q (.ref D) Hi ali (st1.trans st) (t2.weak (fun b z => .inl z) fun a ha => .inr ha) ⟨.lst hDh nm (sh.weak fun b z => .inl z), fun _ us' e' => ?_⟩
      cases e'
      exact ⟨D, acc, rfl, hDh, sh, dn, nm⟩
end
end Ev

end
section
set_option Elab.async false
set_option linter.all false
set_option maxRecDepth 100000
set_option maxHeartbeats 4000000
namespace Ev
open PySem L2
theorem and2 {a b : Bool} (h : (a && b) = true) : a = true ∧ b = true := Bool.and_eq_true_iff.mp h
section
variable {X : Cx} {F : CallF} {KW : Kt} {T : Tb} {k : Ck}
theorem pw_of {op : PySem.BoolOp} {es : List Expr} {pos : Pos} {t : TT} (h : PT X (.BoolOp op es pos) t) : PW X (.BoolOp op es pos) t := ⟨fun whole pins s σ H Q I hw => by
  have z := h.run pins s σ H Q I hw
  unfold PySem.isTrue at z ⊢
  exact z⟩
theorem pt_one (op : PySem.BoolOp) {x : Expr} {pos : Pos} {t : TT} (hop : op = .And ∨ op = .Or) (h : PT X x t) : PW X (.BoolOp op [x] pos) t := by
  rcases hop with rfl | rfl
  · exact pw_and1 h
  · exact pw_or1 h
theorem XOk.names (O : XOk T F KW k X) : Names k X := ⟨O.N, O.nd, O.sc, O.fn, O.calm⟩
theorem gl_of (O : XOk T F KW k X) {g : Expr} {n : Str} (h : isG k n g = true) : ∃ p, g = .Name n p ∧ Gl X n ∧ (n == ("__debug__" : Str)) = false ∧ n ≠ "__name__" := by
  obtain ⟨x, p, rfl⟩ : ∃ x p, g = .Name x p := by cases g <;> first | exact ⟨_, _, rfl⟩ | (cases h; done)
  unfold isG gName? at h
  simp only at h
  by_cases c : (glB k.sc x && plainN x) = true
  · rw [if_pos c] at h
    simp only [decide_eq_true_eq] at h
    subst h
    obtain ⟨c1, c2⟩ := and2 c
    refine ⟨p, rfl, ?_, ?_, ?_⟩
    · show X.env.scope.names.lookup x = _
      rw [O.sc]
      unfold glB at c1
      cases q : k.sc.names.lookup x with
      | none => rw [q] at c1; cases c1
      | some w => rw [q] at c1; cases w <;> first | rfl | cases c1
    · unfold plainN at c2
      have c3 := (and2 (and2 c2).1).1
      simpa using c3
    · unfold plainN at c2
      have c3 := (and2 c2).2
      simpa using c3
  · rw [if_neg c] at h; cases h
theorem gn_of (O : XOk T F KW k X) {g : Expr} {n : Str} (h : gName? k g = some n) : ∃ p, g = .Name n p ∧ Gl X n ∧ (n == ("__debug__" : Str)) = false ∧ n ≠ "__name__" :=
  gl_of O (by unfold isG; rw [h]; simp)
theorem pe_slot (O : XOk T F KW k X) {i : Nat} {e : Expr} (h : varOk k i e = true) : PE X e (tVar i) := by
  obtain ⟨x, p, rfl⟩ : ∃ x p, e = .Name x p := by cases e <;> first | exact ⟨_, _, rfl⟩ | (cases h; done)
  obtain ⟨h1, h3⟩ := and2 h
  obtain ⟨h1, h2⟩ := and2 h1
  refine pe_var (by rw [O.N]; exact of_decide_eq_true h1) ?_ ?_ ?_
  · unfold L2.Vis
    rw [O.sc]
    unfold visB at h2
    cases q : k.sc.names.lookup x with
    | none => rw [q] at h2; cases h2
    | some w => rw [q] at h2; cases w <;> first | exact .inl rfl | exact .inr (.inl rfl) | exact .inr (.inr rfl) | (cases h2; done)
  · unfold plainN at h3
    have c3 := (and2 (and2 h3).1).1
    simpa using c3
  · unfold plainN at h3
    have c3 := (and2 (and2 h3).1).2
    simpa using c3
theorem pe_con (O : XOk T F KW k X) {u : U} {e : Expr} (h : conOk T k u e = true) : PE X e (tE F KW X.K (.con u)) ∧ ∀ whole, isTrue e X.env whole = (do let v ← whole; standAt e.pos; holding [v] (truthy v)) := by
  cases e <;> first | (cases h; done) | skip
  · rename_i c j p
    refine ⟨?_, fun _ => rfl⟩
    cases c <;> cases u <;> simp only [conOk] at h <;> first | (cases h; done) | skip
    · exact snd_con pe_non fun _ _ _ => .non
    · rename_i b b'
      rw [eq_of_beq h]
      exact snd_con pe_bl fun _ _ _ => .bl _
    · rename_i i i'
      rw [eq_of_beq h]
      exact snd_con pe_int fun _ _ _ => .int _
    · rename_i x x'
      rw [of_decide_eq_true h]
      exact snd_con pe_str fun _ _ _ => .str _
  · rename_i x p
    refine ⟨?_, fun _ => rfl⟩
    rw [conOk.eq_def] at h
    simp only at h
    cases q : gName? k (.Name x p) with
    | none => rw [q] at h; cases h
    | some n =>
      rw [q] at h
      simp only at h
      cases q2 : T.cons.lookup n with
      | none =>
        rw [q2] at h
        simp only at h
        obtain ⟨f, n2, rfl⟩ : ∃ f n2, u = .fnv f n2 := by cases u <;> first | exact ⟨_, _, rfl⟩ | (cases h; done)
        simp only at h
        cases q3 : nth f T.fns with
        | none => rw [q3] at h; cases h
        | some fe =>
          rw [q3] at h
          obtain ⟨h1, h2⟩ := and2 h
          have h1 := of_decide_eq_true h1
          have h2 := of_decide_eq_true h2
          subst h1
          obtain ⟨p', e, hg, hd, _⟩ := gn_of O q
          cases e
          obtain ⟨a, o, g1, g2, g3⟩ := O.nms.at_ f fe q3
          rw [h2] at g1 g3
          exact snd_con (pe_glob (v := .ref a) hg g1 rfl hd) fun _ _ _ => .fnv g2 g3
      | some w =>
        rw [q2] at h
        have e := sameU_eq u w h
        subst e
        obtain ⟨p', e, hg, hd, _⟩ := gn_of O q
        cases e
        obtain ⟨v, wv, hm, r, sh⟩ := O.cons _ _ q2
        exact snd_con (pe_glob hg hm r hd) sh
theorem nost {as : A} {md : Mo} : ∀ {es : List Expr}, chkA T as md k es = true → noStars es = true ∧ lenA as = es.length := by
  intro es h
  induction es generalizing as with
  | nil => cases as with
    | nil => exact ⟨rfl, rfl⟩
    | cons c r => simp [chkA] at h
  | cons e es ih => cases as with
    | nil => simp [chkA] at h
    | cons c r =>
      simp only [chkA] at h
      obtain ⟨h1, h2⟩ := and2 h
      obtain ⟨h1, _⟩ := and2 h1
      obtain ⟨i1, i2⟩ := ih h2
      exact ⟨by unfold noStars; rw [h1, i1]; rfl, by show lenA r + 1 = es.length + 1; rw [i2]⟩
/-- the one-word built-ins -/
theorem bi_tab (hc : X.calm = true) (hu : X.A.units + 66 < cLine) (b : Bi) (n : Str) (h : biName b = some n) : n ∈ bltNames ∧ ((∃ id, bootBuiltins n = some (.builtin id) ∧ CallR X (.builtin id) (rBi X.K b)) ∨ ∃ id, bootBuiltins n = some (.type id) ∧ CallR X (.type id) (rBi X.K b)) := by
  cases b <;> simp only [biName] at h <;> cases h
  · exact ⟨by decide +kernel, .inl ⟨_, by decide +kernel, biR_len⟩⟩
  · exact ⟨by decide +kernel, .inl ⟨_, by decide +kernel, biR_abs⟩⟩
  · exact ⟨by decide +kernel, .inr ⟨_, by decide +kernel, biR_int1⟩⟩
  · exact ⟨by decide +kernel, .inl ⟨_, by decide +kernel, biR_min2 hc⟩⟩
  · exact ⟨by decide +kernel, .inl ⟨_, by decide +kernel, biR_max2 hc⟩⟩
  · exact ⟨by decide +kernel, .inl ⟨_, by decide +kernel, biR_minS hc hu⟩⟩
  · exact ⟨by decide +kernel, .inl ⟨_, by decide +kernel, biR_maxS hc hu⟩⟩
  · exact ⟨by decide +kernel, .inl ⟨_, by decide +kernel, biR_sum hc⟩⟩
  · exact ⟨by decide +kernel, .inl ⟨_, by decide +kernel, biR_all hc⟩⟩
  · exact ⟨by decide +kernel, .inl ⟨_, by decide +kernel, biR_any hc⟩⟩
  · exact ⟨by decide +kernel, .inr ⟨_, by decide +kernel, biR_list⟩⟩
  · exact ⟨by decide +kernel, .inr ⟨_, by decide +kernel, biR_tuple⟩⟩
  · exact ⟨by decide +kernel, .inl ⟨_, by decide +kernel, biR_sorted⟩⟩
theorem fold_of {iter : Expr} (h : noSet iter = true) (env : PySem.Env) (x : Value) : foldedSetIterable iter env x = pure x := by
  cases iter <;> first | rfl | cases h
theorem plain_ix {y : Expr} (h : notSlice y = true) : PlainIx y := by
  cases y <;> first | (intro o i; rfl) | cases h
theorem nosl_of {y : Expr} (h : notSlice y = true) : NoSl y := by
  cases y <;> first | (intro o i; rfl) | cases h
theorem XOk.blk (O : XOk T F KW k X) (scope : Scope) (s : Shared) (H : Hp) (C : Addr) (cl : List (Str × Addr)) (fp : List Addr) : XOk T F KW (k.blk scope) (X.blk s H scope (compEnvC scope cl C X.env) fp) where
  N := O.N
  nd := O.nd
  sc := by
    show relabel scope X.env = relS scope k.sc
    rw [← O.sc]
    rfl
  fn := rfl
  calm := O.calm
  units := O.units
  blt := O.blt
  cons := O.cons
  fns := fun f fe h => ⟨(O.fns f fe h).ex⟩
  kws := fun kw ke fe h1 h2 => ⟨(O.kws kw ke fe h1 h2).ex⟩
  dfs := fun f fe j h1 h2 => ⟨(O.dfs f fe j h1 h2).ex⟩
  xcs := O.xcs
  mth := O.mth
  nms := O.nms
  dep := O.dep
end
end Ev

end
section
set_option Elab.async false
set_option linter.all false
set_option maxRecDepth 100000
set_option maxHeartbeats 8000000
namespace Ev
open PySem L2
def GoalA (F : CallF) (KW : Kt) (X : Cx) (a : A) (es : List Expr) : Mo → Prop
  | .esc => PA X es (tAs F KW X.K a)
  | _ => PA X es (tAb F KW X.K a)
mutual
theorem sndC {T : Tb} {F : CallF} {KW : Kt} : ∀ (c : C) (md : Mo) (k : Ck) (e : Expr) (X : Cx), XOk T F KW k X → chk T c md k e = true → Goal F KW X c e md
  | .con u, md, k, e, X, O, h => by
    simp only [chk] at h
    obtain ⟨h1, h2⟩ := pe_con O h
    exact Goal.of md h1 h2
  | .var i, md, k, e, X, O, h => by
    simp only [chk] at h
    have hp := pe_slot O h
    obtain ⟨x, p, rfl⟩ : ∃ x p, e = .Name x p := by cases e <;> first | exact ⟨_, _, rfl⟩ | (exact nomatch h)
    exact Goal.of md (snd_var hp) fun _ => rfl
  | .peek i, md, k, e, X, O, h => by
    cases md <;> simp only [chk] at h <;> first | (cases h; done) | skip
    · exact snd_peek (pe_slot O h)
    · have hp := pe_slot O h
      obtain ⟨x, p, rfl⟩ : ∃ x p, e = .Name x p := by cases e <;> first | exact ⟨_, _, rfl⟩ | (exact nomatch h)
      exact tB_tT (snd_peek hp) fun _ => rfl
  | .tup as, md, k, e, X, O, h => by
    simp only [chk] at h
    split at h
    · obtain ⟨h1, h2⟩ := and2 h
      exact Goal.of md (snd_tup (of_decide_eq_true h1) (sndA as .esc k _ X O (fun z => nomatch z) h2)) fun _ => rfl
    · cases h
  | .lst as, md, k, e, X, O, h => by
    simp only [chk] at h
    split at h
    · obtain ⟨h1, h2⟩ := and2 h
      exact Goal.of md (snd_lst (of_decide_eq_true h1) (sndA as .esc k _ X O (fun z => nomatch z) h2)) fun _ => rfl
    · cases h
  | .slst as, md, k, e, X, O, h => by
    simp only [chk] at h
    split at h
    · obtain ⟨h1, h2⟩ := and2 h
      exact Goal.of md (snd_slst (of_decide_eq_true h1) (sndA as .esc k _ X O (fun z => nomatch z) h2)) fun _ => rfl
    · cases h
  | .op o a b, md, k, e, X, O, h => by
    simp only [chk] at h
    split at h
    · obtain ⟨h1, h3⟩ := and2 h
      obtain ⟨h1, h2⟩ := and2 h1
      rw [opIs_eq h1]
      exact Goal.of md (snd_op (sndC a .brw k _ X O h2) (sndC b .brw k _ X O h3)) fun _ => rfl
    · cases h
  | .neg a, md, k, e, X, O, h => by
    simp only [chk] at h
    split at h
    · exact Goal.of md (snd_neg (sndC a .brw k _ X O h)) fun _ => rfl
    · cases h
  | .cmp o a b, md, k, e, X, O, h => by
    simp only [chk] at h
    split at h
    · obtain ⟨h1, h4⟩ := and2 h
      obtain ⟨h1, h3⟩ := and2 h1
      obtain ⟨h1, h2⟩ := and2 h1
      rw [cmpIs_eq h1]
      have hu : X.A.units + 65 < cLine := by have := O.units; omega
      have ha := sndC a .brw k _ X O h3
      have hb := sndC b .brw k _ X O h4
      cases md with
      | esc => exact snd_cmp hu h2 ha hb
      | brw => exact tE_tB (snd_cmp hu h2 ha hb)
      | tst => exact snd_cmpT hu h2 ha hb
    · cases h
  | .chain o q a b c, md, k, e, X, O, h => by
    simp only [chk] at h
    split at h
    · obtain ⟨h1, h7⟩ := and2 h
      obtain ⟨h1, h6⟩ := and2 h1
      obtain ⟨h1, h5⟩ := and2 h1
      obtain ⟨h1, h4⟩ := and2 h1
      obtain ⟨h1, h3⟩ := and2 h1
      obtain ⟨h1, h2⟩ := and2 h1
      rw [cmpIs_eq h1, cmpIs_eq h2]
      have hu : X.A.units + 65 < cLine := by have := O.units; omega
      have ha := sndC a .brw k _ X O h5
      have hb := sndC b .brw k _ X O h6
      have hc := sndC c .brw k _ X O h7
      cases md with
      | esc => exact snd_chain hu h4 ha hb hc
      | brw => exact tE_tB (snd_chain hu h4 ha hb hc)
      | tst => exact snd_chainT hu h4 ha hb hc
    · cases h
  | .not a, md, k, e, X, O, h => by
    simp only [chk] at h
    split at h
    · cases md with
      | esc => exact snd_not (sndC a .brw k _ X O h)
      | brw => exact tE_tB (snd_not (sndC a .brw k _ X O h))
      | tst => exact snd_notT (sndC a .tst k _ X O h)
    · cases h
  | .and a b, md, k, e, X, O, h => by
    simp only [chk] at h
    split at h
    · obtain ⟨h1, h2⟩ := and2 h
      have ha := sndC a md k _ X O h1
      have hb := sndC b md k _ X O h2
      cases md with
      | esc => exact snd_and ha (pe_one hb)
      | brw => exact snd_andB ha (pe_one hb)
      | tst => exact (snd_andT ha (pt_one .And (.inl rfl) hb)).pt
    · obtain ⟨h1, h2⟩ := and2 h
      have ha := sndC a md k _ X O h1
      have hb := sndC b md k _ X O h2
      cases md with
      | esc => exact snd_and ha hb
      | brw => exact snd_andB ha hb
      | tst => exact (snd_andT ha (pw_of hb)).pt
    · cases h
  | .or a b, md, k, e, X, O, h => by
    simp only [chk] at h
    split at h
    · obtain ⟨h1, h2⟩ := and2 h
      have ha := sndC a md k _ X O h1
      have hb := sndC b md k _ X O h2
      cases md with
      | esc => exact snd_or ha (pe_one hb)
      | brw => exact snd_orB ha (pe_one hb)
      | tst => exact (snd_orT ha (pt_one .Or (.inr rfl) hb)).pt
    · obtain ⟨h1, h2⟩ := and2 h
      have ha := sndC a md k _ X O h1
      have hb := sndC b md k _ X O h2
      cases md with
      | esc => exact snd_or ha hb
      | brw => exact snd_orB ha hb
      | tst => exact (snd_orT ha (pw_of hb)).pt
    · cases h
  | .ife t a b, md, k, e, X, O, h => by
    simp only [chk] at h
    split at h
    · obtain ⟨h1, h3⟩ := and2 h
      obtain ⟨h1, h2⟩ := and2 h1
      have ht := sndC t .tst k _ X O h1
      have ha := sndC a md k _ X O h2
      have hb := sndC b md k _ X O h3
      cases md with
      | esc => exact snd_ife ht ha hb
      | brw => exact snd_ifeB ht ha hb
      | tst => exact snd_ifeT ht ha hb
    · cases h
  | .ix a b, md, k, e, X, O, h => by
    simp only [chk] at h
    split at h
    · obtain ⟨h1, h3⟩ := and2 h
      obtain ⟨h1, h2⟩ := and2 h1
      exact Goal.of md (snd_ix (plain_ix h1) (sndC a .brw k _ X O h2) (sndC b .brw k _ X O h3)) fun _ => rfl
    · cases h
  | .sl a lo hi, md, k, e, X, O, h => by
    simp only [chk] at h
    split at h
    · obtain ⟨h1, h3⟩ := and2 h
      obtain ⟨h1, h2⟩ := and2 h1
      exact Goal.of md (snd_sl (sndC a .brw k _ X O h1) (sndC lo .brw k _ X O h2) (sndC hi .brw k _ X O h3)) fun _ => rfl
    · cases h
  | .slL a lo, md, k, e, X, O, h => by
    simp only [chk] at h
    split at h
    · obtain ⟨h1, h2⟩ := and2 h
      exact Goal.of md (snd_slL (sndC a .brw k _ X O h1) (sndC lo .brw k _ X O h2)) fun _ => rfl
    · cases h
  | .slH a hi, md, k, e, X, O, h => by
    simp only [chk] at h
    split at h
    · obtain ⟨h1, h2⟩ := and2 h
      exact Goal.of md (snd_slH (sndC a .brw k _ X O h1) (sndC hi .brw k _ X O h2)) fun _ => rfl
    · cases h
  | .rev a, md, k, e, X, O, h => by simp only [chk] at h; cases h
  | .call f as, md, k, e, X, O, h => by
    simp only [chk] at h
    split at h
    · split at h
      · rename_i x fe e1 e2
        obtain ⟨h1, h3⟩ := and2 h
        obtain ⟨h1, h2⟩ := and2 h1
        obtain ⟨p, rfl, hg, hd, _⟩ := gn_of O e1
        have h1 := of_decide_eq_true h1
        subst h1
        have h2 := of_decide_eq_true h2
        obtain ⟨n1, n2⟩ := nost h3
        exact Goal.of md (snd_call (n := fe.name) (O.fns _ _ e2) hg hd n1 (n2.trans h2) h2 (sndA as .esc k _ X O (fun z => nomatch z) h3)) fun _ => rfl
      · cases h
    · cases h
  | .callK f kw as bs, md, k, e, X, O, h => by
    simp only [chk] at h
    split at h
    · split at h
      · rename_i x fe ke e1 e2 e3
        obtain ⟨h1, h8⟩ := and2 h
        obtain ⟨h1, h7⟩ := and2 h1
        obtain ⟨h1, h6⟩ := and2 h1
        obtain ⟨h1, h5⟩ := and2 h1
        obtain ⟨h1, h4⟩ := and2 h1
        obtain ⟨h1, h3⟩ := and2 h1
        obtain ⟨h1, h2⟩ := and2 h1
        obtain ⟨p, rfl, hg, hd, _⟩ := gn_of O e1
        have h1 := of_decide_eq_true h1
        subst h1
        have h2 := of_decide_eq_true h2
        subst h2
        obtain ⟨n1, n2⟩ := nost h7
        exact Goal.of md (snd_callK (O.kws _ _ _ e3 e2) hg hd n1 (of_decide_eq_true h3) n2 (of_decide_eq_true h4) (of_decide_eq_true h5) (sndA as .esc k _ X O (fun z => nomatch z) h7) (sndK bs k _ X O h8)) fun _ => rfl
      · cases h
    · cases h
  | .bi b as, md, k, e, X, O, h => by
    rw [chk.eq_def] at h
    simp only at h
    split at h
    · split at h
      · rename_i n hn
        obtain ⟨h1, h3⟩ := and2 h
        obtain ⟨h1, h2⟩ := and2 h1
        obtain ⟨p, rfl, hg, hd, hnm⟩ := gl_of O h1
        obtain ⟨n1, n2⟩ := nost h2
        have ha := sndA as .brw k _ X O (fun z => nomatch z) h2
        obtain ⟨hb, ht⟩ := bi_tab O.calm O.units b n hn
        rcases ht with ⟨id, hv, hc⟩ | ⟨id, hv, hc⟩
        · exact Goal.of md (snd_biB hc hg (O.blt n hb) hv hnm hd (of_decide_eq_true h3) n1 ha) fun _ => rfl
        · exact Goal.of md (snd_biT hc hg (O.blt n hb) hv hnm hd (of_decide_eq_true h3) n1 ha) fun _ => rfl
      · split at h
        · rename_i ts
          obtain ⟨h1, hq⟩ := and2 h
          clear h
          obtain ⟨p, rfl, hg, hd, hnm⟩ := gl_of O h1
          split at hq
          · obtain ⟨h20, h4⟩ := and2 hq
            obtain ⟨h2, h3⟩ := and2 h20
            clear hq h20
            have ha := sndC _ .brw k _ X O h3
            split at h4
            · obtain ⟨p2, e2, hg2, _, _⟩ := gl_of O h4
              cases e2
              exact Goal.of md (snd_isi1 hg (O.blt _ (by decide +kernel)) h2 ha hg2 (O.blt _ (ty_name _).2.2.2)) fun _ => rfl
            · obtain ⟨h40, h6⟩ := and2 h4
              obtain ⟨h41, h5⟩ := and2 h40
              exact Goal.of md (snd_isiT (of_decide_eq_true h5) hg (O.blt _ (by decide +kernel)) h2 ha (pa_tys k O.sc O.blt _ _ h41) (of_decide_eq_true h6)) fun _ => rfl
            · cases h4
          · cases hq
        · obtain ⟨h1, hq⟩ := and2 h
          clear h
          obtain ⟨p, rfl, hg, hd, hnm⟩ := gl_of O h1
          split at hq
          · obtain ⟨h20, h4⟩ := and2 hq
            obtain ⟨h2, h3⟩ := and2 h20
            clear hq h20
            obtain ⟨p2, rfl, hg2, _, _⟩ := gl_of O h2
            exact Goal.of md (snd_sortedSet (by have := O.units; omega) O.calm hg (O.blt _ (by decide +kernel)) hg2 (O.blt _ (by decide +kernel)) h3 (sndC _ .brw k _ X O h4)) fun _ => rfl
          · cases hq
        · obtain ⟨h1, hq⟩ := and2 h
          clear h
          obtain ⟨p, rfl, hg, hd, hnm⟩ := gl_of O h1
          split at hq
          · obtain ⟨h20, h4⟩ := and2 hq
            obtain ⟨h2, h3⟩ := and2 h20
            clear hq h20
            obtain ⟨p2, rfl, hg2, _, _⟩ := gl_of O h2
            exact Goal.of md (snd_listRange O.calm hg (O.blt _ (by decide +kernel)) hg2 (O.blt _ (by decide +kernel)) h3 (sndC _ .brw k _ X O h4)) fun _ => rfl
          · cases hq
        · cases h
    · cases h
  | .comp w tg it t e', md, k, e, X, O, h => by
    simp only [chk] at h
    split at h
    · rename_i elt tg' iter ifs scope pos
      obtain ⟨h1, h8⟩ := and2 h
      obtain ⟨h1, h7⟩ := and2 h1
      obtain ⟨h1, h6⟩ := and2 h1
      obtain ⟨h1, h5⟩ := and2 h1
      obtain ⟨h1, h4⟩ := and2 h1
      obtain ⟨h1, h3⟩ := and2 h1
      obtain ⟨h1, h2⟩ := and2 h1
      have hs : ∀ j ∈ tgSlots tg, j ∈ w := fun j hj => by
        have := List.all_eq_true.mp h2 j hj
        simpa using this
      have ok : BlkOk X.N X.env.scope scope (ownOf k.N scope) := by
        rw [O.N, O.sc]
        exact blkOk_by h4
      have hi := sndI it .brw k tg' iter X O (fun z => nomatch z) h5
      have ht : ∀ (s : Shared) (H : Hp) (C : Addr) (cl : List (Str × Addr)) (fp : List Addr), PTs (X.blk s H scope (compEnvC scope cl C X.env) fp) ifs (tT F KW X.K t) := fun s H C cl fp => by
        split at h7
        · refine ⟨fun pins s0 σ H Q I hw => pts_nil.run pins s0 σ H Q I ?_⟩
          obtain ⟨ρ, s, m, al, r, s', kb, sc, e, tr, q⟩ := hw
          split at h7
          · simp only [evE] at e
            cases e
            cases tr
            exact q H al Step.refl sc.t.up
          · cases h7
        · exact pts_one (sndC t .tst (k.blk scope) _ _ (O.blk scope s H C cl fp) h7)
        · cases h7
      exact Goal.of md (PE.imp (pe_lc O.calm (by rw [O.N]; exact O.nd) hi ok (fun s H C cl fp => pg_of (O.blk scope s H C cl fp).names tg tg' h6) ht (fun s H C cl fp => (show PE _ elt (tE F KW X.K e') from sndC e' .esc (k.blk scope) elt _ (O.blk scope s H C cl fp) h8)) (fold_of h1 _)) (lc_in (fun σ => wipe_same h3 σ) hs)) fun _ => rfl
    · cases h
  | .comp2 w tg it t tg2 it2 t2 e', md, k, e, X, O, h => by simp only [chk] at h; cases h
  | .refNe a, md, k, e, X, O, h => by
    simp only [chk] at h
    split at h
    · have hu : X.A.units + 65 < cLine := by have := O.units; omega
      have ha := sndC a .brw k _ X O h
      have hb : ∀ p2, PE X (.List [] p2) (tB F KW X.K (.lst .nil)) := fun p2 => tE_tB (snd_lst (by decide) snd_nil)
      cases md with
      | esc => exact snd_refNe hu ha (hb _)
      | brw => exact tE_tB (snd_refNe hu ha (hb _))
      | tst => exact snd_refNeT hu ha (hb _)
    · cases h
  | .dict1 a, md, k, e, X, O, h => by
    simp only [chk] at h
    split at h
    · obtain ⟨h1, h3⟩ := and2 h
      obtain ⟨h1, h2⟩ := and2 h1
      obtain ⟨p, rfl, hg, hd, hnm⟩ := gl_of O h1
      exact Goal.of md (snd_dict1 O.calm hg (O.blt _ (by decide +kernel)) h2 (sndC a .brw k _ X O h3)) fun _ => rfl
    · cases h
  | .dGet a b, md, k, e, X, O, h => by
    simp only [chk] at h
    split at h
    · obtain ⟨h1, h3⟩ := and2 h
      obtain ⟨h1, h2⟩ := and2 h1
      have hu : X.A.units + 65 < cLine := by have := O.units; omega
      exact Goal.of md (snd_dGet hu (nosl_of h1) (sndC a .brw k _ X O h2) (sndC b .brw k _ X O h3)) fun _ => rfl
    · cases h
  | .dIn neg a b, md, k, e, X, O, h => by
    simp only [chk] at h
    split at h
    · obtain ⟨h1, h4⟩ := and2 h
      obtain ⟨h1, h3⟩ := and2 h1
      obtain ⟨h1, h2⟩ := and2 h1
      have hu : X.A.units + 65 < cLine := by have := O.units; omega
      have ha := sndC a .brw k _ X O h3
      have hb := sndC b .brw k _ X O h4
      split at h1
      · have hn : neg = false := by simpa using h1
        subst hn
        cases md with
        | esc => exact snd_dIn hu h2 ha hb
        | brw => exact tE_tB (snd_dIn hu h2 ha hb)
        | tst => exact snd_dInT hu h2 ha hb
      · subst h1
        cases md with
        | esc => exact snd_dNotIn hu h2 ha hb
        | brw => exact tE_tB (snd_dNotIn hu h2 ha hb)
        | tst => exact snd_dNotInT hu h2 ha hb
      · cases h1
    · cases h
  | .callD f as ds, md, k, e, X, O, h => by
    simp only [chk] at h
    split at h
    · split at h
      · rename_i x fe e1 e2
        obtain ⟨h1, h6⟩ := and2 h
        obtain ⟨h1, h5⟩ := and2 h1
        obtain ⟨h1, h4⟩ := and2 h1
        obtain ⟨h1, h3⟩ := and2 h1
        obtain ⟨h1, h2⟩ := and2 h1
        obtain ⟨p, rfl, hg, hd, _⟩ := gn_of O e1
        have h1 := of_decide_eq_true h1
        subst h1
        obtain ⟨n1, n2⟩ := nost h6
        have h3 := of_decide_eq_true h3
        have h5 := sameUs_eq _ _ h5
        have hne : 0 < ds.length := by
          cases ds with
          | nil => simp at h4
          | cons a b => simp
        have hdf := O.dfs f fe ((dfOf T f).length - ds.length) e2 (by omega)
        rw [h5] at hdf
        exact Goal.of md (snd_callD hdf hg hd n1 n2 (of_decide_eq_true h2) (sndA as .esc k _ X O (fun z => nomatch z) h6)) fun _ => rfl
      · cases h
    · cases h
  | .callV g as, md, k, e, X, O, h => by
    simp only [chk] at h
    split at h
    · rename_i ge es pos
      obtain ⟨h1, h4⟩ := and2 h
      obtain ⟨h1, h3⟩ := and2 h1
      obtain ⟨h1, h2⟩ := and2 h1
      obtain ⟨n1, n2⟩ := nost h4
      have h3 := of_decide_eq_true h3
      cases es with
      | nil => exact absurd rfl h3
      | cons x es =>
        obtain ⟨o, ix, sp, rfl⟩ : ∃ o ix sp, ge = .Subscript o ix sp := by cases ge <;> first | exact ⟨_, _, _, rfl⟩ | (cases h1; done)
        exact Goal.of md (snd_callV O.nms O.fns (sndC g .brw k _ X O h2) n1 (sndA as .esc k _ X O (fun z => nomatch z) h4) rfl) fun _ => rfl
    · cases h
  | .slS a lo st, md, k, e, X, O, h => by
    simp only [chk] at h
    split at h
    · obtain ⟨h0, h5⟩ := and2 h
      obtain ⟨h0, h4⟩ := and2 h0
      obtain ⟨h0, h3⟩ := and2 h0
      obtain ⟨h1, h2⟩ := and2 h0
      have h1 := of_decide_eq_true h1
      subst h1
      have h2 := of_decide_eq_true h2
      exact Goal.of md (snd_slS (by omega) (sndC a .brw k _ X O h4) (sndC lo .brw k _ X O h5)) fun _ => rfl
    · cases h
  | .dictT a, md, k, e, X, O, h => by
    simp only [chk] at h
    split at h
    · obtain ⟨h1, h3⟩ := and2 h
      obtain ⟨h1, h2⟩ := and2 h1
      obtain ⟨p, rfl, hg, hd, hnm⟩ := gl_of O h1
      exact Goal.of md (snd_dictT (by have := O.units; omega) O.calm hg (O.blt _ (by decide +kernel)) h2 (sndC a .brw k _ X O h3)) fun _ => rfl
    · cases h
  | .dInT neg a b, md, k, e, X, O, h => by
    simp only [chk] at h
    split at h
    · obtain ⟨h1, h4⟩ := and2 h
      obtain ⟨h1, h3⟩ := and2 h1
      obtain ⟨h1, h2⟩ := and2 h1
      have hu : X.A.units + 65 < cLine := by have := O.units; omega
      have ha := sndC a .brw k _ X O h3
      have hb := sndC b .brw k _ X O h4
      split at h1
      · have hn : neg = false := by simpa using h1
        subst hn
        cases md with
        | esc => exact snd_dKInT hu h2 ha hb
        | brw => exact tE_tB (snd_dKInT hu h2 ha hb)
        | tst => exact snd_dKInTT hu h2 ha hb
      · subst h1
        cases md with
        | esc => exact snd_dKNotInT hu h2 ha hb
        | brw => exact tE_tB (snd_dKNotInT hu h2 ha hb)
        | tst => exact snd_dKNotInTT hu h2 ha hb
      · cases h1
    · cases h
  | .mth l a b, md, k, e, X, O, h => by
    simp only [chk] at h
    split at h
    · obtain ⟨h1, h6⟩ := and2 h
      obtain ⟨h1, h5⟩ := and2 h1
      obtain ⟨h1, h4⟩ := and2 h1
      obtain ⟨h1, h3⟩ := and2 h1
      obtain ⟨h1, h2⟩ := and2 h1
      obtain ⟨hg1, hg2⟩ := O.mth h1
      cases l with
      | true =>
        obtain ⟨p, rfl, hg, hd, _⟩ := gl_of O h2
        exact Goal.of md (snd_lcm hg hg2 h3 h4 (sndC a .brw k _ X O h5) (sndC b .brw k _ X O h6)) fun _ => rfl
      | false =>
        obtain ⟨p, rfl, hg, hd, _⟩ := gl_of O h2
        exact Goal.of md (snd_gcd hg hg1 h3 h4 (sndC a .brw k _ X O h5) (sndC b .brw k _ X O h6)) fun _ => rfl
    · cases h
  | .dLit i j, md, k, e, X, O, h => by
    simp only [chk] at h
    split at h
    · obtain ⟨h1, h2⟩ := and2 h
      rw [← of_decide_eq_true h1, ← of_decide_eq_true h2]
      exact Goal.of md snd_dLit fun _ => rfl
    · cases h
  | .sortedR a, md, k, e, X, O, h => by
    simp only [chk] at h
    split at h
    · obtain ⟨h1, h3⟩ := and2 h
      obtain ⟨h1, h2⟩ := and2 h1
      obtain ⟨p, rfl, hg, hd, hnm⟩ := gl_of O h1
      exact Goal.of md (snd_sortedR hg (O.blt _ (by decide +kernel)) h2 (sndC a .brw k _ X O h3)) fun _ => rfl
    · cases h
theorem sndA {T : Tb} {F : CallF} {KW : Kt} : ∀ (a : A) (md : Mo) (k : Ck) (es : List Expr) (X : Cx), XOk T F KW k X → md ≠ .tst → chkA T a md k es = true → GoalA F KW X a es md
  | .nil, md, k, es, X, O, hm, h => by
    simp only [chkA] at h
    split at h
    · cases md with
      | esc => exact snd_nil
      | brw => exact snd_nilB
      | tst => exact snd_nilB
    · cases h
  | .cons c r, md, k, es, X, O, hm, h => by
    simp only [chkA] at h
    split at h
    · obtain ⟨h0, h3⟩ := and2 h
      obtain ⟨h1, h2⟩ := and2 h0
      clear h0 h
      have hr := sndA r md k _ X O hm h3
      have hc := sndC c md k _ X O h2
      cases md with
      | esc => exact snd_cons h1 hc hr
      | brw => exact snd_consB h1 hc hr
      | tst => exact absurd rfl hm
    · cases h
theorem sndK {T : Tb} {F : CallF} {KW : Kt} : ∀ (a : A) (k : Ck) (ks : List Keyword) (X : Cx), XOk T F KW k X → chkA T a .esc k (ks.map (·.value)) = true → PK X ks (tAs F KW X.K a)
  | .nil, k, ks, X, O, h => by
    cases ks with
    | nil => exact snd_kNil
    | cons q r => simp [chkA] at h
  | .cons c r, k, ks, X, O, h => by
    cases ks with
    | nil => simp [chkA] at h
    | cons q ks =>
      simp only [chkA, List.map_cons] at h
      obtain ⟨h1, h3⟩ := and2 h
      obtain ⟨h1, h2⟩ := and2 h1
      obtain ⟨nm, x, kp⟩ := q
      exact snd_kCons (sndC c .esc k _ X O h2) (sndK r k _ X O h3)
theorem sndI {T : Tb} {F : CallF} {KW : Kt} : ∀ (it : Ev.It) (md : Mo) (k : Ck) (tg e : Expr) (X : Cx), XOk T F KW k X → md ≠ .tst → chkI T it md k tg e = true → GoalI F KW X it tg e md
  | .seq c, md, k, tg, e, X, O, hm, h => by
    simp only [chkI] at h
    exact snd_seq hm (sndC c md k e X O h)
  | .enum c, md, k, tg, e, X, O, hm, h => by
    simp only [chkI] at h
    split at h
    · obtain ⟨h1, h4⟩ := and2 h
      obtain ⟨h1, h3⟩ := and2 h1
      obtain ⟨h1, h2⟩ := and2 h1
      obtain ⟨p, rfl, hg, hd, hnm⟩ := gl_of O h2
      obtain ⟨es, kk, tp, rfl⟩ : ∃ es kk tp, tg = .Tuple es kk tp := by cases tg <;> first | exact ⟨_, _, _, rfl⟩ | (exact nomatch h1)
      exact snd_enum hm hg (O.blt _ (by decide +kernel)) h3 (sndC c md k _ X O h4)
    · cases h
  | .zip2 a b, md, k, tg, e, X, O, hm, h => by
    simp only [chkI] at h
    split at h
    · obtain ⟨h0, h6⟩ := and2 h
      obtain ⟨h0, h5⟩ := and2 h0
      obtain ⟨h0, h4⟩ := and2 h0
      obtain ⟨h0, h3⟩ := and2 h0
      obtain ⟨h1, h2⟩ := and2 h0
      obtain ⟨p, rfl, hg, hd, hnm⟩ := gl_of O h2
      obtain ⟨es, kk, tp, rfl⟩ : ∃ es kk tp, tg = .Tuple es kk tp := by cases tg <;> first | exact ⟨_, _, _, rfl⟩ | (exact nomatch h1)
      exact snd_zip2 hm hg (O.blt _ (by decide +kernel)) h3 h4 (sndC a md k _ X O h5) (sndC b md k _ X O h6)
    · cases h
  | .zips c, md, k, tg, e, X, O, hm, h => by
    simp only [chkI] at h
    split at h
    · obtain ⟨h0, h3⟩ := and2 h
      obtain ⟨h1, h2⟩ := and2 h0
      obtain ⟨p, rfl, hg, hd, hnm⟩ := gl_of O h2
      obtain ⟨nm, tp, rfl⟩ : ∃ nm tp, tg = .Name nm tp := by cases tg <;> first | exact ⟨_, _, rfl⟩ | (exact nomatch h1)
      exact snd_zips hm hg (O.blt _ (by decide +kernel)) (sndC c md k _ X O h3)
    · cases h
  | .rng1 c, md, k, tg, e, X, O, hm, h => by
    simp only [chkI] at h
    split at h
    · obtain ⟨h1, h3⟩ := and2 h
      obtain ⟨h1, h2⟩ := and2 h1
      obtain ⟨p, rfl, hg, hd, hnm⟩ := gl_of O h1
      exact snd_rng1 hg (O.blt _ (by decide +kernel)) h2 (sndC c .brw k _ X O h3)
    · cases h
  | .rng2 a b, md, k, tg, e, X, O, hm, h => by
    simp only [chkI] at h
    split at h
    · obtain ⟨h1, h5⟩ := and2 h
      obtain ⟨h1, h4⟩ := and2 h1
      obtain ⟨h1, h3⟩ := and2 h1
      obtain ⟨h1, h2⟩ := and2 h1
      obtain ⟨p, rfl, hg, hd, hnm⟩ := gl_of O h1
      exact snd_rng2 hg (O.blt _ (by decide +kernel)) h2 h3 (sndC a .brw k _ X O h4) (sndC b .brw k _ X O h5)
    · cases h
  | .enumZ c, md, k, tg, e, X, O, hm, h => by
    simp only [chkI] at h
    split at h
    · obtain ⟨h1, h4⟩ := and2 h
      obtain ⟨h1, h3⟩ := and2 h1
      obtain ⟨h1, h2⟩ := and2 h1
      obtain ⟨p, rfl, hg, hd, hnm⟩ := gl_of O h2
      obtain ⟨p', rfl, hg', hd', hnm'⟩ := gl_of O h3
      obtain ⟨es, kk, tp, rfl⟩ : ∃ es kk tp, tg = .Tuple es kk tp := by cases tg <;> first | exact ⟨_, _, _, rfl⟩ | (exact nomatch h1)
      exact snd_enumZ hm hg (O.blt _ (by decide +kernel)) hg' (O.blt _ (by decide +kernel)) (sndC c md k _ X O h4)
    · cases h
  | .rng3 _ _ _, md, k, tg, e, X, O, hm, h => by simp only [chkI] at h; cases h
end
end Ev

end
section
set_option Elab.async false
set_option linter.all false
set_option maxRecDepth 100000
set_option maxHeartbeats 4000000
namespace Ev
open PySem L2 CompX
/-! ### expressions out of which an exception may come -/
theorem bind_exc {α β : Type} {x : RE α} {f : α → Sto → RE β} {y : Xc} {s : Sto} (h : x.bind f = .exc y s) : x = .exc y s ∨ ∃ a s1, x = .ok a s1 ∧ f a s1 = .exc y s := by
  cases x with
  | ok a s1 => exact .inr ⟨a, s1, rfl, h⟩
  | exc _ _ => cases h; exact .inl rfl
  | bad => cases h
theorem ofO_exc {α : Type} {s s' : Sto} {o : Option α} {y : Xc} (h : ofO s o = .exc y s') : False := by cases o <;> cases h
theorem bindO_exc {α β : Type} {s s' : Sto} {o : Option α} {f : α → Sto → RE β} {y : Xc} (h : (ofO s o).bind f = .exc y s') : ∃ a, o = some a ∧ f a s = .exc y s' := by
  cases o with
  | none => cases h
  | some a => exact ⟨a, rfl, h⟩
section
variable (F : CallF) (KW : Kt) (K : PySem.W.Frag) (xn : Nat → Value × Str) (W : WX)
/-- x is raised: what is wished then -/
def Xq (σ : L2.St) (m : Addr → Prop) (al : List Addr) (H : Hp) (x : Xc) (s' : Sto) : Prop := ∀ H' al', Step H H' al al' → ST K (mU m al') al' s' H' → XOut K xn (fun c d h => W c d σ h) m al' x H'
def xE (c : C) (σ : L2.St) (H : Hp) : Prop := ∃ ρ s m al x s', SC K m al s ρ σ H ∧ evE F KW c ρ s = .exc x s' ∧ Xq K xn W σ m al H x s'
def xA (a : A) (σ : L2.St) (H : Hp) : Prop := ∃ ρ s m al x s', SC K m al s ρ σ H ∧ evA F KW a ρ s = .exc x s' ∧ Xq K xn W σ m al H x s'
def xI (it : Ev.It) (σ : L2.St) (H : Hp) : Prop := ∃ ρ s m al x s', SC K m al s ρ σ H ∧ evI F KW it ρ s = .exc x s' ∧ Xq K xn W σ m al H x s'
def oE (c : C) : TE := fun σ H Q => tE F KW K c σ H Q ∨ xE F KW K xn W c σ H
def oB (c : C) : TE := fun σ H Q => tB F KW K c σ H Q ∨ xE F KW K xn W c σ H
def oT (c : C) : TT := fun σ H Q => tT F KW K c σ H Q ∨ xE F KW K xn W c σ H
def oAs (a : A) : TA := fun σ H Q => tAs F KW K a σ H Q ∨ xA F KW K xn W a σ H
def oAb (a : A) : TA := fun σ H Q => tAb F KW K a σ H Q ∨ xA F KW K xn W a σ H
def oI (md : Mo) (it : Ev.It) : TI := fun σ H R => tI F KW K md it σ H R ∨ xI F KW K xn W it σ H
/-- by its way -/
def oM (md : Mo) (c : C) : TE := match md with
  | .esc => oE F KW K xn W c
  | _ => oB F KW K xn W c
end
theorem PE.or {X : Cx} {e : Expr} {t t' : TE} (h : PE X e t) (h' : PE X e t') : PE X e (fun σ H Q => t σ H Q ∨ t' σ H Q) := ⟨fun pins s σ H Q I q => q.elim (h.run pins s σ H Q I) (h'.run pins s σ H Q I)⟩
theorem PT.or {X : Cx} {e : Expr} {t t' : TT} (h : PT X e t) (h' : PT X e t') : PT X e (fun σ H Q => t σ H Q ∨ t' σ H Q) := ⟨fun pins s σ H Q I q => q.elim (h.run pins s σ H Q I) (h'.run pins s σ H Q I)⟩
theorem PA.or {X : Cx} {e : List Expr} {t t' : TA} (h : PA X e t) (h' : PA X e t') : PA X e (fun σ H Q => t σ H Q ∨ t' σ H Q) := ⟨fun pos pins s σ H Q I q => q.elim (h.run pos pins s σ H Q I) (h'.run pos pins s σ H Q I)⟩
theorem PI.or {X : Cx} {tg e : Expr} {t t' : TI} (h : PI X tg e t) (h' : PI X tg e t') : PI X tg e (fun σ H Q => t σ H Q ∨ t' σ H Q) := ⟨fun pins s σ H Q I q => q.elim (h.run pins s σ H Q I) (h'.run pins s σ H Q I)⟩
theorem PK.or {X : Cx} {e : List Keyword} {t t' : TA} (h : PK X e t) (h' : PK X e t') : PK X e (fun σ H Q => t σ H Q ∨ t' σ H Q) := ⟨fun pos pins s σ H Q I q => q.elim (h.run pos pins s σ H Q I) (h'.run pos pins s σ H Q I)⟩
section
variable {F : CallF} {KW : Kt} {K : PySem.W.Frag} {xn : Nat → Value × Str} {W : WX} {m : Addr → Prop} {al al1 : List Addr} {s s' s1 : Sto} {ρ : Env} {σ : L2.St} {H H1 : Hp} {x : Xc} {a b c : C} {as : A} {it : Ev.It} {α : Type}
theorem Xq.fwd (q : Xq K xn W σ m al H x s') (st : Step H H1 al al1) : Xq K xn W σ (mU m al1) al1 H1 x s' := fun H' al' st' t' => (q H' al' (st.trans st') t'.mm).mm
theorem om_then {md : Mo} {f : Rv → Sto → RE α} (sc : SC K m al s ρ σ H) (e : (evE F KW a ρ s).bind f = .exc x s') (q : Xq K xn W σ m al H x s') {Q : VK}
    (k : ∀ ra s1 v H1 al1, evE F KW a ρ s = .ok ra s1 → Step H H1 al al1 → ST K (mU m al1) al1 s1 H1 → BR K H1 (mU m al1) al1 ra.u v → f ra s1 = .exc x s' → Xq K xn W σ (mU m al1) al1 H1 x s' → Q v H1) : oM F KW K xn W md a σ H Q := by
  rcases bind_exc e with e1 | ⟨ra, s1, e1, e2⟩
  · cases md <;> exact .inr ⟨ρ, s, m, al, x, s', sc, e1, q⟩
  · cases md
    · exact .inl ⟨ρ, s, m, al, ra, s1, sc, e1, fun v H1 al1 st t vr => k ra s1 v H1 al1 e1 st t vr.br e2 (q.fwd st)⟩
    · exact .inl ⟨ρ, s, m, al, ra, s1, sc, e1, fun v H1 al1 st t br => k ra s1 v H1 al1 e1 st t br e2 (q.fwd st)⟩
    · exact .inl ⟨ρ, s, m, al, ra, s1, sc, e1, fun v H1 al1 st t br => k ra s1 v H1 al1 e1 st t br e2 (q.fwd st)⟩
theorem ob_then {f : Rv → Sto → RE α} (sc : SC K m al s ρ σ H) (e : (evE F KW a ρ s).bind f = .exc x s') (q : Xq K xn W σ m al H x s') {Q : VK}
    (k : ∀ ra s1 v H1 al1, evE F KW a ρ s = .ok ra s1 → Step H H1 al al1 → ST K (mU m al1) al1 s1 H1 → BR K H1 (mU m al1) al1 ra.u v → f ra s1 = .exc x s' → Xq K xn W σ (mU m al1) al1 H1 x s' → Q v H1) : oB F KW K xn W a σ H Q := om_then (md := .brw) sc e q k
theorem oe_then {f : Rv → Sto → RE α} (sc : SC K m al s ρ σ H) (e : (evE F KW a ρ s).bind f = .exc x s') (q : Xq K xn W σ m al H x s') {Q : VK}
    (k : ∀ ra s1 v H1 al1, evE F KW a ρ s = .ok ra s1 → Step H H1 al al1 → ST K (mU m al1) al1 s1 H1 → VR K H H1 (mU m al1) al1 ra v → f ra s1 = .exc x s' → Xq K xn W σ (mU m al1) al1 H1 x s' → Q v H1) : oE F KW K xn W a σ H Q := by
  rcases bind_exc e with e1 | ⟨ra, s1, e1, e2⟩
  · exact .inr ⟨ρ, s, m, al, x, s', sc, e1, q⟩
  · exact .inl ⟨ρ, s, m, al, ra, s1, sc, e1, fun v H1 al1 st t vr => k ra s1 v H1 al1 e1 st t vr e2 (q.fwd st)⟩
/-- a test, then what it leads to -/
theorem ot_then {f : Bool → Sto → RE α} (sc : SC K m al s ρ σ H) (e : ((evE F KW a ρ s).bind fun x s => (ofO s (truth x.u)).bind f) = .exc x s') (q : Xq K xn W σ m al H x s') {Q : Bool → Hp → Prop}
    (k : ∀ ra s1 kb H1 al1, evE F KW a ρ s = .ok ra s1 → Step H H1 al al1 → ST K (mU m al1) al1 s1 H1 → truth ra.u = some kb → f kb s1 = .exc x s' → Xq K xn W σ (mU m al1) al1 H1 x s' → Q kb H1) : oT F KW K xn W a σ H Q := by
  rcases bind_exc e with e1 | ⟨ra, s1, e1, e2⟩
  · exact .inr ⟨ρ, s, m, al, x, s', sc, e1, q⟩
  · obtain ⟨kb, h, e3⟩ := bindO_exc e2
    exact .inl ⟨ρ, s, m, al, ra, s1, kb, sc, e1, h, fun H1 al1 st t => k ra s1 kb H1 al1 e1 st t h e3 (q.fwd st)⟩
theorem oas_then {f : List U → Sto → RE α} (sc : SC K m al s ρ σ H) (e : (evA F KW as ρ s).bind f = .exc x s') (q : Xq K xn W σ m al H x s') {Q : List V → Hp → Prop}
    (k : ∀ us s1 vs H1 al1, evA F KW as ρ s = .ok us s1 → Step H H1 al al1 → ST K (mU m al1) al1 s1 H1 → Shs K H1 (mU m al1) al1 us vs → f us s1 = .exc x s' → Xq K xn W σ (mU m al1) al1 H1 x s' → Q vs H1) : oAs F KW K xn W as σ H Q := by
  rcases bind_exc e with e1 | ⟨ra, s1, e1, e2⟩
  · exact .inr ⟨ρ, s, m, al, x, s', sc, e1, q⟩
  · exact .inl ⟨ρ, s, m, al, ra, s1, sc, e1, fun v H1 al1 st t vr => k ra s1 v H1 al1 e1 st t vr e2 (q.fwd st)⟩
theorem oab_then {f : List U → Sto → RE α} (sc : SC K m al s ρ σ H) (e : (evA F KW as ρ s).bind f = .exc x s') (q : Xq K xn W σ m al H x s') {Q : List V → Hp → Prop}
    (k : ∀ us s1 vs H1 al1, evA F KW as ρ s = .ok us s1 → Step H H1 al al1 → ST K (mU m al1) al1 s1 H1 → f us s1 = .exc x s' → Xq K xn W σ (mU m al1) al1 H1 x s' → Q vs H1) : oAb F KW K xn W as σ H Q := by
  rcases bind_exc e with e1 | ⟨ra, s1, e1, e2⟩
  · exact .inr ⟨ρ, s, m, al, x, s', sc, e1, q⟩
  · exact .inl ⟨ρ, s, m, al, ra, s1, sc, e1, fun v H1 al1 st t vr => k ra s1 v H1 al1 e1 st t e2 (q.fwd st)⟩
theorem SC.stp (sc : SC K m al s ρ σ H) (st : Step H H1 al al1) (t : ST K (mU m al1) al1 s1 H1) : SC K (mU m al1) al1 s1 ρ σ H1 := sc.step st t
end
section
variable {X : Cx} {F : CallF} {KW : Kt} {T : Tb} {xn : Nat → Value × Str} {W : WX} {a b c t : C} {as bs : A} {x y z : Expr} {es : List Expr} {pos p : Pos} {md : Mo}
/-- no exception comes out of it -/
theorem xc_no {e : Expr} (h : ∀ ρ s y s', evE F KW c ρ s ≠ .exc y s') : PE X e (fun σ H _ => xE F KW X.K xn W c σ H) := ⟨fun pins s σ H Q I ⟨ρ, s1, m, al, y, s', sc, e, q⟩ => (h _ _ _ _ e).elim⟩
theorem xc_noT {e : Expr} (h : ∀ ρ s y s', evE F KW c ρ s ≠ .exc y s') : PT X e (fun σ H _ => xE F KW X.K xn W c σ H) := ⟨fun pins s σ H Q I ⟨ρ, s1, m, al, y, s', sc, e, q⟩ => (h _ _ _ _ e).elim⟩
/-- what one way asks -/
def XGoal (F : CallF) (KW : Kt) (X : Cx) (xn : Nat → Value × Str) (W : WX) (c : C) (e : Expr) : Mo → Prop
  | .tst => PT X e (fun σ H _ => xE F KW X.K xn W c σ H)
  | _ => PE X e (fun σ H _ => xE F KW X.K xn W c σ H)
theorem XGoal.of {e : Expr} (md : Mo) (h : PE X e (fun σ H _ => xE F KW X.K xn W c σ H)) (he : ∀ whole, isTrue e X.env whole = (do let v ← whole; standAt e.pos; holding [v] (truthy v))) : XGoal F KW X xn W c e md := by
  cases md with
  | esc => exact h
  | brw => exact h
  | tst => exact PT.imp (pt_truth h he) fun σ H Q q => q
theorem oe_of {e : Expr} (h : Goal F KW X c e .esc) (g : XGoal F KW X xn W c e .esc) : PE X e (oE F KW X.K xn W c) := PE.or h g
theorem ob_of {e : Expr} (h : Goal F KW X c e .brw) (g : XGoal F KW X xn W c e .brw) : PE X e (oB F KW X.K xn W c) := PE.or h g
theorem ot_of {e : Expr} (h : Goal F KW X c e .tst) (g : XGoal F KW X xn W c e .tst) : PT X e (oT F KW X.K xn W c) := PT.or h g
theorem om_of {e : Expr} (hm : md ≠ .tst) (h : Goal F KW X c e md) (g : XGoal F KW X xn W c e md) : PE X e (oM F KW X.K xn W md c) := by
  cases md with
  | esc => exact PE.or h g
  | brw => exact PE.or h g
  | tst => exact absurd rfl hm
/-! arguments -/
theorem xc_nil {t : TA} (h : PA X [] t) : PA X [] (fun σ H _ => xA F KW X.K xn W .nil σ H) := ⟨fun pos pins s σ H Q I ⟨ρ, s1, m, al, y, s', sc, e, q⟩ => by simp only [evA] at e; cases e⟩
theorem xc_cons {ta : TA} (hs : noStar x = true) (ha : PE X x (oM F KW X.K xn W md a)) (hr : PA X es (fun σ H _ => xA F KW X.K xn W as σ H)) : PA X (x :: es) (fun σ H _ => xA F KW X.K xn W (.cons a as) σ H) :=
  PA.imp (pa_cons ha hr (star_of hs _)) fun σ H Q ⟨ρ, s, m, al, y, s', sc, e, q⟩ => by
    simp only [evA] at e
    refine om_then sc e q fun ra s1 v H1 al1 e1 st t br e q => ?_
    rcases bind_exc e with e2 | ⟨xs, s2, e2, e⟩
    · exact ⟨ρ, s1, _, al1, y, s', sc.step st t, e2, q⟩
    · cases e
theorem xk_nil : PK X [] (fun σ H _ => xA F KW X.K xn W .nil σ H) := ⟨fun pos pins s σ H Q I ⟨ρ, s1, m, al, y, s', sc, e, q⟩ => by simp only [evA] at e; cases e⟩
theorem xk_cons {nm : Option Str} {kpos : Pos} {kws : List Keyword} (ha : PE X x (oE F KW X.K xn W a)) (hr : PK X kws (fun σ H _ => xA F KW X.K xn W as σ H)) : PK X (⟨nm, x, kpos⟩ :: kws) (fun σ H _ => xA F KW X.K xn W (.cons a as) σ H) :=
  PK.imp (pk_cons ha hr) fun σ H Q ⟨ρ, s, m, al, y, s', sc, e, q⟩ => by
    simp only [evA] at e
    refine oe_then sc e q fun ra s1 v H1 al1 e1 st t br e q => ?_
    rcases bind_exc e with e2 | ⟨xs, s2, e2, e⟩
    · exact ⟨ρ, s1, _, al1, y, s', sc.step st t, e2, q⟩
    · cases e
/-! displays -/
theorem xc_tup {k : Nat} (ha : PA X es (oAs F KW X.K xn W as)) : PE X (.Tuple es k pos) (fun σ H _ => xE F KW X.K xn W (.tup as) σ H) :=
  PE.imp (pe_tupX ha) fun σ H Q ⟨ρ, s, m, al, y, s', sc, e, q⟩ => by
    simp only [evE] at e
    exact oas_then sc e q fun us s1 vs H1 al1 e1 st t sh e q => nomatch e
theorem xc_lst (ha : PA X es (oAs F KW X.K xn W as)) : PE X (.List es pos) (fun σ H _ => xE F KW X.K xn W (.lst as) σ H) :=
  PE.imp (pe_lst ha) fun σ H Q ⟨ρ, s, m, al, y, s', sc, e, q⟩ => by
    simp only [evE] at e
    exact oas_then sc e q fun us s1 vs H1 al1 e1 st t sh e q => nomatch e
theorem xc_slst (ha : PA X es (oAs F KW X.K xn W as)) : PE X (.List es pos) (fun σ H _ => xE F KW X.K xn W (.slst as) σ H) :=
  PE.imp (pe_lst ha) fun σ H Q ⟨ρ, s, m, al, y, s', sc, e, q⟩ => by
    simp only [evE] at e
    refine oas_then sc e q fun us s1 vs H1 al1 e1 st t sh e q => ?_
    obtain ⟨_, _, e⟩ := bindO_exc e
    cases e
/-! operators -/
theorem xc_op {o : Op2} (ha : PE X x (oB F KW X.K xn W a)) (hb : PE X y (oB F KW X.K xn W b)) : PE X (.BinOp x (opSyn o) y pos) (fun σ H _ => xE F KW X.K xn W (.op o a b) σ H) :=
  PE.imp (pe_op (opR o) ha hb) fun σ H Q ⟨ρ, s, m, al, y, s', sc, e, q⟩ => by
    simp only [evE] at e
    exact ob_then sc e q fun ra s1 v H1 al1 e1 st t b e q => ob_then (sc.step st t) e q fun rb s2 v2 H2 al2 e2 st2 t2 b2 e q => (ofO_exc e).elim
theorem xc_neg (ha : PE X x (oB F KW X.K xn W a)) : PE X (.UnaryOp .USub x pos) (fun σ H _ => xE F KW X.K xn W (.neg a) σ H) :=
  PE.imp (pe_un un_neg ha) fun σ H Q ⟨ρ, s, m, al, y, s', sc, e, q⟩ => by
    simp only [evE] at e
    refine ob_then sc e q fun ra s1 v H1 al1 e1 st t b e q => ?_
    exfalso
    revert e; cases ra.u <;> (intro e; cases e)
theorem two_x {o : Cmp} {R : V → Hp → Prop} {σ : L2.St} {H : Hp} (h : xE F KW X.K xn W (.cmp o a b) σ H) : tOp (rCmp X.K o) (oB F KW X.K xn W a) (oB F KW X.K xn W b) σ H R := by
  obtain ⟨ρ, s, m, al, y, s', sc, e, q⟩ := h
  simp only [evE] at e
  exact ob_then sc e q fun ra s1 v H1 al1 e1 st t b e q => ob_then (sc.step st t) e q fun rb s2 v2 H2 al2 e2 st2 t2 b2 e q => by
    obtain ⟨_, _, e⟩ := bindO_exc e; cases e
theorem xc_cmp {o : Cmp} (hu : X.A.units + 65 < cLine) (hy : noSet y = true) (ha : PE X x (oB F KW X.K xn W a)) (hb : PE X y (oB F KW X.K xn W b)) : PE X (.Compare x [cmpSyn o] [y] pos) (fun σ H _ => xE F KW X.K xn W (.cmp o a b) σ H) :=
  PE.imp (pe_cmpR (cmpR hu o) ha hb (noSet_mark hy)) fun σ H Q h => two_x h
theorem xc_cmpT {o : Cmp} (hu : X.A.units + 65 < cLine) (hy : noSet y = true) (ha : PE X x (oB F KW X.K xn W a)) (hb : PE X y (oB F KW X.K xn W b)) : PT X (.Compare x [cmpSyn o] [y] pos) (fun σ H _ => xE F KW X.K xn W (.cmp o a b) σ H) :=
  PT.imp (pt_cmpR (cmpR hu o) ha hb (noSet_mark hy)) fun σ H Q h => two_x h
theorem chain_x {o p : Cmp} {σ : L2.St} {H : Hp} {R : V → Hp → Prop} (h : xE F KW X.K xn W (.chain o p a b c) σ H) : tChain (rCmp X.K o) (rCmp X.K p) (oB F KW X.K xn W a) (oB F KW X.K xn W b) (oB F KW X.K xn W c) σ H R := by
  obtain ⟨ρ, s, m, al, y, s', sc, e, q⟩ := h
  simp only [evE] at e
  refine ob_then sc e q fun ra s1 v H1 al1 e1 st1 t1 b1 e q => ob_then (sc.step st1 t1) e q fun rb s2 v2 H2 al2 e2 st2 t2 b2 e q => ?_
  obtain ⟨k, e3, e⟩ := bindO_exc e
  refine ⟨mU (mU m al1) al2, al2, _, _, k, b1.step st2 t1.sub, b2, e3, k, rfl, ?_⟩
  cases k with
  | false => cases e
  | true =>
    rw [if_pos rfl]
    simp only at e
    exact ob_then ((sc.step st1 t1).step st2 t2) e q fun rc s3 v3 H3 al3 e4 st3 t3 b3 e q => by
      obtain ⟨_, _, e⟩ := bindO_exc e; cases e
theorem xc_chain {o p : Cmp} (hu : X.A.units + 65 < cLine) (hz : noSet z = true) (ha : PE X x (oB F KW X.K xn W a)) (hb : PE X y (oB F KW X.K xn W b)) (hc : PE X z (oB F KW X.K xn W c)) :
    PE X (.Compare x [cmpSyn o, cmpSyn p] [y, z] pos) (fun σ H _ => xE F KW X.K xn W (.chain o p a b c) σ H) := PE.imp (pe_chain (cmpR hu o) (cmpR hu p) ha hb hc (noSet_mark hz)) fun σ H Q h => chain_x h
theorem xc_chainT {o p : Cmp} (hu : X.A.units + 65 < cLine) (hz : noSet z = true) (ha : PE X x (oB F KW X.K xn W a)) (hb : PE X y (oB F KW X.K xn W b)) (hc : PE X z (oB F KW X.K xn W c)) :
    PT X (.Compare x [cmpSyn o, cmpSyn p] [y, z] pos) (fun σ H _ => xE F KW X.K xn W (.chain o p a b c) σ H) := PT.imp (pt_chain (cmpR hu o) (cmpR hu p) ha hb hc (noSet_mark hz)) fun σ H Q h => chain_x h
theorem not_x {ρ : Env} {s s' : Sto} {y : Xc} (e : evE F KW (.not a) ρ s = .exc y s') : evE F KW a ρ s = .exc y s' := by
  simp only [evE] at e
  rcases bind_exc e with e | ⟨ra, s1, e1, e⟩
  · exact e
  · obtain ⟨_, _, e⟩ := bindO_exc e; cases e
theorem xc_not (ha : PE X x (fun σ H _ => xE F KW X.K xn W a σ H)) : PE X (.UnaryOp .Not x pos) (fun σ H _ => xE F KW X.K xn W (.not a) σ H) :=
  PE.imp (pe_notT ha) fun σ H Q ⟨ρ, s, m, al, y, s', sc, e, q⟩ => ⟨ρ, s, m, al, y, s', sc, not_x e, q⟩
theorem xc_notT (ha : PT X x (fun σ H _ => xE F KW X.K xn W a σ H)) : PT X (.UnaryOp .Not x pos) (fun σ H _ => xE F KW X.K xn W (.not a) σ H) :=
  PT.imp (pt_not ha) fun σ H Q ⟨ρ, s, m, al, y, s', sc, e, q⟩ => ⟨ρ, s, m, al, y, s', sc, not_x e, q⟩
theorem xc_and {rest : List Expr} (ha : PE X x (oM F KW X.K xn W md a)) (hb : PE X (.BoolOp .And (y :: rest) pos) (fun σ H _ => xE F KW X.K xn W b σ H)) : PE X (.BoolOp .And (x :: y :: rest) pos) (fun σ H _ => xE F KW X.K xn W (.and a b) σ H) :=
  PE.imp (pe_andT ha hb) fun σ H Q ⟨ρ, s, m, al, y, s', sc, e, q⟩ => by
    simp only [evE] at e
    refine om_then sc e q fun ra s1 v H1 al1 e1 st t br e q => ?_
    obtain ⟨k, h, e⟩ := bindO_exc e
    cases k with
    | true => exact ⟨true, br.truth h, by rw [if_pos rfl]; exact ⟨ρ, s1, _, al1, y, s', sc.step st t, e, q⟩⟩
    | false => cases e
theorem xc_or {rest : List Expr} (ha : PE X x (oM F KW X.K xn W md a)) (hb : PE X (.BoolOp .Or (y :: rest) pos) (fun σ H _ => xE F KW X.K xn W b σ H)) : PE X (.BoolOp .Or (x :: y :: rest) pos) (fun σ H _ => xE F KW X.K xn W (.or a b) σ H) :=
  PE.imp (pe_orT ha hb) fun σ H Q ⟨ρ, s, m, al, y, s', sc, e, q⟩ => by
    simp only [evE] at e
    refine om_then sc e q fun ra s1 v H1 al1 e1 st t br e q => ?_
    obtain ⟨k, h, e⟩ := bindO_exc e
    cases k with
    | false => exact ⟨false, br.truth h, by rw [if_neg Bool.false_ne_true]; exact ⟨ρ, s1, _, al1, y, s', sc.step st t, e, q⟩⟩
    | true => cases e
theorem xc_andT {rest : List Expr} (ha : PT X x (oT F KW X.K xn W a)) (hb : PW X (.BoolOp .And (y :: rest) pos) (fun σ H _ => xE F KW X.K xn W b σ H)) : PW X (.BoolOp .And (x :: y :: rest) pos) (fun σ H _ => xE F KW X.K xn W (.and a b) σ H) := by
  have h0 := pw_and (pos := pos) ha hb
  refine ⟨fun whole pins s0 σ H Q I h => h0.run whole pins s0 σ H Q I ?_⟩
  obtain ⟨ρ, s, m, al, y, s', sc, e, q⟩ := h
  simp only [evE] at e
  refine ot_then (f := fun k s => match k with | true => evE F KW b ρ s | false => .bad) sc ?_ q fun ra s1 kb H1 al1 e1 st t h e q => ?_
  · rcases bind_exc e with e1 | ⟨ra, s1, e1, e⟩
    · rw [e1]; rfl
    · rw [e1]
      obtain ⟨k, h, e⟩ := bindO_exc e
      cases k with
      | true => simp only [RE.bind, h, ofO]; exact e
      | false => cases e
  · cases kb with
    | true => exact iteT ⟨ρ, s1, _, al1, y, s', sc.step st t, e, q⟩
    | false => cases e
theorem xc_orT {rest : List Expr} (ha : PT X x (oT F KW X.K xn W a)) (hb : PW X (.BoolOp .Or (y :: rest) pos) (fun σ H _ => xE F KW X.K xn W b σ H)) : PW X (.BoolOp .Or (x :: y :: rest) pos) (fun σ H _ => xE F KW X.K xn W (.or a b) σ H) := by
  have h0 := pw_or (pos := pos) ha hb
  refine ⟨fun whole pins s0 σ H Q I h => h0.run whole pins s0 σ H Q I ?_⟩
  obtain ⟨ρ, s, m, al, y, s', sc, e, q⟩ := h
  simp only [evE] at e
  refine ot_then (f := fun k s => match k with | true => .bad | false => evE F KW b ρ s) sc ?_ q fun ra s1 kb H1 al1 e1 st t h e q => ?_
  · rcases bind_exc e with e1 | ⟨ra, s1, e1, e⟩
    · rw [e1]; rfl
    · rw [e1]
      obtain ⟨k, h, e⟩ := bindO_exc e
      cases k with
      | false => simp only [RE.bind, h, ofO]; exact e
      | true => cases e
  · cases kb with
    | false => exact iteF ⟨ρ, s1, _, al1, y, s', sc.step st t, e, q⟩
    | true => cases e
theorem xc_ife (ht : PT X x (oT F KW X.K xn W t)) (ha : PE X y (fun σ H _ => xE F KW X.K xn W a σ H)) (hb : PE X z (fun σ H _ => xE F KW X.K xn W b σ H)) : PE X (.IfExp x y z pos) (fun σ H _ => xE F KW X.K xn W (.ife t a b) σ H) :=
  PE.imp (pe_ifExp ht ha hb) fun σ H Q ⟨ρ, s, m, al, y, s', sc, e, q⟩ => by
    simp only [evE] at e
    refine ot_then sc e q fun ra s1 kb H1 al1 e1 st t h e q => ?_
    cases kb with
    | true => exact iteT ⟨ρ, s1, _, al1, y, s', sc.step st t, e, q⟩
    | false => exact iteF ⟨ρ, s1, _, al1, y, s', sc.step st t, e, q⟩
theorem xc_ifeT (ht : PT X x (oT F KW X.K xn W t)) (ha : PT X y (fun σ H _ => xE F KW X.K xn W a σ H)) (hb : PT X z (fun σ H _ => xE F KW X.K xn W b σ H)) : PT X (.IfExp x y z pos) (fun σ H _ => xE F KW X.K xn W (.ife t a b) σ H) :=
  PT.imp (pt_ife ht ha hb) fun σ H Q ⟨ρ, s, m, al, y, s', sc, e, q⟩ => by
    simp only [evE] at e
    refine ot_then sc e q fun ra s1 kb H1 al1 e1 st t h e q => ?_
    cases kb with
    | true => exact iteT ⟨ρ, s1, _, al1, y, s', sc.step st t, e, q⟩
    | false => exact iteF ⟨ρ, s1, _, al1, y, s', sc.step st t, e, q⟩
end
end Ev

end
section
set_option Elab.async false
set_option linter.all false
set_option maxRecDepth 100000
set_option maxHeartbeats 4000000
namespace Ev
open PySem L2 CompX
/-! ### calls, what they let out wished for at the slots -/
section
open PySem.Spec PyProof.Rows
variable {X : Cx} {k : Nat} {f : Addr} {fd : FuncData} {ps ks : List Str} {sp : Sp} {Es : L2.St → XK} {n : Str} {p pos : Pos} {e : Expr} {es : List Expr} {kws : List Keyword} {ta tk : TA} {g : List Value → List Value → List Value} {gV : List V → List V → List V}
theorem pe_call0S {ds : List Value} {dvs : List V} (G : FnOk X.prog X.w X.K X.mg X.base (L2.CX X.prog X.w) k f fd ps sp) (hr : Room k X.A) (hg : Gl X n) (hm : X.mg n = some (.ref f)) (hk : PySem.W.keepIn X.K (.ref f) = true) (hb : Binds X.K fd ps ds) (hd : Vals dvs ds) (hx : ∀ σ, PassesAt (L2.CX X.prog X.w) X σ (Es σ))
    (hdb : (n == ("__debug__" : Str)) = false) : PE X (.Call (.Name n p) [] [] pos) (fun σ H Q => sp dvs H Q (Es σ)) := by
  refine ⟨fun pins s σ H Q I h => ?_⟩
  refine wpAny_Call_Name_kw (ld_glob I hg hm ?_ hdb)
  refine PySem.W.callWith_K0 I.kIn hk ?_
  exact run_fnSD (vs := []) (us := []) G hr hb hd (hx σ) I .nil h
theorem run_fnkS {pins : List (Addr × Obj)} {σ : L2.St} {H : Hp} {s : Shared} {Q : VK} {us ws : List Value} {vs zs : List V} (G : FnOk X.prog X.w X.K X.mg X.base (L2.CX X.prog X.w) k f fd ps sp) (hr : Room k X.A) (hb : KBinds X.K fd ps ks g gV) (hx : PassesAt (L2.CX X.prog X.w) X σ (Es σ))
    (I : Inv X pins σ H s) (r : Vals vs us) (rz : Vals zs ws) (h : sp (gV vs zs) H Q (Es σ)) : wpAny (model X.prog X.w) X.A (call (.ref f) us (ks.zip ws)) (EP X pins σ Q) X.xe s := by
  have r2 := hb.rel r rz
  have hlen : (g us ws).length = ps.length := r2.length.symm.trans (G.len _ _ _ _ h)
  refine wpAny_call (codeAny_mono (G.run X.A X.stack s H ⟨us, ks.zip ws⟩ (g us ws) (gV vs zs) Q (Es σ) hr I.env0 (hb.to s us ws I.kIn hlen) r2 h) fun r s' hq => ?_)
  cases r with
  | error y => exact hx pins H s y s' I hq
  | ok fl => cases fl with
    | ret u => exact I.after hq
    | next => exact hq.elim
    | brk => exact hq.elim
    | cont => exact hq.elim
theorem pe_callK0S (G : FnOk X.prog X.w X.K X.mg X.base (L2.CX X.prog X.w) k f fd ps sp) (hr : Room k X.A) (hg : Gl X n) (hm : X.mg n = some (.ref f)) (hk : PySem.W.keepIn X.K (.ref f) = true) (hb : KBinds X.K fd ps ks g gV) (hx : ∀ σ, PassesAt (L2.CX X.prog X.w) X σ (Es σ))
    (hkw : PK X kws tk) (hall : (backToKw pos (keywordEach kws X.env)).all (·.1.isSome) = true) (hks : (backToKw pos (keywordEach kws X.env)).filterMap (·.1) = ks) (hdb : (n == ("__debug__" : Str)) = false) (hpl : (backToKw pos (keywordEach kws X.env)).any (·.1.isNone) = false) :
    PE X (.Call (.Name n p) [] kws pos) (fun σ H Q => tk σ H fun zs H2 => sp (gV [] zs) H2 Q (Es σ)) := by
  refine ⟨fun pins s σ H Q I h => ?_⟩
  refine PySem.wpAny_Call_Name_kw (ld_glob I hg hm ?_ hdb)
  refine PySem.W.callWith_KW0 (h₀ := X.base) I.ok.mod.kin hk hall ?_ (by show (false || _) = false; rw [hpl]; rfl)
  refine thn (hkw.run pos pins s σ H _ I h) fun ws s2 ⟨zs, H2, I2, rz, q2⟩ => ⟨I2.kIn, ?_⟩
  rw [hks]
  exact run_fnkS G hr hb (hx σ) I2 .nil rz q2
theorem pe_callKS (G : FnOk X.prog X.w X.K X.mg X.base (L2.CX X.prog X.w) k f fd ps sp) (hr : Room k X.A) (hg : Gl X n) (hm : X.mg n = some (.ref f)) (hk : PySem.W.keepIn X.K (.ref f) = true) (hb : KBinds X.K fd ps ks g gV) (hx : ∀ σ, PassesAt (L2.CX X.prog X.w) X σ (Es σ))
    (ha : PA X (e :: es) ta) (hkw : PK X kws tk) (hall : (backToKw pos (keywordEach kws X.env)).all (·.1.isSome) = true) (hks : (backToKw pos (keywordEach kws X.env)).filterMap (·.1) = ks) (hdb : (n == ("__debug__" : Str)) = false) (he : starEach (e :: es) X.env = (false, eval e X.env) :: starEach es X.env)
    (hpl : ((backTo pos (starEach (e :: es) X.env)).any (·.1) || (backToKw pos (keywordEach kws X.env)).any (·.1.isNone)) = false) :
    PE X (.Call (.Name n p) (e :: es) kws pos) (fun σ H Q => ta σ H fun vs H1 => tk σ H1 fun zs H2 => sp (gV vs zs) H2 Q (Es σ)) := by
  refine ⟨fun pins s σ H Q I h => ?_⟩
  refine wpAny_Call_Name_kw (ld_glob I hg hm ?_ hdb)
  refine PySem.W.callWith_KW (h₀ := X.base) I.ok.mod.kin hk hall (thn (ha.run pos pins s σ H _ I h) fun us s1 ⟨vs, H1, I1, r, q⟩ => ?_) hpl he
  refine thn (hkw.run pos pins s1 σ H1 _ I1 q) fun ws s2 ⟨zs, H2, I2, rz, q2⟩ => ⟨I2.kIn, ?_⟩
  rw [hks]
  exact run_fnkS G hr hb (hx σ) I2 r rz q2
end
theorem keep_fn {K : PySem.W.Frag} {a : Addr} {o : Obj} {n : Str} (h1 : K.lookup a = some o) (h2 : fnName o = some n) : PySem.W.keepIn K (.ref a) = true := by
  obtain ⟨c, d, dt, sl⟩ := o
  unfold PySem.W.keepIn
  simp only [h1]
  cases dt <;> first | rfl | (cases h2; done)
section
variable {X : Cx} {F : CallF} {KW : Kt} {T : Tb} {W : WX} {a b c t : C} {as bs : A} {x y z : Expr} {es : List Expr} {pos p : Pos} {md : Mo}
/-- the call itself raises -/
theorem sp_x {xn : Nat → Value × Str} {K : PySem.W.Frag} {f n : Nat} {us : List U} {vs : List V} {m : Addr → Prop} {al : List Addr} {s s' : Sto} {H : Hp} {σ : L2.St} {Q : VK} {y : Xc} (md : Md m H) (t : ST K m al s H) (sh : Shs K H m al us vs) (hl : us.length = n) (e : F f us s = .exc y s') (q : Xq K xn W σ m al H y s') : spF F xn K f n vs H Q (WE W σ) :=
  ⟨s, m, al, us, md, t, sh, hl, .inr ⟨y, s', e, fun H' al' st t' => q H' al' st t'⟩⟩
theorem xc_call {f : Nat} {fe : FnE} (C : CallOk T F X f fe) (tk : TkF X W) (hg : Gl X fe.name) (hd : (fe.name == ("__debug__" : Str)) = false) (hs : noStars es = true) (hl : lenA as = fe.np) (he : es.length = fe.np) (ha : PA X es (oAs F KW X.K (xnOf T X.mg) W as)) :
    PE X (.Call (.Name fe.name p) es [] pos) (fun σ H _ => xE F KW X.K (xnOf T X.mg) W (.call f as) σ H) := by
  obtain ⟨ad, fd, ps, d, G, hr, hm, hk, hb, hp⟩ := C.ex
  cases es with
  | nil =>
    refine PE.imp (pe_call0S (Es := WE W) G hr hg hm hk hb .nil (passF tk) hd) fun σ H Q ⟨ρ, s, m, al, y, s', sc, e, q⟩ => ?_
    simp only [evE] at e
    have ha0 : as = .nil := by
      cases as with
      | nil => rfl
      | cons c r => rw [← he] at hl; cases hl
    subst ha0
    simp only [evA, RE.bind] at e
    exact sp_x sc.md sc.t .nil he e q
  | cons x es =>
    have hs' := Bool.and_eq_true_iff.mp hs
    refine PE.imp (pe_callS (E := WE W) G hr hg hm hk hb (passF tk) ha hd (star_of hs'.1 _) (stars_plain _ _ hs'.2)) fun σ H Q ⟨ρ, s, m, al, y, s', sc, e, q⟩ => ?_
    simp only [evE] at e
    exact oas_then sc e q fun us s1 vs H1 al1 e1 st t sh e q => sp_x (sc.step st t).md t sh (by rw [evA_len as _ _ _ _ e1, hl]) e q
theorem xc_callD {f : Nat} {fe : FnE} {ds : List U} (C : DfOk T F X f fe ds) (tk : TkF X W) (hg : Gl X fe.name) (hd : (fe.name == ("__debug__" : Str)) = false) (hs : noStars es = true) (hl : lenA as = es.length) (he : es.length + ds.length = fe.np) (ha : PA X es (oAs F KW X.K (xnOf T X.mg) W as)) :
    PE X (.Call (.Name fe.name p) es [] pos) (fun σ H _ => xE F KW X.K (xnOf T X.mg) W (.callD f as ds) σ H) := by
  obtain ⟨ad, fd, ps, d, dv, G, hr, hm, hk, hb, hv, hp⟩ := C.ex
  cases es with
  | nil =>
    refine PE.imp (pe_call0S (Es := WE W) G hr hg hm hk hb hv (passF tk) hd) fun σ H Q ⟨ρ, s, m, al, y, s', sc, e, q⟩ => ?_
    simp only [evE] at e
    have ha0 : as = .nil := by
      cases as with
      | nil => rfl
      | cons c r => cases hl
    subst ha0
    simp only [evA, RE.bind, List.nil_append] at e
    exact sp_x sc.md sc.t (dv_sh hp) (by simpa using he) e q
  | cons x es =>
    have hs' := Bool.and_eq_true_iff.mp hs
    refine PE.imp (pe_callSD (E := WE W) G hr hg hm hk hb hv (passF tk) ha hd (star_of hs'.1 _) (stars_plain _ _ hs'.2)) fun σ H Q ⟨ρ, s, m, al, y, s', sc, e, q⟩ => ?_
    simp only [evE] at e
    exact oas_then sc e q fun us s1 vs H1 al1 e1 st t sh e q => sp_x (sc.step st t).md t (sh.append (dv_sh hp)) (by rw [List.length_append, evA_len as _ _ _ _ e1, hl, he]) e q
theorem xc_callK {kw : Nat} {ke : KwE} {fe : FnE} {kws : List Keyword} (C : KwOk T F KW X kw ke fe) (tk : TkF X W) (hg : Gl X fe.name) (hd : (fe.name == ("__debug__" : Str)) = false) (hs : noStars es = true) (he : es.length = ke.npos) (hla : lenA as = es.length) (hlb : lenA bs = ke.ks.length)
    (hk : kws.map (·.arg) = ke.ks.map some) (ha : PA X es (oAs F KW X.K (xnOf T X.mg) W as)) (hbs : PK X kws (oAs F KW X.K (xnOf T X.mg) W bs)) :
    PE X (.Call (.Name fe.name p) es kws pos) (fun σ H _ => xE F KW X.K (xnOf T X.mg) W (.callK ke.f kw as bs) σ H) := by
  obtain ⟨ad, fd, ps, d, g, gV, G, hr, hm, hkp, hb, hp, pm, epm, perm⟩ := C.ex
  obtain ⟨k1, k2, k3⟩ := kw_all pos X.env hk
  have key : ∀ {us : List U} {vs : List V} {σ : L2.St} {H : Hp} {Q : VK} {ρ : Env} {s s' : Sto} {m : Addr → Prop} {al : List Addr} {y : Xc}, us.length = ke.npos → SC X.K m al s ρ σ H → Shs X.K H m al us vs →
      ((evA F KW bs ρ s).bind fun ws s => (ofO s (match nth kw KW.ks with | some p => permU p (us ++ ws) | none => none)).bind fun us s => F ke.f us s) = .exc y s' → Xq X.K (xnOf T X.mg) W σ m al H y s' →
      oAs F KW X.K (xnOf T X.mg) W bs σ H fun zs H2 => spF F (xnOf T X.mg) X.K ke.f fe.np (gV vs zs) H2 Q (WE W σ) := fun {us vs σ H Q ρ s s' m al y} hu sc sh e q => by
    refine oas_then sc e q fun ws s2 zs H2 al2 e2 st2 t2 sh2 e q => ?_
    obtain ⟨xs, e3, e⟩ := bindO_exc e
    rw [epm] at e3
    have sc2 := sc.step st2 t2
    obtain ⟨lx, sx⟩ := perm X.K H2 _ al2 us ws vs zs xs hu (by rw [evA_len bs _ _ _ _ e2, hlb]) (sh.step st2 sc.t.sub) sh2 e3
    exact sp_x sc2.md t2 sx lx e q
  cases es with
  | nil =>
    refine PE.imp (pe_callK0S (Es := WE W) G hr hg hm hkp hb (passF tk) hbs k1 k2 hd k3) fun σ H Q ⟨ρ, s, m, al, y, s', sc, e, q⟩ => ?_
    have ha0 : as = .nil := by
      cases as with
      | nil => rfl
      | cons c r => cases hla
    subst ha0
    rw [evE.eq_def] at e
    simp only [evA] at e
    exact key (us := []) he sc .nil e q
  | cons x es =>
    have hs' := Bool.and_eq_true_iff.mp hs
    refine PE.imp (pe_callKS (Es := WE W) G hr hg hm hkp hb (passF tk) ha hbs k1 k2 hd (star_of hs'.1 _) (by rw [stars_plain pos X.env (es := x :: es) hs, k3]; rfl)) fun σ H Q ⟨ρ, s, m, al, y, s', sc, e, q⟩ => ?_
    rw [evE.eq_def] at e
    simp only at e
    exact oas_then sc e q fun us s1 vs H1 al1 e1 st t sh e q => key (by rw [evA_len as _ _ _ _ e1, hla, he]) (sc.step st t) sh e q
theorem xc_callV {ge : Expr} {g : Ev.C} (N : NmOk T KW X.K X.mg) (C : ∀ f fe, nth f T.fns = some fe → CallOk T F X f fe) (tk : TkF X W) (hg : PE X ge (oB F KW X.K (xnOf T X.mg) W g)) (hs : noStars (x :: es) = true) (ha : PA X (x :: es) (oAs F KW X.K (xnOf T X.mg) W as))
    (ht : eval (.Call ge (x :: es) [] pos) X.env = (do callWith pos (← eval ge X.env) [] (backTo pos (starEach (x :: es) X.env)) (backToKw pos (keywordEach [] X.env)))) : PE X (.Call ge (x :: es) [] pos) (fun σ H _ => xE F KW X.K (xnOf T X.mg) W (.callV g as) σ H) := by
  have hs' := Bool.and_eq_true_iff.mp hs
  refine PE.imp (pe_callVal (E := WE W) (passF tk) hg ha ht (star_of hs'.1 _) (stars_plain _ _ hs'.2)) fun σ H Q ⟨ρ, s, m, al, y, s', sc, e, q⟩ => ?_
  simp only [evE] at e
  refine ob_then sc e q fun rg s1 v H1 al1 e1 st1 t1 b1 e q => ?_
  obtain ⟨u, fl⟩ := rg
  cases u <;> simp only at e <;> try (cases e; done)
  rename_i f n
  obtain ⟨ad, o, rfl, h1, h2⟩ := b1.fnv
  refine ⟨ad, rfl, keep_fn h1 h2, ?_⟩
  refine oas_then (sc.step st1 t1) e q fun us s2 vs H2 al2 e2 st2 t2 sh e q => ?_
  cases hn : nameAt KW f n us.length with
  | false => rw [hn] at e; cases e
  | true =>
    rw [hn] at e
    simp only at e
    obtain ⟨d, a', fd, ps, ea, G, hr, hk, hb⟩ := fn_at_v N C hn b1
    cases ea
    exact ⟨d, fd, ps, _, G, hr, hb, sp_x ((sc.step st1 t1).step st2 t2).md t2 sh rfl e q⟩
/-! subscripts -/
theorem xc_ix {xn : Nat → Value × Str} (hs : PlainIx y) (ha : PE X x (oB F KW X.K xn W a)) (hb : PE X y (oB F KW X.K xn W b)) : PE X (.Subscript x y pos) (fun σ H _ => xE F KW X.K xn W (.ix a b) σ H) :=
  PE.imp (pe_ix ixR ha hb hs) fun σ H Q ⟨ρ, s, m, al, y, s', sc, e, q⟩ => by
    simp only [evE] at e
    exact ob_then sc e q fun ra s1 v H1 al1 e1 st t b e q => ob_then (sc.step st t) e q fun rb s2 v2 H2 al2 e2 st2 t2 b2 e q => by
      obtain ⟨_, _, e⟩ := bindO_exc e; cases e
theorem xc_sl {xn : Nat → Value × Str} {p2 : Pos} (ha : PE X x (oB F KW X.K xn W a)) (hb : PE X y (oB F KW X.K xn W b)) (hc : PE X z (oB F KW X.K xn W c)) : PE X (.Subscript x (.Slice (some y) (some z) none p2) pos) (fun σ H _ => xE F KW X.K xn W (.sl a b c) σ H) :=
  PE.imp (pe_slice slR ha (po_some hb) (po_some hc)) fun σ H Q ⟨ρ, s, m, al, y, s', sc, e, q⟩ => by
    simp only [evE] at e
    refine ob_then sc e q fun ra s1 v H1 al1 e1 st t b e q => ob_then (sc.step st t) e q fun rb s2 v2 H2 al2 e2 st2 t2 b2 e q => ?_
    obtain ⟨i, h4, e⟩ := bindO_exc e
    have h4 := bnd_int h4
    refine ⟨i, by rw [h4] at b2; exact b2.int, ?_⟩
    exact ob_then ((sc.step st t).step st2 t2) e q fun rc s3 v3 H3 al3 e3 st3 t3 b3 e q => by
      obtain ⟨_, _, e⟩ := bindO_exc e; exact (ofO_exc e).elim
theorem one_part {xn : Nat → Value × Str} {f : Rv → Int → Option Rv} {σ : L2.St} {H : Hp} {ρ : Env} {s s' : Sto} {m : Addr → Prop} {al : List Addr} {xx : Xc} (sc : SC X.K m al s ρ σ H)
    (e : ((evE F KW a ρ s).bind fun x s => (evE F KW b ρ s).bind fun y s => (ofO s (bnd y.u)).bind fun i s => ofO s (f x i)) = .exc xx s') (q : Xq X.K xn W σ m al H xx s') {R2 : V → V → Hp → Prop} : oB F KW X.K xn W a σ H fun v H1 => oB F KW X.K xn W b σ H1 fun w H2 => R2 v w H2 :=
  ob_then sc e q fun ra s1 v H1 al1 e1 st t b e q => ob_then (sc.step st t) e q fun rb s2 v2 H2 al2 e2 st2 t2 b2 e q => by
    obtain ⟨_, _, e⟩ := bindO_exc e; exact (ofO_exc e).elim
theorem xc_slL {xn : Nat → Value × Str} {p2 : Pos} (ha : PE X x (oB F KW X.K xn W a)) (hb : PE X y (oB F KW X.K xn W b)) : PE X (.Subscript x (.Slice (some y) none none p2) pos) (fun σ H _ => xE F KW X.K xn W (.slL a b) σ H) :=
  PE.imp (pe_slice slR ha (po_some hb) po_none) fun σ H Q ⟨ρ, s, m, al, y, s', sc, e, q⟩ => by
    simp only [evE] at e
    unfold tSl tPart tNoPart
    exact one_part sc e q
theorem xc_slH {xn : Nat → Value × Str} {p2 : Pos} (ha : PE X x (oB F KW X.K xn W a)) (hb : PE X y (oB F KW X.K xn W b)) : PE X (.Subscript x (.Slice none (some y) none p2) pos) (fun σ H _ => xE F KW X.K xn W (.slH a b) σ H) :=
  PE.imp (pe_slice slR ha po_none (po_some hb)) fun σ H Q ⟨ρ, s, m, al, y, s', sc, e, q⟩ => by
    simp only [evE] at e
    unfold tSl tPart tNoPart
    exact one_part sc e q
theorem xc_slS {xn : Nat → Value × Str} {st k : Nat} {p1 p3 : Pos} (h1 : 1 ≤ st) (ha : PE X x (oB F KW X.K xn W a)) (hb : PE X y (oB F KW X.K xn W b)) : PE X (.Subscript x (.Slice (some y) none (some (.Constant (.int st) k p1)) p3) pos) (fun σ H _ => xE F KW X.K xn W (.slS a b st) σ H) :=
  PE.imp (pe_stepL h1 ha hb) fun σ H Q ⟨ρ, s, m, al, y, s', sc, e, q⟩ => by
    simp only [evE] at e
    unfold tStepL tPart
    exact one_part sc e q
/-! built-ins -/
theorem bi_x {xn : Nat → Value × Str} {bi : Bi} {R : List V → Hp → Prop} {σ : L2.St} {H : Hp} (h : xE F KW X.K xn W (.bi bi as) σ H) : oAb F KW X.K xn W as σ H R := by
  obtain ⟨ρ, s, m, al, y, s', sc, e, q⟩ := h
  simp only [evE] at e
  exact oab_then sc e q fun us s1 vs H1 al1 e1 st t e q => (ofO_exc e).elim
theorem xc_biB {xn : Nat → Value × Str} {bi : Bi} {id : String} {n : Str} (hc : CallR X (.builtin id) (rBi X.K bi)) (hg : Gl X n) (hm : X.mg n = none) (hv : bootBuiltins n = some (.builtin id)) (hn : n ≠ "__name__") (hdb : (n == ("__debug__" : Str)) = false) (hne : es ≠ []) (hs : noStars es = true) (ha : PA X es (oAb F KW X.K xn W as)) :
    PE X (.Call (.Name n p) es [] pos) (fun σ H _ => xE F KW X.K xn W (.bi bi as) σ H) := by
  cases es with
  | nil => exact absurd rfl hne
  | cons e es =>
    have hs' := Bool.and_eq_true_iff.mp hs
    exact PE.imp (pe_callB hc hg hm hv ha hn hdb (star_of hs'.1 _) (stars_plain _ _ hs'.2)) fun σ H Q h => bi_x h
theorem xc_biT {xn : Nat → Value × Str} {bi : Bi} {id : String} {n : Str} (hc : CallR X (.type id) (rBi X.K bi)) (hg : Gl X n) (hm : X.mg n = none) (hv : bootBuiltins n = some (.type id)) (hn : n ≠ "__name__") (hdb : (n == ("__debug__" : Str)) = false) (hne : es ≠ []) (hs : noStars es = true) (ha : PA X es (oAb F KW X.K xn W as)) :
    PE X (.Call (.Name n p) es [] pos) (fun σ H _ => xE F KW X.K xn W (.bi bi as) σ H) := by
  cases es with
  | nil => exact absurd rfl hne
  | cons e es =>
    have hs' := Bool.and_eq_true_iff.mp hs
    exact PE.imp (pe_callTy hc hg hm hv ha hn hdb (star_of hs'.1 _) (stars_plain _ _ hs'.2)) fun σ H Q h => bi_x h
theorem bi1_x {xn : Nat → Value × Str} {bi : Bi} {R : VK} {σ : L2.St} {H : Hp} (h : xE F KW X.K xn W (.bi bi (.cons a .nil)) σ H) : xE F KW X.K xn W a σ H := by
  obtain ⟨ρ, s, m, al, y, s', sc, e, q⟩ := h
  simp only [evE, evA] at e
  rcases bind_exc e with e | ⟨us, s1, e1, e⟩
  · rcases bind_exc e with e | ⟨ra, s1, e1, e⟩
    · exact ⟨ρ, s, m, al, y, s', sc, e, q⟩
    · rcases bind_exc e with e | ⟨_, _, _, e⟩ <;> cases e
  · exact (ofO_exc e).elim
theorem xc_isi1 {xn : Nat → Value × Str} {t : Ty} {p1 p2 : Pos} (hg : Gl X "isinstance") (hm : X.mg "isinstance" = none) (hs : noStar x = true) (ha : PE X x (fun σ H _ => xE F KW X.K xn W a σ H)) (hg2 : Gl X (tyName t)) (hm2 : X.mg (tyName t) = none) :
    PE X (.Call (.Name "isinstance" p1) [x, .Name (tyName t) p2] [] pos) (fun σ H _ => xE F KW X.K xn W (.bi (.isinst [t]) (.cons a .nil)) σ H) :=
  PE.imp (pe_callB call_isi hg hm (by decide +kernel) (pa_cons ha (pa_cons (pe_ty hg2 hm2) pa_nil) (star_of hs _)) (by decide +kernel) (by decide +kernel) (star_of hs _)) fun σ H Q h => bi1_x (R := Q) h
theorem xc_isiT {xn : Nat → Value × Str} {ts : List Ty} {ys : List Expr} {n : Nat} {p1 p2 : Pos} (hg : Gl X "isinstance") (hm : X.mg "isinstance" = none) (hs : noStar x = true) (ha : PE X x (fun σ H _ => xE F KW X.K xn W a σ H)) (hy : PA X ys (tTys ts)) :
    PE X (.Call (.Name "isinstance" p1) [x, .Tuple ys n p2] [] pos) (fun σ H _ => xE F KW X.K xn W (.bi (.isinst ts) (.cons a .nil)) σ H) :=
  PE.imp (pe_callB call_isiT hg hm (by decide +kernel) (pa_cons ha (pa_cons (pe_tup hy) pa_nil) (star_of hs _)) (by decide +kernel) (by decide +kernel) (star_of hs _)) fun σ H Q h => bi1_x (R := Q) h
theorem xc_sortedSet {xn : Nat → Value × Str} {p1 p2 pos2 : Pos} (hu : X.A.units + 64 < cLine) (hc : X.calm = true) (hg : Gl X "sorted") (hm : X.mg "sorted" = none) (hg2 : Gl X "set") (hm2 : X.mg "set" = none) (hs : noStar x = true) (ha : PE X x (fun σ H _ => xE F KW X.K xn W a σ H)) :
    PE X (.Call (.Name "sorted" p1) [.Call (.Name "set" p2) [x] [] pos2] [] pos) (fun σ H _ => xE F KW X.K xn W (.bi .sortedSet (.cons a .nil)) σ H) := by
  have h1 := pe_callTy (p := p2) (pos := pos2) (cr_or (cr_setI hc) (cr_setOfT hc hu)) hg2 hm2 (by decide +kernel) (pa_cons ha pa_nil (star_of hs _)) (by decide +kernel) (by decide +kernel) (star_of hs _) rfl
  exact PE.imp (pe_callB (cr_or (cr_sortedSet hc) (cr_sortedT hc)) hg hm (by decide +kernel) (pa_cons h1 pa_nil) (by decide +kernel) (by decide +kernel)) fun σ H Q h => bi1_x (R := Q) h
theorem xc_listRange {xn : Nat → Value × Str} {p1 p2 pos2 : Pos} (hc : X.calm = true) (hg : Gl X "list") (hm : X.mg "list" = none) (hg2 : Gl X "range") (hm2 : X.mg "range" = none) (hs : noStar x = true) (ha : PE X x (fun σ H _ => xE F KW X.K xn W a σ H)) :
    PE X (.Call (.Name "list" p1) [.Call (.Name "range" p2) [x] [] pos2] [] pos) (fun σ H _ => xE F KW X.K xn W (.bi .listRange (.cons a .nil)) σ H) :=
  PE.imp (pe_listRg hc hg hm (prg_1 hg2 hm2 ha (star_of hs _))) fun σ H Q h => bi1_x (R := Q) h
/-! the store, dicts -/
theorem xc_sortedR {xn : Nat → Value × Str} {p1 : Pos} (hg : Gl X "sorted") (hm : X.mg "sorted" = none) (hs : noStar x = true) (ha : PE X x (oB F KW X.K xn W a)) : PE X (.Call (.Name "sorted" p1) [x] [] pos) (fun σ H _ => xE F KW X.K xn W (.sortedR a) σ H) := by
  refine PE.imp (pe_callB cr_srt hg hm (by decide +kernel) (pa_cons ha pa_nil (star_of hs _)) (by decide +kernel) (by decide +kernel) (star_of hs _) rfl) fun σ H Q ⟨ρ, s, m, al, y, s', sc, e, q⟩ => ?_
  simp only [evE] at e
  refine ob_then sc e q fun ra s1 v H1 al1 e1 st t b e q => ?_
  exfalso
  revert e
  repeat' split
  all_goals (intro e; cases e)
theorem refNe_x {xn : Nat → Value × Str} {R : V → Hp → Prop} {σ : L2.St} {H : Hp} (h : xE F KW X.K xn W (.refNe a) σ H) : tOp (rCmp X.K .ne) (oB F KW X.K xn W a) (tB F KW X.K (.lst .nil)) σ H R := by
  obtain ⟨ρ, s, m, al, y, s', sc, e, q⟩ := h
  simp only [evE] at e
  refine ob_then sc e q fun ra s1 v H1 al1 e1 st t b e q => ?_
  exfalso
  revert e
  split
  · split
    · intro e; obtain ⟨_, _, e⟩ := bindO_exc e; cases e
    · intro e; cases e
  · intro e; cases e
theorem xc_refNe {xn : Nat → Value × Str} {p2 : Pos} (hu : X.A.units + 65 < cLine) (ha : PE X x (oB F KW X.K xn W a)) (hb : PE X (.List [] p2) (tB F KW X.K (.lst .nil))) : PE X (.Compare x [.NotEq] [.List [] p2] pos) (fun σ H _ => xE F KW X.K xn W (.refNe a) σ H) :=
  PE.imp (pe_cmpR (cmpR hu .ne) ha hb (noSet_mark rfl)) fun σ H Q h => refNe_x h
theorem xc_refNeT {xn : Nat → Value × Str} {p2 : Pos} (hu : X.A.units + 65 < cLine) (ha : PE X x (oB F KW X.K xn W a)) (hb : PE X (.List [] p2) (tB F KW X.K (.lst .nil))) : PT X (.Compare x [.NotEq] [.List [] p2] pos) (fun σ H _ => xE F KW X.K xn W (.refNe a) σ H) :=
  PT.imp (pt_cmpR (cmpR hu .ne) ha hb (noSet_mark rfl)) fun σ H Q h => refNe_x h
theorem xc_dict1 {xn : Nat → Value × Str} {p1 : Pos} (hc : X.calm = true) (hg : Gl X "dict") (hm : X.mg "dict" = none) (hs : noStar x = true) (ha : PE X x (oB F KW X.K xn W a)) : PE X (.Call (.Name "dict" p1) [x] [] pos) (fun σ H _ => xE F KW X.K xn W (.dict1 a) σ H) := by
  refine PE.imp (pe_callTy (cr_dictX hc) hg hm (by decide +kernel) (pa_cons ha pa_nil (star_of hs _)) (by decide +kernel) (by decide +kernel) (star_of hs _) rfl) fun σ H Q ⟨ρ, s, m, al, y, s', sc, e, q⟩ => ?_
  simp only [evE] at e
  refine ob_then sc e q fun ra s1 v H1 al1 e1 st t b e q => ?_
  obtain ⟨_, _, e⟩ := bindO_exc e
  obtain ⟨_, _, e⟩ := bindO_exc e
  cases e
theorem xc_dGet {xn : Nat → Value × Str} (hu : X.A.units + 65 < cLine) (hs : NoSl y) (ha : PE X x (oB F KW X.K xn W a)) (hb : PE X y (oB F KW X.K xn W b)) : PE X (.Subscript x y pos) (fun σ H _ => xE F KW X.K xn W (.dGet a b) σ H) :=
  PE.imp (pe_dget (by omega) ha hb hs) fun σ H Q ⟨ρ, s, m, al, y, s', sc, e, q⟩ => by
    simp only [evE] at e
    exact ob_then sc e q fun ra s1 v H1 al1 e1 st t b e q => ob_then (sc.step st t) e q fun rb s2 v2 H2 al2 e2 st2 t2 b2 e q => by
      obtain ⟨_, _, e⟩ := bindO_exc e; cases e
theorem dIn_x {xn : Nat → Value × Str} {neg : Bool} {R : V → V → Hp → Prop} {σ : L2.St} {H : Hp} (h : xE F KW X.K xn W (.dIn neg a b) σ H) : oB F KW X.K xn W a σ H fun y H1 => oB F KW X.K xn W b σ H1 fun x H2 => R y x H2 := by
  obtain ⟨ρ, s, m, al, y, s', sc, e, q⟩ := h
  simp only [evE] at e
  exact ob_then sc e q fun ra s1 v H1 al1 e1 st t b e q => ob_then (sc.step st t) e q fun rb s2 v2 H2 al2 e2 st2 t2 b2 e q => by
    obtain ⟨_, _, e⟩ := bindO_exc e; cases e
theorem xc_dIn {xn : Nat → Value × Str} (hu : X.A.units + 65 < cLine) (hy : noSet y = true) (ha : PE X x (oB F KW X.K xn W a)) (hb : PE X y (oB F KW X.K xn W b)) : PE X (.Compare x [.In] [y] pos) (fun σ H _ => xE F KW X.K xn W (.dIn false a b) σ H) :=
  PE.imp (pe_cmp (pc_din (by omega) ha hb) (noSet_mark hy)) fun σ H Q h => dIn_x h
theorem xc_dNotIn {xn : Nat → Value × Str} (hu : X.A.units + 65 < cLine) (hy : noSet y = true) (ha : PE X x (oB F KW X.K xn W a)) (hb : PE X y (oB F KW X.K xn W b)) : PE X (.Compare x [.NotIn] [y] pos) (fun σ H _ => xE F KW X.K xn W (.dIn true a b) σ H) :=
  PE.imp (pe_cmp (pc_dnotin (by omega) ha hb) (noSet_mark hy)) fun σ H Q h => dIn_x h
theorem xc_dInT {xn : Nat → Value × Str} (hu : X.A.units + 65 < cLine) (hy : noSet y = true) (ha : PE X x (oB F KW X.K xn W a)) (hb : PE X y (oB F KW X.K xn W b)) : PT X (.Compare x [.In] [y] pos) (fun σ H _ => xE F KW X.K xn W (.dIn false a b) σ H) :=
  PT.imp (pt_cmp (pc_din (by omega) ha hb) (noSet_mark hy)) fun σ H Q h => dIn_x h
theorem xc_dNotInT {xn : Nat → Value × Str} (hu : X.A.units + 65 < cLine) (hy : noSet y = true) (ha : PE X x (oB F KW X.K xn W a)) (hb : PE X y (oB F KW X.K xn W b)) : PT X (.Compare x [.NotIn] [y] pos) (fun σ H _ => xE F KW X.K xn W (.dIn true a b) σ H) :=
  PT.imp (pt_cmp (pc_dnotin (by omega) ha hb) (noSet_mark hy)) fun σ H Q h => dIn_x h
theorem mth_x {xn : Nat → Value × Str} {l : Bool} {Q : VK} {r : List V → Hp → VK → Prop} {σ : L2.St} {H : Hp} (h : xE F KW X.K xn W (.mth l a b) σ H) : tCB r (tCons (oB F KW X.K xn W a) (tCons (oB F KW X.K xn W b) tNil)) σ H Q := by
  obtain ⟨ρ, s, m, al, y, s', sc, e, q⟩ := h
  simp only [evE] at e
  exact ob_then sc e q fun ra s1 v H1 al1 e1 st t b e q => ob_then (sc.step st t) e q fun rb s2 v2 H2 al2 e2 st2 t2 b2 e q => (ofO_exc e).elim
theorem xc_gcd {xn : Nat → Value × Str} {p1 : Pos} (hg : Gl X "gcd") (hm : X.mg "gcd" = some (.builtin "math.gcd")) (hs : noStar x = true) (hs2 : noStar y = true) (ha : PE X x (oB F KW X.K xn W a)) (hb : PE X y (oB F KW X.K xn W b)) : PE X (.Call (.Name "gcd" p1) [x, y] [] pos) (fun σ H _ => xE F KW X.K xn W (.mth false a b) σ H) :=
  PE.imp (pe_callBfun cr_gcd hg hm (pa_cons ha (pa_cons hb pa_nil (star_of hs2 _)) (star_of hs _)) (by decide +kernel) (star_of hs _) (by rw [star_of hs2]; rfl)) fun σ H Q h => mth_x h
theorem xc_lcm {xn : Nat → Value × Str} {p1 : Pos} (hg : Gl X "lcm") (hm : X.mg "lcm" = some (.builtin "math.lcm")) (hs : noStar x = true) (hs2 : noStar y = true) (ha : PE X x (oB F KW X.K xn W a)) (hb : PE X y (oB F KW X.K xn W b)) : PE X (.Call (.Name "lcm" p1) [x, y] [] pos) (fun σ H _ => xE F KW X.K xn W (.mth true a b) σ H) :=
  PE.imp (pe_callBfun cr_lcm hg hm (pa_cons ha (pa_cons hb pa_nil (star_of hs2 _)) (star_of hs _)) (by decide +kernel) (star_of hs _) (by rw [star_of hs2]; rfl)) fun σ H Q h => mth_x h
theorem xc_dictT {xn : Nat → Value × Str} {p1 : Pos} (hu : X.A.units + 65 < cLine) (hc : X.calm = true) (hg : Gl X "dict") (hm : X.mg "dict" = none) (hs : noStar x = true) (ha : PE X x (oB F KW X.K xn W a)) : PE X (.Call (.Name "dict" p1) [x] [] pos) (fun σ H _ => xE F KW X.K xn W (.dictT a) σ H) := by
  refine PE.imp (pe_callTy (cr_dictT hc hu) hg hm (by decide +kernel) (pa_cons ha pa_nil (star_of hs _)) (by decide +kernel) (by decide +kernel) (star_of hs _) rfl) fun σ H Q ⟨ρ, s, m, al, y, s', sc, e, q⟩ => ?_
  simp only [evE] at e
  refine ob_then sc e q fun ra s1 v H1 al1 e1 st t b e q => ?_
  obtain ⟨_, _, e⟩ := bindO_exc e
  obtain ⟨_, _, e⟩ := bindO_exc e
  cases e
theorem dKIn_x {xn : Nat → Value × Str} {neg : Bool} {R : V → V → Hp → Prop} {σ : L2.St} {H : Hp} (h : xE F KW X.K xn W (.dInT neg a b) σ H) : oB F KW X.K xn W a σ H fun y H1 => oB F KW X.K xn W b σ H1 fun x H2 => R y x H2 := by
  obtain ⟨ρ, s, m, al, y, s', sc, e, q⟩ := h
  simp only [evE] at e
  exact ob_then sc e q fun ra s1 v H1 al1 e1 st t b e q => ob_then (sc.step st t) e q fun rb s2 v2 H2 al2 e2 st2 t2 b2 e q => by
    obtain ⟨_, _, e⟩ := bindO_exc e; cases e
theorem xc_dKIn {xn : Nat → Value × Str} (hu : X.A.units + 65 < cLine) (hy : noSet y = true) (ha : PE X x (oB F KW X.K xn W a)) (hb : PE X y (oB F KW X.K xn W b)) : PE X (.Compare x [.In] [y] pos) (fun σ H _ => xE F KW X.K xn W (.dInT false a b) σ H) :=
  PE.imp (pe_cmp (pc_dinT (by omega) ha hb) (noSet_mark hy)) fun σ H Q h => dKIn_x h
theorem xc_dKNotIn {xn : Nat → Value × Str} (hu : X.A.units + 65 < cLine) (hy : noSet y = true) (ha : PE X x (oB F KW X.K xn W a)) (hb : PE X y (oB F KW X.K xn W b)) : PE X (.Compare x [.NotIn] [y] pos) (fun σ H _ => xE F KW X.K xn W (.dInT true a b) σ H) :=
  PE.imp (pe_cmp (pc_dnotinT (by omega) ha hb) (noSet_mark hy)) fun σ H Q h => dKIn_x h
theorem xc_dKInT {xn : Nat → Value × Str} (hu : X.A.units + 65 < cLine) (hy : noSet y = true) (ha : PE X x (oB F KW X.K xn W a)) (hb : PE X y (oB F KW X.K xn W b)) : PT X (.Compare x [.In] [y] pos) (fun σ H _ => xE F KW X.K xn W (.dInT false a b) σ H) :=
  PT.imp (pt_cmp (pc_dinT (by omega) ha hb) (noSet_mark hy)) fun σ H Q h => dKIn_x h
theorem xc_dKNotInT {xn : Nat → Value × Str} (hu : X.A.units + 65 < cLine) (hy : noSet y = true) (ha : PE X x (oB F KW X.K xn W a)) (hb : PE X y (oB F KW X.K xn W b)) : PT X (.Compare x [.NotIn] [y] pos) (fun σ H _ => xE F KW X.K xn W (.dInT true a b) σ H) :=
  PT.imp (pt_cmp (pc_dnotinT (by omega) ha hb) (noSet_mark hy)) fun σ H Q h => dKIn_x h
/-! iterators -/
section
variable {tg : Expr} {xn : Nat → Value × Str}
theorem xi_seq (g : PE X x (fun σ H _ => xE F KW X.K xn W a σ H)) : PI X tg x (fun σ H _ => xI F KW X.K xn W (.seq a) σ H) :=
  PI.imp (pi_seq g) fun σ H R ⟨ρ, s, m, al, y, s', sc, e, q⟩ => by
    simp only [evI] at e
    rcases bind_exc e with e | ⟨ra, s1, e1, e⟩
    · exact ⟨ρ, s, m, al, y, s', sc, e, q⟩
    · exact (ofO_exc e).elim
theorem xi_enum {elts : List Expr} {kk : Nat} {tpos : Pos} (hg : Gl X "enumerate") (hmg : X.mg "enumerate" = none) (hs : noStar x = true) (g : PE X x (fun σ H _ => xE F KW X.K xn W a σ H)) : PI X (.Tuple elts kk tpos) (.Call (.Name "enumerate" p) [x] [] pos) (fun σ H _ => xI F KW X.K xn W (.enum a) σ H) :=
  PI.imp (pi_enk hg hmg (pa_cons g pa_nil (star_of hs _)) (star_of hs _)) fun σ H R ⟨ρ, s, m, al, y, s', sc, e, q⟩ => by
    simp only [evI] at e
    rcases bind_exc e with e | ⟨ra, s1, e1, e⟩
    · exact ⟨ρ, s, m, al, y, s', sc, e, q⟩
    · obtain ⟨_, _, e⟩ := bindO_exc e; cases e
theorem xi_zip2 {elts : List Expr} {kk : Nat} {tpos : Pos} (hm : md ≠ .tst) (hg : Gl X "zip") (hmg : X.mg "zip" = none) (hs : noStar x = true) (hs2 : noStar y = true) (g : PE X x (oM F KW X.K xn W md a)) (g2 : PE X y (fun σ H _ => xE F KW X.K xn W b σ H)) :
    PI X (.Tuple elts kk tpos) (.Call (.Name "zip" p) [x, y] [] pos) (fun σ H _ => xI F KW X.K xn W (.zip2 a b) σ H) :=
  PI.imp (pi_zk hg hmg (pa_cons g (pa_cons g2 pa_nil (star_of hs2 _)) (star_of hs _)) (star_of hs _) (by rw [star_of hs2]; rfl)) fun σ H R ⟨ρ, s, m, al, y, s', sc, e, q⟩ => by
    simp only [evI] at e
    refine om_then sc e q fun ra s1 v H1 al1 e1 st t b e q => ?_
    rcases bind_exc e with e | ⟨rb, s2, e2, e⟩
    · exact ⟨ρ, s1, _, al1, y, s', sc.step st t, e, q⟩
    · obtain ⟨_, _, e⟩ := bindO_exc e
      obtain ⟨_, _, e⟩ := bindO_exc e
      cases e
theorem xi_zips {nm : Str} {p2 tpos : Pos} (hg : Gl X "zip") (hmg : X.mg "zip" = none) (g : PE X x (fun σ H _ => xE F KW X.K xn W a σ H)) : PI X (.Name nm tpos) (.Call (.Name "zip" p) [.Starred x p2] [] pos) (fun σ H _ => xI F KW X.K xn W (.zips a) σ H) :=
  PI.imp (pi_zn hg hmg g) fun σ H R ⟨ρ, s, m, al, y, s', sc, e, q⟩ => by
    simp only [evI] at e
    rcases bind_exc e with e | ⟨ra, s1, e1, e⟩
    · exact ⟨ρ, s, m, al, y, s', sc, e, q⟩
    · obtain ⟨_, _, e⟩ := bindO_exc e
      obtain ⟨rs, _, e⟩ := bindO_exc e
      exfalso
      revert e
      repeat' split
      all_goals (intro e; cases e)
theorem xi_enumZ {elts : List Expr} {kk : Nat} {p2 p3 pos2 tpos : Pos} (hg0 : Gl X "enumerate") (hmg0 : X.mg "enumerate" = none) (hg : Gl X "zip") (hmg : X.mg "zip" = none) (g : PE X x (fun σ H _ => xE F KW X.K xn W a σ H)) : PI X (.Tuple elts kk tpos) (.Call (.Name "enumerate" p3) [.Call (.Name "zip" p) [.Starred x p2] [] pos] [] pos2) (fun σ H _ => xI F KW X.K xn W (.enumZ a) σ H) :=
  PI.imp (pi_enz hg0 hmg0 hg hmg g) fun σ H R ⟨ρ, s, m, al, y, s', sc, e, q⟩ => by
    simp only [evI] at e
    rcases bind_exc e with e | ⟨ra, s1, e1, e⟩
    · exact ⟨ρ, s, m, al, y, s', sc, e, q⟩
    · obtain ⟨_, _, e⟩ := bindO_exc e
      obtain ⟨rs, _, e⟩ := bindO_exc e
      exfalso
      revert e
      repeat' split
      all_goals (intro e; cases e)
theorem xi_rng1 (hg : Gl X "range") (hmg : X.mg "range" = none) (hs : noStar x = true) (g : PE X x (fun σ H _ => xE F KW X.K xn W a σ H)) : PI X tg (.Call (.Name "range" p) [x] [] pos) (fun σ H _ => xI F KW X.K xn W (.rng1 a) σ H) :=
  PI.imp (pi_range1 hg hmg (pa_cons g pa_nil (star_of hs _)) (star_of hs _)) fun σ H R ⟨ρ, s, m, al, y, s', sc, e, q⟩ => by
    simp only [evI] at e
    rcases bind_exc e with e | ⟨ra, s1, e1, e⟩
    · exact ⟨ρ, s, m, al, y, s', sc, e, q⟩
    · exfalso
      revert e
      repeat' split
      all_goals (intro e; cases e)
theorem xi_rng2 (hg : Gl X "range") (hmg : X.mg "range" = none) (hs : noStar x = true) (hs2 : noStar y = true) (g : PE X x (oB F KW X.K xn W a)) (g2 : PE X y (fun σ H _ => xE F KW X.K xn W b σ H)) : PI X tg (.Call (.Name "range" p) [x, y] [] pos) (fun σ H _ => xI F KW X.K xn W (.rng2 a b) σ H) :=
  PI.imp (pi_range2 hg hmg (pa_cons g (pa_cons g2 pa_nil (star_of hs2 _)) (star_of hs _)) (by rw [star_of hs, star_of hs2]; rfl) (by rw [star_of hs2]; rfl)) fun σ H R ⟨ρ, s, m, al, y, s', sc, e, q⟩ => by
    simp only [evI] at e
    refine ob_then sc e q fun ra s1 v H1 al1 e1 st t b e q => ?_
    rcases bind_exc e with e | ⟨rb, s2, e2, e⟩
    · exact ⟨ρ, s1, _, al1, y, s', sc.step st t, e, q⟩
    · exfalso
      revert e
      repeat' split
      all_goals (intro e; cases e)
end
end
end Ev

end
section
set_option Elab.async false
set_option linter.all false
set_option maxRecDepth 100000
set_option maxHeartbeats 4000000
namespace Ev
open PySem L2 CompX
theorem turn_exc {F : CallF} {KW : Kt} {tg : Tg} {t e : C} {ρw : Env} {u : U} {s s' : Sto} {y : Xc} (h : turnF F KW tg t e ρw u s = .exc y s') : ∃ ρ1, bindTg tg u ρw = some ρ1 ∧ (evE F KW t ρ1 s = .exc y s' ∨ ∃ ra s1, evE F KW t ρ1 s = .ok ra s1 ∧ truth ra.u = some true ∧ evE F KW e ρ1 s1 = .exc y s') := by
  unfold turnF at h
  cases b : bindTg tg u ρw with
  | none => rw [b] at h; cases h
  | some ρ1 =>
    rw [b] at h
    simp only at h
    refine ⟨ρ1, rfl, ?_⟩
    rcases bind_exc h with h | ⟨ra, s1, e1, h⟩
    · exact .inl h
    · obtain ⟨k, hk, h⟩ := bindO_exc h
      cases k with
      | false => cases h
      | true =>
        refine .inr ⟨ra, s1, e1, hk, ?_⟩
        rcases bind_exc h with h | ⟨_, _, _, h⟩
        · exact h
        · cases h
theorem compL_exc {f : U → Sto → RE (Option U)} {u : U} {us : List U} {s s' : Sto} {y : Xc} (h : compL f (u :: us) s = .exc y s') : f u s = .exc y s' ∨ ∃ o s1, f u s = .ok o s1 ∧ compL f us s1 = .exc y s' := by
  simp only [compL] at h
  cases q : f u s with
  | bad => rw [q] at h; cases h
  | exc x s => rw [q] at h; cases h; exact .inl rfl
  | ok o s1 =>
    rw [q] at h
    refine .inr ⟨o, s1, rfl, ?_⟩
    cases o with
    | none => exact h
    | some y =>
      simp only at h
      cases q2 : compL f us s1 with
      | bad => rw [q2] at h; cases h
      | exc x s => rw [q2] at h; exact h
      | ok zs s2 => rw [q2] at h; cases h
section
variable {X : Cx} {F : CallF} {KW : Kt} {xn : Nat → Value × Str} {W : WX}
theorem lcx_in {w vs : List Nat} {tg : Tg} {it : Ev.It} {t e : C} (hw : ∀ σ, L2.wipe σ w = L2.wipe σ vs) (hs : ∀ j ∈ tgSlots tg, j ∈ w) :
    ∀ σ H (Q : VK), xE F KW X.K xn W (.comp w tg it t e) σ H → tLcX W (oI F KW X.K xn W .brw it) (tG X.K tg) (fun W' => oT F KW X.K xn W' t) (fun W' => oE F KW X.K xn W' e) vs σ H Q := by
  rintro σ H Q ⟨ρ, s, m, al, xx, s', sc, ev, q⟩
  simp only [evE] at ev
  rcases bind_exc ev with ev | ⟨us, s1, e1, ev⟩
  · exact .inr ⟨ρ, s, m, al, xx, s', sc, ev, q⟩
  cases hl : inLim us with
  | false => rw [hl] at ev; cases ev
  | true =>
  rw [hl] at ev
  simp only at ev
  have e2 : compL (turnF F KW tg t e (wipeE w ρ)) us s1 = .exc xx s' := by
    rcases bind_exc ev with ev | ⟨_, _, _, ev⟩
    · exact ev
    · cases ev
  have hlim : us.length ≤ lim := of_decide_eq_true hl
  refine .inl ⟨ρ, s, m, al, us, s1, sc, e1, fun J H1 al1 st1 t1 yl => fun D hD => ?_⟩
  have sc1 := sc.step st1 t1
  let m' : List Addr → Addr → Prop := fun l a => mU m l a ∨ a = D
  have hm : ∀ {Hi : Hp} {ali : List Addr}, Step H1 Hi al1 ali → ∀ b o, H1 b = some o → ¬ mU m al1 b → ¬ m' ali b := fun st b o e n z => by
    rcases z with (z | z) | z
    · exact n (.inl z)
    · obtain ⟨g, eg, hg⟩ := st.pre
      rw [eg] at z
      rcases List.mem_append.mp z with z | z
      · exact n (.inr z)
      · rw [hg b z] at e; cases e
    · rw [z, hD] at e; cases e
  have pp : ∀ {Hi : Hp} {ali : List Addr}, Step H1 Hi al1 ali → PP (mU m al1) al1 .brw H1 Hi := fun st => st.ext
  have wk : ∀ {l1 l2 : List Addr} b, m' l2 b → mU (m' l1) l2 b := fun b z => by
    rcases z with (z | z) | z
    · exact .inl (.inl (.inl z))
    · exact .inr z
    · exact .inl (.inr z)
  have wq : ∀ {l1 l2 : List Addr} b, mU m l2 b → mU (m' l1) l2 b := fun b z => z.elim (fun z => .inl (.inl (.inl z))) .inr
  -- what is wished, seen from within
  have xq : ∀ {Hi : Hp} {ali : List Addr} {σ2 : L2.St}, Step H1 Hi al1 ali → Xq X.K xn (fun c d _ h => W c d σ h) σ2 (m' ali) ali Hi xx s' := fun st H' al' st' t' =>
    (q H' al' (st1.trans (st.trans st')) (t'.weak wq fun _ z => .inr z)).mono wq
  let Iv : Nat → Hp → Prop := fun i Hi => ∃ si ali done acc, compL (turnF F KW tg t e (wipeE w ρ)) (us.drop i) si = .exc xx s' ∧ done.length ≤ i ∧ Step H1 Hi al1 ali ∧ D ∉ ali ∧ ST X.K (m' ali) ali si Hi ∧ Hi D = some (.lst acc) ∧ Shs X.K Hi (m' ali) ali done acc
  refine ⟨fun i n Hi => n = us.length - i ∧ i ≤ us.length ∧ Iv i Hi, ⟨us.length, rfl, Nat.zero_le _, s1, al1, [], [], e2, Nat.le_refl _, (Grow.new hD).step, ?_, ?_, upd_same, .nil⟩, ?_⟩
  · intro z
    obtain ⟨o, e⟩ := t1.trk z
    rw [hD] at e; cases e
  · have t2 : ST X.K (m' al1) al1 s1 H1 := ⟨t1.len, t1.nd, fun a ha => .inl (.inr ha), fun k us e => t1.at_ k us e⟩
    exact t2.grow (Grow.new hD)
  · rintro i n Hi ⟨hn, hi, si, ali, done, acc, e3, hd, st, hDa, t2, hDh, sh⟩
    by_cases lt : i < us.length
    · have dr : us.drop i = us[i] :: us.drop (i + 1) := List.drop_eq_getElem_cons lt
      rw [dr] at e3
      have eb : ∃ ρ1, bindTg tg us[i] (wipeE w ρ) = some ρ1 := by
        rcases compL_exc e3 with ef | ⟨o, sa0, ef, _⟩
        · obtain ⟨ρ1, eb, _⟩ := turn_exc ef; exact ⟨ρ1, eb⟩
        · obtain ⟨ρ1, _, _, _, eb, _⟩ := turn_ok ef; exact ⟨ρ1, eb⟩
      obtain ⟨ρ1, eb⟩ := eb
      refine .inr ⟨yl.go i Hi (pp st) lt, Iv (i + 1), fun H' h' => ⟨us.length - (i + 1), by omega, rfl, lt, h'⟩, fun x H3 hy => ?_⟩
      obtain ⟨g3, hD3, hx⟩ : Grow Hi H3 ∧ H3 D = some (.lst acc) ∧ Sh X.K H3 (m' ali) ali us[i] x := by
        have nm : ∀ {b : Addr}, Hi b = none → ¬ m' ali b := fun {b} hb z => by
          rcases z with (z | z) | z
          · obtain ⟨o, e⟩ := sc1.r.md _ (.inl z)
            obtain ⟨o', e'⟩ := st.dom _ _ e
            rw [hb] at e'; cases e'
          · obtain ⟨o, e⟩ := t2.trk z
            rw [hb] at e; cases e
          · rw [z, hDh] at hb; cases hb
        have up : ∀ b o, H1 b = some o → ¬ mU m al1 b → Hi b = some o := fun b o e n => st.ext b o e fun z => n (.inr z)
        have key := yl.yl i Hi x H3 us[i] (pp st) (List.getElem?_eq_getElem lt) hy
        generalize us[i] = u0 at key
        cases key with
        | old h1 h2 =>
          subst h1
          exact ⟨Grow.refl, hDh, h2.mono up (hm st) st.nth⟩
        | new h1 h2 h3 =>
          subst h2
          exact ⟨Grow.new h1, Grow.new h1 _ _ hDh, .tup upd_same (nm h1) ((h3.mono up (hm st) st.nth).grow (Grow.new h1))⟩
        | @new2 w0 y0 ws0 xs0 T T2 its its2 h1 hne h2 h3 h4 h5 =>
          subst h3
          have g1 := Grow.new (o := tupO its xs0) h1
          have hT2 : upd Hi T (tupO its xs0) T2 = none := (upd_ne hne).trans h2
          have g2 := Grow.new (o := tupO its2 [y0, .ref T]) hT2
          have g := g1.trans g2
          exact ⟨g, g _ _ hDh, .tup upd_same (nm h2) (.cons ((h4.mono up (hm st) st.nth).grow g) (.cons (.tup (g2 _ _ upd_same) (nm h1) ((h5.mono up (hm st) st.nth).grow g)) .nil))⟩
      have st3 : Step H1 H3 al1 ali := st.grow g3
      have t3 := t2.grow g3
      have r3 : SR X.K (m' ali) ali (wipeE w ρ) (L2.wipe σ vs) H3 := by
        rw [← hw]
        refine (sc1.r.over st3 t1.sub (hm st) (fun b z => ?_) fun b z => ?_).wipe w
        · rcases z with (z | z) | z
          · obtain ⟨o, e⟩ := sc1.r.md _ (.inl z)
            exact st3.dom _ _ e
          · exact t3.trk z
          · rw [z]; exact ⟨_, hD3⟩
        · exact z.elim (fun z => .inl (.inl z)) fun z => .inl (.inr (st.sub _ z))
      refine ⟨wipeE w ρ, m' ali, ali, us[i], ρ1, t3.sub, r3, hx, eb, fun σ2 r2 off => ⟨by rw [← hw σ2, off.wipe hs, hw, wipe_wipe], ?_⟩⟩
      have sc2 : SC X.K (m' ali) ali si ρ1 σ2 H3 := ⟨t3, r2⟩
      -- a turn that goes on
      have more : ∀ {o : Option U} {sa0 : Sto}, turnF F KW tg t e (wipeE w ρ) us[i] si = .ok o sa0 → compL (turnF F KW tg t e (wipeE w ρ)) (us.drop (i + 1)) sa0 = .exc xx s' →
          tT F KW X.K t σ2 H3 fun b H4 => if b = true then oE F KW X.K xn (fun c d _ h => W c d σ h) e σ2 H4 fun y H5 => ∃ acc, H5 D = some (.lst acc) ∧ acc.length < sizeLine ∧ Iv (i + 1) (upd H5 D (.lst (acc ++ [y]))) else Iv (i + 1) H4 := fun {o sa0} ef er => by
        obtain ⟨ρ1', ra, sa, k, eb', et, etr, alt⟩ := turn_ok ef
        rw [eb] at eb'
        cases eb'
        refine ⟨ρ1, si, m' ali, ali, ra, sa, k, sc2, et, etr, fun H4 al4 st4 t4 => ?_⟩
        have hD4 := st4.ext _ _ hD3 hDa
        have hDa4 := st4.notin hD3 hDa
        have sh4 := (sh.grow g3).step st4 t3.sub
        rcases alt with ⟨rfl, rb, ee, rfl⟩ | ⟨rfl, rfl, rfl⟩
        · show oE F KW X.K xn (fun c d _ h => W c d σ h) e σ2 H4 _
          refine .inl ⟨ρ1, sa, mU (m' ali) al4, al4, rb, sa0, sc2.step st4 t4, ee, fun v H5 al5 st5 t5 vr => ?_⟩
          have hD5 := st5.ext _ _ hD4 hDa4
          have hDa5 := st5.notin hD4 hDa4
          have sh5 := sh4.step st5 t4.sub
          have w5 : ∀ b, m' al5 b → mU (mU (m' ali) al4) al5 b := fun b z => by
            rcases z with (z | z) | z
            · exact .inl (.inl (.inl (.inl z)))
            · exact .inr z
            · exact .inl (.inl (.inr z))
          have mD : m' al5 D := .inr rfl
          refine ⟨acc, hD5, ?_, sa0, al5, done ++ [rb.u], acc ++ [v], er, ?_, ?_, hDa5, (t5.weak w5 fun a ha => .inl (.inr ha)).write mD hDa5, upd_same, ((sh5.weak w5).append (.cons (vr.sh.weak w5) .nil)).write mD⟩
          · rw [← sh.length]
            exact Nat.lt_of_le_of_lt (Nat.le_trans hd (Nat.le_trans hi hlim)) (by unfold lim; decide)
          · rw [List.length_append]; exact Nat.succ_le_succ hd
          · have s15 := (st3.trans st4).trans st5
            refine ⟨s15.pre, fun b o e hb => ?_, fun b o e => ?_⟩
            · rw [upd_ne fun z => by rw [z, hD] at e; cases e]
              exact s15.ext b o e hb
            · rw [upd_ne fun z => by rw [z, hD] at e; cases e]
              exact s15.dom b o e
        · show Iv (i + 1) H4
          exact ⟨_, al4, done, acc, er, Nat.le_succ_of_le hd, st3.trans st4, hDa4, t4.weak wk fun a ha => .inl (.inr ha), hD4, sh4.weak wk⟩
      rcases compL_exc e3 with ef | ⟨o, sa0, ef, er⟩
      · obtain ⟨ρ1', eb', ex⟩ := turn_exc ef
        rw [eb] at eb'
        cases eb'
        rcases ex with ex | ⟨ra, sa, et, etr, ex⟩
        · exact .inr ⟨ρ1, si, m' ali, ali, xx, s', sc2, ex, xq st3⟩
        · refine .inl ⟨ρ1, si, m' ali, ali, ra, sa, true, sc2, et, etr, fun H4 al4 st4 t4 => ?_⟩
          show oE F KW X.K xn (fun c d _ h => W c d σ h) e σ2 H4 _
          exact .inr ⟨ρ1, sa, _, al4, xx, s', sc2.step st4 t4, ex, (xq st3).fwd st4⟩
      · exact .inl (more ef er)
    · have hi' : i = us.length := Nat.le_antisymm hi (Nat.le_of_not_lt lt)
      subst hi'
      rw [List.drop_length] at e3
      cases e3
end
end Ev

end
section
set_option Elab.async false
set_option linter.all false
set_option maxRecDepth 100000
set_option maxHeartbeats 8000000
namespace Ev
open PySem L2 CompX
theorem XOk.blkX {X : Cx} {F : CallF} {KW : Kt} {T : Tb} {k : Ck} (O : XOk T F KW k X) (scope : Scope) (s : Shared) (H : Hp) (C : Addr) (cl : List (Str × Addr)) (fp : List Addr) (xe : Value → Shared → Prop) : XOk T F KW (k.blk scope) (CompX.blkX X s H scope (compEnvC scope cl C X.env) fp xe) :=
  have B := O.blk scope s H C cl fp
  ⟨B.N, B.nd, B.sc, B.fn, B.calm, B.units, B.blt, B.cons, fun f fe h => ⟨(O.fns f fe h).ex⟩, fun kw ke fe h1 h2 => ⟨(O.kws kw ke fe h1 h2).ex⟩, fun f fe j h1 h2 => ⟨(O.dfs f fe j h1 h2).ex⟩, B.xcs, B.nms, B.dep, B.mth⟩
mutual
theorem sndXC {T : Tb} {F : CallF} {KW : Kt} {W : WX} : ∀ (c : C) (md : Mo) (k : Ck) (e : Expr) (X : Cx), XOk T F KW k X → TkF X W → chk T c md k e = true → XGoal F KW X (xnOf T X.mg) W c e md
  | .con u, md, k, e, X, O, tk, h => by
    simp only [chk] at h
    exact XGoal.of md (xc_no fun ρ s y s' q => by simp only [evE] at q; cases q) (pe_con O h).2
  | .var i, md, k, e, X, O, tk, h => by
    simp only [chk] at h
    obtain ⟨x, p, rfl⟩ : ∃ x p, e = .Name x p := by cases e <;> first | exact ⟨_, _, rfl⟩ | (exact nomatch h)
    exact XGoal.of md (xc_no fun ρ s y s' q => by simp only [evE] at q; split at q <;> cases q) fun _ => rfl
  | .peek i, md, k, e, X, O, tk, h => by
    have h2 : varOk k i e = true := by cases md <;> simp only [chk] at h <;> first | (cases h; done) | exact h
    obtain ⟨x, p, rfl⟩ : ∃ x p, e = .Name x p := by cases e <;> first | exact ⟨_, _, rfl⟩ | (exact nomatch h2)
    exact XGoal.of md (xc_no fun ρ s y s' q => by simp only [evE] at q; split at q <;> cases q) fun _ => rfl
  | .tup as, md, k, e, X, O, tk, h => by
    simp only [chk] at h
    split at h
    · obtain ⟨h1, h2⟩ := and2 h
      exact XGoal.of md (xc_tup (PA.or (sndA as .esc k _ X O (fun z => nomatch z) h2) (sndXA as .esc k _ X O tk (fun z => nomatch z) h2))) fun _ => rfl
    · cases h
  | .lst as, md, k, e, X, O, tk, h => by
    simp only [chk] at h
    split at h
    · obtain ⟨h1, h2⟩ := and2 h
      exact XGoal.of md (xc_lst (PA.or (sndA as .esc k _ X O (fun z => nomatch z) h2) (sndXA as .esc k _ X O tk (fun z => nomatch z) h2))) fun _ => rfl
    · cases h
  | .slst as, md, k, e, X, O, tk, h => by
    simp only [chk] at h
    split at h
    · obtain ⟨h1, h2⟩ := and2 h
      exact XGoal.of md (xc_slst (PA.or (sndA as .esc k _ X O (fun z => nomatch z) h2) (sndXA as .esc k _ X O tk (fun z => nomatch z) h2))) fun _ => rfl
    · cases h
  | .op o a b, md, k, e, X, O, tk, h => by
    simp only [chk] at h
    split at h
    · obtain ⟨h1, h3⟩ := and2 h
      obtain ⟨h1, h2⟩ := and2 h1
      rw [opIs_eq h1]
      exact XGoal.of md (xc_op (ob_of (sndC a .brw k _ X O h2) (sndXC a .brw k _ X O tk h2)) (ob_of (sndC b .brw k _ X O h3) (sndXC b .brw k _ X O tk h3))) fun _ => rfl
    · cases h
  | .neg a, md, k, e, X, O, tk, h => by
    simp only [chk] at h
    split at h
    · exact XGoal.of md (xc_neg (ob_of (sndC a .brw k _ X O h) (sndXC a .brw k _ X O tk h))) fun _ => rfl
    · cases h
  | .cmp o a b, md, k, e, X, O, tk, h => by
    simp only [chk] at h
    split at h
    · obtain ⟨h1, h4⟩ := and2 h
      obtain ⟨h1, h3⟩ := and2 h1
      obtain ⟨h1, h2⟩ := and2 h1
      rw [cmpIs_eq h1]
      have hu : X.A.units + 65 < cLine := by have := O.units; omega
      have ha := ob_of (sndC a .brw k _ X O h3) (sndXC a .brw k _ X O tk h3)
      have hb := ob_of (sndC b .brw k _ X O h4) (sndXC b .brw k _ X O tk h4)
      cases md with
      | esc => exact xc_cmp hu h2 ha hb
      | brw => exact xc_cmp hu h2 ha hb
      | tst => exact xc_cmpT hu h2 ha hb
    · cases h
  | .chain o q a b c, md, k, e, X, O, tk, h => by
    simp only [chk] at h
    split at h
    · obtain ⟨h1, h7⟩ := and2 h
      obtain ⟨h1, h6⟩ := and2 h1
      obtain ⟨h1, h5⟩ := and2 h1
      obtain ⟨h1, h4⟩ := and2 h1
      obtain ⟨h1, h3⟩ := and2 h1
      obtain ⟨h1, h2⟩ := and2 h1
      rw [cmpIs_eq h1, cmpIs_eq h2]
      have hu : X.A.units + 65 < cLine := by have := O.units; omega
      have ha := ob_of (sndC a .brw k _ X O h5) (sndXC a .brw k _ X O tk h5)
      have hb := ob_of (sndC b .brw k _ X O h6) (sndXC b .brw k _ X O tk h6)
      have hc := ob_of (sndC c .brw k _ X O h7) (sndXC c .brw k _ X O tk h7)
      cases md with
      | esc => exact xc_chain hu h4 ha hb hc
      | brw => exact xc_chain hu h4 ha hb hc
      | tst => exact xc_chainT hu h4 ha hb hc
    · cases h
  | .not a, md, k, e, X, O, tk, h => by
    simp only [chk] at h
    split at h
    · cases md with
      | esc => exact xc_not (sndXC a .brw k _ X O tk h)
      | brw => exact xc_not (sndXC a .brw k _ X O tk h)
      | tst => exact xc_notT (sndXC a .tst k _ X O tk h)
    · cases h
  | .and a b, md, k, e, X, O, tk, h => by
    simp only [chk] at h
    split at h
    · obtain ⟨h1, h2⟩ := and2 h
      have ha := sndC a md k _ X O h1
      have xa := sndXC a md k _ X O tk h1
      have xb := sndXC b md k _ X O tk h2
      cases md with
      | esc => exact xc_and (md := .esc) (PE.or ha xa) (pe_one xb)
      | brw => exact xc_and (md := .brw) (PE.or ha xa) (pe_one xb)
      | tst => exact (xc_andT (PT.or ha xa) (pt_one .And (.inl rfl) xb)).pt
    · obtain ⟨h1, h2⟩ := and2 h
      have ha := sndC a md k _ X O h1
      have xa := sndXC a md k _ X O tk h1
      have xb := sndXC b md k _ X O tk h2
      cases md with
      | esc => exact xc_and (md := .esc) (PE.or ha xa) xb
      | brw => exact xc_and (md := .brw) (PE.or ha xa) xb
      | tst => exact (xc_andT (PT.or ha xa) (pw_of xb)).pt
    · cases h
  | .or a b, md, k, e, X, O, tk, h => by
    simp only [chk] at h
    split at h
    · obtain ⟨h1, h2⟩ := and2 h
      have ha := sndC a md k _ X O h1
      have xa := sndXC a md k _ X O tk h1
      have xb := sndXC b md k _ X O tk h2
      cases md with
      | esc => exact xc_or (md := .esc) (PE.or ha xa) (pe_one xb)
      | brw => exact xc_or (md := .brw) (PE.or ha xa) (pe_one xb)
      | tst => exact (xc_orT (PT.or ha xa) (pt_one .Or (.inr rfl) xb)).pt
    · obtain ⟨h1, h2⟩ := and2 h
      have ha := sndC a md k _ X O h1
      have xa := sndXC a md k _ X O tk h1
      have xb := sndXC b md k _ X O tk h2
      cases md with
      | esc => exact xc_or (md := .esc) (PE.or ha xa) xb
      | brw => exact xc_or (md := .brw) (PE.or ha xa) xb
      | tst => exact (xc_orT (PT.or ha xa) (pw_of xb)).pt
    · cases h
  | .ife t a b, md, k, e, X, O, tk, h => by
    simp only [chk] at h
    split at h
    · obtain ⟨h1, h3⟩ := and2 h
      obtain ⟨h1, h2⟩ := and2 h1
      have ht := ot_of (sndC t .tst k _ X O h1) (sndXC t .tst k _ X O tk h1)
      have xa := sndXC a md k _ X O tk h2
      have xb := sndXC b md k _ X O tk h3
      cases md with
      | esc => exact xc_ife ht xa xb
      | brw => exact xc_ife ht xa xb
      | tst => exact xc_ifeT ht xa xb
    · cases h
  | .ix a b, md, k, e, X, O, tk, h => by
    simp only [chk] at h
    split at h
    · obtain ⟨h1, h3⟩ := and2 h
      obtain ⟨h1, h2⟩ := and2 h1
      exact XGoal.of md (xc_ix (plain_ix h1) (ob_of (sndC a .brw k _ X O h2) (sndXC a .brw k _ X O tk h2)) (ob_of (sndC b .brw k _ X O h3) (sndXC b .brw k _ X O tk h3))) fun _ => rfl
    · cases h
  | .sl a lo hi, md, k, e, X, O, tk, h => by
    simp only [chk] at h
    split at h
    · obtain ⟨h1, h3⟩ := and2 h
      obtain ⟨h1, h2⟩ := and2 h1
      exact XGoal.of md (xc_sl (ob_of (sndC a .brw k _ X O h1) (sndXC a .brw k _ X O tk h1)) (ob_of (sndC lo .brw k _ X O h2) (sndXC lo .brw k _ X O tk h2)) (ob_of (sndC hi .brw k _ X O h3) (sndXC hi .brw k _ X O tk h3))) fun _ => rfl
    · cases h
  | .slL a lo, md, k, e, X, O, tk, h => by
    simp only [chk] at h
    split at h
    · obtain ⟨h1, h2⟩ := and2 h
      exact XGoal.of md (xc_slL (ob_of (sndC a .brw k _ X O h1) (sndXC a .brw k _ X O tk h1)) (ob_of (sndC lo .brw k _ X O h2) (sndXC lo .brw k _ X O tk h2))) fun _ => rfl
    · cases h
  | .slH a hi, md, k, e, X, O, tk, h => by
    simp only [chk] at h
    split at h
    · obtain ⟨h1, h2⟩ := and2 h
      exact XGoal.of md (xc_slH (ob_of (sndC a .brw k _ X O h1) (sndXC a .brw k _ X O tk h1)) (ob_of (sndC hi .brw k _ X O h2) (sndXC hi .brw k _ X O tk h2))) fun _ => rfl
    · cases h
  | .rev a, md, k, e, X, O, tk, h => by simp only [chk] at h; cases h
  | .slS a lo st, md, k, e, X, O, tk, h => by
    simp only [chk] at h
    split at h
    · obtain ⟨h0, h5⟩ := and2 h
      obtain ⟨h0, h4⟩ := and2 h0
      obtain ⟨h0, h3⟩ := and2 h0
      obtain ⟨h1, h2⟩ := and2 h0
      have h1 := of_decide_eq_true h1
      subst h1
      have h2 := of_decide_eq_true h2
      exact XGoal.of md (xc_slS (by omega) (ob_of (sndC a .brw k _ X O h4) (sndXC a .brw k _ X O tk h4)) (ob_of (sndC lo .brw k _ X O h5) (sndXC lo .brw k _ X O tk h5))) fun _ => rfl
    · cases h
  | .call f as, md, k, e, X, O, tk, h => by
    simp only [chk] at h
    split at h
    · split at h
      · rename_i x fe e1 e2
        obtain ⟨h1, h3⟩ := and2 h
        obtain ⟨h1, h2⟩ := and2 h1
        obtain ⟨p, rfl, hg, hd, _⟩ := gn_of O e1
        have h1 := of_decide_eq_true h1
        subst h1
        have h2 := of_decide_eq_true h2
        obtain ⟨n1, n2⟩ := nost h3
        exact XGoal.of md (xc_call (O.fns _ _ e2) tk hg hd n1 (n2.trans h2) h2 (PA.or (sndA as .esc k _ X O (fun z => nomatch z) h3) (sndXA as .esc k _ X O tk (fun z => nomatch z) h3))) fun _ => rfl
      · cases h
    · cases h
  | .callK f kw as bs, md, k, e, X, O, tk, h => by
    simp only [chk] at h
    split at h
    · split at h
      · rename_i x fe ke e1 e2 e3
        obtain ⟨h1, h8⟩ := and2 h
        obtain ⟨h1, h7⟩ := and2 h1
        obtain ⟨h1, h6⟩ := and2 h1
        obtain ⟨h1, h5⟩ := and2 h1
        obtain ⟨h1, h4⟩ := and2 h1
        obtain ⟨h1, h3⟩ := and2 h1
        obtain ⟨h1, h2⟩ := and2 h1
        obtain ⟨p, rfl, hg, hd, _⟩ := gn_of O e1
        have h1 := of_decide_eq_true h1
        subst h1
        have h2 := of_decide_eq_true h2
        subst h2
        obtain ⟨n1, n2⟩ := nost h7
        exact XGoal.of md (xc_callK (O.kws _ _ _ e3 e2) tk hg hd n1 (of_decide_eq_true h3) n2 (of_decide_eq_true h4) (of_decide_eq_true h5) (PA.or (sndA as .esc k _ X O (fun z => nomatch z) h7) (sndXA as .esc k _ X O tk (fun z => nomatch z) h7)) (PK.or (sndK bs k _ X O h8) (sndXK bs k _ X O tk h8))) fun _ => rfl
      · cases h
    · cases h
  | .bi b as, md, k, e, X, O, tk, h => by
    rw [chk.eq_def] at h
    simp only at h
    split at h
    · split at h
      · rename_i n hn
        obtain ⟨h1, h3⟩ := and2 h
        obtain ⟨h1, h2⟩ := and2 h1
        obtain ⟨p, rfl, hg, hd, hnm⟩ := gl_of O h1
        obtain ⟨n1, n2⟩ := nost h2
        have ha := PA.or (sndA as .brw k _ X O (fun z => nomatch z) h2) (sndXA as .brw k _ X O tk (fun z => nomatch z) h2)
        obtain ⟨hb, ht⟩ := bi_tab O.calm O.units b n hn
        rcases ht with ⟨id, hv, hc⟩ | ⟨id, hv, hc⟩
        · exact XGoal.of md (xc_biB hc hg (O.blt n hb) hv hnm hd (of_decide_eq_true h3) n1 ha) fun _ => rfl
        · exact XGoal.of md (xc_biT hc hg (O.blt n hb) hv hnm hd (of_decide_eq_true h3) n1 ha) fun _ => rfl
      · split at h
        · rename_i ts
          obtain ⟨h1, hq⟩ := and2 h
          clear h
          obtain ⟨p, rfl, hg, hd, hnm⟩ := gl_of O h1
          split at hq
          · obtain ⟨h20, h4⟩ := and2 hq
            obtain ⟨h2, h3⟩ := and2 h20
            clear hq h20
            have ha := sndXC _ .brw k _ X O tk h3
            split at h4
            · obtain ⟨p2, e2, hg2, _, _⟩ := gl_of O h4
              cases e2
              exact XGoal.of md (xc_isi1 hg (O.blt _ (by decide +kernel)) h2 ha hg2 (O.blt _ (ty_name _).2.2.2)) fun _ => rfl
            · obtain ⟨h40, h6⟩ := and2 h4
              obtain ⟨h41, h5⟩ := and2 h40
              exact XGoal.of md (xc_isiT hg (O.blt _ (by decide +kernel)) h2 ha (pa_tys k O.sc O.blt _ _ h41)) fun _ => rfl
            · cases h4
          · cases hq
        · obtain ⟨h1, hq⟩ := and2 h
          clear h
          obtain ⟨p, rfl, hg, hd, hnm⟩ := gl_of O h1
          split at hq
          · obtain ⟨h20, h4⟩ := and2 hq
            obtain ⟨h2, h3⟩ := and2 h20
            clear hq h20
            obtain ⟨p2, rfl, hg2, _, _⟩ := gl_of O h2
            exact XGoal.of md (xc_sortedSet (by have := O.units; omega) O.calm hg (O.blt _ (by decide +kernel)) hg2 (O.blt _ (by decide +kernel)) h3 (sndXC _ .brw k _ X O tk h4)) fun _ => rfl
          · cases hq
        · obtain ⟨h1, hq⟩ := and2 h
          clear h
          obtain ⟨p, rfl, hg, hd, hnm⟩ := gl_of O h1
          split at hq
          · obtain ⟨h20, h4⟩ := and2 hq
            obtain ⟨h2, h3⟩ := and2 h20
            clear hq h20
            obtain ⟨p2, rfl, hg2, _, _⟩ := gl_of O h2
            exact XGoal.of md (xc_listRange O.calm hg (O.blt _ (by decide +kernel)) hg2 (O.blt _ (by decide +kernel)) h3 (sndXC _ .brw k _ X O tk h4)) fun _ => rfl
          · cases hq
        · cases h
    · cases h
  | .comp w tg it t e', md, k, e, X, O, tk, h => by
    simp only [chk] at h
    split at h
    · rename_i elt tg' iter ifs scope pos
      obtain ⟨h1, h8⟩ := and2 h
      obtain ⟨h1, h7⟩ := and2 h1
      obtain ⟨h1, h6⟩ := and2 h1
      obtain ⟨h1, h5⟩ := and2 h1
      obtain ⟨h1, h4⟩ := and2 h1
      obtain ⟨h1, h3⟩ := and2 h1
      obtain ⟨h1, h2⟩ := and2 h1
      have hs : ∀ j ∈ tgSlots tg, j ∈ w := fun j hj => by
        have := List.all_eq_true.mp h2 j hj
        simpa using this
      have ok : BlkOk X.N X.env.scope scope (ownOf k.N scope) := by
        rw [O.N, O.sc]
        exact blkOk_by h4
      have hi : PI X tg' iter (oI F KW X.K (xnOf T X.mg) W .brw it) := PI.or (sndI it .brw k tg' iter X O (fun z => nomatch z) h5) (sndXI it .brw k tg' iter X O tk (fun z => nomatch z) h5)
      have ht : ∀ (W' : WX) (s : Shared) (H : Hp) (C : Addr) (cl : List (Str × Addr)) (fp : List Addr) (xe : Value → Shared → Prop), TkF (CompX.blkX X s H scope (compEnvC scope cl C X.env) fp xe) W' → PTs (CompX.blkX X s H scope (compEnvC scope cl C X.env) fp xe) ifs (oT F KW X.K (xnOf T X.mg) W' t) := fun W' s H C cl fp xe tk' => by
        split at h7
        · split at h7
          · refine ⟨fun pins s0 σ H Q I hw => pts_nil.run pins s0 σ H Q I ?_⟩
            rcases hw with ⟨ρ, s, m, al, r, s', kb, sc, e, tr, q⟩ | ⟨ρ, s, m, al, y, s', sc, e, q⟩
            · simp only [evE] at e
              cases e
              cases tr
              exact q H al Step.refl sc.t.up
            · simp only [evE] at e; cases e
          · cases h7
        · exact pts_one (PT.or (sndC t .tst (k.blk scope) _ _ (O.blkX scope s H C cl fp xe) h7) (sndXC t .tst (k.blk scope) _ _ (O.blkX scope s H C cl fp xe) tk' h7))
        · cases h7
      exact XGoal.of md (PE.imp (pe_lcX (te := fun W' => oE F KW X.K (xnOf T X.mg) W' e') (tt := fun W' => oT F KW X.K (xnOf T X.mg) W' t) tk O.calm (by rw [O.N]; exact O.nd) hi ok (fun s H C cl fp xe => pg_of (O.blkX scope s H C cl fp xe).names tg tg' h6) ht
        (fun W' s H C cl fp xe tk' => PE.or (show PE _ elt (tE F KW X.K e') from sndC e' .esc (k.blk scope) elt _ (O.blkX scope s H C cl fp xe) h8) (sndXC e' .esc (k.blk scope) elt _ (O.blkX scope s H C cl fp xe) tk' h8)) (fold_of h1 _)) (lcx_in (fun σ => wipe_same h3 σ) hs)) fun _ => rfl
    · cases h
  | .comp2 w tg it t tg2 it2 t2 e', md, k, e, X, O, tk, h => by simp only [chk] at h; cases h
  | .refNe a, md, k, e, X, O, tk, h => by
    simp only [chk] at h
    split at h
    · have hu : X.A.units + 65 < cLine := by have := O.units; omega
      have ha := ob_of (sndC a .brw k _ X O h) (sndXC a .brw k _ X O tk h)
      have hb : ∀ p2, PE X (.List [] p2) (tB F KW X.K (.lst .nil)) := fun p2 => tE_tB (snd_lst (by decide) snd_nil)
      cases md with
      | esc => exact xc_refNe hu ha (hb _)
      | brw => exact xc_refNe hu ha (hb _)
      | tst => exact xc_refNeT hu ha (hb _)
    · cases h
  | .dict1 a, md, k, e, X, O, tk, h => by
    simp only [chk] at h
    split at h
    · obtain ⟨h1, h3⟩ := and2 h
      obtain ⟨h1, h2⟩ := and2 h1
      obtain ⟨p, rfl, hg, hd, hnm⟩ := gl_of O h1
      exact XGoal.of md (xc_dict1 O.calm hg (O.blt _ (by decide +kernel)) h2 (ob_of (sndC a .brw k _ X O h3) (sndXC a .brw k _ X O tk h3))) fun _ => rfl
    · cases h
  | .dGet a b, md, k, e, X, O, tk, h => by
    simp only [chk] at h
    split at h
    · obtain ⟨h1, h3⟩ := and2 h
      obtain ⟨h1, h2⟩ := and2 h1
      have hu : X.A.units + 65 < cLine := by have := O.units; omega
      exact XGoal.of md (xc_dGet hu (nosl_of h1) (ob_of (sndC a .brw k _ X O h2) (sndXC a .brw k _ X O tk h2)) (ob_of (sndC b .brw k _ X O h3) (sndXC b .brw k _ X O tk h3))) fun _ => rfl
    · cases h
  | .dIn neg a b, md, k, e, X, O, tk, h => by
    simp only [chk] at h
    split at h
    · obtain ⟨h1, h4⟩ := and2 h
      obtain ⟨h1, h3⟩ := and2 h1
      obtain ⟨h1, h2⟩ := and2 h1
      have hu : X.A.units + 65 < cLine := by have := O.units; omega
      have ha := ob_of (sndC a .brw k _ X O h3) (sndXC a .brw k _ X O tk h3)
      have hb := ob_of (sndC b .brw k _ X O h4) (sndXC b .brw k _ X O tk h4)
      split at h1
      · have hn : neg = false := by simpa using h1
        subst hn
        cases md with
        | esc => exact xc_dIn hu h2 ha hb
        | brw => exact xc_dIn hu h2 ha hb
        | tst => exact xc_dInT hu h2 ha hb
      · subst h1
        cases md with
        | esc => exact xc_dNotIn hu h2 ha hb
        | brw => exact xc_dNotIn hu h2 ha hb
        | tst => exact xc_dNotInT hu h2 ha hb
      · cases h1
    · cases h
  | .callD f as ds, md, k, e, X, O, tk, h => by
    simp only [chk] at h
    split at h
    · split at h
      · rename_i x fe e1 e2
        obtain ⟨h1, h6⟩ := and2 h
        obtain ⟨h1, h5⟩ := and2 h1
        obtain ⟨h1, h4⟩ := and2 h1
        obtain ⟨h1, h3⟩ := and2 h1
        obtain ⟨h1, h2⟩ := and2 h1
        obtain ⟨p, rfl, hg, hd, _⟩ := gn_of O e1
        have h1 := of_decide_eq_true h1
        subst h1
        obtain ⟨n1, n2⟩ := nost h6
        have h3 := of_decide_eq_true h3
        have h5 := sameUs_eq _ _ h5
        have hne : 0 < ds.length := by
          cases ds with
          | nil => simp at h4
          | cons a b => simp
        have hdf := O.dfs f fe ((dfOf T f).length - ds.length) e2 (by omega)
        rw [h5] at hdf
        exact XGoal.of md (xc_callD hdf tk hg hd n1 n2 (of_decide_eq_true h2) (PA.or (sndA as .esc k _ X O (fun z => nomatch z) h6) (sndXA as .esc k _ X O tk (fun z => nomatch z) h6))) fun _ => rfl
      · cases h
    · cases h
  | .callV g as, md, k, e, X, O, tk, h => by
    simp only [chk] at h
    split at h
    · rename_i ge es pos
      obtain ⟨h1, h4⟩ := and2 h
      obtain ⟨h1, h3⟩ := and2 h1
      obtain ⟨h1, h2⟩ := and2 h1
      obtain ⟨n1, n2⟩ := nost h4
      have h3 := of_decide_eq_true h3
      cases es with
      | nil => exact absurd rfl h3
      | cons x es =>
        obtain ⟨o, ix, sp, rfl⟩ : ∃ o ix sp, ge = .Subscript o ix sp := by cases ge <;> first | exact ⟨_, _, _, rfl⟩ | (cases h1; done)
        exact XGoal.of md (xc_callV O.nms O.fns tk (ob_of (sndC g .brw k _ X O h2) (sndXC g .brw k _ X O tk h2)) n1 (PA.or (sndA as .esc k _ X O (fun z => nomatch z) h4) (sndXA as .esc k _ X O tk (fun z => nomatch z) h4)) rfl) fun _ => rfl
    · cases h
  | .dictT a, md, k, e, X, O, tk, h => by
    simp only [chk] at h
    split at h
    · obtain ⟨h1, h3⟩ := and2 h
      obtain ⟨h1, h2⟩ := and2 h1
      obtain ⟨p, rfl, hg, hd, hnm⟩ := gl_of O h1
      exact XGoal.of md (xc_dictT (by have := O.units; omega) O.calm hg (O.blt _ (by decide +kernel)) h2 (ob_of (sndC a .brw k _ X O h3) (sndXC a .brw k _ X O tk h3))) fun _ => rfl
    · cases h
  | .dInT neg a b, md, k, e, X, O, tk, h => by
    simp only [chk] at h
    split at h
    · obtain ⟨h1, h4⟩ := and2 h
      obtain ⟨h1, h3⟩ := and2 h1
      obtain ⟨h1, h2⟩ := and2 h1
      have hu : X.A.units + 65 < cLine := by have := O.units; omega
      have ha := ob_of (sndC a .brw k _ X O h3) (sndXC a .brw k _ X O tk h3)
      have hb := ob_of (sndC b .brw k _ X O h4) (sndXC b .brw k _ X O tk h4)
      split at h1
      · have hn : neg = false := by simpa using h1
        subst hn
        cases md with
        | esc => exact xc_dKIn hu h2 ha hb
        | brw => exact xc_dKIn hu h2 ha hb
        | tst => exact xc_dKInT hu h2 ha hb
      · subst h1
        cases md with
        | esc => exact xc_dKNotIn hu h2 ha hb
        | brw => exact xc_dKNotIn hu h2 ha hb
        | tst => exact xc_dKNotInT hu h2 ha hb
      · cases h1
    · cases h
  | .mth l a b, md, k, e, X, O, tk, h => by
    simp only [chk] at h
    split at h
    · obtain ⟨h1, h6⟩ := and2 h
      obtain ⟨h1, h5⟩ := and2 h1
      obtain ⟨h1, h4⟩ := and2 h1
      obtain ⟨h1, h3⟩ := and2 h1
      obtain ⟨h1, h2⟩ := and2 h1
      obtain ⟨hg1, hg2⟩ := O.mth h1
      have ha := ob_of (sndC a .brw k _ X O h5) (sndXC a .brw k _ X O tk h5)
      have hb := ob_of (sndC b .brw k _ X O h6) (sndXC b .brw k _ X O tk h6)
      cases l with
      | true =>
        obtain ⟨p, rfl, hg, hd, _⟩ := gl_of O h2
        exact XGoal.of md (xc_lcm hg hg2 h3 h4 ha hb) fun _ => rfl
      | false =>
        obtain ⟨p, rfl, hg, hd, _⟩ := gl_of O h2
        exact XGoal.of md (xc_gcd hg hg1 h3 h4 ha hb) fun _ => rfl
    · cases h
  | .dLit i j, md, k, e, X, O, tk, h => by
    simp only [chk] at h
    split at h
    · exact XGoal.of md (xc_no fun ρ s y s' q => by simp only [evE] at q; cases q) fun _ => rfl
    · cases h
  | .sortedR a, md, k, e, X, O, tk, h => by
    simp only [chk] at h
    split at h
    · obtain ⟨h1, h3⟩ := and2 h
      obtain ⟨h1, h2⟩ := and2 h1
      obtain ⟨p, rfl, hg, hd, hnm⟩ := gl_of O h1
      exact XGoal.of md (xc_sortedR hg (O.blt _ (by decide +kernel)) h2 (ob_of (sndC a .brw k _ X O h3) (sndXC a .brw k _ X O tk h3))) fun _ => rfl
    · cases h
theorem sndXA {T : Tb} {F : CallF} {KW : Kt} {W : WX} : ∀ (a : A) (md : Mo) (k : Ck) (es : List Expr) (X : Cx), XOk T F KW k X → TkF X W → md ≠ .tst → chkA T a md k es = true → PA X es (fun σ H _ => xA F KW X.K (xnOf T X.mg) W a σ H)
  | .nil, md, k, es, X, O, tk, hm, h => by
    simp only [chkA] at h
    split at h
    · exact xc_nil pa_nil
    · cases h
  | .cons c r, md, k, es, X, O, tk, hm, h => by
    simp only [chkA] at h
    split at h
    · obtain ⟨h0, h3⟩ := and2 h
      obtain ⟨h1, h2⟩ := and2 h0
      exact xc_cons (ta := tNil) h1 (om_of hm (sndC c md k _ X O h2) (sndXC c md k _ X O tk h2)) (sndXA r md k _ X O tk hm h3)
    · cases h
theorem sndXK {T : Tb} {F : CallF} {KW : Kt} {W : WX} : ∀ (a : A) (k : Ck) (ks : List Keyword) (X : Cx), XOk T F KW k X → TkF X W → chkA T a .esc k (ks.map (·.value)) = true → PK X ks (fun σ H _ => xA F KW X.K (xnOf T X.mg) W a σ H)
  | .nil, k, ks, X, O, tk, h => by
    cases ks with
    | nil => exact xk_nil
    | cons q r => simp [chkA] at h
  | .cons c r, k, ks, X, O, tk, h => by
    cases ks with
    | nil => simp [chkA] at h
    | cons q ks =>
      simp only [chkA, List.map_cons] at h
      obtain ⟨h1, h3⟩ := and2 h
      obtain ⟨h1, h2⟩ := and2 h1
      obtain ⟨nm, x, kp⟩ := q
      exact xk_cons (oe_of (sndC c .esc k _ X O h2) (sndXC c .esc k _ X O tk h2)) (sndXK r k _ X O tk h3)
theorem sndXI {T : Tb} {F : CallF} {KW : Kt} {W : WX} : ∀ (it : Ev.It) (md : Mo) (k : Ck) (tg e : Expr) (X : Cx), XOk T F KW k X → TkF X W → md ≠ .tst → chkI T it md k tg e = true → PI X tg e (fun σ H _ => xI F KW X.K (xnOf T X.mg) W it σ H)
  | .seq c, md, k, tg, e, X, O, tk, hm, h => by
    simp only [chkI] at h
    have xa := sndXC c md k e X O tk h
    cases md with
    | esc => exact xi_seq xa
    | brw => exact xi_seq xa
    | tst => exact absurd rfl hm
  | .enum c, md, k, tg, e, X, O, tk, hm, h => by
    simp only [chkI] at h
    split at h
    · obtain ⟨h1, h4⟩ := and2 h
      obtain ⟨h1, h3⟩ := and2 h1
      obtain ⟨h1, h2⟩ := and2 h1
      obtain ⟨p, rfl, hg, hd, hnm⟩ := gl_of O h2
      obtain ⟨es, kk, tp, rfl⟩ : ∃ es kk tp, tg = .Tuple es kk tp := by cases tg <;> first | exact ⟨_, _, _, rfl⟩ | (exact nomatch h1)
      have xa := sndXC c md k _ X O tk h4
      cases md with
      | esc => exact xi_enum hg (O.blt _ (by decide +kernel)) h3 xa
      | brw => exact xi_enum hg (O.blt _ (by decide +kernel)) h3 xa
      | tst => exact absurd rfl hm
    · cases h
  | .zip2 a b, md, k, tg, e, X, O, tk, hm, h => by
    simp only [chkI] at h
    split at h
    · obtain ⟨h0, h6⟩ := and2 h
      obtain ⟨h0, h5⟩ := and2 h0
      obtain ⟨h0, h4⟩ := and2 h0
      obtain ⟨h0, h3⟩ := and2 h0
      obtain ⟨h1, h2⟩ := and2 h0
      obtain ⟨p, rfl, hg, hd, hnm⟩ := gl_of O h2
      obtain ⟨es, kk, tp, rfl⟩ : ∃ es kk tp, tg = .Tuple es kk tp := by cases tg <;> first | exact ⟨_, _, _, rfl⟩ | (exact nomatch h1)
      have ha := om_of hm (sndC a md k _ X O h5) (sndXC a md k _ X O tk h5)
      have xb := sndXC b md k _ X O tk h6
      cases md with
      | esc => exact xi_zip2 hm hg (O.blt _ (by decide +kernel)) h3 h4 ha xb
      | brw => exact xi_zip2 hm hg (O.blt _ (by decide +kernel)) h3 h4 ha xb
      | tst => exact absurd rfl hm
    · cases h
  | .zips c, md, k, tg, e, X, O, tk, hm, h => by
    simp only [chkI] at h
    split at h
    · obtain ⟨h0, h3⟩ := and2 h
      obtain ⟨h1, h2⟩ := and2 h0
      obtain ⟨p, rfl, hg, hd, hnm⟩ := gl_of O h2
      obtain ⟨nm, tp, rfl⟩ : ∃ nm tp, tg = .Name nm tp := by cases tg <;> first | exact ⟨_, _, rfl⟩ | (exact nomatch h1)
      have xa := sndXC c md k _ X O tk h3
      cases md with
      | esc => exact xi_zips hg (O.blt _ (by decide +kernel)) xa
      | brw => exact xi_zips hg (O.blt _ (by decide +kernel)) xa
      | tst => exact absurd rfl hm
    · cases h
  | .rng1 c, md, k, tg, e, X, O, tk, hm, h => by
    simp only [chkI] at h
    split at h
    · obtain ⟨h1, h3⟩ := and2 h
      obtain ⟨h1, h2⟩ := and2 h1
      obtain ⟨p, rfl, hg, hd, hnm⟩ := gl_of O h1
      exact xi_rng1 hg (O.blt _ (by decide +kernel)) h2 (sndXC c .brw k _ X O tk h3)
    · cases h
  | .rng2 a b, md, k, tg, e, X, O, tk, hm, h => by
    simp only [chkI] at h
    split at h
    · obtain ⟨h1, h5⟩ := and2 h
      obtain ⟨h1, h4⟩ := and2 h1
      obtain ⟨h1, h3⟩ := and2 h1
      obtain ⟨h1, h2⟩ := and2 h1
      obtain ⟨p, rfl, hg, hd, hnm⟩ := gl_of O h1
      exact xi_rng2 hg (O.blt _ (by decide +kernel)) h2 h3 (ob_of (sndC a .brw k _ X O h4) (sndXC a .brw k _ X O tk h4)) (sndXC b .brw k _ X O tk h5)
    · cases h
  | .enumZ c, md, k, tg, e, X, O, tk, hm, h => by
    simp only [chkI] at h
    split at h
    · obtain ⟨h1, h4⟩ := and2 h
      obtain ⟨h1, h3⟩ := and2 h1
      obtain ⟨h1, h2⟩ := and2 h1
      obtain ⟨p, rfl, hg, hd, hnm⟩ := gl_of O h2
      obtain ⟨p', rfl, hg', hd', hnm'⟩ := gl_of O h3
      obtain ⟨es, kk, tp, rfl⟩ : ∃ es kk tp, tg = .Tuple es kk tp := by cases tg <;> first | exact ⟨_, _, _, rfl⟩ | (exact nomatch h1)
      have xa := sndXC c md k _ X O tk h4
      cases md with
      | esc => exact xi_enumZ hg (O.blt _ (by decide +kernel)) hg' (O.blt _ (by decide +kernel)) xa
      | brw => exact xi_enumZ hg (O.blt _ (by decide +kernel)) hg' (O.blt _ (by decide +kernel)) xa
      | tst => exact absurd rfl hm
    · cases h
  | .rng3 _ _ _, md, k, tg, e, X, O, tk, hm, h => by simp only [chkI] at h; cases h
end
end Ev

end
section
set_option Elab.async false
set_option linter.all false
set_option maxRecDepth 100000
set_option maxHeartbeats 4000000
namespace Ev
open PySem L2
theorem ST.any {K : PySem.W.Frag} {m m' : Addr → Prop} {al : List Addr} {s : Sto} {H : Hp} (t : ST K m al s H) (sb : ∀ a ∈ al, m' a) : ST K m' al s H := ⟨t.len, t.nd, sb, t.at_⟩
/-! ### the frame of a body -/
structure Fr (K : PySem.W.Frag) (m0 : Addr → Prop) (ρ : Env) (s : Sto) (m wr : Addr → Prop) (al : List Addr) (σ : L2.St) (H : Hp) : Prop where
  sc : SC K m al s ρ σ H
  ow : ∀ i u a, look i ρ = .own u → σ[i]? = some (some (.ref a)) → wr a ∧ ¬ m0 a
  ws : ∀ a ∈ al, wr a
  wm : ∀ a, wr a → m a
  up : ∀ a, m0 a → m a
/-- what changes between two points of a body -/
structure Mv (H : Hp) (m wr : Addr → Prop) (al : List Addr) (H' : Hp) (m' wr' : Addr → Prop) (al' : List Addr) : Prop where
  ext : ∀ b o, H b = some o → ¬ wr b → H' b = some o
  dom : ∀ b o, H b = some o → ∃ o', H' b = some o'
  wr : ∀ a, wr' a → wr a ∨ H a = none
  dn : ∀ a, m' a → m a ∨ H a = none
  pre : ∃ g, al' = al ++ g ∧ ∀ a ∈ g, H a = none
section
variable {K : PySem.W.Frag} {m0 m wr m1 wr1 m2 wr2 : Addr → Prop} {ρ : Env} {s s1 : Sto} {al al1 al2 : List Addr} {σ : L2.St} {H H1 H2 : Hp} {u : U} {v : V}
theorem Mv.refl : Mv H m wr al H m wr al := ⟨fun _ _ e _ => e, fun _ o e => ⟨o, e⟩, fun _ z => .inl z, fun _ z => .inl z, [], by simp, fun _ z => nomatch z⟩
theorem Mv.none (a : Mv H m wr al H1 m1 wr1 al1) {c : Addr} (z : H1 c = none) : H c = none := by
  cases q : H c with
  | none => rfl
  | some o => obtain ⟨o', q'⟩ := a.dom c o q; rw [z] at q'; cases q'
theorem Mv.trans (a : Mv H m wr al H1 m1 wr1 al1) (b : Mv H1 m1 wr1 al1 H2 m2 wr2 al2) : Mv H m wr al H2 m2 wr2 al2 := by
  obtain ⟨g, e, n⟩ := a.pre
  obtain ⟨g', e', n'⟩ := b.pre
  refine ⟨fun c o h hn => b.ext c o (a.ext c o h hn) fun z => ?_, fun c o h => ?_, fun c z => ?_, fun c z => ?_, ⟨g ++ g', by rw [e', e, List.append_assoc], fun c hc => ?_⟩⟩
  · rcases a.wr c z with z | z
    · exact hn z
    · rw [h] at z; cases z
  · obtain ⟨o', q⟩ := a.dom c o h
    exact b.dom c o' q
  · rcases b.wr c z with z | z
    · exact a.wr c z
    · exact .inr (a.none z)
  · rcases b.dn c z with z | z
    · exact a.dn c z
    · exact .inr (a.none z)
  · rcases List.mem_append.mp hc with hc | hc
    · exact n c hc
    · exact a.none (n' c hc)
theorem Mv.nth (a : Mv H m wr al H1 m1 wr1 al1) : ∀ k c, Ev.nth k al = some c → Ev.nth k al1 = some c := fun k c h => by
  obtain ⟨g, e, _⟩ := a.pre
  rw [nth_get] at h ⊢
  rw [e, List.getElem?_append_left (List.getElem?_eq_some_iff.mp h).1]
  exact h
theorem Mv.sub (a : Mv H m wr al H1 m1 wr1 al1) : ∀ c ∈ al, c ∈ al1 := fun c hc => by
  obtain ⟨g, e, _⟩ := a.pre
  rw [e]; exact List.mem_append_left _ hc
/-- a value that stood stands -/
theorem Mv.sh (a : Mv H m wr al H1 m1 wr1 al1) (wm : ∀ c, wr c → m c) (h : Sh K H m al u v) : Sh K H1 m1 al1 u v :=
  h.mono (fun b o e n => a.ext b o e fun z => n (wm b z)) (fun b o e n z => (a.dn b z).elim n fun z => by rw [e] at z; cases z) a.nth
theorem Mv.shs {us : List U} {vs : List V} (a : Mv H m wr al H1 m1 wr1 al1) (wm : ∀ c, wr c → m c) (h : Shs K H m al us vs) : Shs K H1 m1 al1 us vs :=
  h.mono (fun b o e n => a.ext b o e fun z => n (wm b z)) (fun b o e n z => (a.dn b z).elim n fun z => by rw [e] at z; cases z) a.nth
/-- after an expression -/
theorem Fr.eval (f : Fr K m0 ρ s m wr al σ H) (st : Step H H1 al al1) (t : ST K (mU m al1) al1 s1 H1) : Fr K m0 ρ s1 (mU m al1) (fun a => wr a ∨ a ∈ al1) al1 σ H1 :=
  ⟨f.sc.step st t, fun i u a e1 e2 => ⟨.inl (f.ow i u a e1 e2).1, (f.ow i u a e1 e2).2⟩, fun a ha => .inr ha, fun a z => z.elim (fun z => .inl (f.wm a z)) .inr, fun a z => .inl (f.up a z)⟩
theorem Fr.evalM (f : Fr K m0 ρ s m wr al σ H) (st : Step H H1 al al1) : Mv H m wr al H1 (mU m al1) (fun a => wr a ∨ a ∈ al1) al1 := by
  have hal : ∀ c ∈ al1, c ∈ al ∨ H c = none := fun c z => by
    obtain ⟨g, e, n⟩ := st.pre
    rw [e] at z
    rcases List.mem_append.mp z with z | z
    · exact .inl z
    · exact .inr (n c z)
  refine ⟨fun b o e n => st.ext b o e fun z => n (f.ws b z), st.dom, fun a z => ?_, fun a z => ?_, st.pre⟩
  · rcases z with z | z
    · exact .inl z
    · rcases hal a z with z | z
      · exact .inl (f.ws a z)
      · exact .inr z
  · rcases z with z | z
    · exact .inl z
    · rcases hal a z with z | z
      · exact .inl (f.sc.t.sub a z)
      · exact .inr z
/-- the frame, some new address D set aside -/
theorem Fr.evalD (f : Fr K m0 ρ s m wr al σ H) (st : Step H H1 al al1) (t : ST K (mU m al1) al1 s1 H1) {D : Addr} (h0 : H D = none) (h1 : ∃ o, H1 D = some o) :
    Fr K m0 ρ s1 (fun a => mU m al1 a ∨ a = D) (fun a => (wr a ∨ a ∈ al1) ∨ a = D) al1 σ H1 ∧ Mv H m wr al H1 (fun a => mU m al1 a ∨ a = D) (fun a => (wr a ∨ a ∈ al1) ∨ a = D) al1 := by
  have f1 := f.eval st t
  have mv := f.evalM st
  refine ⟨⟨⟨t.any fun a ha => .inl (.inr ha), f.sc.r.over st f.sc.t.sub (fun b o e n z => ?_) (fun b z => ?_) fun b z => .inl (.inl z)⟩, fun i u a e1 e2 => ⟨.inl (.inl (f.ow i u a e1 e2).1), (f.ow i u a e1 e2).2⟩, fun a ha => .inl (.inr ha), fun a z => ?_, fun a z => .inl (.inl (f.up a z))⟩, mv.ext, mv.dom, fun a z => ?_, fun a z => ?_, mv.pre⟩
  · rcases z with z | z
    · exact st.notm f.sc.t.sub e n z
    · rw [z, h0] at e; cases e
  · rcases z with z | z
    · exact f1.sc.r.md b z
    · rw [z]; exact h1
  · rcases z with z | z
    · exact .inl (f1.wm a z)
    · exact .inr z
  · rcases z with z | z
    · exact mv.wr a z
    · rw [z]; exact .inr h0
  · rcases z with z | z
    · exact mv.dn a z
    · rw [z]; exact .inr h0

/-! ### stores to slots -/
inductive Pend (K : PySem.W.Frag) (m0 m wr : Addr → Prop) (al : List Addr) (H : Hp) (ρ : Env) (σ : L2.St) : Slot → V → Prop
  | sh {u : U} {v : V} : Sh K H m al u v → Pend K m0 m wr al H ρ σ (.sh u) v
  | own {us : List U} {a : Addr} {vs : List V} : H a = some (.lst vs) → Shs K H m al us vs → wr a → ¬ m0 a → a ∉ al → (∀ i u, look i ρ = .own u → σ[i]? ≠ some (some (.ref a))) → Pend K m0 m wr al H ρ σ (.own (.lst us)) (.ref a)
theorem SR.setOwn (r : SR K m al ρ σ H) {i : Nat} {us : List U} {a : Addr} {vs : List V} (h1 : H a = some (.lst vs)) (h2 : Shs K H m al us vs) (h3 : m a) (h4 : a ∉ al) (h5 : ∀ j u, j ≠ i → look j ρ = .own u → σ[j]? ≠ some (some (.ref a))) :
    SR K m al (put i (.own (.lst us)) ρ) (σ.set i (some (.ref a))) H := by
  refine ⟨by rw [put_len, List.length_set]; exact r.len, r.md, fun j w e => ?_, fun j w e => ?_, fun j j' w w' c e1 e2 e3 e4 => ?_⟩
  · rcases look_put e with ⟨rfl, l, e⟩ | ⟨n, e⟩ | e
    · cases e
    · obtain ⟨x, e1, e2⟩ := r.sh j w e
      exact ⟨x, by rw [List.getElem?_set_ne (Ne.symm n)]; exact e1, e2⟩
    · cases e
  · rcases look_put e with ⟨rfl, l, e⟩ | ⟨n, e⟩ | e
    · cases e
      exact ⟨us, a, vs, rfl, List.getElem?_set_self (by rw [← r.len]; exact l), h1, h2, h3, h4⟩
    · obtain ⟨us, a, vs, e1, e2, e3⟩ := r.own j w e
      exact ⟨us, a, vs, e1, by rw [List.getElem?_set_ne (Ne.symm n)]; exact e2, e3⟩
    · cases e
  · have key : ∀ j w c, look j (put i (.own (.lst us)) ρ) = .own w → (σ.set i (some (.ref a)))[j]? = some (some (.ref c)) → (j = i ∧ c = a) ∨ (j ≠ i ∧ look j ρ = .own w ∧ σ[j]? = some (some (.ref c))) := fun j w c e1 e3 => by
      rcases look_put e1 with ⟨rfl, l, e⟩ | ⟨n, e⟩ | e
      · rw [List.getElem?_set_self (by rw [← r.len]; exact l)] at e3
        cases e3
        exact .inl ⟨rfl, rfl⟩
      · rw [List.getElem?_set_ne (Ne.symm n)] at e3
        exact .inr ⟨n, e, e3⟩
      · cases e
    rcases key j w c e1 e3 with ⟨rfl, rfl⟩ | ⟨n1, k1, k3⟩
    · rcases key j' w' c e2 e4 with ⟨rfl, _⟩ | ⟨n2, k2, k4⟩
      · rfl
      · exact absurd k4 (h5 j' w' n2 k2)
    · rcases key j' w' c e2 e4 with ⟨rfl, rfl⟩ | ⟨n2, k2, k4⟩
      · exact absurd k3 (h5 j w n1 k1)
      · exact r.inj j j' w w' c k1 k2 k3 k4
theorem Fr.put (f : Fr K m0 ρ s m wr al σ H) {i : Nat} {sl : Slot} (p : Pend K m0 m wr al H ρ σ sl v) : Fr K m0 (put i sl ρ) s m wr al (σ.set i (some v)) H := by
  have own' : ∀ j u a, look j (Ev.put i sl ρ) = .own u → (σ.set i (some v))[j]? = some (some (.ref a)) → wr a ∧ ¬ m0 a := fun j u a e1 e2 => by
    rcases look_put e1 with ⟨rfl, l, e⟩ | ⟨n, e⟩ | e
    · cases p with
      | sh h => cases e
      | own h1 h2 h3 h4 h5 h6 =>
        cases e
        rw [List.getElem?_set_self (by rw [← f.sc.r.len]; exact l)] at e2
        cases e2
        exact ⟨h3, h4⟩
    · rw [List.getElem?_set_ne (Ne.symm n)] at e2
      exact f.ow j u a e e2
    · cases e
  cases p with
  | sh h => exact ⟨⟨f.sc.t, f.sc.r.setSh h⟩, own', f.ws, f.wm, f.up⟩
  | own h1 h2 h3 h4 h5 h6 => exact ⟨⟨f.sc.t, f.sc.r.setOwn h1 h2 (f.wm _ h3) h5 fun j u _ e => h6 j u e⟩, own', f.ws, f.wm, f.up⟩
/-- the value of an expression, to be stored -/
theorem Fr.val (f : Fr K m0 ρ s m wr al σ H) (st : Step H H1 al al1) (t : ST K (mU m al1) al1 s1 H1) {r : Rv} (vr : VR K H H1 (mU m al1) al1 r v) (o : Bool) :
    ∃ m1 wr1, Fr K m0 ρ s1 m1 wr1 al1 σ H1 ∧ Mv H m wr al H1 m1 wr1 al1 ∧ Pend K m0 m1 wr1 al1 H1 ρ σ (r.slot o) v ∧ (∀ u a, r.slot o = .own u → v = .ref a → H a = none) ∧ ∀ a, wr a → wr1 a := by
  have sh : ∃ m1 wr1, Fr K m0 ρ s1 m1 wr1 al1 σ H1 ∧ Mv H m wr al H1 m1 wr1 al1 ∧ Pend K m0 m1 wr1 al1 H1 ρ σ (.sh r.u) v ∧ (∀ u a, Slot.sh r.u = .own u → v = .ref a → H a = none) ∧ ∀ a, wr a → wr1 a :=
    ⟨_, _, f.eval st t, f.evalM st, .sh vr.sh, (fun _ _ z => nomatch z), fun a z => .inl z⟩
  obtain ⟨u, fl⟩ := r
  cases o with
  | false => exact sh
  | true => cases fl with
    | false => exact sh
    | true =>
      cases u <;> try exact sh
      rename_i us
      obtain ⟨a, vs, rfl, e2, e3, e4, e5⟩ := vr.fr rfl us rfl
      obtain ⟨f1, mv⟩ := f.evalD st t e4 ⟨_, e2⟩
      refine ⟨_, _, f1, mv, .own e2 e3 (.inr rfl) (fun z => ?_) (fun z => e5 (.inr z)) (fun i u k1 k2 => ?_), (fun _ b _ z => by cases z; exact e4), fun b z => .inl (.inl z)⟩
      · obtain ⟨o, e⟩ := f.sc.md _ (f.up _ z)
        rw [e4] at e; cases e
      · obtain ⟨_, b, _, _, q2, q3, _⟩ := f.sc.r.own i u k1
        rw [k2] at q2; cases q2
        rw [e4] at q3; cases q3
/-! ### freezing -/
theorem put_look : ∀ (i : Nat) (ρ : Env), Ev.put i (look i ρ) ρ = ρ
  | 0, [] => rfl
  | _ + 1, [] => rfl
  | 0, _ :: _ => rfl
  | i + 1, t :: r => by show t :: Ev.put i (look i r) r = _; rw [put_look i r]
theorem Fr.fz1 (f : Fr K m0 ρ s m wr al σ H) (i : Nat) : ∃ m1 wr1, Fr K m0 (Ev.put i (look i ρ).fz ρ) s m1 wr1 al σ H ∧ Mv H m wr al H m1 wr1 al := by
  cases q : look i ρ with
  | un =>
    refine ⟨m, wr, ?_, Mv.refl⟩
    show Fr K m0 (Ev.put i .un ρ) s m wr al σ H
    rw [← q, put_look]; exact f
  | sh u =>
    refine ⟨m, wr, ?_, Mv.refl⟩
    show Fr K m0 (Ev.put i (.sh u) ρ) s m wr al σ H
    rw [← q, put_look]; exact f
  | own u =>
    obtain ⟨us, a, vs, rfl, e2, e3, e4, e5, e6⟩ := f.sc.r.own i u q
    have ne : ∀ j w b, j ≠ i → look j ρ = .own w → σ[j]? = some (some (.ref b)) → b ≠ a := fun j w b n k1 k2 z => n (f.sc.r.inj j i w _ a k1 q (by rw [← z]; exact k2) e2)
    refine ⟨fun b => m b ∧ b ≠ a, fun b => wr b ∧ b ≠ a, ⟨⟨f.sc.t.any fun b hb => ⟨f.sc.t.sub b hb, fun z => e6 (by rw [← z]; exact hb)⟩, ⟨?_, fun b z => f.sc.r.md b z.1, fun j w e => ?_, fun j w e => ?_, fun j j' w w' b k1 k2 k3 k4 => ?_⟩⟩, fun j w b k1 k2 => ?_, fun b hb => ⟨f.ws b hb, fun z => e6 (by rw [← z]; exact hb)⟩, fun b z => ⟨f.wm b z.1, z.2⟩, fun b z => ⟨f.up b z, fun y => (f.ow i _ a q e2).2 (by rw [← y]; exact z)⟩⟩, ⟨fun _ _ e _ => e, fun _ o e => ⟨o, e⟩, fun b z => .inl z.1, fun b z => .inl z.1, [], by simp, fun _ z => nomatch z⟩⟩
    · rw [put_len]; exact f.sc.r.len
    · rcases look_put e with ⟨rfl, l, e⟩ | ⟨n, e⟩ | e
      · cases e
        exact ⟨_, e2, .lst e3 (fun z => z.2 rfl) (e4.weak fun b z => z.1)⟩
      · obtain ⟨x, k1, k2⟩ := f.sc.r.sh j w e
        exact ⟨x, k1, k2.weak fun b z => z.1⟩
      · cases e
    · rcases look_put e with ⟨_, l, e⟩ | ⟨n, e⟩ | e
      · cases e
      · obtain ⟨ws, b, zs, k1, k2, k3, k4, k5, k6⟩ := f.sc.r.own j w e
        exact ⟨ws, b, zs, k1, k2, k3, k4.weak fun b z => z.1, ⟨k5, ne j w b n e k2⟩, k6⟩
      · cases e
    · rcases look_put k1 with ⟨_, l, e⟩ | ⟨n, e⟩ | e
      · cases e
      · rcases look_put k2 with ⟨_, l, e'⟩ | ⟨n', e'⟩ | e'
        · cases e'
        · exact f.sc.r.inj j j' w w' b e e' k3 k4
        · cases e'
      · cases e
    · rcases look_put k1 with ⟨_, l, e⟩ | ⟨n, e⟩ | e
      · cases e
      · obtain ⟨h1, h2⟩ := f.ow j w b e k2
        exact ⟨⟨h1, ne j w b n e k2⟩, h2⟩
      · cases e
theorem Fr.fz (is : List Nat) : ∀ {ρ : Env} {m wr : Addr → Prop}, Fr K m0 ρ s m wr al σ H → ∃ m1 wr1, Fr K m0 (freeze is ρ) s m1 wr1 al σ H ∧ Mv H m wr al H m1 wr1 al := by
  induction is with
  | nil => intro ρ m wr f; exact ⟨m, wr, f, Mv.refl⟩
  | cons i is ih =>
    intro ρ m wr f
    obtain ⟨m1, wr1, f1, mv1⟩ := f.fz1 i
    obtain ⟨m2, wr2, f2, mv2⟩ := ih f1
    exact ⟨m2, wr2, f2, mv1.trans mv2⟩
end
end Ev

end
section
set_option Elab.async false
set_option linter.all false
set_option maxRecDepth 100000
set_option maxHeartbeats 4000000
namespace Ev
open PySem L2
/-- what a body hands back -/
structure RetR (K : PySem.W.Frag) (m0 : Addr → Prop) (H : Hp) (m wr : Addr → Prop) (al : List Addr) (r : Rv) (s' : Sto) (v : V) (H' : Hp) (m' wr' : Addr → Prop) (al' : List Addr) : Prop where
  mv : Mv H m wr al H' m' wr' al'
  t : ST K m' al' s' H'
  up : ∀ a, m0 a → m' a
  sh : Sh K H' (fun b => m0 b ∨ b ∈ al') al' r.u v
  fr : r.f = true → ∀ us, r.u = .lst us → ∃ a vs, v = .ref a ∧ H' a = some (.lst vs) ∧ Shs K H' (fun b => (m0 b ∨ b ∈ al') ∨ b = a) al' us vs ∧ (H a = none ∨ wr a) ∧ a ∉ al' ∧ ¬ m0 a
def End (K : PySem.W.Frag) (m0 : Addr → Prop) (H : Hp) (m wr : Addr → Prop) (al : List Addr) (D : Ends) (fl : Fl) (ρ' : Env) (s' : Sto) : Prop := match fl with
  | .nx => ∀ σ' H' m' wr' al', Fr K m0 ρ' s' m' wr' al' σ' H' → Mv H m wr al H' m' wr' al' → D.nx σ' H'
  | .cont => ∀ σ' H' m' wr' al', Fr K m0 ρ' s' m' wr' al' σ' H' → Mv H m wr al H' m' wr' al' → D.ct σ' H'
  | .brk => ∀ σ' H' m' wr' al', Fr K m0 ρ' s' m' wr' al' σ' H' → Mv H m wr al H' m' wr' al' → D.bk σ' H'
  | .ret r => ∀ v H' m' wr' al', RetR K m0 H m wr al r s' v H' m' wr' al' → D.rt v H'
section
variable (F : CallF) (KW : Kt) (K : PySem.W.Frag)
def tS (c : S) : TS := fun D σ H => ∃ m0 ρ s m wr al fl ρ' s', Fr K m0 ρ s m wr al σ H ∧ evS F KW c ρ s = .ok fl ρ' s' ∧ End K m0 H m wr al D fl ρ' s'
def tSs (c : B) : TS := fun D σ H => ∃ m0 ρ s m wr al fl ρ' s', Fr K m0 ρ s m wr al σ H ∧ evB F KW c ρ s = .ok fl ρ' s' ∧ End K m0 H m wr al D fl ρ' s'
theorem stN_ok {α : Type} {x : RE α} {f : α → Sto → RS} {fl : Fl} {ρ' : Env} {s' : Sto} (h : x.stN f = .ok fl ρ' s') : ∃ a s1, x = .ok a s1 ∧ f a s1 = .ok fl ρ' s' := by
  cases x with
  | ok a s1 => exact ⟨a, s1, rfl, h⟩
  | exc _ _ => cases h
  | bad => cases h
end
section
variable {K : PySem.W.Frag} {m0 m wr m1 wr1 m2 wr2 : Addr → Prop} {ρ ρ' : Env} {s s1 s' : Sto} {al al1 al2 : List Addr} {σ : L2.St} {H H1 H2 : Hp} {u : U} {v : V} {D : Ends} {fl : Fl} {r : Rv}
theorem RetR.back (a : Mv H m wr al H1 m1 wr1 al1) {H' : Hp} {m' wr' : Addr → Prop} {al' : List Addr} (h : RetR K m0 H1 m1 wr1 al1 r s' v H' m' wr' al') : RetR K m0 H m wr al r s' v H' m' wr' al' :=
  ⟨a.trans h.mv, h.t, h.up, h.sh, fun f us e => by
    obtain ⟨b, vs, e1, e2, e3, e4, e5⟩ := h.fr f us e
    refine ⟨b, vs, e1, e2, e3, ?_, e5⟩
    rcases e4 with z | z
    · exact .inl (a.none z)
    · rcases a.wr b z with z | z
      · exact .inr z
      · exact .inl z⟩
/-- an end, seen from later on -/
theorem End.fwd (a : Mv H m wr al H1 m1 wr1 al1) (e : End K m0 H m wr al D fl ρ' s') : End K m0 H1 m1 wr1 al1 D fl ρ' s' := by
  cases fl with
  | nx => exact fun σ' H' m' wr' al' f b => e σ' H' m' wr' al' f (a.trans b)
  | cont => exact fun σ' H' m' wr' al' f b => e σ' H' m' wr' al' f (a.trans b)
  | brk => exact fun σ' H' m' wr' al' f b => e σ' H' m' wr' al' f (a.trans b)
  | ret r => exact fun v H' m' wr' al' h => e v H' m' wr' al' (h.back a)
theorem st_ok {α : Type} {x : RE α} {ρ : Env} {f : α → Sto → RS} {fl : Fl} {ρ' : Env} {s' : Sto} (h : x.st ρ f = .ok fl ρ' s') : ∃ a s1, x = .ok a s1 ∧ f a s1 = .ok fl ρ' s' := by
  cases x with
  | ok a s1 => exact ⟨a, s1, rfl, h⟩
  | exc _ _ => cases h
  | bad => cases h
end
section
variable {X : Cx} {F : CallF} {KW : Kt} {a b c : C} {x y z : Expr} {pos p : Pos} {i j : Nat} {fz : List Nat}
theorem PS.imp {st : Stmt} {t t' : TS} (h : PS X st t) (i : ∀ D σ H, t' D σ H → t D σ H) : PS X st t' := ⟨fun pins s σ H D I q => h.run pins s σ H D I (i D σ H q)⟩
theorem PSs.imp {st : List Stmt} {t t' : TS} (h : PSs X st t) (i : ∀ D σ H, t' D σ H → t D σ H) : PSs X st t' := ⟨fun pins s σ H D I q => h.run pins s σ H D I (i D σ H q)⟩
/-- name = e -/
theorem asg_in {o : Bool} : ∀ D σ H, tS F KW X.K (.asg fz i o a) D σ H → tAsg (tE F KW X.K a) (gName i) D σ H := by
  rintro D σ H ⟨m0, ρ, s, m, wr, al, fl, ρ', s', f, e, q⟩
  simp only [evS] at e
  obtain ⟨r, s1, e1, e⟩ := st_ok e
  cases e
  obtain ⟨m1, wr1, f1, mv1⟩ := f.fz fz
  refine ⟨_, s, m1, al, r, _, f1.sc, e1, fun v H1 al1 st t vr => ?_⟩
  obtain ⟨m2, wr2, f2, mv2, pd, _, _⟩ := f1.val st t vr o
  exact q _ H1 m2 wr2 al1 (f2.put pd) (mv1.trans mv2)
theorem snd_ret (h : PE X x (tE F KW X.K a)) : PS X (.Return (some x) pos) (tS F KW X.K (.ret fz a)) := by
  refine PS.imp (ps_ret h) ?_
  rintro D σ H ⟨m0, ρ, s, m, wr, al, fl, ρ', s', f, e, q⟩
  simp only [evS] at e
  obtain ⟨r, s1, e1, e⟩ := st_ok e
  cases e
  obtain ⟨m1, wr1, f1, mv1⟩ := f.fz fz
  refine ⟨_, s, m1, al, r, _, f1.sc, e1, fun v H1 al1 st t vr => ?_⟩
  have w : ∀ b, (m0 b ∨ b ∈ al1) → mU m1 al1 b := fun b z => z.elim (fun z => .inl (f1.up b z)) .inr
  refine q v H1 (mU m1 al1) _ al1 ⟨mv1.trans (f1.evalM st), t, fun b z => .inl (f1.up b z), vr.sh.weak w, fun hf us e => ?_⟩
  obtain ⟨d, vs, e1, e2, e3, e4, e5⟩ := vr.fr hf us e
  exact ⟨d, vs, e1, e2, e3.weak fun b z => z.elim (fun z => .inl (w b z)) .inr, .inl e4, fun z => e5 (.inr z), fun z => e5 (.inl (f1.up _ z))⟩
theorem snd_retV (h : PE X x (tVar i)) : PS X (.Return (some x) pos) (tS F KW X.K (.retV i)) := by
  refine PS.imp (ps_ret h) ?_
  rintro D σ H ⟨m0, ρ, s, m, wr, al, fl, ρ', s', f, e, q⟩
  simp only [evS] at e
  have w : ∀ b, (m0 b ∨ b ∈ al) → m b := fun b z => z.elim (f.up b) (f.sc.t.sub b)
  cases l : look i ρ with
  | un => rw [l] at e; cases e
  | sh u =>
    rw [l] at e; cases e
    obtain ⟨v, e1, e2⟩ := f.sc.r.sh i u l
    exact ⟨v, e1, q v H m wr al ⟨Mv.refl, f.sc.t, f.up, e2.weak w, fun z => nomatch z⟩⟩
  | own u =>
    rw [l] at e; cases e
    obtain ⟨us, d, vs, rfl, e2, e3, e4, e5, e6⟩ := f.sc.r.own i u l
    obtain ⟨k1, k2⟩ := f.ow i _ d l e2
    refine ⟨_, e2, q _ H m wr al ⟨Mv.refl, f.sc.t, f.up, .lst e3 (fun z => z.elim k2 e6) (e4.weak w), fun _ us' e => ?_⟩⟩
    cases e
    exact ⟨d, vs, rfl, e3, e4.weak fun b z => z.elim (w b) (fun z => by rw [z]; exact e5), .inr k1, e6, k2⟩
theorem snd_retN : PS X (.Return none pos) (tS F KW X.K .retN) := by
  refine PS.imp ps_retN ?_
  rintro D σ H ⟨m0, ρ, s, m, wr, al, fl, ρ', s', f, e, q⟩
  simp only [evS] at e
  cases e
  exact q .non H m wr al ⟨Mv.refl, f.sc.t, f.up, .non, fun z => nomatch z⟩
theorem snd_pass : PS X (.Pass pos) (tS F KW X.K .pass) := by
  refine PS.imp ps_pass ?_
  rintro D σ H ⟨m0, ρ, s, m, wr, al, fl, ρ', s', f, e, q⟩
  simp only [evS] at e
  cases e
  exact q σ H m wr al f Mv.refl
theorem snd_cont : PS X (.Continue pos) (tS F KW X.K .cont) := by
  refine PS.imp ps_continue ?_
  rintro D σ H ⟨m0, ρ, s, m, wr, al, fl, ρ', s', f, e, q⟩
  simp only [evS] at e
  cases e
  exact q σ H m wr al f Mv.refl
theorem snd_brk : PS X (.Break pos) (tS F KW X.K .brk) := by
  refine PS.imp ps_break ?_
  rintro D σ H ⟨m0, ρ, s, m, wr, al, fl, ρ', s', f, e, q⟩
  simp only [evS] at e
  cases e
  exact q σ H m wr al f Mv.refl
theorem snd_never {st : Stmt} : PS X st (tS F KW X.K .never) := by
  refine PS.imp ps_never ?_
  rintro D σ H ⟨m0, ρ, s, m, wr, al, fl, ρ', s', f, e, q⟩
  simp only [evS] at e
  cases e
theorem snd_ex (hs : swapsWith x none pos.line X.env = pure false) (h : PE X x (tB F KW X.K a)) : PS X (.Expr x pos) (tS F KW X.K (.ex fz a)) := by
  refine PS.imp (ps_expr h hs) ?_
  rintro D σ H ⟨m0, ρ, s, m, wr, al, fl, ρ', s', f, e, q⟩
  simp only [evS] at e
  obtain ⟨r, s1, e1, e⟩ := st_ok e
  cases e
  obtain ⟨m1, wr1, f1, mv1⟩ := f.fz fz
  exact ⟨_, s, m1, al, r, _, f1.sc, e1, fun v H1 al1 st t vr => q σ H1 _ _ al1 (f1.eval st t) (mv1.trans (f1.evalM st))⟩
theorem snd_if {A B' : B} {ps qs : List Stmt} (h : PT X x (tT F KW X.K a)) (ha : PSs X ps (tSs F KW X.K A)) (hb : PSs X qs (tSs F KW X.K B')) : PS X (.If x ps qs pos) (tS F KW X.K (.ife fz a A B')) := by
  refine PS.imp (ps_if h ha hb) ?_
  rintro D σ H ⟨m0, ρ, s, m, wr, al, fl, ρ', s', f, e, q⟩
  simp only [evS] at e
  obtain ⟨r, s1, e1, e⟩ := st_ok e
  obtain ⟨m1, wr1, f1, mv1⟩ := f.fz fz
  cases k : truth r.u with
  | none => rw [k] at e; cases e
  | some t =>
    rw [k] at e
    refine ⟨_, s, m1, al, r, s1, t, f1.sc, e1, k, fun H1 al1 st t1 => ?_⟩
    cases t with
    | true => exact iteT ⟨m0, _, s1, _, _, al1, fl, ρ', s', f1.eval st t1, e, q.fwd (mv1.trans (f1.evalM st))⟩
    | false => exact iteF ⟨m0, _, s1, _, _, al1, fl, ρ', s', f1.eval st t1, e, q.fwd (mv1.trans (f1.evalM st))⟩
theorem snd_sNil : PSs X [] (tSs F KW X.K .nil) := by
  refine PSs.imp pss_nil ?_
  rintro D σ H ⟨m0, ρ, s, m, wr, al, fl, ρ', s', f, e, q⟩
  simp only [evB] at e
  cases e
  exact q σ H m wr al f Mv.refl
theorem snd_sCons {c : S} {B' : B} {st : Stmt} {sts : List Stmt} (h1 : PS X st (tS F KW X.K c)) (h2 : PSs X sts (tSs F KW X.K B')) : PSs X (st :: sts) (tSs F KW X.K (.cons c B')) := by
  refine PSs.imp (pss_cons h1 h2) ?_
  rintro D σ H ⟨m0, ρ, s, m, wr, al, fl, ρ', s', f, e, q⟩
  simp only [evB] at e
  cases e1 : evS F KW c ρ s with
  | bad => rw [e1] at e; cases e
  | exc x r s => rw [e1] at e; cases e
  | ok fl1 ρ1 s1 =>
    rw [e1] at e
    refine ⟨m0, ρ, s, m, wr, al, fl1, ρ1, s1, f, e1, ?_⟩
    cases fl1 with
    | nx => exact fun σ' H' m' wr' al' f' mv => ⟨m0, ρ1, s1, m', wr', al', fl, ρ', s', f', e, q.fwd mv⟩
    | cont => cases e; exact q
    | brk => cases e; exact q
    | ret r => cases e; exact q
end
end Ev

end
section
set_option Elab.async false
set_option linter.all false
set_option maxRecDepth 100000
set_option maxHeartbeats 4000000
namespace Ev
open PySem L2
theorem bind_own : ∀ (tg : Tg) (u : U) (ρ ρ' : Env), bindTg tg u ρ = some ρ' → ∀ i w, look i ρ' = .own w → look i ρ = .own w ∧ i ∉ tgSlots tg
  | .nm j, u, ρ, ρ', e, i, w, l => by
    cases e
    rcases look_put l with ⟨_, _, l⟩ | ⟨n, l⟩ | l
    · cases l
    · exact ⟨l, by simp [tgSlots, n]⟩
    · cases l
  | .t2 a b, u, ρ, ρ', e, i, w, l => by
    simp only [bindTg] at e
    cases i1 : items u with
    | none => rw [i1] at e; cases e
    | some us =>
      rw [i1] at e
      match us, e with
      | [w1, w2], e =>
        simp only at e
        cases e1 : bindTg a w1 ρ with
        | none => rw [e1] at e; cases e
        | some ρ1 =>
          rw [e1] at e
          obtain ⟨l1, n1⟩ := bind_own b w2 ρ1 ρ' e i w l
          obtain ⟨l2, n2⟩ := bind_own a w1 ρ ρ1 e1 i w l1
          exact ⟨l2, by simp [tgSlots, n1, n2]⟩
  | .t3 a b c, u, ρ, ρ', e, i, w, l => by
    simp only [bindTg] at e
    cases i1 : items u with
    | none => rw [i1] at e; cases e
    | some us =>
      rw [i1] at e
      match us, e with
      | [w1, w2, w3], e =>
        simp only at e
        cases e1 : bindTg a w1 ρ with
        | none => rw [e1] at e; cases e
        | some ρ1 =>
          rw [e1] at e
          simp only at e
          cases e2 : bindTg b w2 ρ1 with
          | none => rw [e2] at e; cases e
          | some ρ2 =>
            rw [e2] at e
            obtain ⟨l0, n0⟩ := bind_own c w3 ρ2 ρ' e i w l
            obtain ⟨l1, n1⟩ := bind_own b w2 ρ1 ρ2 e2 i w l0
            obtain ⟨l2, n2⟩ := bind_own a w1 ρ ρ1 e1 i w l1
            exact ⟨l2, by simp [tgSlots, n0, n1, n2]⟩
  | .t4 a b c d, u, ρ, ρ', e, i, w, l => by
    simp only [bindTg] at e
    cases i1 : items u with
    | none => rw [i1] at e; cases e
    | some us =>
      rw [i1] at e
      match us, e with
      | [w1, w2, w3, w4], e =>
        simp only at e
        cases e1 : bindTg a w1 ρ with
        | none => rw [e1] at e; cases e
        | some ρ1 =>
          rw [e1] at e
          simp only at e
          cases e2 : bindTg b w2 ρ1 with
          | none => rw [e2] at e; cases e
          | some ρ2 =>
            rw [e2] at e
            simp only at e
            cases e3 : bindTg c w3 ρ2 with
            | none => rw [e3] at e; cases e
            | some ρ3 =>
              rw [e3] at e
              obtain ⟨l9, n9⟩ := bind_own d w4 ρ3 ρ' e i w l
              obtain ⟨l0, n0⟩ := bind_own c w3 ρ2 ρ3 e3 i w l9
              obtain ⟨l1, n1⟩ := bind_own b w2 ρ1 ρ2 e2 i w l0
              obtain ⟨l2, n2⟩ := bind_own a w1 ρ ρ1 e1 i w l1
              exact ⟨l2, by simp [tgSlots, n9, n0, n1, n2]⟩
section
variable {K : PySem.W.Frag} {m0 m wr m1 wr1 m2 wr2 : Addr → Prop} {ρ ρ' : Env} {s s1 s' : Sto} {al al1 al2 : List Addr} {σ σ' : L2.St} {H H1 H2 : Hp} {u : U} {v : V} {D : Ends} {fl : Fl} {r : Rv}
theorem Fr.bind {tg : Tg} (f : Fr K m0 ρ s m wr al σ H) (e : bindTg tg u ρ = some ρ') (r : SR K m al ρ' σ' H) (o : Off (tgSlots tg) σ σ') : Fr K m0 ρ' s m wr al σ' H :=
  ⟨⟨f.sc.t, r⟩, fun i w a l e2 => by
    obtain ⟨l1, n⟩ := bind_own tg u ρ ρ' e i w l
    rw [o.get i n] at e2
    exact f.ow i w a l1 e2, f.ws, f.wm, f.up⟩
theorem Fr.grow (f : Fr K m0 ρ s m wr al σ H) (g : Grow H H1) : Fr K m0 ρ s m wr al σ H1 ∧ Mv H m wr al H1 m wr al :=
  ⟨⟨⟨f.sc.t.grow g, f.sc.r.over g.step f.sc.t.sub (fun _ _ _ n => n) (fun b z => by obtain ⟨o, e⟩ := f.sc.md b z; exact ⟨o, g b o e⟩) fun _ z => z⟩, f.ow, f.ws, f.wm, f.up⟩, fun b o e _ => g b o e, fun b o e => ⟨o, g b o e⟩, fun _ z => .inl z, fun _ z => .inl z, [], by simp, fun _ z => nomatch z⟩
/-- an iterator's item, later on -/
theorem Fr.item {Hi H3 : Hp} {mi wri : Addr → Prop} {ali : List Addr} {J : L2.It} {us : List U} {i : Nat} {x : V} (wm1 : ∀ a, wr1 a → m1 a) (yl : Yl K m1 al1 .esc H1 J us) (f : Fr K m0 ρ s mi wri ali σ Hi) (mv : Mv H1 m1 wr1 al1 Hi mi wri ali) (e : us[i]? = some u) (y : J.yld i Hi x H3) :
    Grow Hi H3 ∧ Sh K H3 mi ali u x := by
  have pp : PP m1 al1 .esc H1 Hi := fun b o e n => mv.ext b o e fun z => n (wm1 b z)
  cases yl.yl i Hi x H3 u pp e y with
  | old h1 h2 => subst h1; exact ⟨Grow.refl, mv.sh wm1 h2⟩
  | new h1 h2 h3 =>
    subst h2
    refine ⟨Grow.new h1, .tup upd_same (fun z => ?_) ((mv.shs wm1 h3).grow (Grow.new h1))⟩
    obtain ⟨o, e⟩ := f.sc.md _ z
    rw [h1] at e; cases e
  | @new2 w0 y0 ws0 xs0 T T2 its its2 h1 hne h2 h3 h4 h5 =>
    subst h3
    have nm : ∀ {b : Addr}, Hi b = none → ¬ mi b := fun hb z => by
      obtain ⟨o, e⟩ := f.sc.md _ z
      rw [hb] at e; cases e
    have g1 := Grow.new (o := tupO its xs0) h1
    have hT2 : upd Hi T (tupO its xs0) T2 = none := (upd_ne hne).trans h2
    have g2 := Grow.new (o := tupO its2 [y0, .ref T]) hT2
    have g := g1.trans g2
    refine ⟨g, .tup upd_same (nm h2) (.cons ((mv.sh wm1 h4).grow g) (.cons (.tup (g2 _ _ upd_same) (nm h1) ((mv.shs wm1 h5).grow g)) .nil))⟩
end
def stepF (F : CallF) (KW : Kt) (tg : Tg) (b : B) (u : U) (r : Env) (s : Sto) : RS := match bindTg tg u r with
  | some r => evB F KW b r s
  | none => .bad
theorem forL_cons {f : U → Env → Sto → RS} {u : U} {us : List U} {ρ ρ' : Env} {s s' : Sto} {fl : Fl} (h : forL f (u :: us) ρ s = .ok fl ρ' s') : ∃ fl1 ρ1 s1, f u ρ s = .ok fl1 ρ1 s1 ∧ (match fl1 with
    | .nx => forL f us ρ1 s1 = .ok fl ρ' s'
    | .cont => forL f us ρ1 s1 = .ok fl ρ' s'
    | .brk => fl = .nx ∧ ρ' = ρ1 ∧ s' = s1
    | .ret v => fl = .ret v ∧ ρ' = ρ1 ∧ s' = s1) := by
  simp only [forL] at h
  cases q : f u ρ s with
  | bad => rw [q] at h; cases h
  | exc x r s => rw [q] at h; cases h
  | ok fl1 ρ1 s1 =>
    rw [q] at h
    refine ⟨fl1, ρ1, s1, rfl, ?_⟩
    cases fl1 with
    | nx => exact h
    | cont => exact h
    | brk => cases h; exact ⟨rfl, rfl, rfl⟩
    | ret v => cases h; exact ⟨rfl, rfl, rfl⟩
section
variable {X : Cx} {F : CallF} {KW : Kt} {a b c : C} {x y z : Expr} {pos p : Pos} {i j : Nat} {fz : List Nat}
theorem asgT_in {tg : Tg} : ∀ D σ H, tS F KW X.K (.asgT fz tg a) D σ H → tAsg (tE F KW X.K a) (tG X.K tg) D σ H := by
  rintro D σ H ⟨m0, ρ, s, m, wr, al, fl, ρ', s', f, e, q⟩
  simp only [evS] at e
  obtain ⟨r, s1, e1, e⟩ := st_ok e
  obtain ⟨m1, wr1, f1, mv1⟩ := f.fz fz
  cases eb : bindTg tg r.u (freeze fz ρ) with
  | none => rw [eb] at e; cases e
  | some ρ1 =>
    rw [eb] at e
    cases e
    refine ⟨_, s, m1, al, r, _, f1.sc, e1, fun v H1 al1 st t vr => ?_⟩
    have f2 := f1.eval st t
    exact ⟨_, _, al1, r.u, _, t.sub, f2.sc.r, vr.sh, eb, fun σ' r' off => q σ' H1 _ _ al1 (f2.bind eb r' off) (mv1.trans (f1.evalM st))⟩
theorem snd_for {tg : Tg} {it : Ev.It} {A : B} {t iter : Expr} {body : List Stmt} (hp : PassesOwn (model X.prog X.w) X.A X.env X.xe) (hc : X.calm = true) (hi : PI X t iter (tI F KW X.K .esc it)) (hg : PG X t (tG X.K tg)) (hb : PSs X body (tSs F KW X.K A))
    (hs : ∀ x, foldedSetIterable iter X.env x = pure x) : PS X (.For t iter body [] pos) (tS F KW X.K (.for_ fz tg it A)) := by
  refine PS.imp (ps_for hp hc hi hg hb hs) ?_
  rintro D σ H ⟨m0, ρ, s, m, wr, al, fl, ρ', s', f, e, q⟩
  simp only [evS] at e
  obtain ⟨us, s1, e1, e⟩ := st_ok e
  obtain ⟨m1, wr1, f1, mv1⟩ := f.fz fz
  cases hl : inLim us with
  | false => rw [hl] at e; cases e
  | true =>
  rw [hl] at e
  have e : forL (stepF F KW tg A) us (freeze fz ρ) s1 = .ok fl ρ' s' := e
  refine ⟨_, s, m1, al, us, s1, f1.sc, e1, fun J H1 al1 st t yl => ?_⟩
  have f2 := f1.eval st t
  have mv2 := mv1.trans (f1.evalM st)
  have q2 := q.fwd mv2
  generalize (mU m1 al1) = M at *
  generalize (fun a => wr1 a ∨ a ∈ al1) = WR at *
  have wm := f2.wm
  let Iv : Nat → L2.St → Hp → Prop := fun i σ Hi => ∃ ρi si mi wri ali, Fr X.K m0 ρi si mi wri ali σ Hi ∧ Mv H1 M WR al1 Hi mi wri ali ∧ forL (stepF F KW tg A) (us.drop i) ρi si = .ok fl ρ' s'
  refine ⟨fun i n σ Hi => n = us.length - i ∧ i ≤ us.length ∧ Iv i σ Hi, ⟨us.length, rfl, Nat.zero_le _, _, s1, M, WR, al1, f2, Mv.refl, e⟩, ?_⟩
  rintro i n σi Hi ⟨hn, hi, ρi, si, mi, wri, ali, fi, mvi, ei⟩
  have pp : PP M al1 .esc H1 Hi := fun b o e n => mvi.ext b o e fun z => n (wm b z)
  by_cases lt : i < us.length
  · rw [List.drop_eq_getElem_cons lt] at ei
    obtain ⟨fl1, ρ1, s2, ef, er⟩ := forL_cons ei
    refine .inr ⟨yl.go i Hi pp lt, Iv (i + 1), fun σ' H' h => ⟨us.length - (i + 1), by omega, rfl, lt, h⟩, fun x H3 hy => ?_⟩
    obtain ⟨g3, hx⟩ := fi.item wm yl mvi (List.getElem?_eq_getElem lt) hy
    obtain ⟨f3, mv3⟩ := fi.grow g3
    unfold stepF at ef
    cases eb : bindTg tg us[i] ρi with
    | none => rw [eb] at ef; cases ef
    | some ρb =>
      rw [eb] at ef
      have ef : evB F KW A ρb si = .ok fl1 ρ1 s2 := ef
      refine ⟨ρi, mi, ali, us[i], ρb, f3.sc.t.sub, f3.sc.r, hx, eb, fun σ2 r2 off => ?_⟩
      refine ⟨m0, ρb, si, mi, wri, ali, fl1, ρ1, s2, f3.bind eb r2 off, ef, ?_⟩
      cases fl1 with
      | nx => exact fun σ' H' m' wr' al' f' mv' => ⟨ρ1, s2, m', wr', al', f', (mvi.trans mv3).trans mv', er⟩
      | cont => exact fun σ' H' m' wr' al' f' mv' => ⟨ρ1, s2, m', wr', al', f', (mvi.trans mv3).trans mv', er⟩
      | brk =>
        obtain ⟨rfl, rfl, rfl⟩ := er
        exact fun σ' H' m' wr' al' f' mv' => q2 σ' H' m' wr' al' f' ((mvi.trans mv3).trans mv')
      | ret v =>
        obtain ⟨rfl, rfl, rfl⟩ := er
        exact fun v H' m' wr' al' h => q2 v H' m' wr' al' (h.back (mvi.trans mv3))
  · have hi' : i = us.length := Nat.le_antisymm hi (Nat.le_of_not_lt lt)
    subst hi'
    rw [List.drop_length] at ei
    cases ei
    exact .inl ⟨yl.st Hi pp, q2 σi Hi mi wri ali fi mvi⟩
theorem snd_while {A : B} {t : Expr} {body : List Stmt} (hp : PassesOwn (model X.prog X.w) X.A X.env X.xe) (hc : PT X t (tT F KW X.K a)) (hb : PSs X body (tSs F KW X.K A)) : PS X (.While t body [] pos) (tS F KW X.K (.while_ fz a A)) := by
  refine PS.imp (ps_while hp hc hb) ?_
  rintro D σ H ⟨m0, ρ, s, m, wr, al, fl, ρ', s', f, e, q⟩
  simp only [evS] at e
  generalize ht : (fun (r : Env) (s : Sto) => ((evE F KW a (freeze fz r) s).bind fun v s => (ofO s (truth v.u)).bind fun k s => RE.ok (k, freeze fz r) s)) = tf at e
  refine ⟨fun n σ Hi => ∃ ρi si mi wri ali, Fr X.K m0 ρi si mi wri ali σ Hi ∧ Mv H m wr al Hi mi wri ali ∧ whileL tf (fun r s => evB F KW A r s) n ρi si = .ok fl ρ' s', ⟨1000000, ρ, s, m, wr, al, f, Mv.refl, e⟩, ?_⟩
  rintro n σi Hi ⟨ρi, si, mi, wri, ali, fi, mvi, ei⟩
  cases n with
  | zero => cases ei
  | succ n =>
    simp only [whileL] at ei
    cases ht1 : tf ρi si with
    | bad => rw [ht1] at ei; cases ei
    | exc x s => rw [ht1] at ei; cases ei
    | ok kr s1 =>
      rw [ht1] at ei
      rw [← ht] at ht1
      obtain ⟨ra, s2, e2, ht1⟩ := bind_ok ht1
      obtain ⟨k, e3, ht1⟩ := bindO_ok ht1
      cases ht1
      obtain ⟨m1, wr1, f1, mv1⟩ := fi.fz fz
      refine ⟨_, si, m1, ali, ra, s1, k, f1.sc, e2, e3, fun H1 al1 st t1 => ?_⟩
      have f2 := f1.eval st t1
      have mv2 := (mvi.trans mv1).trans (f1.evalM st)
      cases k with
      | false =>
        cases ei
        exact iteF (q σi H1 _ _ al1 f2 mv2)
      | true =>
        simp only at ei
        refine iteT ⟨fun σ' H' => ∃ ρi si mi wri ali, Fr X.K m0 ρi si mi wri ali σ' H' ∧ Mv H m wr al H' mi wri ali ∧ whileL tf (fun r s => evB F KW A r s) n ρi si = .ok fl ρ' s', fun σ' H' h => ⟨n, Nat.lt_succ_self n, h⟩, ?_⟩
        cases eb : evB F KW A (freeze fz ρi) s1 with
        | bad => rw [eb] at ei; cases ei
        | exc x r s => rw [eb] at ei; cases ei
        | ok fl1 ρ1 s3 =>
          rw [eb] at ei
          refine ⟨m0, _, s1, _, _, al1, fl1, ρ1, s3, f2, eb, ?_⟩
          cases fl1 with
          | nx => exact fun σ' H' m' wr' al' f' mv' => ⟨ρ1, s3, m', wr', al', f', mv2.trans mv', ei⟩
          | cont => exact fun σ' H' m' wr' al' f' mv' => ⟨ρ1, s3, m', wr', al', f', mv2.trans mv', ei⟩
          | brk => cases ei; exact fun σ' H' m' wr' al' f' mv' => q σ' H' m' wr' al' f' (mv2.trans mv')
          | ret v => cases ei; exact fun v H' m' wr' al' h => q v H' m' wr' al' (h.back mv2)
end
end Ev

end
section
set_option Elab.async false
set_option linter.all false
set_option maxRecDepth 100000
set_option maxHeartbeats 4000000
namespace Ev
open PySem L2
section
variable {K : PySem.W.Frag} {m0 m wr m1 wr1 m2 wr2 : Addr → Prop} {ρ ρ' : Env} {s s1 s' : Sto} {al al1 al2 : List Addr} {σ σ' : L2.St} {H H1 H2 : Hp} {u : U} {v : V}
theorem Mv.write {a : Addr} {o : HO} (h : wr a) : Mv H m wr al (upd H a o) m wr al :=
  ⟨fun b q e n => by rw [upd_ne fun z => n (by rw [z]; exact h)]; exact e, fun b q e => by
    by_cases z : b = a
    · rw [z]; exact ⟨_, upd_same⟩
    · exact ⟨q, by rw [upd_ne z]; exact e⟩, fun _ z => .inl z, fun _ z => .inl z, [], by simp, fun _ z => nomatch z⟩
theorem Fr.writeOwn (f : Fr K m0 ρ s m wr al σ H) {i : Nat} {us us' : List U} {a : Addr} {vs' : List V} (l : look i ρ = .own (.lst us)) (e : σ[i]? = some (some (.ref a))) (sh : Shs K H m al us' vs') :
    Fr K m0 (Ev.put i (.own (.lst us')) ρ) s m wr al σ (upd H a (.lst vs')) ∧ Mv H m wr al (upd H a (.lst vs')) m wr al := by
  obtain ⟨hw, h0⟩ := f.ow i _ a l e
  have hm := f.wm _ hw
  obtain ⟨_, a', _, _, q2, _, _, _, q6⟩ := f.sc.r.own i _ l
  rw [e] at q2; cases q2
  have old : ∀ j w, look j (Ev.put i (.own (.lst us')) ρ) = .own w → ∃ w', look j ρ = .own w' := fun j w e => by
    rcases look_put e with ⟨rfl, _, e⟩ | ⟨n, e⟩ | e
    · exact ⟨_, l⟩
    · exact ⟨_, e⟩
    · cases e
  refine ⟨⟨⟨f.sc.t.write hm q6, ⟨by rw [put_len]; exact f.sc.r.len, fun b z => ?_, fun j w e => ?_, fun j w e1 => ?_, fun j j' w w' c e1 e2 e3 e4 => ?_⟩⟩, fun j w b e1 e2 => ?_, f.ws, f.wm, f.up⟩, Mv.write hw⟩
  · by_cases y : b = a
    · rw [y]; exact ⟨_, upd_same⟩
    · obtain ⟨o, q⟩ := f.sc.r.md b z
      exact ⟨o, by rw [upd_ne y]; exact q⟩
  · rcases look_put e with ⟨_, _, e⟩ | ⟨n, e⟩ | e
    · cases e
    · obtain ⟨x, e1, e2⟩ := f.sc.r.sh j w e
      exact ⟨x, e1, e2.write hm⟩
    · cases e
  · rcases look_put e1 with ⟨rfl, _, e1⟩ | ⟨n, e1⟩ | e1
    · cases e1
      exact ⟨us', a, vs', rfl, e, upd_same, sh.write hm, hm, q6⟩
    · obtain ⟨ws, b, zs, k1, k2, k3, k4, k5, k6⟩ := f.sc.r.own j w e1
      have nb : b ≠ a := fun z => n (f.sc.r.inj j i _ _ a e1 l (by rw [← z]; exact k2) e)
      exact ⟨ws, b, zs, k1, k2, by rw [upd_ne nb]; exact k3, k4.write hm, k5, k6⟩
    · cases e1
  · obtain ⟨w1, k1⟩ := old j w e1
    obtain ⟨w2, k2⟩ := old j' w' e2
    exact f.sc.r.inj j j' w1 w2 c k1 k2 e3 e4
  · obtain ⟨w1, k1⟩ := old j w e1
    exact f.ow j w1 b k1 e2
theorem Fr.writeSto (f : Fr K m0 ρ s m wr al σ H) {p : Nat} {is is' : List Int} {a : Addr} (e : s[p]? = some (.lst is)) (ea : al[p]? = some a) :
    Fr K m0 ρ (s.set p (.lst is')) m wr al σ (upd H a (.lst (is'.map V.int))) ∧ Mv H m wr al (upd H a (.lst (is'.map V.int))) m wr al := by
  have ha : a ∈ al := List.mem_of_getElem? ea
  have hm := f.sc.t.sub a ha
  refine ⟨⟨⟨⟨by rw [List.length_set]; exact f.sc.t.len, f.sc.t.nd, f.sc.t.sub, fun k ws q => ?_⟩, ⟨f.sc.r.len, fun b z => ?_, fun j w e => ?_, fun j w e1 => ?_, f.sc.r.inj⟩⟩, f.ow, f.ws, f.wm, f.up⟩, Mv.write (f.ws a ha)⟩
  · by_cases c : p = k
    · subst c
      rw [List.getElem?_set_self (List.getElem?_eq_some_iff.mp e).1] at q
      cases q
      exact ⟨a, ea, upd_same⟩
    · rw [List.getElem?_set_ne c] at q
      obtain ⟨b, e1, e2⟩ := f.sc.t.at_ k ws q
      refine ⟨b, e1, ?_⟩
      rw [upd_ne ?_]
      · exact e2
      · intro z
        subst z
        obtain ⟨h1, g1⟩ := List.getElem?_eq_some_iff.mp ea
        obtain ⟨h2, g2⟩ := List.getElem?_eq_some_iff.mp e1
        exact c ((List.getElem_inj f.sc.t.nd).mp (g1.trans g2.symm))
  · by_cases y : b = a
    · rw [y]; exact ⟨_, upd_same⟩
    · obtain ⟨o, q⟩ := f.sc.r.md b z
      exact ⟨o, by rw [upd_ne y]; exact q⟩
  · obtain ⟨x, e1, e2⟩ := f.sc.r.sh j w e
    exact ⟨x, e1, e2.write hm⟩
  · obtain ⟨ws, b, zs, k1, k2, k3, k4, k5, k6⟩ := f.sc.r.own j w e1
    exact ⟨ws, b, zs, k1, k2, by rw [upd_ne fun z => k6 (by rw [z]; exact ha)]; exact k3, k4.write hm, k5, k6⟩
end
section
variable {X : Cx} {F : CallF} {KW : Kt} {a b c : C} {x y z : Expr} {pos p : Pos} {i j l : Nat} {fz : List Nat} {as : A}
theorem aug_in {o : Op2} {g : Int → Int → Int} (hg : ∀ i j r, op2 o (.int i) j = some r → ∃ k, j = .int k ∧ r.u = .int (g i k)) : ∀ D σ H, tS F KW X.K (.aug fz i o a) D σ H → tAug i (tB F KW X.K a) (ipI g) D σ H := by
  rintro D σ H ⟨m0, ρ, s, m, wr, al, fl, ρ', s', f, e, q⟩
  simp only [evS] at e
  obtain ⟨r, s1, e1, e⟩ := stN_ok e
  obtain ⟨m1, wr1, f1, mv1⟩ := f.fz fz
  cases l : look i (freeze fz ρ) with
  | un => rw [l] at e; cases e
  | own u => rw [l] at e; cases e
  | sh u =>
    rw [l] at e
    obtain ⟨n, hn⟩ : ∃ n, u = .int n := by cases u <;> first | exact ⟨_, rfl⟩ | (cases e; done)
    subst hn
    simp only at e
    cases eo : op2 o (.int n) r.u with
    | none => rw [eo] at e; cases e
    | some w =>
      rw [eo] at e
      cases e
      obtain ⟨k, hk, hw⟩ := hg _ _ _ eo
      obtain ⟨v, e2, e3⟩ := f1.sc.r.sh i _ l
      cases e3
      refine ⟨_, e2, _, s, m1, al, r, _, f1.sc, e1, fun y H1 al1 st t br => ?_⟩
      rw [hk] at br
      cases br.int
      refine ⟨n, k, rfl, rfl, ?_⟩
      have f2 := f1.eval st t
      refine q _ H1 _ _ al1 (f2.put (.sh ?_)) (mv1.trans (f1.evalM st))
      rw [hw]; exact .int _
theorem par3_in : ∀ D σ H, tS F KW X.K (.par3 fz i j l as) D σ H → tPar3 i j l (tAs F KW X.K as) D σ H := by
  rintro D σ H ⟨m0, ρ, s, m, wr, al, fl, ρ', s', f, e, q⟩
  simp only [evS] at e
  obtain ⟨us, s1, e1, e⟩ := st_ok e
  obtain ⟨m1, wr1, f1, mv1⟩ := f.fz fz
  match us, e, e1 with
  | [u1, u2, u3], e, e1 =>
    cases e
    refine ⟨_, s, m1, al, _, _, f1.sc, e1, fun vs H1 al1 st t sh => ?_⟩
    cases sh with
    | cons h1 sh => cases sh with
      | cons h2 sh => cases sh with
        | cons h3 sh =>
          cases sh
          exact ⟨_, _, _, rfl, q _ H1 _ _ al1 ((((f1.eval st t).put (.sh h1)).put (.sh h2)).put (.sh h3)) (mv1.trans (f1.evalM st))⟩
theorem par2_in {oi oj : Bool} : ∀ D σ H, tS F KW X.K (.par2 fz i oi a j oj b) D σ H → tPar i j (tCons (tE F KW X.K a) (tCons (tE F KW X.K b) tNil)) D σ H := by
  rintro D σ H ⟨m0, ρ, s, m, wr, al, fl, ρ', s', f, e, q⟩
  simp only [evS] at e
  obtain ⟨r1, s1, e1, e⟩ := st_ok e
  obtain ⟨r2, s2, e2, e⟩ := st_ok e
  cases e
  obtain ⟨m1, wr1, f1, mv1⟩ := f.fz fz
  refine ⟨_, s, m1, al, r1, s1, f1.sc, e1, fun v H1 al1 st t vr => ?_⟩
  obtain ⟨m2, wr2, f2, mv2, pd, _, _⟩ := f1.val st t vr oi
  refine ⟨_, s1, m2, al1, r2, _, f2.sc, e2, fun w H2 al2 st2 t2 vr2 => ⟨v, w, rfl, ?_⟩⟩
  obtain ⟨m3, wr3, f3, mv3, pd2, nw2, ww⟩ := f2.val st2 t2 vr2 oj
  have pd' : Pend X.K m0 m3 wr3 al2 H2 (freeze fz ρ) σ (r1.slot oi) v := by
    generalize r1.slot oi = sl at pd
    cases pd with
    | sh h => exact .sh (mv3.sh f2.wm h)
    | own h1 h2 h3 h4 h5 h6 => exact .own (st2.ext _ _ h1 h5) (mv3.shs f2.wm h2) (ww _ h3) h4 (st2.notin h1 h5) h6
  have f4 := f3.put (i := i) pd'
  have pd2' : Pend X.K m0 m3 wr3 al2 H2 (put i (r1.slot oi) (freeze fz ρ)) (σ.set i (some v)) (r2.slot oj) w := by
    generalize r2.slot oj = sl2 at pd2 nw2
    cases pd2 with
    | sh h => exact .sh h
    | own h1 h2 h3 h4 h5 h6 =>
      refine .own h1 h2 h3 h4 h5 fun k u k1 k2 => ?_
      have hn := nw2 _ _ rfl rfl
      rcases look_put k1 with ⟨rfl, ll, k1⟩ | ⟨n, k1⟩ | k1
      · rw [List.getElem?_set_self (by rw [← f3.sc.r.len]; exact ll)] at k2
        cases k2
        generalize r1.slot oi = sl at pd k1
        cases pd with
        | sh h => cases k1
        | own g1 => rw [hn] at g1; cases g1
      · rw [List.getElem?_set_ne (Ne.symm n)] at k2
        exact h6 k u k1 k2
      · cases k1
  exact q _ H2 m3 wr3 al2 (f4.put pd2') ((mv1.trans mv2).trans mv3)
end
end Ev

end
section
set_option Elab.async false
set_option linter.all false
set_option maxRecDepth 100000
set_option maxHeartbeats 4000000
namespace Ev
open PySem L2
section
variable {X : Cx} {F : CallF} {KW : Kt} {a b c : C} {pos p : Pos} {i j l : Nat} {fz : List Nat} {as : A}
theorem asgIx_in {x : Nat} : ∀ D σ H, tS F KW X.K (.asgIx fz x b a) D σ H → tAsg (tE F KW X.K a) (gSub (tVar x) (tB F KW X.K b) rSetL) D σ H := by
  rintro D σ H ⟨m0, ρ, s, m, wr, al, fl, ρ', s', f, e, q⟩
  simp only [evS] at e
  obtain ⟨r, s1, e1, e⟩ := st_ok e
  obtain ⟨r2, s2, e2, e⟩ := stN_ok e
  obtain ⟨m1, wr1, f1, mv1⟩ := f.fz fz
  refine ⟨_, s, m1, al, r, _, f1.sc, e1, fun v H1 al1 st t vr => ?_⟩
  have f2 := f1.eval st t
  have mv2 := mv1.trans (f1.evalM st)
  unfold setIx at e
  cases lx : look x (freeze fz ρ) with
  | un => rw [lx] at e; cases e
  | own u =>
    rw [lx] at e
    obtain ⟨us, d, vs, rfl, g2, g3, g4, g5, g6⟩ := f2.sc.r.own x u lx
    obtain ⟨ui, fi⟩ := r2
    obtain ⟨n, hn⟩ : ∃ n, ui = .int n := by cases ui <;> first | exact ⟨_, rfl⟩ | (cases e; done)
    subst hn
    simp only at e
    cases hx : ixN us.length n with
    | none => rw [hx] at e; cases e
    | some jj =>
      rw [hx] at e
      cases e
      refine ⟨_, g2, _, s1, _, al1, _, _, f2.sc, e2, fun y H2 al2 st2 t2 br => ?_⟩
      cases br.int
      have f3 := f2.eval st2 t2
      have mv3 := mv2.trans (f2.evalM st2)
      have h2 := st2.ext _ _ g3 g6
      refine ⟨d, vs, n, jj, rfl, rfl, h2, by rw [← g4.length]; exact hx, ?_⟩
      obtain ⟨f4, mv4⟩ := f3.writeOwn lx g2 ((g4.step st2 t.sub).set (i := jj) (vr.sh.step st2 t.sub))
      exact q σ _ _ _ al2 f4 (mv3.trans mv4)
  | sh u =>
    rw [lx] at e
    obtain ⟨pp, hp⟩ : ∃ pp, u = .ref pp := by cases u <;> first | exact ⟨_, rfl⟩ | (cases e; done)
    subst hp
    obtain ⟨ui, fi⟩ := r2
    obtain ⟨n, hn⟩ : ∃ n, ui = .int n := by cases ui <;> first | exact ⟨_, rfl⟩ | (cases e; done)
    subst hn
    obtain ⟨uv, fv⟩ := r
    obtain ⟨w, hw⟩ : ∃ n, uv = .int n := by cases uv <;> first | exact ⟨_, rfl⟩ | (cases e; done)
    subst hw
    simp only at e
    cases hs : nth pp s2 with
    | none => rw [hs] at e; cases e
    | some ob =>
      rw [hs] at e
      obtain ⟨is⟩ := ob
      simp only at e
      cases hx : ixN is.length n with
      | none => rw [hx] at e; cases e
      | some jj =>
        rw [hx] at e
        cases e
        obtain ⟨v2, g1, g2⟩ := f2.sc.r.sh x _ lx
        cases g2 with
        | ref g2 =>
          rename_i d
          refine ⟨_, g1, _, s1, _, al1, _, _, f2.sc, e2, fun y H2 al2 st2 t2 br => ?_⟩
          cases br.int
          cases vr.sh
          have f3 := f2.eval st2 t2
          have mv3 := mv2.trans (f2.evalM st2)
          have g3 := st2.nth _ _ g2
          rw [nth_get] at hs g3
          obtain ⟨d', k1, k2⟩ := t2.at_ pp is hs
          rw [g3] at k1
          cases k1
          refine ⟨d, _, n, jj, rfl, rfl, k2, by rw [List.length_map]; exact hx, ?_⟩
          obtain ⟨f4, mv4⟩ := f3.writeSto (is' := is.set jj w) hs g3
          rw [← List.map_set]
          exact q σ _ _ _ al2 f4 (mv3.trans mv4)
theorem app_in {x : Nat} : ∀ D σ H, tS F KW X.K (.app fz x a) D σ H → tDrop (tBM X.K "list" rAppend (tVar x) (tCons (tE F KW X.K a) tNil)) D σ H := by
  rintro D σ H ⟨m0, ρ, s, m, wr, al, fl, ρ', s', f, e, q⟩
  simp only [evS] at e
  obtain ⟨m1, wr1, f1, mv1⟩ := f.fz fz
  cases lx : look x (freeze fz ρ) with
  | un => rw [lx] at e; cases e
  | sh u => rw [lx] at e; cases e
  | own u =>
    rw [lx] at e
    obtain ⟨us, d, vs, rfl, g2, g3, g4, g5, g6⟩ := f1.sc.r.own x u lx
    simp only at e
    obtain ⟨r, s1, e1, e⟩ := st_ok e
    by_cases hl : us.length < lim
    · rw [if_pos hl] at e
      cases e
      refine ⟨_, g2, .inl ⟨rfl, vs, SqL.of g3⟩, _, s, m1, al, r, _, f1.sc, e1, fun v H1 al1 st t vr => ?_⟩
      have f2 := f1.eval st t
      have mv2 := mv1.trans (f1.evalM st)
      refine ⟨d, vs, v, rfl, rfl, st.ext _ _ g3 g6, by rw [← g4.length]; exact Nat.lt_trans hl (by unfold lim; decide), ?_⟩
      obtain ⟨f4, mv4⟩ := f2.writeOwn lx g2 ((g4.step st f1.sc.t.sub).append (.cons vr.sh .nil))
      exact q σ _ _ _ al1 f4 (mv2.trans mv4)
    · rw [if_neg hl] at e; cases e
theorem insL_eq {α : Type} (v : α) : ∀ (n : Nat) (xs : List α), n ≤ xs.length → insL v n xs = xs.take n ++ [v] ++ xs.drop n
  | 0, xs, _ => by simp [insL]
  | n + 1, [], h => by simp at h
  | n + 1, y :: xs, h => by
    have := insL_eq v n xs (by simpa using h)
    simp only [insL, this, List.take_succ_cons, List.drop_succ_cons, List.cons_append]
/-- list.insert -/
def rIns : V → List V → Hp → VK → Prop := fun x vs H Q => ∃ (l : Addr) (xs : List V) (i : Int) (y : V), x = .ref l ∧ vs = [.int i, y] ∧ H l = some (.lst xs) ∧ xs.length < sizeLine ∧ 0 ≤ i ∧ i < 2 ^ 63 ∧ Q .non (upd H l (.lst (xs.take i.toNat ++ [y] ++ xs.drop i.toNat)))
theorem insS_in {x : Nat} : ∀ D σ H, tS F KW X.K (.insS fz x b a) D σ H → tDrop (tBM X.K "list" rIns (tVar x) (tCons (tB F KW X.K b) (tCons (tE F KW X.K a) tNil))) D σ H := by
  rintro D σ H ⟨m0, ρ, s, m, wr, al, fl, ρ', s', f, e, q⟩
  simp only [evS] at e
  obtain ⟨m1, wr1, f1, mv1⟩ := f.fz fz
  cases lx : look x (freeze fz ρ) with
  | un => rw [lx] at e; cases e
  | sh u => rw [lx] at e; cases e
  | own u =>
    rw [lx] at e
    obtain ⟨us, d, vs, rfl, g2, g3, g4, g5, g6⟩ := f1.sc.r.own x u lx
    simp only at e
    obtain ⟨ri, s1, e1, e⟩ := st_ok e
    obtain ⟨r, s2, e2, e⟩ := st_ok e
    obtain ⟨ui, fi⟩ := ri
    obtain ⟨n, rfl⟩ : ∃ n, ui = .int n := by cases ui <;> first | exact ⟨_, rfl⟩ | (cases e; done)
    simp only at e
    by_cases hl : (decide (0 ≤ n) && decide (n ≤ us.length) && decide (us.length < lim)) = true
    · rw [if_pos hl] at e
      cases e
      obtain ⟨h1, h3⟩ := and2 hl
      obtain ⟨h1, h2⟩ := and2 h1
      have h1 : 0 ≤ n := of_decide_eq_true h1
      have h2 : n ≤ us.length := of_decide_eq_true h2
      have h3 : us.length < lim := of_decide_eq_true h3
      refine ⟨_, g2, .inl ⟨rfl, vs, SqL.of g3⟩, _, s, m1, al, _, s1, f1.sc, e1, fun w H1 al1 st t br => ?_⟩
      cases br.int
      have f2 := f1.eval st t
      have mv2 := mv1.trans (f1.evalM st)
      refine ⟨_, s1, _, al1, r, _, f2.sc, e2, fun v H2 al2 st2 t2 vr => ?_⟩
      have f3 := f2.eval st2 t2
      have mv3 := mv2.trans (f2.evalM st2)
      have gs := (g4.step st f1.sc.t.sub).step st2 f2.sc.t.sub
      have hb : (lim : Int) < 2 ^ 62 := by unfold lim; decide
      have gd := st.ext _ _ g3 g6
      refine ⟨d, vs, n, v, rfl, rfl, st2.ext _ _ gd (st.notin g3 g6), by rw [← g4.length]; exact Nat.lt_trans h3 (by unfold lim; decide), h1, by omega, ?_⟩
      have hle : n.toNat ≤ us.length := by omega
      have sh : Shs X.K H2 (mU (mU m1 al1) al2) al2 (insL r.u n.toNat us) (vs.take n.toNat ++ [v] ++ vs.drop n.toNat) := by
        rw [insL_eq r.u n.toNat us hle]
        exact ((gs.take n.toNat).append (.cons vr.sh .nil)).append (gs.drop n.toNat)
      obtain ⟨f4, mv4⟩ := f3.writeOwn lx g2 sh
      exact q σ _ _ _ al2 f4 (mv3.trans mv4)
    · rw [if_neg hl] at e; cases e
theorem appPop_in {x y : Nat} : ∀ D σ H, tS F KW X.K (.appPop fz x y a) D σ H → tDrop (tBM X.K "list" rAppend (tVar x) (tCons (tBM X.K "list" rPopAt (tVar y) (tCons (tB F KW X.K a) tNil)) tNil)) D σ H := by
  rintro D σ H ⟨m0, ρ, s, m, wr, al, fl, ρ', s', f, e, q⟩
  simp only [evS] at e
  obtain ⟨r, s1, e1, e⟩ := stN_ok e
  obtain ⟨m1, wr1, f1, mv1⟩ := f.fz fz
  cases lx : look x (freeze fz ρ) with
  | un => rw [lx] at e; cases e
  | sh u => rw [lx] at e; cases e
  | own u =>
  obtain ⟨us, d, vs, rfl, g2, g3, g4, g5, g6⟩ := f1.sc.r.own x u lx
  cases ly : look y (freeze fz ρ) with
  | un => rw [lx, ly] at e; cases e
  | sh u => rw [lx, ly] at e; cases e
  | own u =>
  obtain ⟨ws, d', zs, rfl, k2, k3, k4, k5, k6⟩ := f1.sc.r.own y u ly
  rw [lx, ly] at e
  obtain ⟨ui, fi⟩ := r
  obtain ⟨n, hn⟩ : ∃ n, ui = .int n := by cases ui <;> first | exact ⟨_, rfl⟩ | (cases e; done)
  subst hn
  simp only at e
  by_cases hg : (x != y && decide (us.length < lim) && decide (ws.length ≤ lim)) = true
  · rw [if_pos hg] at e
    obtain ⟨h1, h3⟩ := and2 hg
    obtain ⟨h1, h2⟩ := and2 h1
    have hxy : x ≠ y := by simpa using h1
    have h2 : us.length < lim := of_decide_eq_true h2
    have h3 : ws.length ≤ lim := of_decide_eq_true h3
    cases hx : ixN ws.length n with
    | none => rw [hx] at e; cases e
    | some jj =>
      rw [hx] at e
      simp only at e
      cases hu : nth jj ws with
      | none => rw [hu] at e; cases e
      | some u =>
        rw [hu] at e
        cases e
        refine ⟨_, g2, .inl ⟨rfl, vs, SqL.of g3⟩, _, k2, .inl ⟨rfl, zs, SqL.of k3⟩, _, s, m1, al, _, _, f1.sc, e1, fun v H1 al1 st t br => ?_⟩
        cases br.int
        have f2 := f1.eval st t
        have mv2 := mv1.trans (f1.evalM st)
        have kd := st.ext _ _ k3 k6
        have gd := st.ext _ _ g3 g6
        have ksh := k4.step st f1.sc.t.sub
        have gsh := g4.step st f1.sc.t.sub
        rw [nth_get] at hu
        obtain ⟨w, w1, w2⟩ := ksh.nth hu
        obtain ⟨q1, q2, q3, q4⟩ := ixN_seq hx
        have hlen := k4.length
        have hb : (lim : Int) < 2 ^ 62 := by unfold lim; decide
        have nd : d ≠ d' := fun z => hxy (f1.sc.r.inj x y _ _ d lx ly g2 (by rw [z]; exact k2))
        refine ⟨d', zs, n, jj, w, rfl, rfl, kd, by omega, by omega, by rw [← hlen]; exact q1, w1, ?_⟩
        obtain ⟨f3, mv3⟩ := f2.writeOwn ly k2 (ksh.eraseIdx jj)
        refine ⟨d, vs, w, rfl, rfl, by rw [upd_ne nd]; exact gd, by rw [← g4.length]; exact Nat.lt_trans h2 (by unfold lim; decide), ?_⟩
        have lx3 : look x (Ev.put y (.own (.lst (ws.eraseIdx jj))) (freeze fz ρ)) = .own (.lst us) := by rw [look_put_ne hxy]; exact lx
        have hm' := f2.wm _ (f2.ow y _ d' ly k2).1
        obtain ⟨f4, mv4⟩ := f3.writeOwn lx3 g2 ((gsh.write hm').append (.cons (w2.write hm') .nil))
        exact q σ _ _ _ al1 f4 ((mv2.trans mv3).trans mv4)
  · rw [if_neg hg] at e; cases e
theorem popS_in {y : Nat} : ∀ D σ H, tS F KW X.K (.popS fz y a) D σ H → tDrop (tBM X.K "list" rPopAt (tVar y) (tCons (tB F KW X.K a) tNil)) D σ H := by
  rintro D σ H ⟨m0, ρ, s, m, wr, al, fl, ρ', s', f, e, q⟩
  simp only [evS] at e
  obtain ⟨r, s1, e1, e⟩ := stN_ok e
  obtain ⟨m1, wr1, f1, mv1⟩ := f.fz fz
  cases ly : look y (freeze fz ρ) with
  | un => rw [ly] at e; cases e
  | sh u => rw [ly] at e; cases e
  | own u =>
  obtain ⟨ws, d', zs, rfl, k2, k3, k4, k5, k6⟩ := f1.sc.r.own y u ly
  rw [ly] at e
  obtain ⟨ui, fi⟩ := r
  obtain ⟨n, hn⟩ : ∃ n, ui = .int n := by cases ui <;> first | exact ⟨_, rfl⟩ | (cases e; done)
  subst hn
  simp only at e
  by_cases h3 : ws.length ≤ lim
  · rw [if_pos h3] at e
    cases hx : ixN ws.length n with
    | none => rw [hx] at e; cases e
    | some jj =>
      rw [hx] at e
      cases e
      refine ⟨_, k2, .inl ⟨rfl, zs, SqL.of k3⟩, _, s, m1, al, _, _, f1.sc, e1, fun v H1 al1 st t br => ?_⟩
      cases br.int
      have f2 := f1.eval st t
      have mv2 := mv1.trans (f1.evalM st)
      have kd := st.ext _ _ k3 k6
      have ksh := k4.step st f1.sc.t.sub
      obtain ⟨q1, q2, q3, q4⟩ := ixN_seq hx
      have hlen := k4.length
      have hb : (lim : Int) < 2 ^ 62 := by unfold lim; decide
      obtain ⟨w, w1⟩ : ∃ w, zs[jj]? = some w := ⟨zs[jj]'(by omega), List.getElem?_eq_getElem (by omega)⟩
      refine ⟨d', zs, n, jj, w, rfl, rfl, kd, by omega, by omega, by rw [← hlen]; exact q1, w1, ?_⟩
      obtain ⟨f3, mv3⟩ := f2.writeOwn ly k2 (ksh.eraseIdx jj)
      exact q σ _ _ _ al1 f3 (mv2.trans mv3)
  · rw [if_neg h3] at e; cases e
theorem appR_in : ∀ D σ H, tS F KW X.K (.appR fz b a) D σ H → tDrop (tBM X.K "list" rAppend (tB F KW X.K b) (tCons (tB F KW X.K a) tNil)) D σ H := by
  rintro D σ H ⟨m0, ρ, s, m, wr, al, fl, ρ', s', f, e, q⟩
  simp only [evS] at e
  obtain ⟨r1, s1, e1, e⟩ := stN_ok e
  obtain ⟨r2, s2, e2, e⟩ := stN_ok e
  obtain ⟨m1, wr1, f1, mv1⟩ := f.fz fz
  obtain ⟨u1, g1⟩ := r1
  obtain ⟨u2, g2⟩ := r2
  obtain ⟨pp, hp⟩ : ∃ pp, u1 = .ref pp := by cases u1 <;> first | exact ⟨_, rfl⟩ | (cases e; done)
  subst hp
  obtain ⟨w, hw⟩ : ∃ n, u2 = .int n := by cases u2 <;> first | exact ⟨_, rfl⟩ | (cases e; done)
  subst hw
  simp only at e
  cases hs : nth pp s2 with
  | none => rw [hs] at e; cases e
  | some ob =>
    rw [hs] at e
    obtain ⟨is⟩ := ob
    simp only at e
    by_cases hl : is.length < lim
    · rw [if_pos hl] at e
      cases e
      refine ⟨_, s, m1, al, _, s1, f1.sc, e1, fun v1 H1 al1 st1 t1 b1 => ?_⟩
      have f2 := f1.eval st1 t1
      have mv2 := mv1.trans (f1.evalM st1)
      cases b1 with
      | sh h =>
        cases h with
        | ref hk =>
          rename_i d
          have hd : ∃ xs, H1 d = some (.lst xs) := by
            obtain ⟨o, e⟩ : ∃ o, s1[pp]? = some o := by
              rw [nth_get] at hk
              have hlt : pp < al1.length := (List.getElem?_eq_some_iff.mp hk).1
              rw [t1.len] at hlt
              exact ⟨_, List.getElem?_eq_getElem hlt⟩
            obtain ⟨xs⟩ := o
            obtain ⟨d', k1, k2⟩ := t1.at_ pp xs e
            rw [nth_get] at hk
            rw [hk] at k1; cases k1
            exact ⟨_, k2⟩
          obtain ⟨xs0, hd⟩ := hd
          refine ⟨.inl ⟨rfl, xs0, SqL.of hd⟩, _, s1, _, al1, _, s2, f2.sc, e2, fun v2 H2 al2 st2 t2 b2 => ?_⟩
          cases b2.int
          have f3 := f2.eval st2 t2
          have mv3 := mv2.trans (f2.evalM st2)
          have g3 := st2.nth _ _ hk
          rw [nth_get] at hs g3
          obtain ⟨d', k1, k2⟩ := t2.at_ pp is hs
          rw [g3] at k1
          cases k1
          refine ⟨d, _, _, rfl, rfl, k2, by rw [List.length_map]; exact Nat.lt_trans hl (by unfold lim; decide), ?_⟩
          obtain ⟨f4, mv4⟩ := f3.writeSto (is' := is ++ [w]) hs g3
          rw [List.map_append] at f4 mv4
          exact q σ _ _ _ al2 f4 (mv3.trans mv4)
    · rw [if_neg hl] at e; cases e
end
end Ev

end
section
set_option Elab.async false
set_option linter.all false
set_option maxRecDepth 100000
set_option maxHeartbeats 4000000
namespace Ev
open PySem L2
theorem sameNames_eq : ∀ {xs ys : List Str}, sameNames xs ys = true → xs = ys
  | [], [], _ => rfl
  | [], _ :: _, h => nomatch h
  | _ :: _, [], h => nomatch h
  | x :: xs, y :: ys, h => by
    obtain ⟨h1, h2⟩ := and2 h
    rw [of_decide_eq_true h1, sameNames_eq h2]
section
variable {X : Cx} {F : CallF} {KW : Kt} {T : Tb} {k : Ck}
theorem sw_is (O : XOk T F KW k X) {ts vs : List Expr} {xs : List Str} {a c : Nat} {b d : Pos} (h : swIs k ts vs xs = true) : swappedStores [.Tuple ts a b] (.Tuple vs c d) X.env = pure (some xs) := by
  unfold swIs at h
  cases q : swM k ts vs with
  | none => rw [q] at h; cases h
  | some r => cases r with
    | none => rw [q] at h; cases h
    | some ys =>
      rw [q] at h
      rw [← sameNames_eq h]
      exact sw_eq O.sc q
theorem sw_no (O : XOk T F KW k X) {ts : List Expr} {ex : Expr} {a : Nat} {b : Pos} (h : swNo k (.Tuple ts a b) ex = true) : swappedStores [.Tuple ts a b] ex X.env = pure none := by
  cases ex <;> first
    | (rename_i vs c d
       unfold swNo at h
       simp only at h
       cases q : swM k ts vs with
       | none => rw [q] at h; cases h
       | some r => cases r with
         | some ys => rw [q] at h; cases h
         | none => exact sw_eq O.sc q)
    | rfl
theorem sw_name {ex : Expr} (h : isLC ex = false) (x : Option Expr) (line : Nat) (env : PySem.Env) : swapsWith ex x line env = pure false := by
  cases ex <;> first | rfl | cases h
theorem sw_sole {ex : Expr} (h : isLC ex = false) (t : Expr) (line : Nat) (env : PySem.Env) : swapsWithSole [t] ex line env = pure false := by
  unfold swapsWithSole
  exact sw_name h (some t) line env
theorem name_of (O : XOk T F KW k X) {i : Nat} {x : Str} (h : nameI k i x = true) : X.N[i]? = some x ∧ X.env.scope.names.lookup x = some .local := by
  obtain ⟨h1, h2⟩ := and2 h
  rw [O.N, O.sc]
  exact ⟨of_decide_eq_true h1, eq_of_beq h2⟩
theorem sw_lc (O : XOk T F KW k X) (hf : isFn k = true) {elt : Expr} {gs : List Comprehension} {scope : Scope} {cp p : Pos} {x : Str} {line : Nat} : swapsWith (.ListComp elt gs scope cp) (some (.Name x p)) line X.env = pure (swapOne k (.ListComp elt gs scope cp) x p) := by
  have hb : X.env.blockKind = .function := by
    unfold Env.blockKind
    rw [O.sc]
    unfold isFn at hf
    cases q : k.sc.kind <;> rw [q] at hf <;> first | rfl | cases hf
  have hn : X.env.kindOf x = k.sc.names.lookup x := by unfold Env.kindOf; rw [O.sc]
  unfold swapsWith swapOne
  simp only [hb, hn]
  rfl
end
theorem snd_raiseN {X : Cx} {F : CallF} {KW : Kt} {c : Nat} {st : Stmt} : PS X st (tS F KW X.K (.raise c)) := by
  refine PS.imp ps_never ?_
  rintro D σ H ⟨m0, ρ, s, m, wr, al, fl, ρ', s', f, e, q⟩
  simp only [evS] at e
  cases e
theorem type_ins : typeOf (.builtin "list.insert") = pure (.type "method_descriptor") := by show builtinType _ = _; rw [builtinType_eq_fast]; kernel_rfl
/-- no block within -/
def simpS : S → Bool
  | .ife _ _ _ _ => false
  | .for_ _ _ _ _ => false
  | .while_ _ _ _ => false
  | .try_ _ _ _ => false
  | _ => true
theorem snd_raiseA {X : Cx} {F : CallF} {KW : Kt} {c : Nat} {fz : List Nat} {e : C} {st : Stmt} : PS X st (tS F KW X.K (.raiseA fz c e)) := by
  refine PS.imp ps_never ?_
  rintro D σ H ⟨m0, ρ, s, m, wr, al, fl, ρ', s', f, e, q⟩
  simp only [evS] at e
  obtain ⟨_, _, _, e⟩ := st_ok e
  cases e
theorem sndS {T : Tb} {F : CallF} {KW : Kt} : ∀ (c : S) (k : Ck) (st : Stmt) (X : Cx), XOk T F KW k X → PassesOwn (model X.prog X.w) X.A X.env X.xe → simpS c = true → chkS T c k st = true → PS X st (tS F KW X.K c)
  | .asg fz i o e, k, st, X, O, hp, hq, h => by
    rw [chkS.eq_def] at h
    simp only at h
    split at h
    · rename_i x p ex pos
      obtain ⟨h0, h5⟩ := and2 h
      obtain ⟨h0, h4⟩ := and2 h0
      obtain ⟨h0, h3⟩ := and2 h0
      obtain ⟨h1, h2⟩ := and2 h0
      have he := sndC e .esc k ex X O h4
      obtain ⟨hl, hf⟩ := loc_of O.names h3
      have hN : X.N.Nodup := by rw [O.N]; exact O.nd
      have hi : X.N[i]? = some x := by rw [O.N]; exact of_decide_eq_true h2
      by_cases lc : isLC ex = false
      · exact PS.imp (ps_set hN hi hl he (sw_name lc _ _ _) hf) asg_in
      · cases ex <;> first | exact absurd rfl lc | skip
        · rename_i elt gs scope cp
          by_cases sw : swapOne k (.ListComp elt gs scope cp) x p = false
          · exact PS.imp (ps_set hN hi hl he (by rw [sw_lc O h1, sw]) hf) asg_in
          · have sw : swapOne k (.ListComp elt gs scope cp) x p = true := by simpa using sw
            have hxl : X.env.scope.names.lookup x = some .local := by
              rw [O.sc]
              unfold swapOne at sw
              exact eq_of_beq (and2 (and2 sw).1).1
            cases e <;> simp only [isComp] at h5 <;> first | (cases h5; done) | skip
            rename_i w tg it t e'
            simp only [chk] at h4
            split at h4
            · rename_i elt' tg' iter ifs scope' pos' heq
              cases heq
              obtain ⟨g, g8⟩ := and2 h4
              obtain ⟨g, g7⟩ := and2 g
              obtain ⟨g, g6⟩ := and2 g
              obtain ⟨g, g5⟩ := and2 g
              obtain ⟨g, g4⟩ := and2 g
              obtain ⟨g, g3⟩ := and2 g
              obtain ⟨g1, g2⟩ := and2 g
              have hs : ∀ j ∈ tgSlots tg, j ∈ w := fun j hj => by
                have := List.all_eq_true.mp g2 j hj
                simpa using this
              have ok : BlkOk X.N X.env.scope scope (ownOf k.N scope) := by
                rw [O.N, O.sc]
                exact blkOk_by g4
              have hit := sndI it .brw k tg' iter X O (fun z => nomatch z) g5
              have ht : ∀ (s : Shared) (H : Hp) (C : Addr) (cl : List (Str × Addr)) (fp : List Addr), PTs (X.blk s H scope (compEnvC scope cl C X.env) fp) ifs (tT F KW X.K t) := fun s H C cl fp => by
                split at g7
                · refine ⟨fun pins s0 σ H Q I hw => pts_nil.run pins s0 σ H Q I ?_⟩
                  obtain ⟨ρ, s, m, al, r, s', kb, sc, e, tr, q⟩ := hw
                  split at g7
                  · simp only [evE] at e
                    cases e
                    cases tr
                    exact q H al Step.refl sc.t.up
                  · cases g7
                · exact pts_one (sndC t .tst (k.blk scope) _ _ (O.blk scope s H C cl fp) g7)
                · cases g7
              refine PS.imp (ps_setLc O.calm hN hi hxl (by rw [sw_lc O h1, sw]) hit ok (fun s H C cl fp => (show PG _ tg' (tG X.K tg) from pg_of (O.blk scope s H C cl fp).names tg tg' g6)) ht (fun s H C cl fp => (show PE _ elt (tE F KW X.K e') from sndC e' .esc (k.blk scope) elt _ (O.blk scope s H C cl fp) g8)) (fold_of g1 _)) fun D σ H hq => ?_
              have hq := asg_in D σ H hq
              exact lc_in (fun σ => wipe_same g3 σ) hs σ H _ hq
            · cases h4
        · cases h5
        · cases h5
    · cases h
  | .asgT fz tg e, k, st, X, O, hp, hq, h => by
    rw [chkS.eq_def] at h
    simp only at h
    split at h
    · rename_i t ex pos
      obtain ⟨h0, h5⟩ := and2 h
      obtain ⟨h0, h4⟩ := and2 h0
      obtain ⟨h0, h3⟩ := and2 h0
      obtain ⟨h1, h2⟩ := and2 h0
      obtain ⟨es, kk, tp, rfl⟩ : ∃ es kk tp, t = .Tuple es kk tp := by cases t <;> first | exact ⟨_, _, _, rfl⟩ | (exact nomatch h1)
      have lc : isLC ex = false := by simpa using h4
      exact PS.imp (ps_asg (sndC e .esc k ex X O h3) (pg_of O.names tg _ h2) (sw_sole lc _ _ _) (sw_no O h5) rfl) asgT_in
    · cases h
  | .par2 fz i oi a j oj b, k, st, X, O, hp, hq, h => by
    rw [chkS.eq_def] at h
    simp only at h
    split at h
    · obtain ⟨h0, h8⟩ := and2 h
      obtain ⟨h0, h7⟩ := and2 h0
      obtain ⟨h0, h6⟩ := and2 h0
      obtain ⟨h0, h5⟩ := and2 h0
      obtain ⟨h0, h4⟩ := and2 h0
      obtain ⟨h0, h3⟩ := and2 h0
      obtain ⟨h1, h2⟩ := and2 h0
      obtain ⟨hi, hx⟩ := name_of O h1
      obtain ⟨hj, hy⟩ := name_of O h2
      exact PS.imp (ps_par O.calm (by rw [O.N]; exact O.nd) hi hj (of_decide_eq_true h3) hx hy (pa_cons (sndC a .esc k _ X O h6) (pa_cons (sndC b .esc k _ X O h7) pa_nil (star_of h5 _)) (star_of h4 _)) (sw_is O h8) rfl) par2_in
    · cases h
  | .par3 fz i j l as, k, st, X, O, hp, hq, h => by
    rw [chkS.eq_def] at h
    simp only at h
    split at h
    · obtain ⟨h0, h8⟩ := and2 h
      obtain ⟨h0, h7⟩ := and2 h0
      obtain ⟨h0, h6⟩ := and2 h0
      obtain ⟨h0, h5⟩ := and2 h0
      obtain ⟨h0, h4⟩ := and2 h0
      obtain ⟨h0, h3⟩ := and2 h0
      obtain ⟨h1, h2⟩ := and2 h0
      obtain ⟨hi, hx⟩ := name_of O h1
      obtain ⟨hj, hy⟩ := name_of O h2
      obtain ⟨hl, hz⟩ := name_of O h3
      exact PS.imp (ps_par3 O.calm (by rw [O.N]; exact O.nd) hi hj hl (of_decide_eq_true h4) (of_decide_eq_true h5) (of_decide_eq_true h6) hx hy hz (sndA as .esc k _ X O (fun z => nomatch z) h7) (sw_is O h8) rfl) par3_in
    · cases h
  | .asgIx fz x kx e, k, st, X, O, hp, hq, h => by
    rw [chkS.eq_def] at h
    simp only at h
    split at h
    · rename_i o ix sp ex pos
      obtain ⟨h0, h5⟩ := and2 h
      obtain ⟨h0, h4⟩ := and2 h0
      obtain ⟨h0, h3⟩ := and2 h0
      obtain ⟨h1, h2⟩ := and2 h0
      have lc : isLC ex = false := by simpa using h5
      refine PS.imp (ps_asg (sndC e .esc k ex X O h4) (pg_sub (pe_slot O h1) (sndC kx .brw k ix X O h3) set_list ?_) (sw_sole lc _ _ _) ?_ rfl) asgIx_in
      · intro v
        cases ix <;> first | rfl | (cases h2; done)
      · cases ex <;> rfl
    · cases h
  | .aug fz i o e, k, st, X, O, hp, hq, h => by
    rw [chkS.eq_def] at h
    simp only at h
    split at h
    · rename_i x p op ex pos
      obtain ⟨h0, h4⟩ := and2 h
      obtain ⟨h0, h3⟩ := and2 h0
      obtain ⟨h1, h2⟩ := and2 h0
      obtain ⟨hl, hf⟩ := loc_of O.names h3
      have hN : X.N.Nodup := by rw [O.N]; exact O.nd
      have hi : X.N[i]? = some x := by rw [O.N]; exact of_decide_eq_true h2
      have he := sndC e .brw k _ X O h4
      split at h1
      · exact PS.imp (ps_aug hN hi hl he ip_add hf) (aug_in fun i j r q => by
          cases j <;> simp only [op2] at q <;> first | (cases q; exact ⟨_, rfl, rfl⟩) | (cases q; done))
      · exact PS.imp (ps_aug hN hi hl he ip_sub hf) (aug_in fun i j r q => by
          cases j <;> simp only [op2] at q <;> first | (cases q; exact ⟨_, rfl, rfl⟩) | (cases q; done))
      · cases h1
    · cases h
  | .app fz x e, k, st, X, O, hp, hq, h => by
    rw [chkS.eq_def] at h
    simp only at h
    split at h
    · rename_i o nm ap ex cp pos
      obtain ⟨h0, h5⟩ := and2 h
      obtain ⟨h0, h4⟩ := and2 h0
      obtain ⟨h0, h3⟩ := and2 h0
      obtain ⟨h1, h2⟩ := and2 h0
      have h1 := of_decide_eq_true h1
      subst h1
      have ho := pe_slot O h2
      obtain ⟨nn, pp, rfl⟩ : ∃ x p, o = .Name x p := by cases o <;> first | exact ⟨_, _, rfl⟩ | (cases h2; done)
      refine PS.imp (ps_expr (pe_bm PySem.F.plainAttrs_list PySem.F.slot_list_append PySem.F.type_list_append mt_append ho (pa_cons (sndC e .esc k ex X O h4) pa_nil (star_of h3 _)) rfl ?_ (by simpa using h5) (star_of h3 _) rfl) rfl) app_in
      rw [star_of h3]; rfl
    · cases h
  | .appPop fz x y kk, k, st, X, O, hp, hq, h => by
    rw [chkS.eq_def] at h
    simp only at h
    split at h
    · rename_i o nm ap o2 nm2 ap2 ix cp2 cp pos
      obtain ⟨h0, h8⟩ := and2 h
      obtain ⟨h0, h7⟩ := and2 h0
      obtain ⟨h0, h6⟩ := and2 h0
      obtain ⟨h0, h5⟩ := and2 h0
      obtain ⟨h0, h4⟩ := and2 h0
      obtain ⟨h0, h3⟩ := and2 h0
      obtain ⟨h1, h2⟩ := and2 h0
      have h1 := of_decide_eq_true h1
      subst h1
      have h3 := of_decide_eq_true h3
      subst h3
      have ho := pe_slot O h2
      have ho2 := pe_slot O h4
      obtain ⟨nn, pp, rfl⟩ : ∃ x p, o = .Name x p := by cases o <;> first | exact ⟨_, _, rfl⟩ | (cases h2; done)
      obtain ⟨nn2, pp2, rfl⟩ : ∃ x p, o2 = .Name x p := by cases o2 <;> first | exact ⟨_, _, rfl⟩ | (cases h4; done)
      have hpop := pe_bm (cpos := cp2) (apos := ap2) PySem.F.plainAttrs_list PySem.F.slot_list_pop PySem.F.type_list_pop mt_popAt ho2 (pa_cons (sndC kk .brw k ix X O h6) pa_nil (star_of h5 _)) rfl (by rw [star_of h5]; rfl) (by simpa using h8) (star_of h5 _) rfl
      exact PS.imp (ps_expr (pe_bm PySem.F.plainAttrs_list PySem.F.slot_list_append PySem.F.type_list_append mt_append ho (pa_cons hpop pa_nil rfl) rfl rfl (by simpa using h7) rfl rfl) rfl) appPop_in
    · cases h
  | .ret fz e, k, st, X, O, hp, hq, h => by
    rw [chkS.eq_def] at h
    simp only at h
    split at h
    · exact snd_ret (sndC e .esc k _ X O h)
    · cases h
  | .retV i, k, st, X, O, hp, hq, h => by
    rw [chkS.eq_def] at h
    simp only at h
    split at h
    · exact snd_retV (pe_slot O h)
    · cases h
  | .retN, k, st, X, O, hp, hq, h => by
    rw [chkS.eq_def] at h
    simp only at h
    split at h
    · exact snd_retN
    · cases h
  | .ife fz t a b, k, st, X, O, hp, hq, h => by simp [simpS] at hq
  | .for_ fz tg it b, k, st, X, O, hp, hq, h => by simp [simpS] at hq
  | .while_ fz t b, k, st, X, O, hp, hq, h => by simp [simpS] at hq
  | .ex fz e, k, st, X, O, hp, hq, h => by
    rw [chkS.eq_def] at h
    simp only at h
    split at h
    · obtain ⟨h1, h2⟩ := and2 h
      rename_i ex pos
      refine snd_ex ?_ (sndC e .brw k _ X O h2)
      cases ex <;> first | rfl | (cases h1; done)
    · cases h
  | .popS fz y kk, k, st, X, O, hp, hq, h => by
    rw [chkS.eq_def] at h
    simp only at h
    split at h
    · rename_i o2 nm2 ap2 ix cp2 pos
      obtain ⟨h0, h5⟩ := and2 h
      obtain ⟨h0, h4⟩ := and2 h0
      obtain ⟨h0, h3⟩ := and2 h0
      obtain ⟨h1, h2⟩ := and2 h0
      have h1 := of_decide_eq_true h1
      subst h1
      have ho2 := pe_slot O h2
      obtain ⟨nn2, pp2, rfl⟩ : ∃ x p, o2 = .Name x p := by cases o2 <;> first | exact ⟨_, _, rfl⟩ | (cases h2; done)
      exact PS.imp (ps_expr (pe_bm (cpos := cp2) (apos := ap2) PySem.F.plainAttrs_list PySem.F.slot_list_pop PySem.F.type_list_pop mt_popAt ho2 (pa_cons (sndC kk .brw k ix X O h4) pa_nil (star_of h3 _)) rfl (by rw [star_of h3]; rfl) (by simpa using h5) (star_of h3 _) rfl) rfl) popS_in
    · cases h
  | .appR fz a e, k, st, X, O, hp, hq, h => by
    rw [chkS.eq_def] at h
    simp only at h
    split at h
    · rename_i o ix sp nm ap ex cp pos
      obtain ⟨h0, h5⟩ := and2 h
      obtain ⟨h0, h4⟩ := and2 h0
      obtain ⟨h0, h3⟩ := and2 h0
      obtain ⟨h1, h2⟩ := and2 h0
      have h1 := of_decide_eq_true h1
      subst h1
      refine PS.imp (ps_expr (pe_bm PySem.F.plainAttrs_list PySem.F.slot_list_append PySem.F.type_list_append mt_append (sndC a .brw k _ X O h2) (pa_cons (sndC e .brw k ex X O h4) pa_nil (star_of h3 _)) rfl ?_ (by simpa using h5) (star_of h3 _) rfl) rfl) appR_in
      rw [star_of h3]; rfl
    · cases h
  | .pass, k, st, X, O, hp, hq, h => by
    rw [chkS.eq_def] at h
    simp only at h
    split at h
    · exact snd_pass
    · cases h
  | .cont, k, st, X, O, hp, hq, h => by
    rw [chkS.eq_def] at h
    simp only at h
    split at h
    · exact snd_cont
    · cases h
  | .brk, k, st, X, O, hp, hq, h => by
    rw [chkS.eq_def] at h
    simp only at h
    split at h
    · exact snd_brk
    · cases h
  | .never, k, st, X, O, hp, hq, h => snd_never
  | .raise _, k, st, X, O, hp, hq, h => snd_raiseN
  | .try_ _ _ _, k, st, X, O, hp, hq, h => by simp [simpS] at hq
  | .raiseA _ _ _, k, st, X, O, hp, hq, h => snd_raiseA
  | .insS fz x kx e, k, st, X, O, hp, hq, h => by
    rw [chkS.eq_def] at h
    simp only at h
    split at h
    · rename_i o nm ap ix ex cp pos
      obtain ⟨h0, h7⟩ := and2 h
      obtain ⟨h0, h6⟩ := and2 h0
      obtain ⟨h0, h5⟩ := and2 h0
      obtain ⟨h0, h4⟩ := and2 h0
      obtain ⟨h0, h3⟩ := and2 h0
      obtain ⟨h1, h2⟩ := and2 h0
      have h1 := of_decide_eq_true h1
      subst h1
      have ho2 := pe_slot O h2
      obtain ⟨nn2, pp2, rfl⟩ : ∃ x p, o = .Name x p := by cases o <;> first | exact ⟨_, _, rfl⟩ | (cases h2; done)
      refine PS.imp (ps_expr (pe_bm PySem.F.plainAttrs_list PySem.F.slot_list_insert type_ins mt_insert ho2 (pa_cons (sndC kx .brw k ix X O h5) (pa_cons (sndC e .esc k ex X O h6) pa_nil (star_of h4 _)) (star_of h3 _)) rfl ?_ (by simpa using h7) (star_of h3 _) (by rw [star_of h4]; rfl)) rfl) insS_in
      rw [star_of h3, star_of h4]; rfl
    · cases h
end Ev

end
section
set_option Elab.async false
set_option linter.all false
set_option maxRecDepth 100000
set_option maxHeartbeats 2000000
namespace TryAs
open PySem PySem.Spec PyProof.Rows L2
/-! ### several except clauses, each with a name or without -/
def endsAs : Option Nat → Ends → Ends
  | some i, D => { nx := fun σ1 H1 => D.nx (σ1.set i none) H1, rt := D.rt, bk := fun σ1 H1 => D.bk (σ1.set i none) H1, ct := fun σ1 H1 => D.ct (σ1.set i none) H1 }
  | none, D => D
def startAs : Option Nat → L2.St → Addr → L2.St
  | some i, σ, a => σ.set i (some (.ref a))
  | none, σ, _ => σ
/-- a clause: its class, its name's slot, its suite -/
abbrev Cl : Type := Value × Option Nat × (Addr → Value → Option Addr → TS)
def wManyAs (K : PySem.W.Frag) (Wo : WX) (D : Ends) : List Cl → WX
  | [] => Wo
  | (c, o, ts) :: r => fun cls d σ H => ∃ b, PySem.W.exmOne K cls c = some b ∧ (b = true → ∀ a, H a = none → ts a cls d (endsAs o D) (startAs o σ a) H) ∧ (b = false → wManyAs K Wo D r cls d σ H)
/-- the name of a clause -/
def NmOk (X : Cx) : Option Nat → Option Str → Prop
  | some i, some n => X.N[i]? = some n ∧ X.env.kindOf n = some .local
  | none, none => True
  | _, _ => False
inductive HdsAs (X : Cx) : List ExceptHandler → List Cl → Prop
  | nil : HdsAs X [] []
  | cons {x : Str} {c : Value} {o : Option Nat} {nm : Option Str} {ts : Addr → Value → Option Addr → TS} {b0 : Stmt} {su : List Stmt} {np pp : Pos} {hds : List ExceptHandler} {l : List Cl} (hc : Names X x c) (hn : NmOk X o nm)
      (hsu : ∀ (a : Addr) (oe : Obj) (cls : Value) (d : Option Addr) (pn : List (Addr × Obj)), Zc cls d oe → (∃ vs, oe.data = .fields vs) → PSs (X.suite a ((a, oe) :: pn)) (b0 :: su) (ts a cls d)) (r : HdsAs X hds l) : HdsAs X (.ExceptHandler (some (.Name x np)) nm (b0 :: su) pp :: hds) ((c, o, ts) :: l)
section
variable {X : Cx} {body : List Stmt} {h0 : ExceptHandler} {hds : List ExceptHandler} {l : List Cl} {pos : Pos} {tb : WX → TS} {Wo : WX}
theorem ps_try_manyAs (hstk : X.stack = X.env :: X.outer) (hfr0 : X.env.frame = some X.env.locals) (hND : X.N.Nodup) (tk : Takes X Wo)
    (hbody : ∀ (W : WX) (pn : List (Addr × Obj)) (xe : Value → Shared → Prop), Takes (X.tr pn xe) W → PassesOwn (model X.prog X.w) X.A X.env xe → PSs (X.tr pn xe) body (tb W))
    (hh : HdsAs X (h0 :: hds) l) : PS X (.Try body (h0 :: hds) [] [] pos) (fun D σ H => tb (wManyAs X.K Wo D l) D σ H) := by
  refine ⟨fun pins s σ H D I hw => ?_⟩
  have ok := I.ok
  have frm : X.A.frames = some (X.env :: X.outer) := by rw [ok.frames, hstk]
  refine wpAny_Try_except ?_
  refine wpAny_mono ((hbody (wManyAs X.K Wo D l) (X.pn ++ pins) (fun e t1 => wpAny (model X.prog X.w) X.A (noteFrame e X.env) (fun _ t2 => wpAny (model X.prog X.w) X.A (setFlight e none) (fun _ t3 =>
    wpAny (model X.prog X.w) X.A (handleBy e X.env (h0 :: hds)) (SP X pins D) X.xe t3) X.xe t2) X.xe t1) (fun u s' xx => ?_) PassesOwn.looking).run [] s σ H D (I.toTry _) hw) (fun fl s1 end1 => ?_) (fun e s1 he => he)
  · obtain ⟨a, B, sI, pins1, σ1, H1, cls, d, rfl, J1, nb, upS, sky, na, os, ag, w⟩ := xx
    have J : Inv X pins σ1 H1 sI := J1.ofTry ok
    have sky1 : Sky B (X.env :: X.outer) a (Zc cls d) X.env.locals s'.heap := by rw [← hstk]; exact sky
    show wpAny (model X.prog X.w) X.A (noteFrame (.ref a) X.env) _ _ _
    refine Sky.land Zc.steady frm hfr0 sky1 fun g3 fl3 up3 => ?_
    have J3 : Inv X pins σ1 H1 { s' with heap := g3 } := J.landed nb fl3.1 (upS.trans up3) os ag
    obtain ⟨oe3, vs3, he3, hz3, hd3⟩ := fl3.there
    have offFr : ∀ {g : Heap} {o : Obj} {vs : Array Value}, g.FunFrames B (X.env :: X.outer) → g.get? a = some o → o.data = .fields vs → a ∉ frs (X.env :: X.outer) := fun {g o vs} ff e dd hm => by
      obtain ⟨_, o1, e1, nf⟩ := ff.mem hm
      rw [e] at e1; cases e1
      exact nf _ dd
    have nFr := offFr fl3.2.2.1 he3 hd3
    have nLoc : a ≠ X.env.locals := fun z => nFr (List.mem_filterMap.mpr ⟨X.env, List.mem_cons_self, by rw [hfr0, z]⟩)
    have nOut : a ∉ X.fs := fun hm => by
      obtain ⟨e, he, q⟩ := List.mem_filterMap.mp hm
      exact nFr (List.mem_filterMap.mpr ⟨e, List.mem_cons_of_mem _ he, q⟩)
    have S3 := J3.suite he3 hd3 na nLoc nOut
    have go : ∀ {hs1 : List ExceptHandler} {l1 : List Cl}, HdsAs X hs1 l1 → wManyAs X.K Wo D l1 cls d σ1 H1 →
        wpAny (model X.prog X.w) X.A (handleBy (.ref a) X.env hs1) (SP X pins D) X.xe { s' with heap := g3 } := by
      intro hs1 l1 hk
      induction hk with
      | nil =>
        intro w
        refine wpAny_handleBy_nil ?_
        obtain ⟨k1, k2, k3, oe, vs, T, oT, ts1, he, hz, hd, h1, hr⟩ := id fl3
        unfold PySem.passOn
        refine wpAny_bind (wpAny_field he hd h1 ?_)
        rw [if_neg (show ¬ ((Value.ref T == Value.none) = true) from by simp)]
        have fin : wpAny (model X.prog X.w) X.A (setFlight (.ref a) X.env.frame) (fun _ t4 => wpAny (model X.prog X.w) X.A (throw (.ref a) : Sem Flow) (SP X pins D) X.xe t4) X.xe { s' with heap := g3 } := by
          rw [hfr0]
          refine HandSPX.setFlight_upZ fl3 fun g4 hg4 up4 => wpAny_throw (tk _ _ ?_)
          exact ⟨a, B, sI, pins, σ1, H1, cls, d, rfl, J, nb, (upS.trans up3).trans up4, .inr (.inr (by rw [hstk]; exact hg4)), na, os, ag, w⟩
        first
          | exact wpAny_bind (wpAny_pure (wpAny_bind fin))
          | exact wpAny_bind fin
      | @cons x c o nm ts b0 su np pp hs2 l2 hc hn hsu r ih =>
        intro w
        obtain ⟨b, hb1, yes, no⟩ := w
        refine wpAny_handleBy_cons (codeAny_handlers_test ?_) (by intro q; cases q)
        have lt1 : PySem.W.Looks (model X.prog X.w) g3 (typeOf (.ref a)) cls := fun A Q E s k q => wpAny_typeOf_ref (k _ _ he3) (by rw [hz3.1]; exact q)
        have lm1 := PySem.W.exm_one (M := model X.prog X.w) (J3.kIn) lt1 hb1
        have named : ∀ {Q : Value → Shared → Prop} {E : Value → Shared → Prop}, Q c { s' with heap := g3 } → wpAny (model X.prog X.w) (X.A.mark (some (.ref a))) (eval (.Name x np) X.env) Q E { s' with heap := g3 } := fun {Q E} q => by
          obtain ⟨hg, hdbg, hm | ⟨hm, hv, hnn⟩⟩ := hc
          · exact ld_glob (X := X.suite a ((a, oe3) :: (X.pn ++ pins))) S3 hg hm q hdbg
          · exact ld_blt (X := X.suite a ((a, oe3) :: (X.pn ++ pins))) S3 hg hm hv q hnn hdbg
        refine named (lm1.here ?_)
        cases b with
        | false =>
          show wpAny _ X.A (handleBy (.ref a) X.env hs2) _ _ _
          exact ih (no rfl)
        | true =>
          have y0 := yes rfl a na
          cases nm with
          | none =>
            have ho : o = none := by cases o with
              | none => rfl
              | some i => exact hn.elim
            subst ho
            refine codeAny_handlers_suite ?_
            refine HandSPX.lands_againZ fl3 fun g4 fl4 up4 => ?_
            have J4 : Inv X pins σ1 H1 { s' with heap := g4 } := J.landed nb fl4.1 ((upS.trans up3).trans up4) os ag
            obtain ⟨oe4, vs4, he4, hz4, hd4⟩ := fl4.there
            have S4 := J4.suite he4 hd4 na nLoc nOut
            refine wpAny_mono ((hsu a oe4 cls d (X.pn ++ pins) hz4 ⟨_, hd4⟩).run [] _ _ H1 _ S4 y0) (fun f s6 e6 => ?_) (fun _ _ z => False.elim z)
            cases f with
            | next =>
              obtain ⟨σ6, H6, S6, q6⟩ := e6
              exact ⟨_, _, S6.unsuite ok, q6⟩
            | brk =>
              obtain ⟨σ6, H6, S6, q6⟩ := e6
              exact ⟨_, _, S6.unsuite ok, q6⟩
            | cont =>
              obtain ⟨σ6, H6, S6, q6⟩ := e6
              exact ⟨_, _, S6.unsuite ok, q6⟩
            | ret u =>
              obtain ⟨v6, σ6, H6, S6, r6, q6⟩ := e6
              exact ⟨_, _, _, S6.unsuite ok, r6, q6⟩
          | some n =>
            obtain ⟨i, rfl⟩ : ∃ i, o = some i := by cases o with
              | none => exact hn.elim
              | some i => exact ⟨i, rfl⟩
            obtain ⟨hi, hln⟩ : X.N[i]? = some n ∧ X.env.kindOf n = some .local := hn
            have hloc : Loc X.env.scope n := .inl hln
            refine codeAny_handlers_suite_as ?_
            refine HandSPX.lands_againZ fl3 fun g4 fl4 up4 => ?_
            have J4 : Inv X pins σ1 H1 { s' with heap := g4 } := J.landed nb fl4.1 ((upS.trans up3).trans up4) os ag
            obtain ⟨oe4, vs4, he4, hz4, hd4⟩ := fl4.there
            have S4 := J4.suite he4 hd4 na nLoc nOut
            refine store_ok (X := X.suite a ((a, oe4) :: (X.pn ++ pins))) (v := .ref a) S4 hND hi hloc rfl (fun s5 S5 => ?_) (.inr hln)
            refine wpAny_mono ((hsu a oe4 cls d (X.pn ++ pins) hz4 ⟨_, hd4⟩).run [] s5 _ H1 _ S5 y0) (fun f s6 e6 => ?_) (fun _ _ z => False.elim z)
            have goes : ∀ {σ6 : L2.St} {H6 : Hp} {Q : Shared → Prop}, Inv (X.suite a ((a, oe4) :: (X.pn ++ pins))) [] σ6 H6 s6 → (∀ s7, Inv X pins (σ6.set i none) H6 s7 → Q s7) →
                wpAny (model X.prog X.w) X.A (do bindName X.env n .none; unbindBehindTheSuite X.env n pp) (fun _ s7 => Q s7) X.xe s6 := fun {σ6 H6 Q} S6 hq => gone_ok (S6.unsuite ok) hND hi hln hq
            cases f with
            | next =>
              obtain ⟨σ6, H6, S6, q6⟩ := e6
              exact goes S6 fun s7 J7 => ⟨_, _, J7, q6⟩
            | brk =>
              obtain ⟨σ6, H6, S6, q6⟩ := e6
              exact goes S6 fun s7 J7 => ⟨_, _, J7, q6⟩
            | cont =>
              obtain ⟨σ6, H6, S6, q6⟩ := e6
              exact goes S6 fun s7 J7 => ⟨_, _, J7, q6⟩
            | ret u =>
              obtain ⟨v6, σ6, H6, S6, r6, q6⟩ := e6
              exact goes S6 fun s7 J7 => ⟨_, _, _, J7, r6, q6⟩
    exact go hh w
  · cases fl with
    | next =>
      obtain ⟨σ1, H1, J1, q⟩ := end1
      exact wpAny_execs_nil ⟨σ1, H1, J1.ofTry ok, q⟩
    | brk =>
      obtain ⟨σ1, H1, J1, q⟩ := end1
      exact ⟨σ1, H1, J1.ofTry ok, q⟩
    | cont =>
      obtain ⟨σ1, H1, J1, q⟩ := end1
      exact ⟨σ1, H1, J1.ofTry ok, q⟩
    | ret u =>
      obtain ⟨v, σ1, H1, J1, r, q⟩ := end1
      exact ⟨v, σ1, H1, J1.ofTry ok, r, q⟩
end
section
variable {X : Cx} {C : Addr} {bmB : List Value} {B newId initId : String}
/-- X() of an own class -/
theorem pmk_none {x : Str} {p pos : Pos} (F : ExcBaseFacts B newId initId bmB) (q : PySem.W.excIn X.K C bmB newId = true) (gC : X.mg x = some (.ref C)) (kC : PySem.W.keepIn X.K (.ref C) = true) (r : Raises X (.ref C)) (hg : Gl X x)
    (hdb : (x == ("__debug__" : Str)) = false) : PMk X (.Call (.Name x p) [] [] pos) (fun _ H Q => Q (.ref C) none H) := by
  intro pins s σ H Q I hw
  refine wpAny_Call_Name_kw (ld_glob I hg gC ?_ hdb)
  refine PySem.W.callWith_K0 I.kIn kC ?_
  show wpAny _ _ (call (.ref C) []) _ _ _
  obtain ⟨bm, N, nm, qn, bs, hdct, sn, sub, ab, col, dd, k0, k1, k2, k3, k5, mN, hC, hN, hni, T⟩ := exc_obj I.kIn q
  exact wpAny_call_exc_subT F T hC hN hni (fun h' e hm => mk_of I hm r hw (I.hok.gone hm.new)) (by show 0 ≤ sizeLine; exact Nat.zero_le _)
end
end TryAs

end
section
set_option Elab.async false
set_option linter.all false
set_option maxRecDepth 100000
set_option maxHeartbeats 4000000
namespace Ev
open PySem L2 CompX
/-! ### statements out of which an exception may come -/
/-- as XOut, m told -/
def XO (K : PySem.W.Frag) (xn : Nat → Value × Str) (Wf : Value → Option Addr → Hp → Prop) (m : Addr → Prop) (al : List Addr) (x : Xc) (H : Hp) : Prop := match x.arg with
  | none => Wf (xn x.cls).1 none H
  | some u => ∀ d y, H d = some (.xd [((xn x.cls).2, y)]) → ¬ m d → Sh K H m al u y → Wf (xn x.cls).1 (some d) H
def EndX (K : PySem.W.Frag) (xn : Nat → Value × Str) (W : WX) (m0 : Addr → Prop) (H : Hp) (m wr : Addr → Prop) (al : List Addr) (x : Xc) (ρ' : Env) (s' : Sto) : Prop := ∀ σ' H' m' wr' al', Fr K m0 ρ' s' m' wr' al' σ' H' → Mv H m wr al H' m' wr' al' → XO K xn (fun c d h => W c d σ' h) m' al' x H'
section
variable (F : CallF) (KW : Kt) (K : PySem.W.Frag) (xn : Nat → Value × Str) (W : WX)
def xS (c : S) (σ : L2.St) (H : Hp) : Prop := ∃ m0 ρ s m wr al x ρ' s', Fr K m0 ρ s m wr al σ H ∧ evS F KW c ρ s = .exc x ρ' s' ∧ EndX K xn W m0 H m wr al x ρ' s'
def tSW (c : S) : TS := fun D σ H => ∃ m0 ρ s m wr al, Fr K m0 ρ s m wr al σ H ∧ ((∃ fl ρ' s', evS F KW c ρ s = .ok fl ρ' s' ∧ End K m0 H m wr al D fl ρ' s') ∨ ∃ x ρ' s', evS F KW c ρ s = .exc x ρ' s' ∧ EndX K xn W m0 H m wr al x ρ' s')
def tSsW (c : B) : TS := fun D σ H => ∃ m0 ρ s m wr al, Fr K m0 ρ s m wr al σ H ∧ ((∃ fl ρ' s', evB F KW c ρ s = .ok fl ρ' s' ∧ End K m0 H m wr al D fl ρ' s') ∨ ∃ x ρ' s', evB F KW c ρ s = .exc x ρ' s' ∧ EndX K xn W m0 H m wr al x ρ' s')
end
theorem st_exc {α : Type} {x : RE α} {ρ : Env} {f : α → Sto → RS} {y : Xc} {ρ' : Env} {s' : Sto} (h : x.st ρ f = .exc y ρ' s') : (x = .exc y s' ∧ ρ' = ρ) ∨ ∃ a s1, x = .ok a s1 ∧ f a s1 = .exc y ρ' s' := by
  cases x with
  | ok a s1 => exact .inr ⟨a, s1, rfl, h⟩
  | exc _ _ => cases h; exact .inl ⟨rfl, rfl⟩
  | bad => cases h
theorem stN_exc {α : Type} {x : RE α} {f : α → Sto → RS} {y : Xc} {ρ' : Env} {s' : Sto} (h : x.stN f = .exc y ρ' s') : ∃ a s1, x = .ok a s1 ∧ f a s1 = .exc y ρ' s' := by
  cases x with
  | ok a s1 => exact ⟨a, s1, rfl, h⟩
  | exc _ _ => cases h
  | bad => cases h
theorem setIx_exc {i : Nat} {k v : U} {r ρ' : Env} {s s' : Sto} {y : Xc} (h : setIx i k v r s = .exc y ρ' s') : False := by
  unfold setIx at h
  repeat' split at h
  all_goals cases h
theorem PS.or {X : Cx} {st : Stmt} {t t' : TS} (h : PS X st t) (h' : PS X st t') : PS X st (fun D σ H => t D σ H ∨ t' D σ H) := ⟨fun pins s σ H D I q => q.elim (h.run pins s σ H D I) (h'.run pins s σ H D I)⟩
section
variable {K : PySem.W.Frag} {xn : Nat → Value × Str} {W : WX} {m0 m wr m1 wr1 : Addr → Prop} {ρ ρ' : Env} {s s1 s' : Sto} {al al1 : List Addr} {σ : L2.St} {H H1 : Hp} {x : Xc}
theorem EndX.fwd (a : Mv H m wr al H1 m1 wr1 al1) (e : EndX K xn W m0 H m wr al x ρ' s') : EndX K xn W m0 H1 m1 wr1 al1 x ρ' s' := fun σ' H' m' wr' al' f b => e σ' H' m' wr' al' f (a.trans b)
/-- what an expression of a statement is to see to -/
theorem EndX.xq (q : EndX K xn W m0 H m wr al x ρ s') (f1 : Fr K m0 ρ s1 m1 wr1 al σ H) (mv : Mv H m wr al H m1 wr1 al) : Xq K xn W σ m1 al H x s' := fun H' al' st t => q σ H' _ _ al' (f1.eval st t) (mv.trans (f1.evalM st))
theorem EndX.xq2 (q : EndX K xn W m0 H m wr al x ρ s') (f1 : Fr K m0 ρ s1 m1 wr1 al1 σ H1) (mv : Mv H m wr al H1 m1 wr1 al1) : Xq K xn W σ m1 al1 H1 x s' := fun H' al' st t => q σ H' _ _ al' (f1.eval st t) (mv.trans (f1.evalM st))
theorem Fr.unset1 (f : Fr K m0 ρ s m wr al σ H) (i : Nat) : Fr K m0 (Ev.put i .un ρ) s m wr al (σ.set i none) H := by
  refine ⟨⟨f.sc.t, f.sc.r.wipe [i]⟩, fun j u a e1 e2 => ?_, f.ws, f.wm, f.up⟩
  rcases look_put e1 with ⟨_, _, e⟩ | ⟨n, e⟩ | e
  · cases e
  · rw [List.getElem?_set_ne (Ne.symm n)] at e2
    exact f.ow j u a e e2
  · cases e
end
section
variable {X : Cx} {F : CallF} {KW : Kt} {T : Tb} {W : WX} {xn : Nat → Value × Str} {k : Ck} {a b : C} {x y : Expr} {pos p pos2 : Pos} {i j l : Nat} {fz : List Nat} {as : A}
/-- both ways together -/
theorem sw_both {c : S} {st : Stmt} (h : PS X st (tS F KW X.K c)) (g : PS X st (fun _ σ H => xS F KW X.K xn W c σ H)) : PS X st (tSW F KW X.K xn W c) := PS.imp (PS.or h g) fun D σ H ⟨m0, ρ, s, m, wr, al, f, h⟩ => by
  rcases h with ⟨fl, ρ', s', e, q⟩ | ⟨y, ρ', s', e, q⟩
  · exact .inl ⟨m0, ρ, s, m, wr, al, fl, ρ', s', f, e, q⟩
  · exact .inr ⟨m0, ρ, s, m, wr, al, y, ρ', s', f, e, q⟩
theorem xs_no {c : S} {st : Stmt} (h : ∀ ρ s y ρ' s', evS F KW c ρ s ≠ .exc y ρ' s') : PS X st (fun _ σ H => xS F KW X.K xn W c σ H) := ⟨fun pins s0 σ H D I ⟨m0, ρ, s, m, wr, al, y, ρ', s', f, e, q⟩ => (h _ _ _ _ _ e).elim⟩
/-- a statement whose one expression raises -/
theorem one_x {c : S} {σ : L2.St} {H : Hp} (hc : ∀ ρ s y ρ' s', evS F KW c ρ s = .exc y ρ' s' → evE F KW a (freeze fz ρ) s = .exc y s' ∧ ρ' = freeze fz ρ) (h : xS F KW X.K xn W c σ H) : xE F KW X.K xn W a σ H := by
  obtain ⟨m0, ρ, s, m, wr, al, y, ρ', s', f, e, q⟩ := h
  obtain ⟨e', rfl⟩ := hc _ _ _ _ _ e
  obtain ⟨m1, wr1, f1, mv1⟩ := f.fz fz
  exact ⟨_, s, m1, al, y, s', f1.sc, e', q.xq f1 mv1⟩
theorem asg_x {o : Bool} : ∀ ρ s y ρ' s', evS F KW (.asg fz i o a) ρ s = .exc y ρ' s' → evE F KW a (freeze fz ρ) s = .exc y s' ∧ ρ' = freeze fz ρ := fun ρ s y ρ' s' e => by
  simp only [evS] at e
  rcases st_exc e with h | ⟨_, _, _, e⟩
  · exact h
  · cases e
theorem asgT_x {tg : Tg} : ∀ ρ s y ρ' s', evS F KW (.asgT fz tg a) ρ s = .exc y ρ' s' → evE F KW a (freeze fz ρ) s = .exc y s' ∧ ρ' = freeze fz ρ := fun ρ s y ρ' s' e => by
  simp only [evS] at e
  rcases st_exc e with h | ⟨_, _, _, e⟩
  · exact h
  · split at e <;> cases e
theorem asgIx_x {x : Nat} : ∀ ρ s y ρ' s', evS F KW (.asgIx fz x b a) ρ s = .exc y ρ' s' → evE F KW a (freeze fz ρ) s = .exc y s' ∧ ρ' = freeze fz ρ := fun ρ s y ρ' s' e => by
  simp only [evS] at e
  rcases st_exc e with h | ⟨_, _, _, e⟩
  · exact h
  · obtain ⟨_, _, _, e⟩ := stN_exc e
    exact (setIx_exc e).elim
theorem ret_x : ∀ ρ s y ρ' s', evS F KW (.ret fz a) ρ s = .exc y ρ' s' → evE F KW a (freeze fz ρ) s = .exc y s' ∧ ρ' = freeze fz ρ := fun ρ s y ρ' s' e => by
  simp only [evS] at e
  rcases st_exc e with h | ⟨_, _, _, e⟩
  · exact h
  · cases e
theorem ex_x : ∀ ρ s y ρ' s', evS F KW (.ex fz a) ρ s = .exc y ρ' s' → evE F KW a (freeze fz ρ) s = .exc y s' ∧ ρ' = freeze fz ρ := fun ρ s y ρ' s' e => by
  simp only [evS] at e
  rcases st_exc e with h | ⟨_, _, _, e⟩
  · exact h
  · cases e
theorem par3_x {σ : L2.St} {H : Hp} (h : xS F KW X.K xn W (.par3 fz i j l as) σ H) : xA F KW X.K xn W as σ H := by
  obtain ⟨m0, ρ, s, m, wr, al, y, ρ', s', f, e, q⟩ := h
  simp only [evS] at e
  rcases st_exc e with ⟨e', rfl⟩ | ⟨_, _, _, e⟩
  · obtain ⟨m1, wr1, f1, mv1⟩ := f.fz fz
    exact ⟨_, s, m1, al, y, s', f1.sc, e', q.xq f1 mv1⟩
  · split at e <;> cases e
theorem par2_x {oi oj : Bool} {σ : L2.St} {H : Hp} {R : V → VK} (h : xS F KW X.K xn W (.par2 fz i oi a j oj b) σ H) : oE F KW X.K xn W a σ H fun v H1 => oE F KW X.K xn W b σ H1 (R v) := by
  obtain ⟨m0, ρ, s, m, wr, al, y, ρ', s', f, e, q⟩ := h
  simp only [evS] at e
  obtain ⟨m1, wr1, f1, mv1⟩ := f.fz fz
  rcases st_exc e with ⟨e', rfl⟩ | ⟨r1, s1, e1, e⟩
  · exact .inr ⟨_, s, m1, al, y, s', f1.sc, e', q.xq f1 mv1⟩
  · refine .inl ⟨_, s, m1, al, r1, s1, f1.sc, e1, fun v H1 al1 st t vr => ?_⟩
    rcases st_exc e with ⟨e', rfl⟩ | ⟨_, _, _, e⟩
    · exact .inr ⟨_, s1, _, al1, y, s', f1.sc.step st t, e', q.xq2 (f1.eval st t) (mv1.trans (f1.evalM st))⟩
    · cases e
theorem app_x {x : Nat} {σ : L2.St} {H : Hp} {Q : VK} (h : xS F KW X.K xn W (.app fz x a) σ H) : tBM X.K "list" rAppend (tVar x) (tCons (fun σ H _ => xE F KW X.K xn W a σ H) tNil) σ H Q := by
  obtain ⟨m0, ρ, s, m, wr, al, y, ρ', s', f, e, q⟩ := h
  simp only [evS] at e
  obtain ⟨m1, wr1, f1, mv1⟩ := f.fz fz
  cases lx : look x (freeze fz ρ) with
  | un => rw [lx] at e; cases e
  | sh u => rw [lx] at e; cases e
  | own u =>
    rw [lx] at e
    obtain ⟨us, d, vs, rfl, g2, g3, g4, g5, g6⟩ := f1.sc.r.own x u lx
    simp only at e
    rcases st_exc e with ⟨e', rfl⟩ | ⟨_, _, _, e⟩
    · exact ⟨_, g2, .inl ⟨rfl, vs, SqL.of g3⟩, _, s, m1, al, y, s', f1.sc, e', q.xq f1 mv1⟩
    · split at e <;> cases e
theorem insS_x {x : Nat} {σ : L2.St} {H : Hp} {Q : VK} (h : xS F KW X.K xn W (.insS fz x b a) σ H) : tBM X.K "list" rIns (tVar x) (tCons (oB F KW X.K xn W b) (tCons (fun σ H _ => xE F KW X.K xn W a σ H) tNil)) σ H Q := by
  obtain ⟨m0, ρ, s, m, wr, al, y, ρ', s', f, e, q⟩ := h
  simp only [evS] at e
  obtain ⟨m1, wr1, f1, mv1⟩ := f.fz fz
  cases lx : look x (freeze fz ρ) with
  | un => rw [lx] at e; cases e
  | sh u => rw [lx] at e; cases e
  | own u =>
    rw [lx] at e
    obtain ⟨us, d, vs, rfl, g2, g3, g4, g5, g6⟩ := f1.sc.r.own x u lx
    simp only at e
    refine ⟨_, g2, .inl ⟨rfl, vs, SqL.of g3⟩, ?_⟩
    rcases st_exc e with ⟨e', rfl⟩ | ⟨r1, s1, e1, e⟩
    · exact .inr ⟨_, s, m1, al, y, s', f1.sc, e', q.xq f1 mv1⟩
    · refine .inl ⟨_, s, m1, al, r1, s1, f1.sc, e1, fun v H1 al1 st t vr => ?_⟩
      rcases st_exc e with ⟨e', rfl⟩ | ⟨_, _, _, e⟩
      · exact ⟨_, s1, _, al1, y, s', f1.sc.step st t, e', q.xq2 (f1.eval st t) (mv1.trans (f1.evalM st))⟩
      · repeat' split at e
        all_goals cases e
/-! blocks -/
theorem sw_if {A B' : B} {ps qs : List Stmt} (h : PT X x (oT F KW X.K xn W a)) (ha : PSs X ps (tSsW F KW X.K xn W A)) (hb : PSs X qs (tSsW F KW X.K xn W B')) : PS X (.If x ps qs pos) (tSW F KW X.K xn W (.ife fz a A B')) := by
  refine PS.imp (ps_if h ha hb) ?_
  rintro D σ H ⟨m0, ρ, s, m, wr, al, f, h⟩
  obtain ⟨m1, wr1, f1, mv1⟩ := f.fz fz
  have key : ∀ {r : Rv} {s1 : Sto} {t : Bool}, evE F KW a (freeze fz ρ) s = .ok r s1 → truth r.u = some t →
      ((∃ fl ρ' s', (if t = true then evB F KW A (freeze fz ρ) s1 else evB F KW B' (freeze fz ρ) s1) = .ok fl ρ' s' ∧ End X.K m0 H m wr al D fl ρ' s') ∨ ∃ x ρ' s', (if t = true then evB F KW A (freeze fz ρ) s1 else evB F KW B' (freeze fz ρ) s1) = .exc x ρ' s' ∧ EndX X.K xn W m0 H m wr al x ρ' s') →
      oT F KW X.K xn W a σ H fun c H1 => if c = true then tSsW F KW X.K xn W A D σ H1 else tSsW F KW X.K xn W B' D σ H1 := fun {r s1 t} e1 hk g => by
    refine .inl ⟨_, s, m1, al, r, s1, t, f1.sc, e1, hk, fun H1 al1 st t1 => ?_⟩
    have mv := mv1.trans (f1.evalM st)
    cases t with
    | true =>
      simp only [if_true] at g
      exact iteT ⟨m0, _, s1, _, _, al1, f1.eval st t1, g.elim (fun ⟨fl, ρ', s', e2, q⟩ => .inl ⟨fl, ρ', s', e2, q.fwd mv⟩) fun ⟨y, ρ', s', e2, q⟩ => .inr ⟨y, ρ', s', e2, q.fwd mv⟩⟩
    | false =>
      simp only [Bool.false_eq_true, if_false] at g
      exact iteF ⟨m0, _, s1, _, _, al1, f1.eval st t1, g.elim (fun ⟨fl, ρ', s', e2, q⟩ => .inl ⟨fl, ρ', s', e2, q.fwd mv⟩) fun ⟨y, ρ', s', e2, q⟩ => .inr ⟨y, ρ', s', e2, q.fwd mv⟩⟩
  cases e1 : evE F KW a (freeze fz ρ) s with
  | bad => rcases h with ⟨fl, ρ', s', e, q⟩ | ⟨y, ρ', s', e, q⟩ <;> (simp only [evS, e1] at e; cases e)
  | exc y s' =>
    rcases h with ⟨fl, ρ', s', e, q⟩ | ⟨y, ρ', s', e, q⟩
    · simp only [evS, e1] at e; cases e
    · simp only [evS, e1] at e; cases e
      exact .inr ⟨_, s, m1, al, _, _, f1.sc, e1, q.xq f1 mv1⟩
  | ok r s1 =>
    cases hk : truth r.u with
    | none => rcases h with ⟨fl, ρ', s', e, q⟩ | ⟨y, ρ', s', e, q⟩ <;> (simp only [evS, e1, RE.st, hk] at e; cases e)
    | some t =>
      refine key e1 hk ?_
      simp only [evS, e1, RE.st, hk] at h
      cases t <;> exact h
theorem sw_sNil : PSs X [] (tSsW F KW X.K xn W .nil) := by
  refine PSs.imp pss_nil ?_
  rintro D σ H ⟨m0, ρ, s, m, wr, al, f, h⟩
  rcases h with ⟨fl, ρ', s', e, q⟩ | ⟨y, ρ', s', e, q⟩
  · simp only [evB] at e
    cases e
    exact q σ H m wr al f Mv.refl
  · simp only [evB] at e; cases e
theorem sw_sCons {c : S} {B' : B} {st : Stmt} {sts : List Stmt} (h1 : PS X st (tSW F KW X.K xn W c)) (h2 : PSs X sts (tSsW F KW X.K xn W B')) : PSs X (st :: sts) (tSsW F KW X.K xn W (.cons c B')) := by
  refine PSs.imp (pss_cons h1 h2) ?_
  rintro D σ H ⟨m0, ρ, s, m, wr, al, f, h⟩
  refine ⟨m0, ρ, s, m, wr, al, f, ?_⟩
  cases e1 : evS F KW c ρ s with
  | bad => rcases h with ⟨fl, ρ', s', e, q⟩ | ⟨y, ρ', s', e, q⟩ <;> (simp only [evB, e1] at e; cases e)
  | exc x r s =>
    rcases h with ⟨fl, ρ', s', e, q⟩ | ⟨y, ρ', s', e, q⟩
    · simp only [evB, e1] at e; cases e
    · simp only [evB, e1] at e; cases e
      exact .inr ⟨_, _, _, rfl, q⟩
  | ok fl1 ρ1 s1 =>
    refine .inl ⟨fl1, ρ1, s1, rfl, ?_⟩
    cases fl1 with
    | nx =>
      intro σ' H' m' wr' al' f' mv'
      refine ⟨m0, ρ1, s1, m', wr', al', f', ?_⟩
      rcases h with ⟨fl, ρ', s', e, q⟩ | ⟨y, ρ', s', e, q⟩
      · simp only [evB, e1] at e
        exact .inl ⟨fl, ρ', s', e, q.fwd mv'⟩
      · simp only [evB, e1] at e
        exact .inr ⟨y, ρ', s', e, q.fwd mv'⟩
    | cont =>
      rcases h with ⟨fl, ρ', s', e, q⟩ | ⟨y, ρ', s', e, q⟩
      · simp only [evB, e1] at e; cases e; exact q
      · simp only [evB, e1] at e; cases e
    | brk =>
      rcases h with ⟨fl, ρ', s', e, q⟩ | ⟨y, ρ', s', e, q⟩
      · simp only [evB, e1] at e; cases e; exact q
      · simp only [evB, e1] at e; cases e
    | ret v =>
      rcases h with ⟨fl, ρ', s', e, q⟩ | ⟨y, ρ', s', e, q⟩
      · simp only [evB, e1] at e; cases e; exact q
      · simp only [evB, e1] at e; cases e
/-! raise -/
theorem xn_at {i : Nat} {xe : XcE} {mg : Str → Option Value} {C : Addr} (h : nth i T.xs = some xe) (hm : mg xe.name = some (.ref C)) : xnOf T mg i = (.ref C, xe.t.fld.getD "") := by
  unfold xnOf
  rw [h]
  simp only [hm, Option.getD_some]
theorem xs_raise {c : Nat} {xe : XcE} (O : XOk T F KW k X) (tk : Takes X W) (hc : nth c T.xs = some xe) (hf : xe.t.fld = none) (hg : Gl X xe.name) (hd : (xe.name == ("__debug__" : Str)) = false) : PS X (.Raise (some (.Call (.Name xe.name p) [] [] pos)) none pos2) (fun _ σ H => xS F KW X.K (xnOf T X.mg) W (.raise c) σ H) := by
  obtain ⟨C, hm, q⟩ := O.xcs.at_ c xe hc
  refine PS.imp (ps_raise O.calm tk (TryAs.pmk_none (fb_of xe.t.le) (q.q hf) hm q.kp (raises_own q.sb q.ty) hg hd)) ?_
  rintro D σ H ⟨m0, ρ, s, m, wr, al, y, ρ', s', f, e, w⟩
  simp only [evS] at e
  cases e
  have := w σ H m wr al f Mv.refl
  have h2 : W (xnOf T X.mg c).1 none σ H := this
  rw [xn_at hc hm] at h2
  exact h2
theorem xs_raiseA {c : Nat} {xe : XcE} {fd : Str} (O : XOk T F KW k X) (tk : Takes X W) (hc : nth c T.xs = some xe) (hf : xe.t.fld = some fd) (hg : Gl X xe.name) (hd : (xe.name == ("__debug__" : Str)) = false) (hs : noStar x = true) (he : PE X x (oE F KW X.K (xnOf T X.mg) W a)) : PS X (.Raise (some (.Call (.Name xe.name p) [x] [] pos)) none pos2) (fun _ σ H => xS F KW X.K (xnOf T X.mg) W (.raiseA fz c a) σ H) := by
  obtain ⟨C, hm, q⟩ := O.xcs.at_ c xe hc
  refine PS.imp (ps_raise O.calm tk (XArg.pmk_arg (fb_of xe.t.le) (kf_of xe.t.le) (sf_of xe.t.le) (q.ar fd hf) hm q.kp (raises_own q.sb q.ty) hg hd (O.blt _ (by decide +kernel)) O.dep he (star_of hs _))) ?_
  rintro D σ H ⟨m0, ρ, s, m, wr, al, y, ρ', s', f, e, w⟩
  simp only [evS] at e
  obtain ⟨m1, wr1, f1, mv1⟩ := f.fz fz
  rcases st_exc e with ⟨e', rfl⟩ | ⟨r, s1, e1, e⟩
  · exact .inr ⟨_, s, m1, al, y, s', f1.sc, e', w.xq f1 mv1⟩
  · cases e
    refine .inl ⟨_, s, m1, al, r, _, f1.sc, e1, fun v H1 al1 st t vr => ⟨v, rfl, fun dx hx => ?_⟩⟩
    have f2 := f1.eval st t
    obtain ⟨f3, mv3⟩ := f2.grow (Grow.new (o := .xd [(fd, v)]) hx)
    have h2 := w σ _ _ _ al1 f3 ((mv1.trans (f1.evalM st)).trans mv3)
    have h3 : ∀ d y, upd H1 dx (.xd [(fd, v)]) d = some (.xd [((xnOf T X.mg c).2, y)]) → ¬ mU m1 al1 d → Sh X.K (upd H1 dx (.xd [(fd, v)])) (mU m1 al1) al1 r.u y → W (xnOf T X.mg c).1 (some d) σ (upd H1 dx (.xd [(fd, v)])) := h2
    rw [xn_at hc hm, hf] at h3
    exact h3 dx v upd_same (f2.sc.md.not hx) (vr.sh.grow (Grow.new hx))
/-! loops -/
theorem forL_turn {f : U → Env → Sto → RS} {u : U} {us : List U} {ρ : Env} {s : Sto} : ∀ {R : RS}, forL f (u :: us) ρ s = R → R ≠ .bad → (∃ fl1 ρ1 s1, f u ρ s = .ok fl1 ρ1 s1 ∧ (match fl1 with
    | .nx => forL f us ρ1 s1 = R
    | .cont => forL f us ρ1 s1 = R
    | .brk => R = .ok .nx ρ1 s1
    | .ret v => R = .ok (.ret v) ρ1 s1)) ∨ ∃ y ρ1 s1, f u ρ s = .exc y ρ1 s1 ∧ R = .exc y ρ1 s1 := fun {R} h hR => by
  simp only [forL] at h
  cases q : f u ρ s with
  | bad => rw [q] at h; exact (hR h.symm).elim
  | exc x r s => rw [q] at h; exact .inr ⟨x, r, s, rfl, h.symm⟩
  | ok fl1 ρ1 s1 =>
    rw [q] at h
    refine .inl ⟨fl1, ρ1, s1, rfl, ?_⟩
    cases fl1 with
    | nx => exact h
    | cont => exact h
    | brk => exact h.symm
    | ret v => exact h.symm
/-- how a block's run is to end -/
def EndR (K : PySem.W.Frag) (xn : Nat → Value × Str) (W : WX) (m0 : Addr → Prop) (H : Hp) (m wr : Addr → Prop) (al : List Addr) (D : Ends) : RS → Prop
  | .ok fl ρ' s' => End K m0 H m wr al D fl ρ' s'
  | .exc x ρ' s' => EndX K xn W m0 H m wr al x ρ' s'
  | .bad => False
theorem endR_of {K : PySem.W.Frag} {m0 m wr : Addr → Prop} {al : List Addr} {H : Hp} {D : Ends} {R : RS} : ((∃ fl ρ' s', R = .ok fl ρ' s' ∧ End K m0 H m wr al D fl ρ' s') ∨ ∃ x ρ' s', R = .exc x ρ' s' ∧ EndX K xn W m0 H m wr al x ρ' s') ↔ EndR K xn W m0 H m wr al D R := by
  constructor
  · rintro (⟨fl, ρ', s', rfl, q⟩ | ⟨x, ρ', s', rfl, q⟩) <;> exact q
  · intro q
    cases R with
    | bad => exact q.elim
    | ok fl ρ' s' => exact .inl ⟨_, _, _, rfl, q⟩
    | exc x ρ' s' => exact .inr ⟨_, _, _, rfl, q⟩
theorem EndR.fwd {K : PySem.W.Frag} {m0 m wr m1 wr1 : Addr → Prop} {al al1 : List Addr} {H H1 : Hp} {D : Ends} {R : RS} (a : Mv H m wr al H1 m1 wr1 al1) (e : EndR K xn W m0 H m wr al D R) : EndR K xn W m0 H1 m1 wr1 al1 D R := by
  cases R with
  | bad => exact e
  | ok fl ρ' s' => exact End.fwd a e
  | exc x ρ' s' => exact EndX.fwd a e
theorem EndR.bad {K : PySem.W.Frag} {m0 m wr : Addr → Prop} {al : List Addr} {H : Hp} {D : Ends} {R : RS} (e : EndR K xn W m0 H m wr al D R) : R ≠ .bad := fun z => by rw [z] at e; exact e
theorem sw_for {tg : Tg} {it : Ev.It} {A : B} {t iter : Expr} {body : List Stmt} (hp : PassesOwn (model X.prog X.w) X.A X.env X.xe) (hc : X.calm = true) (hi : PI X t iter (oI F KW X.K xn W .esc it)) (hg : PG X t (tG X.K tg)) (hb : PSs X body (tSsW F KW X.K xn W A))
    (hs : ∀ x, foldedSetIterable iter X.env x = pure x) : PS X (.For t iter body [] pos) (tSW F KW X.K xn W (.for_ fz tg it A)) := by
  refine PS.imp (ps_for hp hc hi hg hb hs) ?_
  rintro D σ H ⟨m0, ρ, s, m, wr, al, f, h⟩
  have h := endR_of.mp h
  obtain ⟨m1, wr1, f1, mv1⟩ := f.fz fz
  generalize hR : evS F KW (.for_ fz tg it A) ρ s = R at h
  simp only [evS] at hR
  cases e1 : evI F KW it (freeze fz ρ) s with
  | bad => rw [e1] at hR; exact (h.bad hR.symm).elim
  | exc y s' =>
    rw [e1] at hR
    subst hR
    exact .inr ⟨_, s, m1, al, y, s', f1.sc, e1, EndX.xq h f1 mv1⟩
  | ok us s1 =>
  rw [e1] at hR
  have hR : (match inLim us with | true => forL (stepF F KW tg A) us (freeze fz ρ) s1 | false => .bad) = R := hR
  cases hl : inLim us with
  | false => rw [hl] at hR; exact (h.bad hR.symm).elim
  | true =>
  rw [hl] at hR
  have hR : forL (stepF F KW tg A) us (freeze fz ρ) s1 = R := hR
  refine .inl ⟨_, s, m1, al, us, s1, f1.sc, e1, fun J H1 al1 st t yl => ?_⟩
  have f2 := f1.eval st t
  have mv2 := mv1.trans (f1.evalM st)
  have q2 := h.fwd mv2
  have nb := h.bad
  generalize (mU m1 al1) = M at *
  generalize (fun a => wr1 a ∨ a ∈ al1) = WR at *
  have wm := f2.wm
  let Iv : Nat → L2.St → Hp → Prop := fun i σ Hi => ∃ ρi si mi wri ali, Fr X.K m0 ρi si mi wri ali σ Hi ∧ Mv H1 M WR al1 Hi mi wri ali ∧ forL (stepF F KW tg A) (us.drop i) ρi si = R
  refine ⟨fun i n σ Hi => n = us.length - i ∧ i ≤ us.length ∧ Iv i σ Hi, ⟨us.length, rfl, Nat.zero_le _, _, s1, M, WR, al1, f2, Mv.refl, hR⟩, ?_⟩
  rintro i n σi Hi ⟨hn, hi, ρi, si, mi, wri, ali, fi, mvi, ei⟩
  have pp : PP M al1 .esc H1 Hi := fun b o e n => mvi.ext b o e fun z => n (wm b z)
  by_cases lt : i < us.length
  · rw [List.drop_eq_getElem_cons lt] at ei
    refine .inr ⟨yl.go i Hi pp lt, Iv (i + 1), fun σ' H' h => ⟨us.length - (i + 1), by omega, rfl, lt, h⟩, fun x H3 hy => ?_⟩
    obtain ⟨g3, hx⟩ := fi.item wm yl mvi (List.getElem?_eq_getElem lt) hy
    obtain ⟨f3, mv3⟩ := fi.grow g3
    cases eb : bindTg tg us[i] ρi with
    | none =>
      exfalso
      rcases forL_turn ei nb with ⟨fl1, ρ1, s2, ef, er⟩ | ⟨y, ρ1, s2, ef, er⟩ <;> (unfold stepF at ef; rw [eb] at ef; cases ef)
    | some ρb =>
      refine ⟨ρi, mi, ali, us[i], ρb, f3.sc.t.sub, f3.sc.r, hx, eb, fun σ2 r2 off => ?_⟩
      refine ⟨m0, ρb, si, mi, wri, ali, f3.bind eb r2 off, ?_⟩
      rcases forL_turn ei nb with ⟨fl1, ρ1, s2, ef, er⟩ | ⟨y, ρ1, s2, ef, er⟩
      · unfold stepF at ef
        rw [eb] at ef
        have ef : evB F KW A ρb si = .ok fl1 ρ1 s2 := ef
        refine .inl ⟨fl1, ρ1, s2, ef, ?_⟩
        cases fl1 with
        | nx => exact fun σ' H' m' wr' al' f' mv' => ⟨ρ1, s2, m', wr', al', f', (mvi.trans mv3).trans mv', er⟩
        | cont => exact fun σ' H' m' wr' al' f' mv' => ⟨ρ1, s2, m', wr', al', f', (mvi.trans mv3).trans mv', er⟩
        | brk =>
          subst er
          exact fun σ' H' m' wr' al' f' mv' => q2 σ' H' m' wr' al' f' ((mvi.trans mv3).trans mv')
        | ret v =>
          subst er
          exact fun v H' m' wr' al' h => q2 v H' m' wr' al' (h.back (mvi.trans mv3))
      · unfold stepF at ef
        rw [eb] at ef
        have ef : evB F KW A ρb si = .exc y ρ1 s2 := ef
        subst er
        exact .inr ⟨y, ρ1, s2, ef, EndX.fwd (mvi.trans mv3) q2⟩
  · have hi' : i = us.length := Nat.le_antisymm hi (Nat.le_of_not_lt lt)
    subst hi'
    rw [List.drop_length] at ei
    have ei : RS.ok .nx ρi si = R := ei
    subst ei
    exact .inl ⟨yl.st Hi pp, q2 σi Hi mi wri ali fi mvi⟩
theorem sw_while {A : B} {t : Expr} {body : List Stmt} (hp : PassesOwn (model X.prog X.w) X.A X.env X.xe) (hc : PT X t (tT F KW X.K a)) (hb : PSs X body (tSsW F KW X.K xn W A)) : PS X (.While t body [] pos) (tSW F KW X.K xn W (.while_ fz a A)) := by
  refine PS.imp (ps_while hp hc hb) ?_
  rintro D σ H ⟨m0, ρ, s, m, wr, al, f, h⟩
  have h := endR_of.mp h
  generalize hR : evS F KW (.while_ fz a A) ρ s = R at h
  simp only [evS] at hR
  have nb := h.bad
  generalize ht : (fun (r : Env) (s : Sto) => ((evE F KW a (freeze fz r) s).bind fun v s => (ofO s (truth v.u)).bind fun k s => RE.ok (k, freeze fz r) s)) = tf at hR
  refine ⟨fun n σ Hi => ∃ ρi si mi wri ali, Fr X.K m0 ρi si mi wri ali σ Hi ∧ Mv H m wr al Hi mi wri ali ∧ whileL tf (fun r s => evB F KW A r s) n ρi si = R, ⟨1000000, ρ, s, m, wr, al, f, Mv.refl, hR⟩, ?_⟩
  rintro n σi Hi ⟨ρi, si, mi, wri, ali, fi, mvi, ei⟩
  cases n with
  | zero => exact (nb ei.symm).elim
  | succ n =>
    simp only [whileL] at ei
    cases ht1 : tf ρi si with
    | bad => rw [ht1] at ei; exact (nb ei.symm).elim
    | exc x s => rw [ht1] at ei; exact (nb ei.symm).elim
    | ok kr s1 =>
      rw [ht1] at ei
      rw [← ht] at ht1
      obtain ⟨ra, s2, e2, ht1⟩ := bind_ok ht1
      obtain ⟨k, e3, ht1⟩ := bindO_ok ht1
      cases ht1
      obtain ⟨m1, wr1, f1, mv1⟩ := fi.fz fz
      refine ⟨_, si, m1, ali, ra, s1, k, f1.sc, e2, e3, fun H1 al1 st t1 => ?_⟩
      have f2 := f1.eval st t1
      have mv2 := (mvi.trans mv1).trans (f1.evalM st)
      have q2 := h.fwd mv2
      cases k with
      | false =>
        have ei : RS.ok .nx (freeze fz ρi) s1 = R := ei
        subst ei
        exact iteF (h σi H1 _ _ al1 f2 mv2)
      | true =>
        simp only at ei
        refine iteT ⟨fun σ' H' => ∃ ρi si mi wri ali, Fr X.K m0 ρi si mi wri ali σ' H' ∧ Mv H m wr al H' mi wri ali ∧ whileL tf (fun r s => evB F KW A r s) n ρi si = R, fun σ' H' h => ⟨n, Nat.lt_succ_self n, h⟩, ?_⟩
        cases eb : evB F KW A (freeze fz ρi) s1 with
        | bad => rw [eb] at ei; exact (nb ei.symm).elim
        | exc x r s =>
          rw [eb] at ei
          have ei : RS.exc x r s = R := ei
          subst ei
          exact ⟨m0, _, s1, _, _, al1, f2, .inr ⟨x, r, s, eb, q2⟩⟩
        | ok fl1 ρ1 s3 =>
          rw [eb] at ei
          refine ⟨m0, _, s1, _, _, al1, f2, .inl ⟨fl1, ρ1, s3, eb, ?_⟩⟩
          cases fl1 with
          | nx => exact fun σ' H' m' wr' al' f' mv' => ⟨ρ1, s3, m', wr', al', f', mv2.trans mv', ei⟩
          | cont => exact fun σ' H' m' wr' al' f' mv' => ⟨ρ1, s3, m', wr', al', f', mv2.trans mv', ei⟩
          | brk =>
            have ei : RS.ok .nx ρ1 s3 = R := ei
            subst ei
            exact fun σ' H' m' wr' al' f' mv' => h σ' H' m' wr' al' f' (mv2.trans mv')
          | ret v =>
            have ei : RS.ok (.ret v) ρ1 s3 = R := ei
            subst ei
            exact fun v H' m' wr' al' g => h v H' m' wr' al' (g.back mv2)
end
end Ev

end
section
set_option Elab.async false
set_option linter.all false
set_option maxRecDepth 100000
set_option maxHeartbeats 4000000
namespace Ev
open PySem L2 CompX
/-! ### except suites -/
def tHi (a : Addr) (d : Option Addr) (ct : XcT) (o : Option Nat) : Hi → TE
  | .str s => tC (.str s)
  | .bl b => tC (.bl b)
  | .non => tC .non
  | .isi le => fun σ H Q => (∀ i, o = some i → i < σ.length → σ[i]? = some (some (.ref a))) ∧ (d = none ∨ ∃ dd fs, d = some dd ∧ H dd = some (.xd fs)) ∧ Q (.bl (ct.le == le)) H
  | .fld n => fun σ H Q => (∀ i, o = some i → i < σ.length → σ[i]? = some (some (.ref a))) ∧ ct.fld = some n ∧ ∃ dd fs v, d = some dd ∧ H dd = some (.xd fs) ∧ fs.lookup n = some v ∧ Q v H
def tHis (a : Addr) (d : Option Addr) (ct : XcT) (o : Option Nat) : List Hi → TA
  | [] => tNil
  | i :: r => tCons (tHi a d ct o i) (tHis a d ct o r)
def tsOf (P : Program) (K : PySem.W.Frag) (xs : List XcT) (h : Hd) : Addr → Value → Option Addr → TS := fun a cls d D σ H => ∃ C ct, nth h.cls xs = some ct ∧ cls = .ref C ∧ XcK P K ct C ∧ match h.v with
  | .con b => tAsg (tC (.bl b)) (gName h.tgt) D σ H
  | .row is => tAsg (tLst (tHis a d ct h.slot is)) (gName h.tgt) D σ H
def clOf (P : Program) (K : PySem.W.Frag) (xs : List XcT) (xn : Nat → Value × Str) (h : Hd) : TryAs.Cl := ((xn h.cls).1, h.slot, tsOf P K xs h)
section
variable {X : Cx} {F : CallF} {KW : Kt} {T : Tb} {W : WX} {k : Ck}
/-- isinstance(e, B) of the caught exception, with or without fields -/
def rIsX (K : PySem.W.Frag) (D a : Addr) (d : Option Addr) : List V → Hp → VK → Prop := fun xs H Q => ∃ (c : V) (cv : Value) (b : Bool), xs = [.ref a, c] ∧ (∀ u, RelV c u → u = cv) ∧ PySem.W.kitOne K (.ref D) cv = some b ∧ (d = none ∨ ∃ dd fs, d = some dd ∧ H dd = some (.xd fs)) ∧ Q (.bl b) H
theorem call_isX {X : Cx} {a D : Addr} {oe : Obj} {d : Option Addr} {pn : List (Addr × Obj)} (C : ExcC X.K D) (hz : Zc (.ref D) d oe) (hf : ∃ vs, oe.data = .fields vs) : CallR (X.suite a ((a, oe) :: pn)) (.builtin "isinstance") (rIsX X.K D a d) := by
  intro pins s σ H xs us Q I r h
  obtain ⟨c, cv, b, rfl, hcv, e, hdd, q⟩ := h
  match us, r with
  | _, .cons rx (.cons rt .nil) =>
    have ex : _ = Value.ref a := rx
    have ec := hcv _ rt
    subst ec
    subst ex
    have hget := (I.pin (a, oe) (List.mem_append_left _ List.mem_cons_self)).1
    have hcl : (PySem.W.clsIn X.K D).isSome = true := by
      obtain ⟨cd, hc, _⟩ := PySem.W.any_some C.hd
      rw [hc]; rfl
    have hnc : PySem.W.notCls oe := by
      obtain ⟨vs, hv⟩ := hf
      unfold PySem.W.notCls
      rw [hv] <;> rfl
    rcases hdd with rfl | ⟨dd, fs, rfl, hx⟩
    · have J : PySem.W.InstAt s.heap a oe D none := ⟨hget, hz.1, hnc, by rw [hz.2]; trivial⟩
      exact PySem.W.kia_one (PySem.W.kitx_exc (od := none) hcl C.hg C.hk C.hs C.ha C.hn C.ht C.hm) I.kIn J e (fun z => nomatch z) fun tk => ⟨.bl b, H, I.kept (t' := tk) fun _ _ z => z, rfl, q⟩
    · obtain ⟨mA, hns, _⟩ := show ObjOk X.prog X.w H s.heap dd (.xd fs) from I.hok dd _ hx
      obtain ⟨od, ho, _⟩ := lookIn_ns hns
      have J : PySem.W.InstAt s.heap a oe D (some od) := ⟨hget, hz.1, hnc, by rw [hz.2]; exact ho⟩
      exact PySem.W.kia_one (PySem.W.kitx_exc (od := some od) hcl C.hg C.hk C.hs C.ha C.hn C.ht C.hm) I.kIn J e (fun z => nomatch z) fun tk => ⟨.bl b, H, I.kept (t' := tk) fun _ _ z => z, rfl, q⟩
theorem PE.self {X : Cx} {e : Expr} {t t' : TE} (h : PE X e t) (i : ∀ σ H Q, σ.length = X.N.length → t' σ H Q → t σ H Q) : PE X e t' := ⟨fun pins s σ H Q I q => h.run pins s σ H Q I (i σ H Q I.len q)⟩
/-- the slot's name in a suite -/
theorem pe_own (O : XOk T F KW k X) {a : Addr} {pn : List (Addr × Obj)} {i : Nat} {x : Expr} (h : varOk k i x = true) : ∃ n p, x = .Name n p ∧ i < X.N.length ∧ PE (X.suite a pn) x (tVar i) := by
  obtain ⟨n, p, rfl⟩ : ∃ n p, x = .Name n p := by cases x <;> first | exact ⟨_, _, rfl⟩ | (cases h; done)
  obtain ⟨v1, v3⟩ := and2 h
  obtain ⟨v1, v2⟩ := and2 v1
  have vN : X.N[i]? = some n := by rw [O.N]; exact of_decide_eq_true v1
  have vV : Vis X.env.scope n := by
    unfold L2.Vis
    rw [O.sc]
    unfold visB at v2
    cases q : k.sc.names.lookup n with
    | none => rw [q] at v2; cases v2
    | some w => rw [q] at v2; cases w <;> first | exact .inl rfl | exact .inr (.inl rfl) | exact .inr (.inr rfl) | (cases v2; done)
  have vd : (n == ("__debug__" : Str)) = false := by
    unfold plainN at v3
    have c3 := (and2 (and2 v3).1).1
    simpa using c3
  have vc : (n == ("__classdict__" : Str)) = false := by
    unfold plainN at v3
    have c3 := (and2 (and2 v3).1).2
    simpa using c3
  exact ⟨n, p, rfl, (List.getElem?_eq_some_iff.mp vN).1, pe_var (X := X.suite a pn) vN vV vd vc⟩
theorem pe_hi (O : XOk T F KW k X) {a C : Addr} {oe : Obj} {cls : Value} {d : Option Addr} {pn : List (Addr × Obj)} {ct : XcT} {o : Option Nat} (hc : cls = .ref C) (xk : XcK X.prog X.K ct C) (hz : Zc cls d oe) (hf : ∃ vs, oe.data = .fields vs) :
    ∀ {h : Hi} {e : Expr}, chkHi k o h e = true → PE (X.suite a ((a, oe) :: pn)) e (tHi a d ct o h) ∧ noStar e = true := by
  intro h e hh
  subst hc
  cases h with
  | str m =>
    obtain ⟨j, p, rfl⟩ : ∃ j p, e = .Constant (.str m) j p := by
      cases e <;> first | (simp [chkHi] at hh; done) | skip
      rename_i c j p
      cases c <;> first | (simp [chkHi] at hh; done) | skip
      simp only [chkHi] at hh
      rw [of_decide_eq_true (and2 hh).1]
      exact ⟨_, _, rfl⟩
    exact ⟨(show PE (X.suite a ((a, oe) :: pn)) _ (tC (.str m)) from pe_str), rfl⟩
  | bl b =>
    obtain ⟨j, p, rfl⟩ : ∃ j p, e = .Constant (.bool b) j p := by
      cases e <;> first | (simp [chkHi] at hh; done) | skip
      rename_i c j p
      cases c <;> first | (simp [chkHi] at hh; done) | skip
      simp only [chkHi] at hh
      rw [eq_of_beq hh]
      exact ⟨_, _, rfl⟩
    exact ⟨(show PE (X.suite a ((a, oe) :: pn)) _ (tC (.bl b)) from pe_bl), rfl⟩
  | non =>
    obtain ⟨j, p, rfl⟩ : ∃ j p, e = .Constant .none j p := by
      cases e <;> first | (simp [chkHi] at hh; done) | skip
      rename_i c j p
      cases c <;> first | (simp [chkHi] at hh; done) | skip
      exact ⟨_, _, rfl⟩
    exact ⟨(show PE (X.suite a ((a, oe) :: pn)) _ (tC .non) from pe_non), rfl⟩
  | isi le =>
    obtain ⟨g, x, y, q, i, rfl, rfl, g3, g4, g5⟩ : ∃ g x y q i, e = .Call g [x, y] [] q ∧ o = some i ∧ isG k "isinstance" g = true ∧ varOk k i x = true ∧ isG k (if le then "LookupError" else "ValueError") y = true := by
      unfold chkHi at hh
      split at hh <;> first | (cases hh; done) | skip
      all_goals first | (rename_i h0; cases h0; done) | (rename_i h1 h0; cases h1; done) | skip
      rename_i g x y q h1
      cases h1
      cases o with
      | none => cases hh
      | some i =>
        obtain ⟨hh, w3⟩ := and2 hh
        obtain ⟨w1, w2⟩ := and2 hh
        exact ⟨g, x, y, q, i, rfl, rfl, w1, w2, w3⟩
    refine ⟨?_, rfl⟩
    obtain ⟨p1, rfl, hg1, _, _⟩ := gl_of O g3
    obtain ⟨p2, rfl, hg2, _, _⟩ := gl_of O g5
    obtain ⟨n, p0, rfl, hi, hx⟩ := pe_own (pn := (a, oe) :: pn) (a := a) O g4
    have key : ∀ (B : String) (r : Bool), Gl X B → X.mg B = none → bootBuiltins B = some (.type B) → (PySem.Str.ofString B) ≠ "__name__" → ((PySem.Str.ofString B) == ("__debug__" : Str)) = false → PySem.W.kitOne X.K (.ref C) (.type B) = some r →
        PE (X.suite a ((a, oe) :: pn)) (.Call (.Name "isinstance" p1) [.Name n p0, .Name B p2] [] q) (fun σ H Q => (∀ j, some i = some j → j < σ.length → σ[j]? = some (some (.ref a))) ∧ (d = none ∨ ∃ dd fs, d = some dd ∧ H dd = some (.xd fs)) ∧ Q (.bl r) H) := fun B r hgB hmB hbB hnB hdB hk => by
      have hy : PE (X.suite a ((a, oe) :: pn)) (.Name B p2) (tC (.ty B)) := pe_bltn (X := X.suite a ((a, oe) :: pn)) hgB hmB (u := .type B) hbB rfl hnB hdB
      refine PE.self (pe_callB (X := X.suite a ((a, oe) :: pn)) (call_isX xk.ec hz hf) hg1 (O.blt _ (by decide +kernel)) (by decide +kernel) (pa_cons hx (pa_cons hy pa_nil)) (by decide +kernel) (by decide +kernel)) fun σ H Q hl hq => ?_
      have hi' : i < σ.length := by rw [hl]; exact hi
      exact ⟨.ref a, hq.1 i rfl hi', .ty B, .type B, r, rfl, fun u hu => hu, hk, hq.2⟩
    cases le with
    | true => exact PE.imp (key "LookupError" ct.le hg2 (O.blt _ (by decide +kernel)) (by decide +kernel) (by decide +kernel) (by decide +kernel) xk.le) fun σ H Q hq => ⟨hq.1, hq.2.1, by have := hq.2.2; rw [show (ct.le == true) = ct.le from by cases ct.le <;> rfl] at this; exact this⟩
    | false => exact PE.imp (key "ValueError" (!ct.le) hg2 (O.blt _ (by decide +kernel)) (by decide +kernel) (by decide +kernel) (by decide +kernel) xk.ve) fun σ H Q hq => ⟨hq.1, hq.2.1, by have := hq.2.2; rw [show (ct.le == false) = !ct.le from by cases ct.le <;> rfl] at this; exact this⟩
  | fld n =>
    obtain ⟨x, q, i, rfl, rfl, g4⟩ : ∃ x q i, e = .Attribute x n q ∧ o = some i ∧ varOk k i x = true := by
      unfold chkHi at hh
      split at hh <;> first | (cases hh; done) | skip
      all_goals first | (rename_i h0; cases h0; done) | (rename_i h1 h0; cases h1; done) | skip
      rename_i x m q h1
      cases h1
      cases o with
      | none => cases hh
      | some i =>
        obtain ⟨w1, w2⟩ := and2 hh
        rw [of_decide_eq_true w1]
        exact ⟨x, q, i, rfl, rfl, w2⟩
    refine ⟨?_, rfl⟩
    obtain ⟨nm, p0, rfl, hi, hx⟩ := pe_own (pn := (a, oe) :: pn) (a := a) O g4
    refine ⟨fun pins s σ H Q I hq => ?_⟩
    obtain ⟨h1, h2, dd, fs, v, h3, h4, h5, h6⟩ := hq
    have hi' : i < σ.length := by rw [I.len]; exact hi
    exact (pe_xf xk.xf (xk.no n h2) hz hf hx).run pins s σ H Q I ⟨.ref a, h1 i rfl hi', rfl, rfl, dd, fs, v, h3, h4, h5, h6⟩
theorem pa_his (O : XOk T F KW k X) {a C : Addr} {oe : Obj} {cls : Value} {d : Option Addr} {pn : List (Addr × Obj)} {ct : XcT} {o : Option Nat} (hc : cls = .ref C) (xk : XcK X.prog X.K ct C) (hz : Zc cls d oe) (hf : ∃ vs, oe.data = .fields vs) :
    ∀ {is : List Hi} {es : List Expr}, chkHis k o is es = true → PA (X.suite a ((a, oe) :: pn)) es (tHis a d ct o is)
  | [], [], _ => pa_nil
  | [], _ :: _, h => by simp [chkHis] at h
  | _ :: _, [], h => by simp [chkHis] at h
  | i :: is, e :: es, h => by
    simp only [chkHis] at h
    obtain ⟨h1, h2⟩ := and2 h
    obtain ⟨p1, p2⟩ := pe_hi O hc xk hz hf h1
    exact pa_cons p1 (pa_his O hc xk hz hf h2) (star_of p2 _)
theorem hv_con {k : Ck} {o : Option Nat} {b : Bool} : ∀ {e : Expr}, chkHv k o (.con b) e = true → ∃ j p, e = .Constant (.bool b) j p
  | .Constant (.bool c) j p, h => by
    have h' : (b == c) = true := h
    rw [eq_of_beq h']
    exact ⟨_, _, rfl⟩
theorem hv_row {k : Ck} {o : Option Nat} {is : List Hi} : ∀ {e : Expr}, chkHv k o (.row is) e = true → ∃ es pl, e = .List es pl ∧ chkHis k o is es = true ∧ is.length ≤ 1000
  | .List es pl, h => by
    have h' : (chkHis k o is es && decide (is.length ≤ 1000)) = true := h
    exact ⟨es, pl, rfl, (and2 h').1, of_decide_eq_true (and2 h').2⟩
theorem hds_as (O : XOk T F KW k X) : ∀ {hs : List Hd} {hds : List ExceptHandler}, chkHs T k hs hds = true → TryAs.HdsAs X hds (hs.map (clOf X.prog X.K (T.xs.map (·.t)) (xnOf T X.mg)))
  | [], [], _ => .nil
  | [], _ :: _, h => by simp [chkHs] at h
  | _ :: _, [], h => by simp [chkHs] at h
  | hd :: hs, ex :: hds, h => by
    unfold chkHs at h
    split at h
    · rename_i heq; cases heq
    · rename_i h0 hs0 cx nm y py e0 ps pos r heq1 heq2
      cases heq1
      cases heq2
      obtain ⟨h, h6⟩ := and2 h
      obtain ⟨h, h5⟩ := and2 h
      obtain ⟨h, h4⟩ := and2 h
      obtain ⟨h, h3⟩ := and2 h
      obtain ⟨h1, h2⟩ := and2 h
      cases q : nth hd.cls T.xs with
      | none => rw [q] at h1; cases h1
      | some xe =>
        rw [q] at h1
        obtain ⟨p, rfl, hg, hdb, hne⟩ := gl_of O h1
        obtain ⟨C, hm, xk⟩ := O.xcs.at_ _ _ q
        obtain ⟨hti, htl⟩ := name_of O h3
        have hlc : isLC e0 = false := by simpa using h4
        refine .cons (c := (xnOf T X.mg hd.cls).1) (o := hd.slot) ⟨hg, hdb, .inl (by rw [xn_at q hm]; exact hm)⟩ ?_ (fun a oe cls d pn hz hf => ?_) (hds_as O h6)
        · cases hs : hd.slot with
          | none => cases nm with
            | none => trivial
            | some n => rw [hs] at h2; cases h2
          | some i => cases nm with
            | none => rw [hs] at h2; cases h2
            | some n =>
              rw [hs] at h2
              obtain ⟨n1, n2⟩ := name_of O (and2 h2).1
              exact ⟨n1, n2⟩
        · refine ⟨fun pins s σ H D I hw => ?_⟩
          obtain ⟨C', ct, _, hcls, xk', hw⟩ := hw
          have hN : X.N.Nodup := by rw [O.N]; exact O.nd
          cases hv : hd.v with
          | con b =>
            rw [hv] at h5 hw
            obtain ⟨jj, pp, rfl⟩ := hv_con h5
            exact (pss_one (ps_set (X := X.suite a ((a, oe) :: pn)) hN hti (.inl htl) pe_bl (sw_name hlc _ _ _) (.inr htl))).run pins s σ H D I hw
          | row is =>
            rw [hv] at h5 hw
            obtain ⟨es, pl, rfl, h5, _⟩ := hv_row h5
            exact (pss_one (ps_set (X := X.suite a ((a, oe) :: pn)) hN hti (.inl htl) (pe_lst (pa_his O hcls xk' hz hf h5)) (sw_name hlc _ _ _) (.inr htl))).run pins s σ H D I hw
    · cases h
end
end Ev

end
section
set_option Elab.async false
set_option linter.all false
set_option maxRecDepth 100000
set_option maxHeartbeats 8000000
namespace Ev
open PySem L2 CompX
/-! ### the suites' runs -/
/-- the caught exception's dict -/
def DX (K : PySem.W.Frag) (xn : Nat → Value × Str) (m : Addr → Prop) (al : List Addr) (x : Xc) (d : Option Addr) (H : Hp) : Prop := match x.arg with
  | none => d = none
  | some u => ∃ dd y, d = some dd ∧ H dd = some (.xd [((xn x.cls).2, y)]) ∧ ¬ m dd ∧ Sh K H m al u y
section
variable {K : PySem.W.Frag} {xn : Nat → Value × Str} {m : Addr → Prop} {al : List Addr} {x : Xc} {d : Option Addr} {H : Hp} {Wf : Value → Option Addr → Hp → Prop}
theorem XO.use (w : XO K xn Wf m al x H) (h : DX K xn m al x d H) : Wf (xn x.cls).1 d H := by
  unfold XO at w
  unfold DX at h
  cases q : x.arg with
  | none =>
    rw [q] at w h
    simp only at w h
    subst h
    exact w
  | some u =>
    rw [q] at w h
    simp only at w h
    obtain ⟨dd, y, rfl, h1, h2, h3⟩ := h
    exact w dd y h1 h2 h3
theorem XO.mk (h : ∀ d, DX K xn m al x d H → Wf (xn x.cls).1 d H) : XO K xn Wf m al x H := by
  unfold XO
  unfold DX at h
  cases q : x.arg with
  | none =>
    rw [q] at h
    exact h none rfl
  | some u =>
    rw [q] at h
    exact fun dd y h1 h2 h3 => h (some dd) ⟨dd, y, rfl, h1, h2, h3⟩
theorem DX.xd (h : DX K xn m al x d H) : d = none ∨ ∃ dd fs, d = some dd ∧ H dd = some (.xd fs) := by
  unfold DX at h
  split at h
  · exact .inl h
  · obtain ⟨dd, y, h1, h2, _⟩ := h
    exact .inr ⟨dd, _, h1, h2⟩
/-- the items of a suite's row -/
theorem hi_in {a : Addr} {ct : XcT} {o : Option Nat} {σ : L2.St} (hs : ∀ i, o = some i → i < σ.length → σ[i]? = some (some (.ref a))) (hn : (xn x.cls).2 = ct.fld.getD "") (h : DX K xn m al x d H) {hi : Hi} {u : U} (e : hiV ct x hi = some u) :
    ∃ v, Sh K H m al u v ∧ ∀ Q : VK, Q v H → tHi a d ct o hi σ H Q := by
  cases hi with
  | str s => cases e; exact ⟨.str s, .str s, fun Q q => q⟩
  | bl b => cases e; exact ⟨.bl b, .bl b, fun Q q => q⟩
  | non => cases e; exact ⟨.non, .non, fun Q q => q⟩
  | isi le => cases e; exact ⟨_, .bl _, fun Q q => ⟨hs, h.xd, q⟩⟩
  | fld n =>
    unfold hiV at e
    cases q1 : ct.fld with
    | none => rw [q1] at e; cases e
    | some f =>
      cases q2 : x.arg with
      | none => rw [q1, q2] at e; cases e
      | some w =>
        rw [q1, q2] at e
        simp only at e
        split at e
        · rename_i efn
          cases e
          subst efn
          unfold DX at h
          rw [q2] at h
          obtain ⟨dd, y, rfl, h1, h2, h3⟩ := h
          rw [hn, q1] at h1
          refine ⟨y, h3, fun Q q => ⟨hs, q1, dd, _, y, rfl, h1, ?_, q⟩⟩
          simp [List.lookup]
        · cases e
theorem his_in {a : Addr} {ct : XcT} {o : Option Nat} {σ : L2.St} (hs : ∀ i, o = some i → i < σ.length → σ[i]? = some (some (.ref a))) (hn : (xn x.cls).2 = ct.fld.getD "") (h : DX K xn m al x d H) :
    ∀ {is : List Hi} {us : List U}, hisV ct x is = some us → us.length = is.length ∧ ∃ vs, Shs K H m al us vs ∧ ∀ Q : List V → Hp → Prop, Q vs H → tHis a d ct o is σ H Q
  | [], us, e => by cases e; exact ⟨rfl, [], .nil, fun Q q => q⟩
  | i :: is, us, e => by
    unfold hisV at e
    split at e
    · rename_i u us' e1 e2
      cases e
      obtain ⟨v, s1, g1⟩ := hi_in hs hn h e1
      obtain ⟨hl, vs, s2, g2⟩ := his_in hs hn h e2
      exact ⟨by rw [List.length_cons, List.length_cons, hl], v :: vs, .cons s1 s2, fun Q q => g1 _ (g2 _ q)⟩
    · cases e
end
section
variable {X : Cx} {F : CallF} {KW : Kt} {T : Tb} {W : WX} {k : Ck}
theorem set_twice {σ : L2.St} {i t : Nat} {A B : Option V} (h : i ≠ t) : ((σ.set i A).set t B).set i none = (σ.set t B).set i none := by
  rw [List.set_comm _ _ h, List.set_set]
theorem nth_map {α β : Type} {f : α → β} : ∀ {l : List α} {n : Nat} {x : α}, nth n l = some x → nth n (l.map f) = some (f x)
  | y :: l, 0, x, h => by cases h; rfl
  | y :: l, n + 1, x, h => nth_map (l := l) (n := n) h
  | [], n, x, h => by cases n <;> cases h
theorem hdl_in (O : XOk T F KW k X) {x : Xc} {xe : XcE} (hx : nth x.cls T.xs = some xe) {D : Ends} {m0 m wr m' wr' : Addr → Prop} {al al' : List Addr} {H H' : Hp} {σ' : L2.St} {ρ1 : Env} {s1 : Sto} (f : Fr X.K m0 ρ1 s1 m' wr' al' σ' H') (mv : Mv H m wr al H' m' wr' al') {d : Option Addr} (hd : DX X.K (xnOf T X.mg) m' al' x d H') :
    ∀ {hs : List Hd} {hds : List ExceptHandler}, chkHs T k hs hds = true → EndR X.K (xnOf T X.mg) W m0 H m wr al D (hdl (T.xs.map (·.t)) hs x ρ1 s1) →
      TryAs.wManyAs X.K W D (hs.map (clOf X.prog X.K (T.xs.map (·.t)) (xnOf T X.mg))) (xnOf T X.mg x.cls).1 d σ' H'
  | [], [], _, h => XO.use (h σ' H' m' wr' al' f mv) hd
  | [], _ :: _, h, _ => by simp [chkHs] at h
  | _ :: _, [], h, _ => by simp [chkHs] at h
  | hd0 :: hs, ex :: hds, hc, h => by
    unfold chkHs at hc
    split at hc
    · rename_i heq; cases heq
    · rename_i h0 hs0 cx nm y py e0 ps pos r heq1 heq2
      cases heq1
      cases heq2
      obtain ⟨hc, h6⟩ := and2 hc
      obtain ⟨hc, h5⟩ := and2 hc
      obtain ⟨hc, h4⟩ := and2 hc
      obtain ⟨hc, h3⟩ := and2 hc
      obtain ⟨h1, h2⟩ := and2 hc
      cases q : nth hd0.cls T.xs with
      | none => rw [q] at h1; cases h1
      | some xe2 =>
        obtain ⟨D2, hm2, xk2⟩ := O.xcs.at_ _ _ q
        obtain ⟨C, hm, xk⟩ := O.xcs.at_ _ _ hx
        have ex := O.xcs.exm _ _ _ _ C D2 hx q hm hm2
        have eC : (xnOf T X.mg x.cls).1 = .ref C := by rw [xn_at hx hm]
        have eD : (xnOf T X.mg hd0.cls).1 = .ref D2 := by rw [xn_at q hm2]
        have eF : (xnOf T X.mg x.cls).2 = xe.t.fld.getD "" := by rw [xn_at hx hm]
        refine ⟨x.cls == hd0.cls, ?_, fun hb a ha => ?_, fun hb => ?_⟩
        · show PySem.W.exmOne X.K (xnOf T X.mg x.cls).1 (xnOf T X.mg hd0.cls).1 = _
          rw [eC, eD]
          exact ex
        · have hb' := eq_of_beq hb
          have e2 : xe2 = xe := by
            rw [hb', q] at hx
            cases hx; rfl
          subst e2
          simp only [hdl, hb, if_true] at h
          rw [nth_map (f := fun z : XcE => z.t) hx] at h
          simp only at h
          have hne : ∀ i, hd0.slot = some i → i ≠ hd0.tgt := fun i hi => by
            rw [hi] at h2
            cases nm with
            | none => cases h2
            | some n => exact of_decide_eq_true (and2 h2).2
          -- how the suite ends
          have fin : ∀ {u : U} {v : V} {H2 : Hp}, Fr X.K m0 ρ1 s1 m' wr' al' σ' H2 → Mv H m wr al H2 m' wr' al' → Sh X.K H2 m' al' u v → EndR X.K (xnOf T X.mg) W m0 H m wr al D (RS.ok .nx (unset hd0.slot (put hd0.tgt (.sh u) ρ1)) s1) →
              (TryAs.endsAs hd0.slot D).nx ((TryAs.startAs hd0.slot σ' a).set hd0.tgt (some v)) H2 := fun {u v H2} f2 mv2 sh g => by
            cases hs1 : hd0.slot with
            | none =>
              rw [hs1] at g
              exact g _ H2 m' wr' al' (f2.put (.sh sh)) mv2
            | some i =>
              rw [hs1] at g
              show D.nx (((σ'.set i (some (.ref a))).set hd0.tgt (some v)).set i none) H2
              rw [set_twice (hne i hs1)]
              exact g _ H2 m' wr' al' ((f2.put (.sh sh)).unset1 i) mv2
          refine ⟨C, xe2.t, nth_map (f := fun z : XcE => z.t) q, eC, xk, ?_⟩
          cases hv : hd0.v with
          | con b =>
            rw [hv] at h
            exact fin f mv (.bl b) h
          | row is =>
            rw [hv] at h h5
            obtain ⟨_, _, _, _, hl5⟩ := hv_row h5
            simp only [hvV] at h
            cases qh : hisV xe2.t x is with
            | none => rw [qh] at h; exact h.elim
            | some us =>
              rw [qh] at h
              have hsl : ∀ i, hd0.slot = some i → i < (TryAs.startAs hd0.slot σ' a).length → (TryAs.startAs hd0.slot σ' a)[i]? = some (some (.ref a)) := fun i hi hlt => by
                rw [hi] at hlt ⊢
                exact List.getElem?_set_self (by simpa [TryAs.startAs] using hlt)
              obtain ⟨hl, vs, sh, g⟩ := his_in hsl eF hd qh
              refine g _ ⟨?_, fun p hp => ?_⟩
              · rw [← sh.length, hl]
                exact Nat.le_trans hl5 (by decide)
              · obtain ⟨f2, mv2⟩ := f.grow (Grow.new (o := .lst vs) hp)
                exact fin f2 (mv.trans mv2) (.lst upd_same (f.sc.md.not hp) (sh.grow (Grow.new hp))) h
        · refine hdl_in O hx f mv hd h6 ?_
          simp only [hdl, hb, Bool.false_eq_true, if_false] at h
          exact h
    · cases hc
theorem XOk.tr (O : XOk T F KW k X) (pn : List (Addr × Obj)) (xe : Value → Shared → Prop) : XOk T F KW k (X.tr pn xe) where
  N := O.N
  nd := O.nd
  sc := O.sc
  fn := O.fn
  calm := O.calm
  units := O.units
  blt := O.blt
  cons := O.cons
  fns := fun f fe h => ⟨(O.fns f fe h).ex⟩
  kws := fun kw ke fe h1 h2 => ⟨(O.kws kw ke fe h1 h2).ex⟩
  dfs := fun f fe j h1 h2 => ⟨(O.dfs f fe j h1 h2).ex⟩
  xcs := O.xcs
  mth := O.mth
  nms := O.nms
  dep := O.dep
theorem nth_some {α : Type} : ∀ {l : List α} {n : Nat}, n < l.length → ∃ x, nth n l = some x
  | x :: l, 0, _ => ⟨x, rfl⟩
  | x :: l, n + 1, h => nth_some (l := l) (by simpa using h)
  | [], n, h => absurd h (by simp)
theorem sw_try {b : B} {hs : List Hd} {body : List Stmt} {h0 : ExceptHandler} {hds : List ExceptHandler} {pos : Pos} (O : XOk T F KW k X) (stk : X.stack = X.env :: X.outer) (frm : X.env.frame = some X.env.locals) (tk : Takes X W) (hc : chkHs T k hs (h0 :: hds) = true)
    (hb : ∀ (W' : WX) (pn : List (Addr × Obj)) (xe : Value → Shared → Prop), Takes (X.tr pn xe) W' → PassesOwn (model X.prog X.w) X.A X.env xe → PSs (X.tr pn xe) body (tSsW F KW X.K (xnOf T X.mg) W' b)) :
    PS X (.Try body (h0 :: hds) [] [] pos) (tSW F KW X.K (xnOf T X.mg) W (.try_ (T.xs.map (·.t)) b hs)) := by
  refine PS.imp (TryAs.ps_try_manyAs (tb := fun W' => tSsW F KW X.K (xnOf T X.mg) W' b) stk frm (by rw [O.N]; exact O.nd) tk hb (hds_as O hc)) ?_
  rintro D σ H ⟨m0, ρ, s, m, wr, al, f, h⟩
  refine ⟨m0, ρ, s, m, wr, al, f, ?_⟩
  have h := endR_of.mp h
  simp only [evS] at h
  cases e1 : evB F KW b ρ s with
  | bad => rw [e1] at h; exact h.elim
  | ok fl1 ρ1 s1 =>
    rw [e1] at h
    exact .inl ⟨_, _, _, rfl, h⟩
  | exc x ρ1 s1 =>
    rw [e1] at h
    simp only at h
    by_cases hx : x.cls < (T.xs.map (·.t)).length
    · rw [if_pos hx] at h
      rw [List.length_map] at hx
      obtain ⟨xe, hxe⟩ := nth_some hx
      exact .inr ⟨x, ρ1, s1, rfl, fun σ' H' m' wr' al' f' mv' => XO.mk fun d hd => hdl_in O hxe f' mv' hd hc h⟩
    · rw [if_neg hx] at h
      exact h.elim
/-- x = [..] with an exception out of it -/
theorem xs_asg {fz : List Nat} {i : Nat} {o : Bool} {e : C} {st : Stmt} (O : XOk T F KW k X) (tk : TkF X W) (h : chkS T (.asg fz i o e) k st = true) : PS X st (fun _ σ H => xS F KW X.K (xnOf T X.mg) W (.asg fz i o e) σ H) := by
  rw [chkS.eq_def] at h
  simp only at h
  split at h
  · rename_i x p ex pos
    obtain ⟨h0, h5⟩ := and2 h
    obtain ⟨h0, h4⟩ := and2 h0
    obtain ⟨h0, h3⟩ := and2 h0
    obtain ⟨h1, h2⟩ := and2 h0
    obtain ⟨hl, hf⟩ := loc_of O.names h3
    have hN : X.N.Nodup := by rw [O.N]; exact O.nd
    have hi : X.N[i]? = some x := by rw [O.N]; exact of_decide_eq_true h2
    have he : PE X ex (fun σ H _ => xE F KW X.K (xnOf T X.mg) W e σ H) := sndXC e .esc k ex X O tk h4
    by_cases lc : isLC ex = false
    · exact PS.imp (ps_set hN hi hl he (sw_name lc _ _ _) hf) fun D σ H q => one_x asg_x q
    · cases ex <;> first | exact absurd rfl lc | skip
      · rename_i elt gs scope cp
        by_cases sw : swapOne k (.ListComp elt gs scope cp) x p = false
        · exact PS.imp (ps_set hN hi hl he (by rw [sw_lc O h1, sw]) hf) fun D σ H q => one_x asg_x q
        · have sw : swapOne k (.ListComp elt gs scope cp) x p = true := by simpa using sw
          have hxl : X.env.scope.names.lookup x = some .local := by
            rw [O.sc]
            unfold swapOne at sw
            exact eq_of_beq (and2 (and2 sw).1).1
          cases e <;> simp only [isComp] at h5 <;> first | (cases h5; done) | skip
          rename_i w tg it t e'
          simp only [chk] at h4
          split at h4
          · rename_i elt' tg' iter ifs scope' pos' heq
            cases heq
            obtain ⟨g, g8⟩ := and2 h4
            obtain ⟨g, g7⟩ := and2 g
            obtain ⟨g, g6⟩ := and2 g
            obtain ⟨g, g5⟩ := and2 g
            obtain ⟨g, g4⟩ := and2 g
            obtain ⟨g, g3⟩ := and2 g
            obtain ⟨g1, g2⟩ := and2 g
            have hs : ∀ j ∈ tgSlots tg, j ∈ w := fun j hj => by
              have := List.all_eq_true.mp g2 j hj
              simpa using this
            have ok : BlkOk X.N X.env.scope scope (ownOf k.N scope) := by
              rw [O.N, O.sc]
              exact blkOk_by g4
            have hit : PI X tg' iter (oI F KW X.K (xnOf T X.mg) W .brw it) := PI.or (sndI it .brw k tg' iter X O (fun z => nomatch z) g5) (sndXI it .brw k tg' iter X O tk (fun z => nomatch z) g5)
            have ht : ∀ (W' : WX) (s : Shared) (H : Hp) (C : Addr) (cl : List (Str × Addr)) (fp : List Addr) (xe : Value → Shared → Prop), TkF (CompX.blkX X s H scope (compEnvC scope cl C X.env) fp xe) W' → PTs (CompX.blkX X s H scope (compEnvC scope cl C X.env) fp xe) ifs (oT F KW X.K (xnOf T X.mg) W' t) := fun W' s H C cl fp xe tk' => by
              split at g7
              · split at g7
                · refine ⟨fun pins s0 σ H Q I hw => pts_nil.run pins s0 σ H Q I ?_⟩
                  rcases hw with ⟨ρ, s, m, al, r, s', kb, sc, e, tr, q⟩ | ⟨ρ, s, m, al, y, s', sc, e, q⟩
                  · simp only [evE] at e
                    cases e
                    cases tr
                    exact q H al Step.refl sc.t.up
                  · simp only [evE] at e; cases e
                · cases g7
              · exact pts_one (PT.or (sndC t .tst (k.blk scope) _ _ (O.blkX scope s H C cl fp xe) g7) (sndXC t .tst (k.blk scope) _ _ (O.blkX scope s H C cl fp xe) tk' g7))
              · cases g7
            refine PS.imp (ps_setLcX (te := fun W' => oE F KW X.K (xnOf T X.mg) W' e') (tt := fun W' => oT F KW X.K (xnOf T X.mg) W' t) tk O.calm hN hi hxl (by rw [sw_lc O h1, sw]) hit ok (g := tG X.K tg) (fun s H C cl fp xe => pg_of (O.blkX scope s H C cl fp xe).names tg tg' g6) ht
              (fun W' s H C cl fp xe tk' => PE.or (show PE _ elt (tE F KW X.K e') from sndC e' .esc (k.blk scope) elt _ (O.blkX scope s H C cl fp xe) g8) (sndXC e' .esc (k.blk scope) elt _ (O.blkX scope s H C cl fp xe) tk' g8)) (fold_of g1 _)) fun D σ H hq => ?_
            exact lcx_in (fun σ => wipe_same g3 σ) hs σ H _ (one_x asg_x hq)
          · cases h4
      · cases h5
      · cases h5
  · cases h
/-- the simple statements' exceptions -/
theorem xs_simp (O : XOk T F KW k X) (tk : Takes X W) (hs : X.stack = X.env :: X.outer) (hf : X.env.frame = some X.env.locals) : ∀ {c : S} {st : Stmt}, simpS c = true → chkS T c k st = true → PS X st (fun _ σ H => xS F KW X.K (xnOf T X.mg) W c σ H) := by
  have tf : TkF X W := TkF.of tk hs hf
  intro c st hq h
  cases c with
  | asg fz i o e => exact xs_asg O tf h
  | asgT fz tg e =>
    rw [chkS.eq_def] at h
    simp only at h
    split at h
    · rename_i t ex pos
      obtain ⟨h0, h5⟩ := and2 h
      obtain ⟨h0, h4⟩ := and2 h0
      obtain ⟨h0, h3⟩ := and2 h0
      obtain ⟨h1, h2⟩ := and2 h0
      obtain ⟨es, kk, tp, rfl⟩ : ∃ es kk tp, t = .Tuple es kk tp := by cases t <;> first | exact ⟨_, _, _, rfl⟩ | (exact nomatch h1)
      have lc : isLC ex = false := by simpa using h4
      have he : PE X ex (fun σ H _ => xE F KW X.K (xnOf T X.mg) W e σ H) := sndXC e .esc k ex X O tf h3
      exact PS.imp (ps_asg he (pg_of O.names tg _ h2) (sw_sole lc _ _ _) (sw_no O h5) rfl) fun D σ H q => one_x asgT_x q
    · cases h
  | par2 fz i oi a j oj b =>
    rw [chkS.eq_def] at h
    simp only at h
    split at h
    · obtain ⟨h0, h8⟩ := and2 h
      obtain ⟨h0, h7⟩ := and2 h0
      obtain ⟨h0, h6⟩ := and2 h0
      obtain ⟨h0, h5⟩ := and2 h0
      obtain ⟨h0, h4⟩ := and2 h0
      obtain ⟨h0, h3⟩ := and2 h0
      obtain ⟨h1, h2⟩ := and2 h0
      obtain ⟨hi, hx⟩ := name_of O h1
      obtain ⟨hj, hy⟩ := name_of O h2
      exact PS.imp (ps_par O.calm (by rw [O.N]; exact O.nd) hi hj (of_decide_eq_true h3) hx hy (pa_cons (oe_of (sndC a .esc k _ X O h6) (sndXC a .esc k _ X O tf h6)) (pa_cons (oe_of (sndC b .esc k _ X O h7) (sndXC b .esc k _ X O tf h7)) pa_nil (star_of h5 _)) (star_of h4 _)) (sw_is O h8) rfl) fun D σ H q => par2_x q
    · cases h
  | par3 fz i j l as =>
    rw [chkS.eq_def] at h
    simp only at h
    split at h
    · obtain ⟨h0, h8⟩ := and2 h
      obtain ⟨h0, h7⟩ := and2 h0
      obtain ⟨h0, h6⟩ := and2 h0
      obtain ⟨h0, h5⟩ := and2 h0
      obtain ⟨h0, h4⟩ := and2 h0
      obtain ⟨h0, h3⟩ := and2 h0
      obtain ⟨h1, h2⟩ := and2 h0
      obtain ⟨hi, hx⟩ := name_of O h1
      obtain ⟨hj, hy⟩ := name_of O h2
      obtain ⟨hl, hz⟩ := name_of O h3
      exact PS.imp (ps_par3 O.calm (by rw [O.N]; exact O.nd) hi hj hl (of_decide_eq_true h4) (of_decide_eq_true h5) (of_decide_eq_true h6) hx hy hz (sndXA as .esc k _ X O tf (fun z => nomatch z) h7) (sw_is O h8) rfl) fun D σ H q => par3_x q
    · cases h
  | asgIx fz x kx e =>
    rw [chkS.eq_def] at h
    simp only at h
    split at h
    · rename_i o ix sp ex pos
      obtain ⟨h0, h5⟩ := and2 h
      obtain ⟨h0, h4⟩ := and2 h0
      obtain ⟨h0, h3⟩ := and2 h0
      obtain ⟨h1, h2⟩ := and2 h0
      have lc : isLC ex = false := by simpa using h5
      have he : PE X ex (fun σ H _ => xE F KW X.K (xnOf T X.mg) W e σ H) := sndXC e .esc k ex X O tf h4
      refine PS.imp (ps_asg he (pg_sub (pe_slot O h1) (sndC kx .brw k ix X O h3) set_list ?_) (sw_sole lc _ _ _) ?_ rfl) fun D σ H q => one_x asgIx_x q
      · intro v
        cases ix <;> first | rfl | (cases h2; done)
      · cases ex <;> rfl
    · cases h
  | aug fz i o e =>
    refine xs_no fun ρ s y ρ' s' e => ?_
    simp only [evS] at e
    obtain ⟨_, _, _, e⟩ := stN_exc e
    repeat' split at e
    all_goals cases e
  | app fz x e =>
    rw [chkS.eq_def] at h
    simp only at h
    split at h
    · rename_i o nm ap ex cp pos
      obtain ⟨h0, h5⟩ := and2 h
      obtain ⟨h0, h4⟩ := and2 h0
      obtain ⟨h0, h3⟩ := and2 h0
      obtain ⟨h1, h2⟩ := and2 h0
      have h1 := of_decide_eq_true h1
      subst h1
      have ho := pe_slot O h2
      obtain ⟨nn, pp, rfl⟩ : ∃ x p, o = .Name x p := by cases o <;> first | exact ⟨_, _, rfl⟩ | (cases h2; done)
      have he : PE X ex (fun σ H _ => xE F KW X.K (xnOf T X.mg) W e σ H) := sndXC e .esc k ex X O tf h4
      refine PS.imp (ps_expr (pe_bm PySem.F.plainAttrs_list PySem.F.slot_list_append PySem.F.type_list_append mt_append ho (pa_cons he pa_nil (star_of h3 _)) rfl ?_ (by simpa using h5) (star_of h3 _) rfl) rfl) fun D σ H q => app_x q
      rw [star_of h3]; rfl
    · cases h
  | appPop fz x y kk =>
    refine xs_no fun ρ s y ρ' s' e => ?_
    simp only [evS] at e
    obtain ⟨_, _, _, e⟩ := stN_exc e
    repeat' split at e
    all_goals cases e
  | ret fz e =>
    rw [chkS.eq_def] at h
    simp only at h
    split at h
    · rename_i ex pos
      have he : PE X ex (fun σ H _ => xE F KW X.K (xnOf T X.mg) W e σ H) := sndXC e .esc k _ X O tf h
      exact PS.imp (ps_ret he) fun D σ H q => one_x ret_x q
    · cases h
  | retV i =>
    refine xs_no fun ρ s y ρ' s' e => ?_
    simp only [evS] at e
    split at e <;> cases e
  | retN => exact xs_no fun ρ s y ρ' s' e => nomatch e
  | ife _ _ _ _ => simp [simpS] at hq
  | for_ _ _ _ _ => simp [simpS] at hq
  | while_ _ _ _ => simp [simpS] at hq
  | ex fz e =>
    rw [chkS.eq_def] at h
    simp only at h
    split at h
    · rename_i ex pos
      obtain ⟨h1, h2⟩ := and2 h
      have he : PE X ex (fun σ H _ => xE F KW X.K (xnOf T X.mg) W e σ H) := sndXC e .brw k ex X O tf h2
      refine PS.imp (ps_expr he ?_) fun D σ H q => one_x ex_x q
      cases ex <;> first | rfl | (cases h1; done)
    · cases h
  | popS fz y kk =>
    refine xs_no fun ρ s y ρ' s' e => ?_
    simp only [evS] at e
    obtain ⟨_, _, _, e⟩ := stN_exc e
    repeat' split at e
    all_goals cases e
  | appR fz a e =>
    refine xs_no fun ρ s y ρ' s' e => ?_
    simp only [evS] at e
    obtain ⟨_, _, _, e⟩ := stN_exc e
    obtain ⟨_, _, _, e⟩ := stN_exc e
    repeat' split at e
    all_goals cases e
  | raise c =>
    rw [chkS.eq_def] at h
    simp only at h
    split at h
    · rename_i g pos1 pos2
      cases q : nth c T.xs with
      | none => rw [q] at h; cases h
      | some xe =>
        rw [q] at h
        obtain ⟨h1, h2⟩ := and2 h
        obtain ⟨p, rfl, hg, hd, _⟩ := gl_of O h1
        exact xs_raise O tk q (by simpa using h2) hg hd
    · cases h
  | raiseA fz c e =>
    rw [chkS.eq_def] at h
    simp only at h
    split at h
    · rename_i g x pos1 pos2
      cases q : nth c T.xs with
      | none => rw [q] at h; cases h
      | some xe =>
        rw [q] at h
        obtain ⟨h0, h4⟩ := and2 h
        obtain ⟨h0, h3⟩ := and2 h0
        obtain ⟨h1, h2⟩ := and2 h0
        obtain ⟨p, rfl, hg, hd, _⟩ := gl_of O h1
        obtain ⟨fd, hfd⟩ := Option.isSome_iff_exists.mp h2
        exact xs_raiseA O tk q hfd hg hd h3 (oe_of (sndC e .esc k x X O h4) (sndXC e .esc k x X O tf h4))
    · cases h
  | insS fz x kx e =>
    rw [chkS.eq_def] at h
    simp only at h
    split at h
    · rename_i o nm ap ix ex cp pos
      obtain ⟨h0, h7⟩ := and2 h
      obtain ⟨h0, h6⟩ := and2 h0
      obtain ⟨h0, h5⟩ := and2 h0
      obtain ⟨h0, h4⟩ := and2 h0
      obtain ⟨h0, h3⟩ := and2 h0
      obtain ⟨h1, h2⟩ := and2 h0
      have h1 := of_decide_eq_true h1
      subst h1
      have ho2 := pe_slot O h2
      obtain ⟨nn2, pp2, rfl⟩ : ∃ x p, o = .Name x p := by cases o <;> first | exact ⟨_, _, rfl⟩ | (cases h2; done)
      have he : PE X ex (fun σ H _ => xE F KW X.K (xnOf T X.mg) W e σ H) := sndXC e .esc k ex X O tf h6
      refine PS.imp (ps_expr (pe_bm PySem.F.plainAttrs_list PySem.F.slot_list_insert type_ins mt_insert ho2 (pa_cons (ob_of (sndC kx .brw k ix X O h5) (sndXC kx .brw k ix X O tf h5)) (pa_cons he pa_nil (star_of h4 _)) (star_of h3 _)) rfl ?_ (by simpa using h7) (star_of h3 _) (by rw [star_of h4]; rfl)) rfl) fun D σ H q => insS_x q
      rw [star_of h3, star_of h4]; rfl
    · cases h
  | try_ _ _ _ => simp [simpS] at hq
  | pass => exact xs_no fun ρ s y ρ' s' e => nomatch e
  | cont => exact xs_no fun ρ s y ρ' s' e => nomatch e
  | brk => exact xs_no fun ρ s y ρ' s' e => nomatch e
  | never => exact xs_no fun ρ s y ρ' s' e => nomatch e
end
mutual
theorem sndSW {T : Tb} {F : CallF} {KW : Kt} : ∀ (c : S) (k : Ck) (st : Stmt) (X : Cx) (W : WX), XOk T F KW k X → PassesOwn (model X.prog X.w) X.A X.env X.xe → X.stack = X.env :: X.outer → X.env.frame = some X.env.locals → Takes X W → chkS T c k st = true → PS X st (tSW F KW X.K (xnOf T X.mg) W c)
  | .ife fz t a b, k, st, X, W, O, hp, h1, h2, tk, h => by
    rw [chkS.eq_def] at h
    simp only at h
    split at h
    · obtain ⟨h0, g3⟩ := and2 h
      obtain ⟨g1, g2⟩ := and2 h0
      exact sw_if (ot_of (sndC t .tst k _ X O g1) (sndXC t .tst k _ X O (TkF.of tk h1 h2) g1)) (sndBW a k _ X W O hp h1 h2 tk g2) (sndBW b k _ X W O hp h1 h2 tk g3)
    · cases h
  | .for_ fz tg it b, k, st, X, W, O, hp, h1, h2, tk, h => by
    rw [chkS.eq_def] at h
    simp only at h
    split at h
    · obtain ⟨h0, g4⟩ := and2 h
      obtain ⟨h0, g3⟩ := and2 h0
      obtain ⟨g1, g2⟩ := and2 h0
      exact sw_for hp O.calm (PI.or (sndI it .esc k _ _ X O (fun z => nomatch z) g2) (sndXI it .esc k _ _ X O (TkF.of tk h1 h2) (fun z => nomatch z) g2)) (pg_of O.names tg _ g3) (sndBW b k _ X W O hp h1 h2 tk g4) (fold_of g1 _)
    · cases h
  | .while_ fz t b, k, st, X, W, O, hp, h1, h2, tk, h => by
    rw [chkS.eq_def] at h
    simp only at h
    split at h
    · obtain ⟨g1, g2⟩ := and2 h
      exact sw_while hp (sndC t .tst k _ X O g1) (sndBW b k _ X W O hp h1 h2 tk g2)
    · cases h
  | .try_ xs b hs, k, st, X, W, O, hp, h1, h2, tk, h => by
    rw [chkS.eq_def] at h
    simp only at h
    split at h
    · rename_i body hds pos
      obtain ⟨h0, g4⟩ := and2 h
      obtain ⟨h0, g3⟩ := and2 h0
      obtain ⟨g1, g2⟩ := and2 h0
      have g1 := of_decide_eq_true g1
      subst g1
      cases hds with
      | nil =>
        have g2 := of_decide_eq_true g2
        cases hs with
        | nil => exact absurd rfl g2
        | cons a r => simp [chkHs] at g4
      | cons h0 hds => exact sw_try O h1 h2 tk g4 fun W' pn xe tk' hp' => sndBW b k _ (X.tr pn xe) W' (O.tr pn xe) hp' h1 h2 tk' g3
    · cases h
  | .asg _ _ _ _, k, st, X, W, O, hp, h1, h2, tk, h => sw_both (sndS _ k st X O hp rfl h) (xs_simp O tk h1 h2 rfl h)
  | .asgT _ _ _, k, st, X, W, O, hp, h1, h2, tk, h => sw_both (sndS _ k st X O hp rfl h) (xs_simp O tk h1 h2 rfl h)
  | .par2 _ _ _ _ _ _ _, k, st, X, W, O, hp, h1, h2, tk, h => sw_both (sndS _ k st X O hp rfl h) (xs_simp O tk h1 h2 rfl h)
  | .par3 _ _ _ _ _, k, st, X, W, O, hp, h1, h2, tk, h => sw_both (sndS _ k st X O hp rfl h) (xs_simp O tk h1 h2 rfl h)
  | .asgIx _ _ _ _, k, st, X, W, O, hp, h1, h2, tk, h => sw_both (sndS _ k st X O hp rfl h) (xs_simp O tk h1 h2 rfl h)
  | .aug _ _ _ _, k, st, X, W, O, hp, h1, h2, tk, h => sw_both (sndS _ k st X O hp rfl h) (xs_simp O tk h1 h2 rfl h)
  | .app _ _ _, k, st, X, W, O, hp, h1, h2, tk, h => sw_both (sndS _ k st X O hp rfl h) (xs_simp O tk h1 h2 rfl h)
  | .appPop _ _ _ _, k, st, X, W, O, hp, h1, h2, tk, h => sw_both (sndS _ k st X O hp rfl h) (xs_simp O tk h1 h2 rfl h)
  | .ret _ _, k, st, X, W, O, hp, h1, h2, tk, h => sw_both (sndS _ k st X O hp rfl h) (xs_simp O tk h1 h2 rfl h)
  | .retV _, k, st, X, W, O, hp, h1, h2, tk, h => sw_both (sndS _ k st X O hp rfl h) (xs_simp O tk h1 h2 rfl h)
  | .retN, k, st, X, W, O, hp, h1, h2, tk, h => sw_both (sndS _ k st X O hp rfl h) (xs_simp O tk h1 h2 rfl h)
  | .ex _ _, k, st, X, W, O, hp, h1, h2, tk, h => sw_both (sndS _ k st X O hp rfl h) (xs_simp O tk h1 h2 rfl h)
  | .popS _ _ _, k, st, X, W, O, hp, h1, h2, tk, h => sw_both (sndS _ k st X O hp rfl h) (xs_simp O tk h1 h2 rfl h)
  | .appR _ _ _, k, st, X, W, O, hp, h1, h2, tk, h => sw_both (sndS _ k st X O hp rfl h) (xs_simp O tk h1 h2 rfl h)
  | .raise _, k, st, X, W, O, hp, h1, h2, tk, h => sw_both (sndS _ k st X O hp rfl h) (xs_simp O tk h1 h2 rfl h)
  | .raiseA _ _ _, k, st, X, W, O, hp, h1, h2, tk, h => sw_both (sndS _ k st X O hp rfl h) (xs_simp O tk h1 h2 rfl h)
  | .insS _ _ _ _, k, st, X, W, O, hp, h1, h2, tk, h => sw_both (sndS _ k st X O hp rfl h) (xs_simp O tk h1 h2 rfl h)
  | .pass, k, st, X, W, O, hp, h1, h2, tk, h => sw_both (sndS _ k st X O hp rfl h) (xs_simp O tk h1 h2 rfl h)
  | .cont, k, st, X, W, O, hp, h1, h2, tk, h => sw_both (sndS _ k st X O hp rfl h) (xs_simp O tk h1 h2 rfl h)
  | .brk, k, st, X, W, O, hp, h1, h2, tk, h => sw_both (sndS _ k st X O hp rfl h) (xs_simp O tk h1 h2 rfl h)
  | .never, k, st, X, W, O, hp, h1, h2, tk, h => sw_both (sndS _ k st X O hp rfl h) (xs_simp O tk h1 h2 rfl h)
theorem sndBW {T : Tb} {F : CallF} {KW : Kt} : ∀ (c : B) (k : Ck) (sts : List Stmt) (X : Cx) (W : WX), XOk T F KW k X → PassesOwn (model X.prog X.w) X.A X.env X.xe → X.stack = X.env :: X.outer → X.env.frame = some X.env.locals → Takes X W → chkB T c k sts = true → PSs X sts (tSsW F KW X.K (xnOf T X.mg) W c)
  | .nil, k, sts, X, W, O, hp, h1, h2, tk, h => by
    simp only [chkB] at h
    split at h
    · exact sw_sNil
    · cases h
  | .cons s b, k, sts, X, W, O, hp, h1, h2, tk, h => by
    simp only [chkB] at h
    split at h
    · obtain ⟨g1, g2⟩ := and2 h
      exact sw_sCons (sndSW s k _ X W O hp h1 h2 tk g1) (sndBW b k _ X W O hp h1 h2 tk g2)
    · cases h
end
end Ev

end
section
set_option Elab.async false
set_option linter.all false
set_option maxRecDepth 100000
set_option maxHeartbeats 4000000
namespace Ev
open PySem L2
structure Dd where
  name : Str
  st : Stmt
  N : List Str
  np : Nat
def Ck0 (d : Dd) : Ck := ⟨d.N, defScope d.st, fun _ => true⟩
def nodupB : List Str → Bool
  | [] => true
  | x :: r => !r.contains x && nodupB r
theorem nodupB_ok : ∀ {l : List Str}, nodupB l = true → l.Nodup
  | [], _ => .nil
  | x :: r, h => by
    obtain ⟨h1, h2⟩ := and2 h
    exact List.nodup_cons.mpr ⟨fun z => by simp [z] at h1, nodupB_ok h2⟩
def scopeB (d : Dd) : Bool := isFn (Ck0 d) && !(defScope d.st).isCoroutine && !(defScope d.st).isGenerator && nodupB d.N && decide (d.np ≤ d.N.length) &&
  ((d.N.take d.np).all fun x => match (defScope d.st).names.lookup x with | some .local => true | some .cell => true | _ => false) && (defScope d.st).names.all fun y => match y.2 with | .free => false | _ => true
theorem scope_ok {d : Dd} (h : scopeB d = true) : FnScope d.N (d.N.take d.np) (defScope d.st) ∧ (d.N.take d.np).length = d.np := by
  obtain ⟨h0, h7⟩ := and2 h
  obtain ⟨h0, h6⟩ := and2 h0
  obtain ⟨h0, h5⟩ := and2 h0
  obtain ⟨h0, h4⟩ := and2 h0
  obtain ⟨h0, h3⟩ := and2 h0
  obtain ⟨h1, h2⟩ := and2 h0
  have hl : (d.N.take d.np).length = d.np := by rw [List.length_take]; exact Nat.min_eq_left (of_decide_eq_true h5)
  refine ⟨⟨?_, by simpa using h2, by simpa using h3, nodupB_ok h4, by rw [hl], fun x hx => ?_, fun y hy e => ?_⟩, hl⟩
  · unfold isFn Ck0 at h1
    simp only at h1
    cases q : (defScope d.st).kind <;> rw [q] at h1 <;> first | rfl | cases h1
  · have := List.all_eq_true.mp h6 x hx
    cases q : (defScope d.st).names.lookup x with
    | none => rw [q] at this; cases this
    | some c => rw [q] at this; cases c <;> first | exact .inl rfl | exact .inr rfl | cases this
  · have := List.all_eq_true.mp h7 y hy
    rw [e] at this; cases this
def chkD (T : Tb) (fe : FnE) (d : Dd) (fd : Fd) : Bool := decide (fe.name = d.name) && decide (fe.np = d.np) && decide (fd.np = d.np) && decide (d.N.length = fd.np + fd.nl) && scopeB d && chkB T fd.body (Ck0 d) (defBody d.st)
def chkAll (T : Tb) : List FnE → List Dd → List Fd → Bool
  | [], [], [] => true
  | fe :: fs, d :: ds, fd :: P => chkD T fe d fd && chkAll T fs ds P
  | _, _, _ => false
theorem chk_at {T : Tb} : ∀ {fs : List FnE} {ds : List Dd} {P : List Fd}, chkAll T fs ds P = true → ∀ {f : Nat} {fe : FnE}, nth f fs = some fe → ∃ d fd, nth f ds = some d ∧ nth f P = some fd ∧ chkD T fe d fd = true
  | [], [], [], _, f, fe, e => by cases f <;> cases e
  | [], _ :: _, _, h, _, _, _ => nomatch h
  | [], [], _ :: _, h, _, _, _ => nomatch h
  | _ :: _, [], _, h, _, _, _ => nomatch h
  | _ :: _, _ :: _, [], h, _, _, _ => nomatch h
  | x :: fs, d :: ds, fd :: P, h, f, fe, e => by
    obtain ⟨h1, h2⟩ := and2 h
    cases f with
    | zero => cases e; exact ⟨d, fd, rfl, rfl, h1⟩
    | succ f => exact chk_at (fs := fs) (ds := ds) (P := P) h2 (f := f) e
/-- what the head tells of the module -/
structure HdOk (P : Program) (T : Tb) (ds : List Dd) (KW : Kt) (K : PySem.W.Frag) (mg : Str → Option Value) : Prop where
  fn : ∀ f d, nth f ds = some d → ∃ a fdt, FunD K d.name d.name (defArgs d.st) (defBody d.st) (defScope d.st) ((dfOf T f).map dvV) [] a fdt ∧ mg d.name = some (.ref a) ∧ Binds K fdt (d.N.take d.np) [] ∧
    (∀ j, j < (dfOf T f).length → ∃ ws, Vals (((dfOf T f).drop j).map dvV) ws ∧ Binds K fdt (d.N.take d.np) ws) ∧
    ∀ kw ke fe, nth kw T.kws = some ke → ke.f = f → nth f T.fns = some fe → ∃ (g : List Value → List Value → List Value) (gV : List V → List V → List V), KBinds K fdt (d.N.take d.np) ke.ks g gV ∧
      ∃ p, nth kw KW.ks = some p ∧ ∀ (K : PySem.W.Frag) (H : Hp) (m : Addr → Prop) (al : List Addr) us ws vs zs xs, us.length = ke.npos → ws.length = ke.ks.length → Shs K H m al us vs → Shs K H m al ws zs → permU p (us ++ ws) = some xs → xs.length = fe.np ∧ Shs K H m al xs (gV vs zs)
  pl : ∀ f, (dfOf T f).all plainDv = true
  blt : ∀ n ∈ bltNames, mg n = none
  cons : ∀ x u, T.cons.lookup x = some u → ∃ v w, mg x = some w ∧ RelV v w ∧ ∀ H m al, Sh K H m al u v
  xcs : XcOk P T K mg
  nms : NmOk T KW K mg
  mth : T.mth = true → mg "gcd" = some (.builtin "math.gcd") ∧ mg "lcm" = some (.builtin "math.lcm")
theorem look_eq : ∀ (i : Nat) (ρ : Env), look i ρ = (ρ[i]?).getD .un
  | 0, [] => rfl
  | _ + 1, [] => rfl
  | 0, _ :: _ => rfl
  | i + 1, t :: r => by show look i r = _; rw [look_eq i r]; simp
theorem rep_len (n : Nat) : (rep [Slot.un] n).length = n := by
  induction n with
  | zero => rfl
  | succ n ih => show ([Slot.un] ++ rep [Slot.un] n).length = n + 1; rw [List.length_append, ih]; simp; omega
theorem rep_un {n : Nat} {x : Slot} (h : x ∈ rep [Slot.un] n) : x = .un := by
  induction n with
  | zero => cases h
  | succ n ih =>
    have h : x ∈ [Slot.un] ++ rep [.un] n := h
    rcases List.mem_append.mp h with h | h
    · simpa using h
    · exact ih h
/-- the frame at a def's entry -/
theorem Fr.start {K : PySem.W.Frag} {m : Addr → Prop} {al : List Addr} {s : Sto} {H : Hp} {us : List U} {vs : List V} {N : List Str} {np nl : Nat} (md : Md m H) (t : ST K m al s H) (sh : Shs K H m al us vs) (hl : us.length = np) (hN : N.length = np + nl) :
    Fr K m (us.map .sh ++ rep [.un] nl) s m (fun a => a ∈ al) al (L2.start N vs) H := by
  have hvl := sh.length
  have key : ∀ i x, look i (us.map .sh ++ rep [.un] nl) = x → x = .un ∨ ∃ u, us[i]? = some u ∧ x = .sh u := fun i x e => by
    rw [look_eq] at e
    by_cases hi : i < us.length
    · rw [List.getElem?_append_left (by rw [List.length_map]; exact hi), List.getElem?_map, List.getElem?_eq_getElem hi] at e
      exact .inr ⟨us[i], List.getElem?_eq_getElem hi, e.symm⟩
    · rw [List.getElem?_append_right (by rw [List.length_map]; exact Nat.le_of_not_lt hi)] at e
      cases q : (rep [Slot.un] nl)[i - (us.map Slot.sh).length]? with
      | none => rw [q] at e; exact .inl e.symm
      | some y =>
        rw [q] at e
        have := rep_un (List.mem_of_getElem? q)
        rw [this] at e
        exact .inl e.symm
  refine ⟨⟨t, ⟨?_, md, fun i u e => ?_, fun i u e => ?_, fun i j u w a e => ?_⟩⟩, fun i u a e => ?_, fun a ha => ha, t.sub, fun a z => z⟩
  · unfold L2.start
    rw [List.length_append, List.length_append, List.length_map, List.length_map, rep_len, List.length_replicate]
    omega
  · rcases key i _ e with z | ⟨u', e1, z⟩
    · cases z
    · cases z
      obtain ⟨v, e2, r⟩ := sh.nth e1
      refine ⟨v, ?_, r⟩
      unfold L2.start
      rw [List.getElem?_append_left (by rw [List.length_map]; exact (List.getElem?_eq_some_iff.mp e2).1), List.getElem?_map, e2]
      rfl
  · rcases key i _ e with z | ⟨u', e1, z⟩ <;> cases z
  · rcases key i _ e with z | ⟨u', e1, z⟩ <;> cases z
  · rcases key i _ e with z | ⟨u', e1, z⟩ <;> cases z
section
variable {T : Tb} {ds : List Dd} {Pf : List Fd} {KW : Kt} {P : Program} {w : World} {K : PySem.W.Frag} {mg : Str → Option Value} {base : Heap}
/-- a def's promise at a depth -/
def FnAt (T : Tb) (Pf : List Fd) (KW : Kt) (P : Program) (w : World) (K : PySem.W.Frag) (mg : Str → Option Value) (base : Heap) (d : Nat) : Prop :=
  ∀ f fe dd a fdt dvs, nth f T.fns = some fe → FunD K dd.name dd.name (defArgs dd.st) (defBody dd.st) (defScope dd.st) dvs [] a fdt → ∀ fd, nth f Pf = some fd → chkD T fe dd fd = true → FnOk P w K mg base (L2.CX P w) d a fdt (dd.N.take dd.np) (spF (run Pf KW d) (xnOf T mg) K f fe.np)
theorem xok (hc : chkAll T T.fns ds Pf = true) (hd : HdOk P T ds KW K mg) {d : Nat} (ih : FnAt T Pf KW P w K mg base d) {X : Cx} {dd : Dd} (e1 : X.prog = P) (e2 : X.w = w) (e3 : X.K = K) (e4 : X.mg = mg) (e5 : X.base = base) (hr : Room d X.A)
    (h1 : X.N = dd.N) (h2 : dd.N.Nodup) (h3 : X.env.scope = defScope dd.st) (h4 : X.fn = fun _ => true) (h5 : X.calm = true) : XOk T (run Pf KW d) KW (Ck0 dd) X := by
  subst e1 e2 e3 e4 e5
  refine ⟨h1, h2, h3, h4, h5, by have := hr.un; omega, hd.blt, hd.cons, fun f fe hf => ?_, fun kw ke fe hk hf => ?_, fun f fe j hf hj => ?_, hd.xcs, hd.nms, by have := hr.dp; omega, hd.mth⟩
  · obtain ⟨d2, fd, q1, q2, q3⟩ := chk_at hc hf
    obtain ⟨a, fdt, F1, F2, F3, _⟩ := hd.fn f d2 q1
    obtain ⟨c0, c6⟩ := and2 q3
    obtain ⟨c0, c5⟩ := and2 c0
    obtain ⟨c0, c4⟩ := and2 c0
    obtain ⟨c0, c3⟩ := and2 c0
    obtain ⟨c1, c2⟩ := and2 c0
    refine ⟨a, fdt, _, d, ih f fe d2 a fdt _ hf F1 fd q2 q3, hr, ?_, F1.kp, F3, ?_⟩
    · rw [of_decide_eq_true c1]; exact F2
    · rw [(scope_ok c5).2, of_decide_eq_true c2]
  · obtain ⟨d2, fd, q1, q2, q3⟩ := chk_at hc hf
    obtain ⟨a, fdt, F1, F2, F3, _, F4⟩ := hd.fn ke.f d2 q1
    obtain ⟨g, gV, k1, k2⟩ := F4 kw ke fe hk rfl hf
    obtain ⟨c0, c6⟩ := and2 q3
    obtain ⟨c0, c5⟩ := and2 c0
    obtain ⟨c0, c4⟩ := and2 c0
    obtain ⟨c0, c3⟩ := and2 c0
    obtain ⟨c1, c2⟩ := and2 c0
    refine ⟨a, fdt, _, d, g, gV, ih ke.f fe d2 a fdt _ hf F1 fd q2 q3, hr, ?_, F1.kp, k1, ?_, k2⟩
    · rw [of_decide_eq_true c1]; exact F2
    · rw [(scope_ok c5).2, of_decide_eq_true c2]
  · obtain ⟨d2, fd, q1, q2, q3⟩ := chk_at hc hf
    obtain ⟨a, fdt, F1, F2, F3, F4, _⟩ := hd.fn f d2 q1
    obtain ⟨c0, c6⟩ := and2 q3
    obtain ⟨c0, c5⟩ := and2 c0
    obtain ⟨c0, c4⟩ := and2 c0
    obtain ⟨c0, c3⟩ := and2 c0
    obtain ⟨c1, c2⟩ := and2 c0
    obtain ⟨ws, w1, w2⟩ := F4 j hj
    refine ⟨a, fdt, _, d, ws, ih f fe d2 a fdt _ hf F1 fd q2 q3, hr, ?_, F1.kp, w2, w1, ?_⟩
    · rw [of_decide_eq_true c1]; exact F2
    · exact List.all_eq_true.mpr fun x hx => List.all_eq_true.mp (hd.pl f) x (List.mem_of_mem_drop hx)
theorem finish_ok {x : RS} {r : Rv} {s : Sto} (h : finish x = .ok r s) : ∃ ρ, (x = .ok (.ret r) ρ s) ∨ (x = .ok .nx ρ s ∧ r = ⟨.non, false⟩) := by
  cases x with
  | bad => cases h
  | exc _ _ _ => cases h
  | ok fl ρ s' => cases fl with
    | nx => cases h; exact ⟨ρ, .inr ⟨rfl, rfl⟩⟩
    | ret v => cases h; exact ⟨ρ, .inl rfl⟩
    | cont => cases h
    | brk => cases h
theorem Mv.step {m wr' m' : Addr → Prop} {al al' : List Addr} {H H' : Hp} (a : Mv H m (fun b => b ∈ al) al H' m' wr' al') : Step H H' al al' := ⟨a.pre, a.ext, a.dom⟩
theorem finish_exc {x : RS} {y : Xc} {s : Sto} (h : finish x = .exc y s) : ∃ ρ, x = .exc y ρ s := by
  cases x with
  | bad => cases h
  | exc _ ρ _ => cases h; exact ⟨ρ, rfl⟩
  | ok fl ρ s' => cases fl <;> cases h
theorem XOut.to {xn : Nat → Value × Str} {Wf : Value → Option Addr → Hp → Prop} {m m' : Addr → Prop} {al : List Addr} {x : Xc} {H : Hp} (h : XOut K xn Wf m al x H) (w : ∀ b, mU m al b → m' b) : XO K xn Wf m' al x H := by
  unfold XO
  unfold XOut at h
  cases q : x.arg with
  | none => rw [q] at h; exact h
  | some u =>
    rw [q] at h
    exact fun d y h1 h2 h3 => h d y h1 (fun z => h2 (w d z)) (h3.weak w)
theorem fn_at (hc : chkAll T T.fns ds Pf = true) (hd : HdOk P T ds KW K mg) : ∀ d, FnAt T Pf KW P w K mg base d
  | 0 => fun f fe dd a fdt dvs hf FD fd hP hk => ⟨fun vs H Q E ⟨s, m, al, us, _, _, _, _, h⟩ => (by rcases h with ⟨_, _, e, _⟩ | ⟨_, _, e, _⟩ <;> cases e), fun A outer s H args us vs Q E _ _ _ _ ⟨s, m, al, us, _, _, _, _, h⟩ => (by rcases h with ⟨_, _, e, _⟩ | ⟨_, _, e, _⟩ <;> cases e)⟩
  | d + 1 => fun f fe dd a fdt dvs hf FD fd hP hk => by
    have ih := fn_at hc hd d
    obtain ⟨c0, c6⟩ := and2 hk
    obtain ⟨c0, c5⟩ := and2 c0
    obtain ⟨c0, c4⟩ := and2 c0
    obtain ⟨c0, c3⟩ := and2 c0
    obtain ⟨c1, c2⟩ := and2 c0
    obtain ⟨S, hl⟩ := scope_ok c5
    have c2 : fe.np = dd.np := of_decide_eq_true c2
    have c3 : fd.np = dd.np := of_decide_eq_true c3
    have c4 : dd.N.length = fd.np + fd.nl := of_decide_eq_true c4
    refine FD.ok S (fun vs H Q E ⟨s, m, al, us, _, _, sh, hu, _⟩ => ?_) (fun cdv A outer s0 H vs Q E hr h => ⟨tSsW (run Pf KW d) KW K (xnOf T mg) (fun cls dx _ H => E cls dx H) fd.body, ?_, ?_⟩)
    · rw [← sh.length, hu, hl, c2]
    · exact sndBW fd.body (Ck0 dd) (defBody dd.st) _ _ (xok hc hd ih rfl rfl rfl rfl rfl hr rfl S.nd rfl rfl rfl) (passes_of rfl) rfl rfl (takes_of rfl rfl rfl rfl) c6
    · obtain ⟨s, m, al, us, md, t, sh, hu, h⟩ := h
      have f0 := Fr.start (N := dd.N) (nl := fd.nl) md t sh (by rw [hu, c2, ← c3]) c4
      refine ⟨m, _, s, m, _, al, f0, ?_⟩
      rcases h with ⟨r, s', e, q⟩ | ⟨y, s', e, q⟩
      · simp only [run, hP] at e
        rw [if_pos (by rw [hu, c2, c3]; exact beq_self_eq_true _)] at e
        obtain ⟨ρ', hx⟩ := finish_ok e
        rcases hx with hx | ⟨hx, rfl⟩
        · refine .inl ⟨.ret r, ρ', s', hx, fun v H' m' wr' al' h => ?_⟩
          refine q v H' al' h.mv.step (h.t.any fun a ha => .inr ha) ⟨h.sh, fun hf us e => ?_⟩
          obtain ⟨b, ws, e1, e2, e3, e4, e5, e6⟩ := h.fr hf us e
          refine ⟨b, ws, e1, e2, e3, ?_, fun z => z.elim e6 e5⟩
          rcases e4 with z | z
          · exact z
          · obtain ⟨g, eg, _⟩ := h.mv.pre
            exact absurd (by rw [eg]; exact List.mem_append_left _ z) e5
        · refine .inl ⟨.nx, ρ', s', hx, fun σ' H' m' wr' al' f' mv => ?_⟩
          exact q .non H' al' mv.step (f'.sc.t.any fun a ha => .inr ha) ⟨.non, fun z => nomatch z⟩
      · simp only [run, hP] at e
        rw [if_pos (by rw [hu, c2, c3]; exact beq_self_eq_true _)] at e
        obtain ⟨ρ', hx⟩ := finish_exc e
        exact .inr ⟨y, ρ', s', hx, fun σ' H' m' wr' al' f' mv => (XOut.to (q H' al' mv.step (f'.sc.t.any fun a ha => .inr ha))) fun b z => z.elim (f'.up b) (f'.sc.t.sub b)⟩
end
end Ev

end
section
set_option Elab.async false
set_option linter.all false
set_option maxRecDepth 100000
set_option maxHeartbeats 4000000
namespace Ev
open PySem L2
section
open PySem.Spec PyProof.Rows
/-- the law's promise at the heap behind the top (HandS.Ends' head, the script handed on as it stands) -/
theorem law_callL {P : Program} {w : World} {K : PySem.W.Frag} {mg mb : Str → Option Value} {CX : CXT} {k : Nat} {fa a : Addr} {fd : FuncData} {x : Str} {sp : Sp} {s₁ : Shared} {vs : List Value} {ns : List Int}
    (KX : K.In s₁.heap) (hns : s₁.heap.Ns mainGlobals mg) (hb : s₁.heap.Ns builtinsNs mb) (hbb : ∀ x : Str, x ≠ "__name__" → mb x = bootBuiltins x) (hlim : s₁.heap.NoLimit) (hg : s₁.gens = #[])
    (ha : s₁.heap.get? a = some { cls := .type "list", data := .seq vs.toArray }) (hi : IntsAre vs ns) (hl : ns.length ≤ sizeLine) (hr : Room k callerA)
    (F : ∀ base : Heap, K.In base → base.Ns mainGlobals mg → FnOk P w K mg base CX k fa fd [x] sp) (hbind : ∀ (s : Shared) (u : Value), BindsTo s fd ⟨[u], []⟩ [(x, u)])
    (hsp : ∀ H : Hp, Only H → LstAt K H a (ns.map V.int) → sp [.ref a] H (fun v _ => v = .bl true) fun _ _ _ => False)
    (hCX : ∀ H e s', CX [] H s₁ (fun _ _ _ => False) e s' → False) :
    codeAny (model P w) callerA (.call (.ref fa) ⟨[.ref a], []⟩) (fun r s' => r = .ok (.ret (.bool true)) ∧ OldK s₁.heap s'.heap ∧ s'.os = s₁.os ∧ AllBare s'.gens) s₁ := by
  have rv := vals_ints hi
  have lenV := hi.length
  -- from an abstract heap in which nothing but the script may be tracked
  have core : ∀ H : Hp, Only H → LstAt K H a (ns.map V.int) → HOk P w H s₁.heap → (∀ b, H b ≠ none → b = a) → (H a ≠ none → K.lookup a = none) →
      codeAny (model P w) callerA (.call (.ref fa) ⟨[.ref a], []⟩) (fun r s' => r = .ok (.ret (.bool true)) ∧ OldK s₁.heap s'.heap ∧ s'.os = s₁.os ∧ AllBare s'.gens) s₁ := by
    intro H hO hS hok hA hK
    have base_of : ∀ {b : Addr} {o : Obj}, s₁.heap.get? b = some o → H b = none → (hidT s₁.heap H).get? b = some o := fun e n => hidT_get e n
    have noA : ∀ {b : Addr} {o : Obj} {es : Array DictEntry} {ep : Nat}, s₁.heap.get? b = some o → o.data = .dict es ep → H b = none := fun {b o es ep} e d => by
      cases q : H b with
      | none => rfl
      | some u =>
        have e' : b = a := hA b (by rw [q]; simp)
        subst e'
        rw [ha] at e; cases e
        have d' : Data.seq vs.toArray _ = Data.dict es ep := d
        cases d'
    have nsK : ∀ {b : Addr} {m : Str → Option Value}, s₁.heap.Ns b m → (hidT s₁.heap H).Ns b m := fun {b m} ⟨o, es, ep, e, d, r⟩ => ⟨o, es, ep, base_of e (noA e d), d, r⟩
    have hKb : K.In (hidT s₁.heap H) := fun b o e => base_of (KX b o e) (by
      cases q : H b with
      | none => rfl
      | some u =>
        have e' : b = a := hA b (by rw [q]; simp)
        subst e'
        rw [hK (by rw [q]; simp)] at e; cases e)
    have hM : Mod K mg (hidT s₁.heap H) := ⟨hKb, nsK hns, ⟨mb, nsK hb, hbb⟩, let ⟨mc, h1, h2⟩ := hlim; ⟨mc, nsK h1, h2⟩⟩
    have e0 : Env0 P w K mg (hidT s₁.heap H) callerA [] s₁ H := ⟨rfl, hM, fun b o e => of_hidT e, Nat.le_of_eq (hidT_size _ _), trivial, fun b hb => absurd (show b ∈ ([] : List Addr) from hb) (by simp), hok, .of_eq hg⟩
    refine codeAny_mono ((F _ hKb (nsK hns)).run callerA [] s₁ H ⟨[.ref a], []⟩ [.ref a] [.ref a] _ _ hr e0 (hbind s₁ (.ref a)) (.cons rfl .nil) (hsp H hO hS)) fun r s' h => ?_
    cases r with
    | error e => exact (hCX H e s' h).elim
    | ok fl =>
      cases fl with
      | next => exact False.elim h
      | brk => exact False.elim h
      | cont => exact False.elim h
      | ret u =>
        obtain ⟨v, H', os, bare, un, hok', r', q⟩ := h
        have q' : v = .bl true := q
        subst q'
        obtain rfl : u = Value.bool true := r'
        refine ⟨rfl, OldK.of_keep fun b o e => ?_, os, bare⟩
        cases q : H b with
        | none => exact un.keep b o e q (by intro z; exact absurd (show b ∈ ([] : List Addr) from z) (by simp)) (by simp)
        | some u =>
          rcases hO b with z | ⟨ob, xs, z⟩
          · rw [q] at z; cases z
          · have z2 := un.frzs b ob _ z
            obtain ⟨e1, _⟩ := hok b _ z
            obtain ⟨e2, _⟩ := hok' b _ z2
            rw [e] at e1; cases e1
            exact e2
  cases hk : K.lookup a with
  | some o =>
    -- the script is one of the module's own objects
    have e := KX a o hk
    rw [ha] at e
    cases e
    refine core (fun _ => none) (fun _ => .inl rfl) (.inr (.inr ⟨vs, 0, hk, by rw [List.length_map]; exact hl, rv⟩)) (fun b u z => by have z' : (none : Option HO) = some u := z; cases z') (fun b z => absurd rfl z) fun z => absurd rfl z
  | none =>
    refine core (fun b => if b = a then some (.frz { cls := .type "list", data := .seq vs.toArray } (.lst (ns.map V.int))) else none) (fun b => ?_) (.inr (.inl ⟨vs, if_pos rfl⟩)) (fun b u z => ?_) (fun b z => ?_) fun _ => hk
    · by_cases hb : b = a
      · exact .inr ⟨_, _, if_pos hb⟩
      · exact .inl (if_neg hb)
    · by_cases hb : b = a
      · have z' := (if_pos hb).symm.trans z
        cases z'
        subst hb
        exact ⟨ha, by rw [List.length_map]; exact hl, vs, _, rv, ha⟩
      · have z' := (if_neg hb).symm.trans z
        cases z'
    · by_cases hb : b = a
      · exact hb
      · exact absurd (if_neg hb) z
end
theorem LstAt.sh {K : PySem.W.Frag} {H : Hp} {m : Addr → Prop} {al : List Addr} {a : Addr} {us : List U} {vs : List V} (h : LstAt K H a vs) (nm : ¬ m a) (r : Shs K H m al us vs) : Sh K H m al (.lst us) (.ref a) := by
  rcases h with h | ⟨its, h⟩ | ⟨its, n, h, z, q⟩
  · exact .lst h nm r
  · exact .lstF h nm r
  · exact .lstK h z q r
/-- THE END: a law's plain run says all -/
theorem walkR {l : PySem.W.OpenLaw} {n k : Nat} {q : Program} {loose : List Str} {XP : (Str → Option Value) → Heap → Prop} {YP : World → Heap → Prop} {d : DefRec} {T : Tb} {ds : List Dd} {Pf : List Fd} {KW : Kt} {f0 : Nat} {fe : FnE} {dd : Dd} {fd : Fd} {x : Str}
    (hn : l.most = some n) (hn2 : n ≤ sizeLine) (hdf : d.params.defaults = []) (hr : Room k callerA) (hc : chkAll T T.fns ds Pf = true)
    (h1 : nth f0 T.fns = some fe) (h2 : nth f0 ds = some dd) (h3 : dd.N.take dd.np = [x]) (h4 : dd.name = d.name) (h5 : dfOf T f0 = [])
    (F : ∀ (w : World) (mg : Str → Option Value) (fa : Addr) (h : Heap), YP w h → h.Ns mainGlobals mg → mg d.name = some (.ref fa) →
      ∃ K : PySem.W.Frag, K.In h ∧ HdOk l.prog T ds KW K mg ∧ ∀ a fdt, FunD K dd.name dd.name (defArgs dd.st) (defBody dd.st) (defScope dd.st) [] [] a fdt → ∀ (s : Shared) (u : Value), BindsTo s fdt ⟨[u], []⟩ [(x, u)])
    (hrun : ∀ ns : List Int, ns.length ≤ n → (∀ k ∈ ns, Builtin.Int.intBits k ≤ 1048576) → ∃ f s', run Pf KW k f0 [.lst (ns.map .int)] [] = .ok ⟨.bl true, f⟩ s') :
    PySem.W.WalkO q loose XP YP l.row.toRowW d [] (fun f vs => PySem.call f vs) := by
  refine Att.attach_callB hn hdf fun w s₀ s₁ mg mb fa o pm cd doc a vs ns G Y ho hd hcd hmg hobj hints hlen hbits hg => ?_
  obtain ⟨K, KX, hdo, hbind⟩ := F w mg fa _ Y G.T.g hmg
  obtain ⟨d2, fd2, q1, q2, q3⟩ := chk_at hc h1
  rw [h2] at q1
  cases q1
  obtain ⟨a2, fdt, F1, F2, F3, _⟩ := hdo.fn f0 dd h2
  rw [h5, List.map_nil] at F1
  rw [h4, hmg] at F2
  cases F2
  obtain ⟨c0, c6⟩ := and2 q3
  obtain ⟨c0, c5⟩ := and2 c0
  obtain ⟨c0, c4⟩ := and2 c0
  obtain ⟨c0, c3⟩ := and2 c0
  obtain ⟨c1, c2⟩ := and2 c0
  have hnp : fe.np = 1 := by
    rw [of_decide_eq_true c2, ← (scope_ok c5).2, h3]
    rfl
  refine law_callL (x := x) (CX := L2.CX l.prog w) (k := k) (sp := spF (run Pf KW k) (xnOf T mg) K f0 fe.np) KX G.T.g G.T.b G.T.builtins G.T.nolimit hg hobj hints (Nat.le_trans hlen hn2) hr (fun base _ _ => ?_) (hbind fa fdt F1) (fun H hO hS => ?_) fun H e s' ⟨_, _, _, _, _, _, _, _, _, _, _, _, z⟩ => z
  · have := fn_at (P := l.prog) (w := w) (base := base) hc hdo k f0 fe dd fa fdt _ h1 F1 fd2 q2 q3
    rw [h3] at this
    exact this
  · obtain ⟨f, s', e⟩ := hrun ns hlen hbits
    refine ⟨[], fun _ => False, [], _, fun _ z => z.elim, ⟨rfl, .nil, (fun _ z => nomatch z), (fun k us z => by cases k <;> cases z)⟩, .cons (hS.sh (fun z => z) Shs.ints) .nil, by rw [hnp]; rfl, .inl ⟨_, s', e, fun v H' al' st t vr => ?_⟩⟩
    cases vr.sh
    rfl
end Ev

end
section
set_option Elab.async false
set_option linter.all false
set_option maxRecDepth 100000
set_option maxHeartbeats 4000000
namespace Ev
open PySem L2
def dvD : U → He.Dv
  | .bl b => .bl b
  | .int i => .int i
  | _ => .non
theorem dvD_v (K : PySem.W.Frag) (u : U) : (dvD u).v K = dvV u := by cases u <;> rfl
def defAt (T : Tb) (f : Nat) (d : Dd) : He.DefD := ⟨(d.name, none), d.name, d.name, defArgs d.st, defBody d.st, defScope d.st, (dfOf T f).map dvD, []⟩
def defsFrom (T : Tb) : Nat → List Dd → List He.DefD
  | _, [] => []
  | i, d :: r => defAt T i d :: defsFrom T (i + 1) r
def defsOf (T : Tb) (ds : List Dd) : List He.DefD := defsFrom T 0 ds
theorem defs_mem {T : Tb} : ∀ {ds : List Dd} {i f : Nat} {d : Dd}, nth f ds = some d → defAt T (i + f) d ∈ defsFrom T i ds
  | [], i, f, d, h => by cases f <;> cases h
  | x :: ds, i, 0, d, h => by cases h; exact List.mem_cons_self
  | x :: ds, i, f + 1, d, h => by
    have := defs_mem (T := T) (i := i + 1) (ds := ds) (f := f) h
    rw [show i + (f + 1) = i + 1 + f by omega]
    exact List.mem_cons_of_mem _ this
def conFa : List (Str × U) → List He.Fa
  | [] => []
  | (x, .int i) :: r => .int x i :: conFa r
  | _ :: r => conFa r
def intsOnly : List (Str × U) → Bool
  | [] => true
  | (_, .int _) :: r => intsOnly r
  | _ :: _ => false
theorem con_fa : ∀ {l : List (Str × U)} {x : Str} {u : U}, intsOnly l = true → l.lookup x = some u → ∃ i, u = .int i ∧ He.Fa.int x i ∈ conFa l
  | [], x, u, _, h => by simp at h
  | (y, w) :: r, x, u, ho, h => by
    cases w <;> simp only [intsOnly] at ho <;> first | (cases ho; done) | skip
    rename_i i
    rw [List.lookup_cons] at h
    cases q : x == y with
    | true =>
      rw [q] at h
      cases h
      have e := eq_of_beq q
      subst e
      exact ⟨i, rfl, List.mem_cons_self⟩
    | false =>
      rw [q] at h
      obtain ⟨j, h1, h2⟩ := con_fa ho h
      exact ⟨j, h1, List.mem_cons_of_mem _ h2⟩
def faOf (T : Tb) (ds : List Dd) : List He.Fa := ds.map (fun d => .glo d.name) ++ (bltNames.map .free ++ (conFa T.cons ++ T.xs.map fun x => .glo x.name))
/-- what is asked of an exception class -/
def xcK (file : Str) (K : PySem.W.Frag) (x : XcT) (C : Addr) : Bool := (x.fld.isSome || PySem.W.excIn K C (bmOf x.le) (newOf x.le)) && (PySem.W.keepIn K (.ref C) && (decide (PySem.W.subIn K (.ref C) (.type "BaseException") = some true) && (decide (PySem.W.typeIn K (.ref C) = some (.type "type")) &&
  (He.eqO (PySem.W.findIn K (.ref C) "__getattribute__") (some (some (.builtin "BaseException.__getattribute__"))) && (He.eqO (PySem.W.findIn K (.ref C) "__getattr__") (some none) && (PySem.W.hasDictIn K C && (He.eqO (PySem.W.findIn K (.ref C) "__class__") (some (some (.builtin "object.__class__"))) &&
  (He.eqO (PySem.W.specialIn K (.builtin "object.__class__") "__get__") (some (some (.builtin "getset_descriptor.__get__"))) && (decide (PySem.W.takesIn K (.builtin "object.__class__") = some true) && (decide (PySem.W.mroIn K C (.type "object") = some true) && (decide (PySem.W.kitOne K (.ref C) (.type "ValueError") = some (!x.le)) &&
  (decide (PySem.W.kitOne K (.ref C) (.type "LookupError") = some x.le) && match x.fld with
    | none => true
    | some f => XArg.argB K file C (bOf x.le) (newOf x.le) (iniOf x.le) (bmOf x.le) f && He.eqO (PySem.W.findIn K (.ref C) f) (some none)))))))))))))
theorem xcK_ok {P : Program} {K : PySem.W.Frag} {x : XcT} {C : Addr} (hs : (P.main.scope.names.lookup ("super" : Str)).isSome = false) (h : xcK P.main.file K x C = true) : XcK P K x C := by
  obtain ⟨h1, h⟩ := and2 h
  obtain ⟨h2, h⟩ := and2 h
  obtain ⟨h3, h⟩ := and2 h
  obtain ⟨h4, h⟩ := and2 h
  obtain ⟨h5, h⟩ := and2 h
  obtain ⟨h6, h⟩ := and2 h
  obtain ⟨h7, h⟩ := and2 h
  obtain ⟨h8, h⟩ := and2 h
  obtain ⟨h9, h⟩ := and2 h
  obtain ⟨h10, h⟩ := and2 h
  obtain ⟨h11, h⟩ := and2 h
  obtain ⟨h12, h⟩ := and2 h
  obtain ⟨h13, h14⟩ := and2 h
  refine ⟨fun e => ?_, h2, of_decide_eq_true h3, of_decide_eq_true h4, ⟨He.eqO_ok h5, He.eqO_ok h6, of_decide_eq_true h3, h7, He.eqO_ok h8, He.eqO_ok h9, of_decide_eq_true h10, of_decide_eq_true h11⟩, of_decide_eq_true h12, of_decide_eq_true h13, fun f e => ?_,
    ⟨He.eqO_ok h5, He.eqO_ok h6, of_decide_eq_true h3, h7⟩, fun f e => ?_⟩
  · rw [e] at h1
    exact h1
  · rw [e] at h14
    exact XArg.argB_ok hs (and2 h14).1
  · rw [e] at h14
    exact He.eqO_ok (and2 h14).2
/-- .. of all of them -/
def xcB (file : Str) (T : Tb) (K : PySem.W.Frag) : Bool := (T.xs.all fun x => xcK file K x.t (He.ga K x.name)) && (List.range T.xs.length).all fun i => (List.range T.xs.length).all fun j => match nth i T.xs, nth j T.xs with
  | some x, some y => decide (PySem.W.exmOne K (.ref (He.ga K x.name)) (.ref (He.ga K y.name)) = some (i == j))
  | _, _ => true
theorem nth_lt {α : Type} {n : Nat} {l : List α} {x : α} (h : nth n l = some x) : n < l.length := by
  rw [nth_get] at h
  exact (List.getElem?_eq_some_iff.mp h).1
theorem xcs_ok {P : Program} {T : Tb} {K : PySem.W.Frag} {mg : Str → Option Value} (hg : ∀ x ∈ T.xs, mg x.name = some (.ref (He.ga K x.name))) (hs : (P.main.scope.names.lookup ("super" : Str)).isSome = false) (h : xcB P.main.file T K = true) : XcOk P T K mg := by
  obtain ⟨h1, h2⟩ := and2 h
  have mem : ∀ {i : Nat} {x : XcE}, nth i T.xs = some x → x ∈ T.xs := fun {i x} e => by
    rw [nth_get] at e
    exact List.mem_of_getElem? e
  refine ⟨fun i x e => ⟨_, hg x (mem e), xcK_ok hs (List.all_eq_true.mp h1 x (mem e))⟩, fun i x j y C D e1 e2 m1 m2 => ?_⟩
  have q1 := hg x (mem e1)
  have q2 := hg y (mem e2)
  rw [m1] at q1
  rw [m2] at q2
  cases q1
  cases q2
  have := List.all_eq_true.mp (List.all_eq_true.mp h2 i (List.mem_range.mpr (nth_lt e1))) j (List.mem_range.mpr (nth_lt e2))
  rw [e1, e2] at this
  exact of_decide_eq_true this
/-- nothing else has a def's name -/
def nmB (T : Tb) (K : PySem.W.Frag) : Bool := K.all fun p => match fnName p.2 with
  | some n => p.1 == He.ga K n || !(T.fns.any fun fe => decide (fe.name = n))
  | none => true
theorem look_mem {a : Addr} {o : Obj} : ∀ {K : PySem.W.Frag}, K.lookup a = some o → (a, o) ∈ K
  | (b, u) :: r, h => by
    rw [List.lookup_cons] at h
    cases q : a == b with
    | true =>
      rw [q] at h
      cases h
      rw [eq_of_beq q]
      exact List.mem_cons_self
    | false =>
      rw [q] at h
      exact List.mem_cons_of_mem _ (look_mem h)
theorem nth_mapI {α β : Type} {g : α → β} : ∀ {l : List α} {n : Nat} {y : β}, nth n (l.map g) = some y → ∃ x, nth n l = some x ∧ g x = y
  | z :: l, 0, y, h => by cases h; exact ⟨z, rfl, rfl⟩
  | z :: l, n + 1, y, h => nth_mapI (l := l) (n := n) h
  | [], n, y, h => by cases n <;> cases h
/-- the Bools of a head -/
def mthB (T : Tb) (K : PySem.W.Frag) : Bool := !T.mth || (He.eqO (PySem.W.nsIn K mainGlobals "gcd") (some (some (.builtin "math.gcd"))) && He.eqO (PySem.W.nsIn K mainGlobals "lcm") (some (some (.builtin "math.lcm"))))
def exB (file : Str) (T : Tb) (K : PySem.W.Frag) : Bool := xcB file T K && (nmB T K && mthB T K)
/-! the hook -/
abbrev AlE : Type := He.AlD × Bool
/-- what some objects name, without the module's own names -/
def refsE (g : Addr → Option Obj) (as : List Addr) : List Addr := (as.flatMap fun a => match g a with
  | some o => He.refsD o
  | none => []).filter fun a => a != mainGlobals
def isClsE (g : Addr → Option Obj) (a : Addr) : Bool := match g a with
  | some ⟨_, _, .cls _, _⟩ => true
  | _ => false
def asE (g : Addr → Option Obj) : List Addr :=
  let l1 := refsE g [mainGlobals]
  let c1 := refsE g (l1.filter (isClsE g))
  let c2 := refsE g c1
  mainGlobals :: cStatics :: l1 ++ (refsE g l1 ++ (c2 ++ refsE g c2))
def frE (g : Addr → Option Obj) : PySem.W.Frag := He.frG g (asE g)
def obsE (fa : List He.Fa) (fn : List He.DefD) (ex : PySem.W.Frag → Bool) (g : Addr → Option Obj) : AlE := (He.obsD fa fn (frE g), ex (frE g))
def hookE (fa : List He.Fa) (fn : List He.DefD) (ex : PySem.W.Frag → Bool) : PySem.W.Hook where
  α := AlE
  obs := fun s => obsE fa fn ex s.heap.get?
  val := fun _ => (He.valD fn, true)
  says := fun _ h => ∃ K : PySem.W.Frag, K.In h ∧ (He.SaysD fa fn K ∧ ex K = true)
  of := fun _ _ e => ⟨_, He.frG_in, congrArg (fun z : AlE => z.1) e, congrArg (fun z : AlE => z.2) e⟩
  keeps := fun _ _ _ ⟨K, hK, c⟩ k => ⟨K, PySem.W.Frag.In.keeps hK k, c⟩
theorem obsE_eq {fa : List He.Fa} {fn : List He.DefD} {ex : PySem.W.Frag → Bool} {g : Addr → Option Obj} {s : Shared} (h : ∀ a, g a = s.heap.get? a) : obsE fa fn ex g = (hookE fa fn ex).obs s := by
  have e : g = s.heap.get? := funext h
  rw [e] <;> rfl
/-- how a def binds its arguments -/
structure Bn (d : Dd) : Prop where
  b : ∀ (kV doc pm : Value) (an : Option Addr) (cdv ct : Value) (us : List Value), us.length = (d.N.take d.np).length → bindArgs (PySem.W.fnOf d.name d.name (defArgs d.st) (defBody d.st) (defScope d.st) .none kV doc pm an cdv ct) ⟨us, []⟩ = pure ((d.N.take d.np).zip us)
/-- how a def with n defaults binds -/
structure BnD (d : Dd) (n : Nat) : Prop where
  b : ∀ (j : Nat), j ≤ n → ∀ (T : Addr) (kV doc pm : Value) (an : Option Addr) (cdv ct : Value) (us its : List Value), us.length + (n - j) = (d.N.take d.np).length → its.length = n →
    ∃ k, bindArgs (PySem.W.fnOf d.name d.name (defArgs d.st) (defBody d.st) (defScope d.st) (.ref T) kV doc pm an cdv ct) ⟨us, []⟩ = seqItems? (.ref T) >>= k ∧ k (some its.toArray) = pure ((d.N.take d.np).zip (us ++ its.drop j))
def BnX (T : Tb) (f : Nat) (d : Dd) : Prop := match dfOf T f with
  | [] => Bn d
  | u :: r => BnD d (r.length + 1) ∧ r.length + 1 ≤ (d.N.take d.np).length ∧ (u :: r).all plainDv = true
def AllX (T : Tb) : Nat → List Dd → Prop
  | _, [] => True
  | i, d :: r => BnX T i d ∧ AllX T (i + 1) r
theorem AllX.at {T : Tb} : ∀ {ds : List Dd} {i f : Nat} {d : Dd}, AllX T i ds → nth f ds = some d → BnX T (i + f) d
  | [], i, f, d, _, h => by cases f <;> cases h
  | x :: ds, i, 0, d, h, e => by cases e; exact h.1
  | x :: ds, i, f + 1, d, h, e => by
    have := AllX.at (ds := ds) (i := i + 1) (f := f) h.2 e
    rw [show i + (f + 1) = i + 1 + f by omega]
    exact this
/-- how a call with keywords binds -/
structure Kn (d : Dd) (ke : KwE) (p : List Nat) : Prop where
  ex : ∃ (g : List Value → List Value → List Value) (gV : List V → List V → List V),
    (∀ (kV doc pm : Value) (an : Option Addr) (cdv ct : Value) (us ws : List Value), (g us ws).length = (d.N.take d.np).length → bindArgs (PySem.W.fnOf d.name d.name (defArgs d.st) (defBody d.st) (defScope d.st) .none kV doc pm an cdv ct) ⟨us, ke.ks.zip ws⟩ = pure ((d.N.take d.np).zip (g us ws))) ∧
    (∀ {vs : List V} {us : List Value} {zs : List V} {ws : List Value}, Vals vs us → Vals zs ws → Vals (gV vs zs) (g us ws)) ∧
    ∀ (K : PySem.W.Frag) (H : Hp) (m : Addr → Prop) (al : List Addr) us ws vs zs xs, us.length = ke.npos → ws.length = ke.ks.length → Shs K H m al us vs → Shs K H m al ws zs → permU p (us ++ ws) = some xs → xs.length = d.np ∧ Shs K H m al xs (gV vs zs)
theorem nth_mem {α : Type} {n : Nat} {l : List α} {x : α} (h : nth n l = some x) : x ∈ l := by
  rw [nth_get] at h
  exact List.mem_of_getElem? h
theorem hdOk {P : Program} {T : Tb} {ds : List Dd} {Pf : List Fd} {KW : Kt} {K : PySem.W.Frag} {h : Heap} {mg : Str → Option Value} (hc : chkAll T T.fns ds Pf = true) (hi : intsOnly T.cons = true) (hb : AllX T 0 ds) (hdf : ∀ f, f ∉ T.dfs.map Prod.fst ∨ (dfOf T f).all plainDv = true) (hk : ∀ kw ke, nth kw T.kws = some ke → ∃ d p, nth ke.f ds = some d ∧ nth kw KW.ks = some p ∧ dfOf T ke.f = [] ∧ Kn d ke p)
    (hs : (P.main.scope.names.lookup ("super" : Str)).isSome = false) (hn : KW.nm = T.fns.map fun fe => (fe.name, fe.np))
    (X : K.In h) (G : h.Ns mainGlobals mg) (cx : He.SaysD (faOf T ds) (defsOf T ds) K ∧ exB P.main.file T K = true) : HdOk P T ds KW K mg := by
  have c : He.SaysD (faOf T ds) (defsOf T ds) K := cx.1
  obtain ⟨cx1, cx2⟩ := and2 cx.2
  obtain ⟨cx2, cx3⟩ := and2 cx2
  have hgl : ∀ d ∈ ds, mg d.name = some (.ref (He.ga K d.name)) := fun d hm => He.glo_ok X G (c.facts (f := .glo d.name) (List.mem_append_left _ (List.mem_map.mpr ⟨d, hm, rfl⟩)))
  refine ⟨fun f d hd => ?_, fun f => ?_, fun n hn => ?_, fun x u hx => ?_, xcs_ok (fun x hx => ?_) hs cx1, ⟨fun f n k h => ?_, fun f fe hf => ?_, fun f fe a o hf hl hm => ?_⟩, fun hT => ?_⟩
  · have hm := nth_mem hd
    obtain ⟨fdt, FD⟩ := c.defs (d := defAt T f d) (by have := defs_mem (T := T) (i := 0) hd; rw [Nat.zero_add] at this; exact this)
    have FD : FunD K d.name d.name (defArgs d.st) (defBody d.st) (defScope d.st) (((dfOf T f).map dvD).map (He.Dv.v K)) [] (He.ga K d.name) fdt := FD
    have em : ((dfOf T f).map dvD).map (He.Dv.v K) = (dfOf T f).map dvV := by
      rw [List.map_map]
      exact List.map_congr_left fun u _ => dvD_v K u
    rw [em] at FD
    have hg : mg d.name = some (.ref (He.ga K d.name)) := He.glo_ok X G (c.facts (f := .glo d.name) (List.mem_append_left _ (List.mem_map.mpr ⟨d, hm, rfl⟩)))
    have hbx := hb.at hd
    rw [Nat.zero_add] at hbx
    have bind : Binds K fdt (d.N.take d.np) [] ∧ ∀ j, j < (dfOf T f).length → ∃ ws, Vals (((dfOf T f).drop j).map dvV) ws ∧ Binds K fdt (d.N.take d.np) ws := by
      unfold BnX at hbx
      cases q : dfOf T f with
      | nil =>
        rw [q] at hbx FD
        exact ⟨FD.bindsN hbx.b, fun j hj => absurd hj (Nat.not_lt_zero _)⟩
      | cons u r =>
        rw [q] at hbx FD
        obtain ⟨B, hle, _⟩ := hbx
        have hlen : ((u :: r).map dvV).length = r.length + 1 := by rw [List.length_map, List.length_cons]
        have hne : (u :: r).map dvV ≠ [] := by simp
        refine ⟨?_, fun j hj => ?_⟩
        · obtain ⟨ws, w1, w2⟩ := FD.binds1 (d.N.take d.np).length (r.length + 1) hne (by rw [hlen]; omega) fun T kV doc pm an cdv ct us its h1 h2 => B.b (r.length + 1) (Nat.le_refl _) T kV doc pm an cdv ct us its (by omega) (by rw [h2, hlen])
          rw [List.drop_of_length_le (by rw [hlen]; exact Nat.le_refl _)] at w1
          cases w1
          exact w2
        · rw [List.length_cons] at hj
          obtain ⟨ws, w1, w2⟩ := FD.binds1 ((d.N.take d.np).length - (r.length + 1 - j)) j hne (by rw [hlen]; omega) fun T kV doc pm an cdv ct us its h1 h2 => B.b j (by omega) T kV doc pm an cdv ct us its (by omega) (by rw [h2, hlen])
          rw [← List.map_drop] at w1
          exact ⟨ws, w1, w2⟩
    refine ⟨_, fdt, FD, hg, bind.1, bind.2, fun kw ke fe h1 h2 h3 => ?_⟩
    obtain ⟨d2, p, e1, e2, e3, kn⟩ := hk kw ke h1
    rw [h2, hd] at e1
    rw [h2] at e3
    rw [e3] at FD
    cases e1
    obtain ⟨g, gV, k1, k2, k3⟩ := kn.ex
    obtain ⟨d3, fd3, q1, q2, q3⟩ := chk_at hc h3
    rw [hd] at q1
    cases q1
    have hnp : fe.np = d.np := by
      obtain ⟨c0, c6⟩ := and2 q3
      obtain ⟨c0, c5⟩ := and2 c0
      obtain ⟨c0, c4⟩ := and2 c0
      obtain ⟨c0, c3⟩ := and2 c0
      obtain ⟨c1, c2⟩ := and2 c0
      exact of_decide_eq_true c2
    refine ⟨g, gV, ⟨fun s us ws _ hl => ?_, k2⟩, p, e2, fun K H m al us ws vs zs xs a1 a2 a3 a4 a5 => ?_⟩
    · obtain ⟨oc, od, dV, kV, doc, pm, an, cdv, ct, osl, rfl, lk, hcd, hD, hK⟩ := FD.ex
      rcases hD with ⟨_, rfl⟩ | ⟨e, _⟩
      · exact .of_eq (k1 kV doc pm an cdv ct us ws hl)
      · exact absurd rfl e
    · obtain ⟨r1, r2⟩ := k3 K H m al us ws vs zs xs a1 a2 a3 a4 a5
      exact ⟨r1.trans hnp.symm, r2⟩
  · rcases hdf f with h | h
    · have : dfOf T f = [] := by
        unfold dfOf
        have : T.dfs.lookup f = none := by
          rw [List.lookup_eq_none_iff]
          intro p hp
          have : f ≠ p.1 := fun e => h (List.mem_map.mpr ⟨p, hp, e.symm⟩)
          simpa using this
        rw [this]
        rfl
      rw [this]
      rfl
    · exact h
  · exact He.free_ok X G (c.facts (f := .free n) (List.mem_append_right _ (List.mem_append_left _ (List.mem_map.mpr ⟨n, hn, rfl⟩))))
  · obtain ⟨i, rfl, hm⟩ := con_fa hi hx
    obtain ⟨t, ht⟩ := He.int_ok X G (c.facts (f := .int x i) (List.mem_append_right _ (List.mem_append_right _ (List.mem_append_left _ hm))))
    exact ⟨.int i, _, ht, ⟨t, rfl⟩, fun H m al => .int i⟩
  · exact He.glo_ok X G (c.facts (f := .glo x.name) (List.mem_append_right _ (List.mem_append_right _ (List.mem_append_right _ (List.mem_map.mpr ⟨x, hx, rfl⟩)))))
  · unfold nameAt at h
    rw [hn] at h
    split at h
    · rename_i p q
      obtain ⟨fe, q1, q2⟩ := nth_mapI q
      subst q2
      obtain ⟨g1, g2⟩ := and2 h
      exact ⟨fe, q1, of_decide_eq_true g1, eq_of_beq g2⟩
    · cases h
  · obtain ⟨d, fd, q1, q2, q3⟩ := chk_at hc hf
    have hnm : fe.name = d.name := by
      unfold chkD at q3
      exact of_decide_eq_true (and2 (and2 (and2 (and2 (and2 q3).1).1).1).1).1
    obtain ⟨fdt, FD⟩ := c.defs (d := defAt T f d) (by have := defs_mem (T := T) (i := 0) q1; rw [Nat.zero_add] at this; exact this)
    obtain ⟨oc, od, dV, kV, doc, pm, an, cdv, ct, osl, rfl, lk, _⟩ := FD.ex
    refine ⟨_, _, by rw [hnm]; exact hgl d (nth_mem q1), lk, ?_⟩
    rw [hnm]
    rfl
  · obtain ⟨d, fd, q1, q2, q3⟩ := chk_at hc hf
    have hnm : fe.name = d.name := by
      unfold chkD at q3
      exact of_decide_eq_true (and2 (and2 (and2 (and2 (and2 q3).1).1).1).1).1
    have h1 := List.all_eq_true.mp cx2 (a, o) (look_mem hl)
    rw [hm] at h1
    have h2 : (T.fns.any fun fe' => decide (fe'.name = fe.name)) = true := List.any_eq_true.mpr ⟨fe, nth_mem hf, decide_eq_true rfl⟩
    simp only [h2, Bool.not_true, Bool.or_false] at h1
    have h3 : a = He.ga K fe.name := eq_of_beq h1
    rw [h3, hnm]
    exact hgl d (nth_mem q1)
  · unfold mthB at cx3
    rw [hT, Bool.not_true, Bool.false_or] at cx3
    obtain ⟨g1, g2⟩ := and2 cx3
    exact ⟨PySem.W.mg_of X G (He.eqO_ok g1), PySem.W.mg_of X G (He.eqO_ok g2)⟩
end Ev

end
section
set_option Elab.async false
set_option linter.all false
set_option maxRecDepth 100000
set_option maxHeartbeats 2000000
namespace Ev
open PySem
/-! ### the evaluator on values that are not known: rules -/
theorem run_at {P : List Fd} {KW : Kt} {d f : Nat} {us : List U} {s : Sto} {fd : Fd} (h : nth f P = some fd) (hl : (us.length == fd.np) = true) : run P KW (d + 1) f us s = finish (evB (run P KW d) KW fd.body (us.map .sh ++ rep [.un] fd.nl) s) := by
  simp only [run, h, hl, if_true]
theorem compL_pure {f : U → Sto → RE (Option U)} {g : U → Option U} {s : Sto} : ∀ {us : List U}, (∀ x ∈ us, f x s = .ok (g x) s) → compL f us s = .ok (us.filterMap g) s
  | [], _ => rfl
  | x :: us, h => by
    have h1 := h x List.mem_cons_self
    have h2 := compL_pure (us := us) fun y hy => h y (List.mem_cons_of_mem _ hy)
    simp only [compL, h1]
    cases q : g x with
    | none => rw [List.filterMap_cons_none q]; exact h2
    | some y => rw [List.filterMap_cons_some q]; simp only [h2]
theorem compL_map {f : U → Sto → RE (Option U)} {g : U → U} {s : Sto} {us : List U} (h : ∀ x ∈ us, f x s = .ok (some (g x)) s) : compL f us s = .ok (us.map g) s := by
  rw [compL_pure (g := fun x => some (g x)) h]
  congr 1
  induction us with
  | nil => rfl
  | cons x us ih => simp
theorem intsU_map (is : List Int) : intsU (is.map .int) = some is := by
  induction is with
  | nil => rfl
  | cons i is ih => simp only [List.map_cons, intsU, ih]
theorem boolsU_map (bs : List Bool) : boolsU (bs.map .bl) = some bs := by
  induction bs with
  | nil => rfl
  | cons i is ih => simp only [List.map_cons, boolsU, ih]
theorem all_id {α : Type} (l : List α) (p : α → Bool) : (l.map p).all id = l.all p := by
  induction l with
  | nil => rfl
  | cons x l ih => simp
/-- the value of a comprehension over known items -/
theorem ev_comp {F : CallF} {KW : Kt} {w : List Nat} {tg : Tg} {it : It} {t e : C} {ρ : Env} {s : Sto} {us : List U} {g : U → Option U} (h1 : evI F KW it ρ s = .ok us s) (hl : inLim us = true)
    (h2 : ∀ x ∈ us, ∃ ρ1, bindTg tg x (wipeE w ρ) = some ρ1 ∧ ∃ v k, evE F KW t ρ1 s = .ok v s ∧ truth v.u = some k ∧ (match k with | true => ∃ y, evE F KW e ρ1 s = .ok y s ∧ g x = some y.u | false => g x = none)) :
    evE F KW (.comp w tg it t e) ρ s = .ok ⟨.lst (us.filterMap g), true⟩ s := by
  simp only [evE, h1, RE.bind, hl]
  rw [compL_pure (g := g) fun x hx => ?_]
  obtain ⟨ρ1, e1, v, k, e2, e3, e4⟩ := h2 x hx
  simp only [e1, e2, RE.bind, e3, ofO]
  cases k with
  | true =>
    obtain ⟨y, e5, e6⟩ := e4
    simp only [e5, e6]
  | false =>
    simp only at e4
    simp only [e4]
section
variable {F : CallF} {KW : Kt} {ρ ρ1 : Env} {s s1 s2 : Sto} {v v2 r : Rv} {fz : List Nat} {e t a b : C} {st : S} {B1 B2 bb : B} {u : U}
theorem evB_nil : evB F KW .nil ρ s = .ok .nx ρ s := by simp only [evB]
theorem evB_nx (h : evS F KW st ρ s = .ok .nx ρ1 s1) : evB F KW (.cons st bb) ρ s = evB F KW bb ρ1 s1 := by simp only [evB, h]
theorem evB_ret (h : evS F KW st ρ s = .ok (.ret v) ρ1 s1) : evB F KW (.cons st bb) ρ s = .ok (.ret v) ρ1 s1 := by simp only [evB, h]
theorem evS_ret (h : evE F KW e (freeze fz ρ) s = .ok v s1) : evS F KW (.ret fz e) ρ s = .ok (.ret v) (freeze fz ρ) s1 := by simp only [evS, h, RE.st]
theorem evS_ifT (h : evE F KW t (freeze fz ρ) s = .ok v s1) (k : truth v.u = some true) : evS F KW (.ife fz t B1 B2) ρ s = evB F KW B1 (freeze fz ρ) s1 := by simp only [evS, h, RE.st, k]
theorem evS_ifF (h : evE F KW t (freeze fz ρ) s = .ok v s1) (k : truth v.u = some false) : evS F KW (.ife fz t B1 B2) ρ s = evB F KW B2 (freeze fz ρ) s1 := by simp only [evS, h, RE.st, k]
theorem evS_asg {i : Nat} {o : Bool} (h : evE F KW e (freeze fz ρ) s = .ok v s1) : evS F KW (.asg fz i o e) ρ s = .ok .nx (put i (v.slot o) (freeze fz ρ)) s1 := by simp only [evS, h, RE.st]
theorem ev_bi1 {b : Bi} (h : evE F KW e ρ s = .ok v s1) (k : biV b [v.u] = some r) : evE F KW (.bi b (.cons e .nil)) ρ s = .ok r s1 := by simp only [evE, evA, h, RE.bind, k, ofO]
theorem ev_call {f : Nat} {as : A} {us : List U} (h : evA F KW as ρ s = .ok us s1) : evE F KW (.call f as) ρ s = F f us s1 := by simp only [evE, h, RE.bind]
theorem evA_cons {as : A} {us : List U} (h : evE F KW e ρ s = .ok v s1) (k : evA F KW as ρ s1 = .ok us s2) : evA F KW (.cons e as) ρ s = .ok (v.u :: us) s2 := by simp only [evA, h, RE.bind, k]
theorem evA_nil : evA F KW .nil ρ s = .ok [] s := by simp only [evA]
theorem ev_var {i : Nat} (h : look i ρ = .sh u) : evE F KW (.var i) ρ s = .ok ⟨u, false⟩ s := by simp only [evE, h]
theorem ev_orF (h : evE F KW a ρ s = .ok v s1) (k : truth v.u = some false) : evE F KW (.or a b) ρ s = evE F KW b ρ s1 := by simp only [evE, h, RE.bind, k, ofO]
theorem ev_orT (h : evE F KW a ρ s = .ok v s1) (k : truth v.u = some true) : evE F KW (.or a b) ρ s = .ok v s1 := by simp only [evE, h, RE.bind, k, ofO]
theorem ev_andT (h : evE F KW a ρ s = .ok v s1) (k : truth v.u = some true) : evE F KW (.and a b) ρ s = evE F KW b ρ s1 := by simp only [evE, h, RE.bind, k, ofO]
theorem ev_andF (h : evE F KW a ρ s = .ok v s1) (k : truth v.u = some false) : evE F KW (.and a b) ρ s = .ok v s1 := by simp only [evE, h, RE.bind, k, ofO]
theorem ev_not {q : Bool} (h : evE F KW a ρ s = .ok v s1) (k : truth v.u = some q) : evE F KW (.not a) ρ s = .ok ⟨.bl (!q), false⟩ s1 := by simp only [evE, h, RE.bind, k, ofO]
theorem ev_cmp {o : Cmp} {q : Bool} (h : evE F KW a ρ s = .ok v s1) (h2 : evE F KW b ρ s1 = .ok v2 s2) (k : cmp2 o v.u v2.u = some q) : evE F KW (.cmp o a b) ρ s = .ok ⟨.bl q, false⟩ s2 := by simp only [evE, h, h2, RE.bind, k, ofO]
theorem ev_op {o : Op2} (h : evE F KW a ρ s = .ok v s1) (h2 : evE F KW b ρ s1 = .ok v2 s2) (k : op2 o v.u v2.u = some r) : evE F KW (.op o a b) ρ s = .ok r s2 := by simp only [evE, h, h2, RE.bind, k, ofO]
theorem ev_ifeT (h : evE F KW t ρ s = .ok v s1) (k : truth v.u = some true) : evE F KW (.ife t a b) ρ s = evE F KW a ρ s1 := by simp only [evE, h, RE.bind, k, ofO]
theorem ev_ifeF (h : evE F KW t ρ s = .ok v s1) (k : truth v.u = some false) : evE F KW (.ife t a b) ρ s = evE F KW b ρ s1 := by simp only [evE, h, RE.bind, k, ofO]
theorem evS_retV {i : Nat} (h : look i ρ = .sh u) : evS F KW (.retV i) ρ s = .ok (.ret ⟨u, false⟩) ρ s := by simp only [evS, h]
theorem evS_retO {i : Nat} (h : look i ρ = .own u) : evS F KW (.retV i) ρ s = .ok (.ret ⟨u, true⟩) ρ s := by simp only [evS, h]
theorem fin_of {x : RS} (h : x = .ok (.ret v) ρ s) : finish x = .ok v s := by rw [h]; rfl
theorem fin_ret {ρ : Env} : finish (.ok (.ret v) ρ s) = .ok v s := rfl
end
theorem ixN_nat {n j : Nat} (h : j < n) : L2.ixN n (j : Int) = some j := by
  unfold L2.ixN
  rw [if_pos (by omega), if_pos (by omega)]
  simp
theorem getIx_lst {xs : List U} {j : Nat} {u : U} {s : Sto} (h : xs[j]? = some u) : getIx (.lst xs) (.int j) s = some u := by
  have hj := (List.getElem?_eq_some_iff.mp h).1
  have e : nth j xs = some u := by
    rw [← h]
    clear h hj
    induction xs generalizing j with
    | nil => cases j <;> rfl
    | cons x xs ih => cases j with
      | zero => rfl
      | succ j => simpa [nth] using ih (j := j)
  simp only [getIx, ixN_nat hj, e]
theorem getIx_tup {xs : List U} {j : Nat} {u : U} {s : Sto} (h : xs[j]? = some u) : getIx (.tup xs) (.int j) s = some u := by
  have := getIx_lst (s := s) h
  simp only [getIx] at this ⊢
  exact this
theorem ev_ix {F : CallF} {KW : Kt} {ρ : Env} {s s1 s2 : Sto} {v v2 : Rv} {a b : C} {u : U} (h : evE F KW a ρ s = .ok v s1) (h2 : evE F KW b ρ s1 = .ok v2 s2) (k : getIx v.u v2.u s2 = some u) : evE F KW (.ix a b) ρ s = .ok ⟨u, false⟩ s2 := by simp only [evE, h, h2, RE.bind, k, ofO]
/-! ### small rules for simp -/
theorem x_ofO {α : Type} (s : Sto) (a : α) : ofO s (some a) = .ok a s := rfl
theorem x_bind {α β : Type} (a : α) (s : Sto) (f : α → Sto → RE β) : (RE.ok a s).bind f = f a s := rfl
theorem x_st {α : Type} (a : α) (s : Sto) (r : Env) (f : α → Sto → RS) : (RE.ok a s).st r f = f a s := rfl
theorem x_stN {α : Type} (a : α) (s : Sto) (f : α → Sto → RS) : (RE.ok a s).stN f = f a s := rfl
theorem x_add (i j : Int) : op2 .add (.int i) (.int j) = some ⟨.int (i + j), false⟩ := rfl
theorem x_sub (i j : Int) : op2 .sub (.int i) (.int j) = some ⟨.int (i - j), false⟩ := rfl
theorem x_mul {i j : Int} (h : mulOk i j = true) : op2 .mul (.int i) (.int j) = some ⟨.int (i * j), false⟩ := by simp only [op2, h, if_true]
theorem x_fdiv {i j : Int} (h : divOk j = true) : op2 .fdiv (.int i) (.int j) = some ⟨.int (i.fdiv j), false⟩ := by simp [op2, h]
theorem x_mod {i j : Int} (h : (j == 0) = false) : op2 .mod (.int i) (.int j) = some ⟨.int (i.fmod j), false⟩ := by simp [op2, h]
theorem x_int1 (i : Int) : biV .int1 [.int i] = some ⟨.int i, false⟩ := rfl
theorem x_gt (i j : Int) : cmp2 .gt (.int i) (.int j) = some (decide (j < i)) := rfl
theorem x_ge (i j : Int) : cmp2 .ge (.int i) (.int j) = some (decide (j ≤ i)) := rfl
theorem x_lt (i j : Int) : cmp2 .lt (.int i) (.int j) = some (decide (i < j)) := rfl
theorem x_le (i j : Int) : cmp2 .le (.int i) (.int j) = some (decide (i ≤ j)) := rfl
theorem x_tb (b : Bool) : truth (.bl b) = some b := rfl
end Ev

end
section
set_option Elab.async false
set_option linter.all false
set_option maxRecDepth 100000
set_option maxHeartbeats 0
namespace K70
open Ev PySem
/-- is_number: thing -/
def d0 : Fd := ⟨1, 0, (.cons (.ret [] (.and (.bi (.isinst [.int]) (.cons (.var 0) .nil)) (.not (.bi (.isinst [.bool]) (.cons (.var 0) .nil))))) .nil)⟩
/-- is_from: thing least -/
def d1 : Fd := ⟨2, 0, (.cons (.ret [] (.and (.call 0 (.cons (.var 0) .nil)) (.cmp .ge (.var 0) (.var 1)))) .nil)⟩
/-- is_within: thing least most -/
def d2 : Fd := ⟨3, 0, (.cons (.ret [] (.and (.call 0 (.cons (.var 0) .nil)) (.chain .le .le (.var 1) (.var 0) (.var 2)))) .nil)⟩
/-- is_long: thing length -/
def d3 : Fd := ⟨2, 0, (.cons (.ret [] (.and (.bi (.isinst [.tuple]) (.cons (.var 0) .nil)) (.cmp .eq (.bi .len (.cons (.var 0) .nil)) (.var 1)))) .nil)⟩
/-- tupled: value own -/
def d4 : Fd := ⟨1, 1, (.cons (.ret [] (.ife (.bi (.isinst [.list, .tuple]) (.cons (.var 0) .nil)) (.bi .tuple (.cons (.comp [1] (.nm 1) (.seq (.var 0)) (.con (.bl true)) (.call 4 (.cons (.var 1) .nil))) .nil)) (.var 0))) .nil)⟩
/-- ascends: row k -/
def d5 : Fd := ⟨1, 1, (.cons (.ret [] (.bi .all (.cons (.comp [1] (.nm 1) (.rng1 (.op .sub (.bi .len (.cons (.var 0) .nil)) (.con (.int 1)))) (.con (.bl true)) (.cmp .lt (.ix (.var 0) (.var 1)) (.ix (.var 0) (.op .add (.var 1) (.con (.int 1)))))) .nil))) .nil)⟩
/-- set_of: row -/
def d6 : Fd := ⟨1, 0, (.cons (.ret [] (.bi .tuple (.cons (.bi .sortedSet (.cons (.var 0) .nil)) .nil))) .nil)⟩
/-- are_numbers: thing own -/
def d7 : Fd := ⟨1, 1, (.cons (.ret [] (.and (.bi (.isinst [.tuple]) (.cons (.var 0) .nil)) (.bi .all (.cons (.comp [1] (.nm 1) (.seq (.var 0)) (.con (.bl true)) (.call 0 (.cons (.var 1) .nil))) .nil)))) .nil)⟩
/-- is_set_below: thing many own -/
def d8 : Fd := ⟨2, 1, (.cons (.ret [] (.and (.call 7 (.cons (.var 0) .nil)) (.and (.call 5 (.cons (.var 0) .nil)) (.bi .all (.cons (.comp [2] (.nm 2) (.seq (.var 0)) (.con (.bl true)) (.chain .le .lt (.con (.int 0)) (.var 2) (.var 1))) .nil))))) .nil)⟩
/-- are_unlike: thing many -/
def d9 : Fd := ⟨2, 0, (.cons (.ret [] (.and (.call 7 (.cons (.var 0) .nil)) (.call 8 (.cons (.bi .tuple (.cons (.bi .sorted (.cons (.var 0) .nil)) .nil)) (.cons (.var 1) .nil))))) .nil)⟩
/-- gcd_of: numbers found own -/
def d10 : Fd := ⟨1, 2, (.cons (.asg [] 1 true (.con (.int 0))) (.cons (.for_ [] (.nm 2) (.seq (.var 0)) (.cons (.asg [] 1 true (.mth false (.peek 1) (.var 2))) .nil)) (.cons (.retV 1) .nil)))⟩
/-- dotted: one other a b -/
def d11 : Fd := ⟨2, 2, (.cons (.ret [] (.bi .sum (.cons (.comp [2, 3] (.t2 (.nm 2) (.nm 3)) (.zip2 (.var 0) (.var 1)) (.con (.bl true)) (.op .mul (.var 2) (.var 3))) .nil))) .nil)⟩
/-- is_plan: thing own -/
def d12 : Fd := ⟨1, 1, (.cons (.ife [] (.or (.not (.bi (.isinst [.tuple]) (.cons (.var 0) .nil))) (.not (.chain .le .le (.con (.int 1)) (.bi .len (.cons (.var 0) .nil)) (.con (.int 40))))) (.cons (.ret [] (.con (.bl false))) .nil) .nil) (.cons (.ret [] (.bi .all (.cons (.comp [1] (.nm 1) (.seq (.var 0)) (.con (.bl true)) (.call 2 (.cons (.var 1) (.cons (.con (.int 0)) (.cons (.con (.int 1)) .nil))))) .nil))) .nil))⟩
/-- sure_plan: plan own -/
def d13 : Fd := ⟨1, 1, (.cons (.asg [] 1 true (.call 4 (.cons (.var 0) .nil))) (.cons (.ife [1] (.not (.call 12 (.cons (.var 1) .nil))) (.cons (.raise 3) .nil) .nil) (.cons (.retV 1) .nil)))⟩
/-- sure_plans: plans found own -/
def d14 : Fd := ⟨1, 2, (.cons (.asg [] 1 true (.comp [2] (.nm 2) (.seq (.var 0)) (.con (.bl true)) (.call 13 (.cons (.var 2) .nil)))) (.cons (.ife [] (.bi .any (.cons (.comp [2] (.nm 2) (.seq (.peek 1)) (.con (.bl true)) (.cmp .ne (.bi .len (.cons (.var 2) .nil)) (.bi .len (.cons (.ix (.peek 1) (.con (.int 0))) .nil)))) .nil)) (.cons (.raise 3) .nil) .nil) (.cons (.retV 1) .nil)))⟩
/-- sure_places: places many own -/
def d15 : Fd := ⟨2, 1, (.cons (.asg [] 2 true (.call 4 (.cons (.var 0) .nil))) (.cons (.ife [2] (.not (.call 8 (.cons (.var 2) (.cons (.var 1) .nil)))) (.cons (.raise 3) .nil) .nil) (.cons (.retV 2) .nil)))⟩
/-- sure_number: place -/
def d16 : Fd := ⟨1, 0, (.cons (.ife [] (.not (.call 0 (.cons (.var 0) .nil))) (.cons (.raise 3) .nil) .nil) (.cons (.ret [] (.var 0)) .nil))⟩
/-- sure_place: place many -/
def d17 : Fd := ⟨2, 0, (.cons (.ife [] (.not (.chain .le .lt (.con (.int 0)) (.var 0) (.var 1))) (.cons (.raiseA [] 0 (.var 0)) .nil) .nil) (.cons (.ret [] (.var 0)) .nil))⟩
/-- is_order_of: thing many -/
def d18 : Fd := ⟨2, 0, (.cons (.ret [] (.and (.call 3 (.cons (.var 0) (.cons (.var 1) .nil))) (.call 9 (.cons (.var 0) (.cons (.var 1) .nil))))) .nil)⟩
/-- sure_order: order many own -/
def d19 : Fd := ⟨2, 1, (.cons (.asg [] 2 true (.call 4 (.cons (.var 0) .nil))) (.cons (.ife [2] (.not (.call 18 (.cons (.var 2) (.cons (.var 1) .nil)))) (.cons (.raise 3) .nil) .nil) (.cons (.retV 2) .nil)))⟩
/-- is_row: thing own -/
def d20 : Fd := ⟨1, 1, (.cons (.ife [] (.or (.not (.bi (.isinst [.tuple]) (.cons (.var 0) .nil))) (.or (.cmp .eq (.var 0) (.tup .nil)) (.not (.bi .all (.cons (.comp [1] (.nm 1) (.seq (.var 0)) (.con (.bl true)) (.call 12 (.cons (.var 1) .nil))) .nil))))) (.cons (.ret [] (.con (.bl false))) .nil) .nil) (.cons (.ret [] (.bi .all (.cons (.comp [1] (.nm 1) (.seq (.var 0)) (.con (.bl true)) (.cmp .eq (.bi .len (.cons (.var 1) .nil)) (.bi .len (.cons (.ix (.var 0) (.con (.int 0))) .nil)))) .nil))) .nil))⟩
/-- sure_row: row own -/
def d21 : Fd := ⟨1, 1, (.cons (.asg [] 1 true (.call 4 (.cons (.var 0) .nil))) (.cons (.ife [1] (.not (.call 20 (.cons (.var 1) .nil))) (.cons (.raise 3) .nil) .nil) (.cons (.retV 1) .nil)))⟩
/-- is_hold_of: thing many place bit own -/
def d22 : Fd := ⟨2, 3, (.cons (.ife [] (.or (.not (.bi (.isinst [.tuple]) (.cons (.var 0) .nil))) (.not (.bi .all (.cons (.comp [4] (.nm 4) (.seq (.var 0)) (.con (.bl true)) (.call 3 (.cons (.var 4) (.cons (.con (.int 2)) .nil)))) .nil)))) (.cons (.ret [] (.con (.bl false))) .nil) .nil) (.cons (.ife [] (.not (.bi .all (.cons (.comp [2, 3] (.t2 (.nm 2) (.nm 3)) (.seq (.var 0)) (.con (.bl true)) (.and (.call 2 (.cons (.var 2) (.cons (.con (.int 0)) (.cons (.op .sub (.var 1) (.con (.int 1))) .nil)))) (.call 2 (.cons (.var 3) (.cons (.con (.int 0)) (.cons (.con (.int 1)) .nil)))))) .nil))) (.cons (.ret [] (.con (.bl false))) .nil) .nil) (.cons (.ret [] (.call 5 (.cons (.comp [2, 3] (.t2 (.nm 2) (.nm 3)) (.seq (.var 0)) (.con (.bl true)) (.var 2)) .nil))) .nil)))⟩
/-- sure_hold: hold many own -/
def d23 : Fd := ⟨2, 1, (.cons (.asg [] 2 true (.call 4 (.cons (.var 0) .nil))) (.cons (.ife [2] (.not (.call 22 (.cons (.var 2) (.cons (.var 1) .nil)))) (.cons (.raise 3) .nil) .nil) (.cons (.retV 2) .nil)))⟩
/-- places_unlike: plan other place bit -/
def d24 : Fd := ⟨2, 2, (.cons (.ret [] (.bi .tuple (.cons (.comp [2, 3] (.t2 (.nm 2) (.nm 3)) (.enum (.var 0)) (.cmp .ne (.var 3) (.ix (.var 1) (.var 2))) (.var 2)) .nil))) .nil)⟩
/-- plan_turned: plan places place bit -/
def d25 : Fd := ⟨2, 2, (.cons (.ret [] (.bi .tuple (.cons (.comp [2, 3] (.t2 (.nm 2) (.nm 3)) (.enum (.var 0)) (.con (.bl true)) (.ife (.cmp .isin (.var 2) (.var 1)) (.op .sub (.con (.int 1)) (.var 3)) (.var 3))) .nil))) .nil)⟩
/-- plan_keeps: plan hold place bit -/
def d26 : Fd := ⟨2, 2, (.cons (.ret [] (.bi .all (.cons (.comp [2, 3] (.t2 (.nm 2) (.nm 3)) (.seq (.var 1)) (.con (.bl true)) (.cmp .eq (.ix (.var 0) (.var 2)) (.var 3))) .nil))) .nil)⟩
/-- hold_of: plan other place bit -/
def d27 : Fd := ⟨2, 2, (.cons (.ret [] (.bi .tuple (.cons (.comp [2, 3] (.t2 (.nm 2) (.nm 3)) (.enum (.var 0)) (.cmp .eq (.var 3) (.ix (.var 1) (.var 2))) (.tup (.cons (.var 2) (.cons (.var 3) .nil)))) .nil))) .nil)⟩
/-- end_of: order plan other found -/
def d28 : Fd := ⟨3, 1, (.cons (.asg [] 3 true (.con (.int 0))) (.cons (.while_ [] (.and (.cmp .lt (.peek 3) (.bi .len (.cons (.var 0) .nil))) (.cmp .eq (.ix (.var 1) (.ix (.var 0) (.op .sub (.neg (.con (.int 1))) (.peek 3)))) (.ix (.var 2) (.ix (.var 0) (.op .sub (.neg (.con (.int 1))) (.peek 3)))))) (.cons (.aug [] 3 .add (.con (.int 1))) .nil)) (.cons (.retV 3) .nil)))⟩
/-- place_sums: plans times own bit many -/
def d29 : Fd := ⟨2, 3, (.cons (.ret [] (.bi .tuple (.cons (.comp [2] (.nm 2) (.zips (.var 0)) (.con (.bl true)) (.bi .sum (.cons (.comp [3, 4] (.t2 (.nm 3) (.nm 4)) (.zip2 (.var 2) (.var 1)) (.con (.bl true)) (.op .mul (.var 3) (.var 4))) .nil))) .nil))) .nil)⟩
/-- is_hold: many thing -/
def d30 : Fd := ⟨2, 0, (.cons (.ife [] (.not (.call 2 (.cons (.var 0) (.cons (.con (.int 1)) (.cons (.con (.int 40)) .nil))))) (.cons (.raise 3) .nil) .nil) (.cons (.ret [] (.call 22 (.cons (.var 1) (.cons (.var 0) .nil)))) .nil))⟩
/-- is_order: many thing -/
def d31 : Fd := ⟨2, 0, (.cons (.ife [] (.not (.call 2 (.cons (.var 0) (.cons (.con (.int 1)) (.cons (.con (.int 40)) .nil))))) (.cons (.raise 3) .nil) .nil) (.cons (.ret [] (.call 18 (.cons (.var 1) (.cons (.var 0) .nil)))) .nil))⟩
/-- unlike: plan other own far -/
def d32 : Fd := ⟨2, 2, (.cons (.asgT [] (.t2 (.nm 2) (.nm 3)) (.call 14 (.cons (.lst (.cons (.var 0) (.cons (.var 1) .nil))) .nil))) (.cons (.ret [] (.call 24 (.cons (.var 2) (.cons (.var 3) .nil)))) .nil))⟩
/-- apart: plan other own far -/
def d33 : Fd := ⟨2, 2, (.cons (.asgT [] (.t2 (.nm 2) (.nm 3)) (.call 14 (.cons (.lst (.cons (.var 0) (.cons (.var 1) .nil))) .nil))) (.cons (.ret [] (.bi .len (.cons (.call 24 (.cons (.var 2) (.cons (.var 3) .nil))) .nil))) .nil))⟩
/-- turned: plan places own -/
def d34 : Fd := ⟨2, 1, (.cons (.asg [] 2 false (.call 13 (.cons (.var 0) .nil))) (.cons (.ret [] (.call 25 (.cons (.var 2) (.cons (.call 15 (.cons (.var 1) (.cons (.bi .len (.cons (.var 2) .nil)) .nil))) .nil)))) .nil))⟩
/-- agreed: plan other own far -/
def d35 : Fd := ⟨2, 2, (.cons (.asgT [] (.t2 (.nm 2) (.nm 3)) (.call 14 (.cons (.lst (.cons (.var 0) (.cons (.var 1) .nil))) .nil))) (.cons (.ret [] (.call 27 (.cons (.var 2) (.cons (.var 3) .nil)))) .nil))⟩
/-- keeps: plan hold own -/
def d36 : Fd := ⟨2, 1, (.cons (.asg [] 2 false (.call 13 (.cons (.var 0) .nil))) (.cons (.ret [] (.call 26 (.cons (.var 2) (.cons (.call 23 (.cons (.var 1) (.cons (.bi .len (.cons (.var 2) .nil)) .nil))) .nil)))) .nil))⟩
/-- between: plan other far own two third -/
def d37 : Fd := ⟨3, 3, (.cons (.asgT [] (.t3 (.nm 3) (.nm 4) (.nm 5)) (.call 14 (.cons (.lst (.cons (.var 0) (.cons (.var 1) (.cons (.var 2) .nil)))) .nil))) (.cons (.ret [] (.call 26 (.cons (.var 5) (.cons (.call 27 (.cons (.var 3) (.cons (.var 4) .nil))) .nil)))) .nil))⟩
/-- mixed: plan other places told own far place bit -/
def d38 : Fd := ⟨3, 5, (.cons (.asgT [] (.t2 (.nm 4) (.nm 5)) (.call 14 (.cons (.lst (.cons (.var 0) (.cons (.var 1) .nil))) .nil))) (.cons (.asg [] 3 false (.call 15 (.cons (.var 2) (.cons (.bi .len (.cons (.var 4) .nil)) .nil)))) (.cons (.ret [] (.bi .tuple (.cons (.comp [6, 7] (.t2 (.nm 6) (.nm 7)) (.enum (.var 4)) (.con (.bl true)) (.ife (.cmp .isin (.var 6) (.var 3)) (.var 7) (.ix (.var 5) (.var 6)))) .nil))) .nil)))⟩
/-- number_by: plan found bit -/
def d39 : Fd := ⟨1, 2, (.cons (.asg [] 1 true (.con (.int 0))) (.cons (.for_ [] (.nm 2) (.seq (.var 0)) (.cons (.asg [] 1 true (.op .add (.op .mul (.con (.int 2)) (.peek 1)) (.var 2))) .nil)) (.cons (.retV 1) .nil)))⟩
/-- plan_by: number many place -/
def d40 : Fd := ⟨2, 1, (.cons (.ret [] (.bi .tuple (.cons (.comp [2] (.nm 2) (.rng1 (.var 1)) (.con (.bl true)) (.op .band (.op .shr (.var 0) (.op .sub (.op .sub (.var 1) (.con (.int 1))) (.var 2))) (.con (.int 1)))) .nil))) .nil)⟩
/-- plan_number: plan -/
def d41 : Fd := ⟨1, 0, (.cons (.ret [] (.call 39 (.cons (.call 13 (.cons (.var 0) .nil)) .nil))) .nil)⟩
/-- plan_of: number many -/
def d42 : Fd := ⟨2, 0, (.cons (.ife [] (.or (.not (.call 1 (.cons (.var 0) (.cons (.con (.int 0)) .nil)))) (.or (.not (.call 2 (.cons (.var 1) (.cons (.con (.int 1)) (.cons (.con (.int 40)) .nil))))) (.cmp .ge (.var 0) (.op .shl (.con (.int 1)) (.var 1))))) (.cons (.raise 3) .nil) .nil) (.cons (.ret [] (.call 40 (.cons (.var 0) (.cons (.var 1) .nil)))) .nil))⟩
/-- end_agreed: order plan other own far -/
def d43 : Fd := ⟨3, 2, (.cons (.asgT [] (.t2 (.nm 3) (.nm 4)) (.call 14 (.cons (.lst (.cons (.var 1) (.cons (.var 2) .nil))) .nil))) (.cons (.ret [] (.call 28 (.cons (.call 19 (.cons (.var 0) (.cons (.bi .len (.cons (.var 3) .nil)) .nil))) (.cons (.var 3) (.cons (.var 4) .nil))))) .nil))⟩
/-- sum_of: row own -/
def d44 : Fd := ⟨1, 1, (.cons (.asg [] 1 false (.call 21 (.cons (.var 0) .nil))) (.cons (.ret [] (.call 29 (.cons (.var 1) (.cons (.op .mul (.lst (.cons (.con (.int 1)) .nil)) (.bi .len (.cons (.var 1) .nil))) .nil)))) .nil))⟩
/-- is_lot: thing -/
def d45 : Fd := ⟨1, 0, (.cons (.ret [] (.and (.call 20 (.cons (.var 0) .nil)) (.call 5 (.cons (.var 0) .nil)))) .nil)⟩
/-- sure_lot: lot own -/
def d46 : Fd := ⟨1, 1, (.cons (.asg [] 1 true (.call 4 (.cons (.var 0) .nil))) (.cons (.ife [1] (.not (.call 45 (.cons (.var 1) .nil))) (.cons (.raise 3) .nil) .nil) (.cons (.retV 1) .nil)))⟩
/-- lot_by: plans -/
def d47 : Fd := ⟨1, 0, (.cons (.ret [] (.call 6 (.cons (.var 0) .nil))) .nil)⟩
/-- live_in: lot place own -/
def d48 : Fd := ⟨1, 2, (.cons (.ret [] (.bi .tuple (.cons (.comp [1, 2] (.t2 (.nm 1) (.nm 2)) (.enumZ (.var 0)) (.cmp .ne (.bi .minS (.cons (.var 2) .nil)) (.bi .maxS (.cons (.var 2) .nil))) (.var 1)) .nil))) .nil)⟩
/-- part_of: lot hold own -/
def d49 : Fd := ⟨2, 1, (.cons (.ret [] (.bi .tuple (.cons (.comp [2] (.nm 2) (.seq (.var 0)) (.call 26 (.cons (.var 2) (.cons (.var 1) .nil))) (.var 2)) .nil))) .nil)⟩
/-- nearest_in: plans plan others far own many -/
def d50 : Fd := ⟨2, 4, (.cons (.asg [] 2 false (.comp [4] (.nm 4) (.seq (.var 0)) (.cmp .ne (.var 4) (.var 1)) (.var 4))) (.cons (.ife [] (.cmp .eq (.var 2) (.lst .nil)) (.cons (.ret [] (.tup .nil)) .nil) .nil) (.cons (.asg [] 3 false (.comp [4] (.nm 4) (.seq (.var 2)) (.con (.bl true)) (.bi .len (.cons (.call 24 (.cons (.var 1) (.cons (.var 4) .nil))) .nil)))) (.cons (.ret [] (.bi .tuple (.cons (.comp [4, 5] (.t2 (.nm 4) (.nm 5)) (.zip2 (.var 2) (.var 3)) (.cmp .eq (.var 5) (.bi .minS (.cons (.var 3) .nil))) (.var 4)) .nil))) .nil))))⟩
/-- folded: plan places place -/
def d51 : Fd := ⟨2, 1, (.cons (.ret [] (.bi .tuple (.cons (.comp [2] (.nm 2) (.seq (.var 1)) (.con (.bl true)) (.ix (.var 0) (.var 2))) .nil))) .nil)⟩
/-- lot_of: row -/
def d52 : Fd := ⟨1, 0, (.cons (.ret [] (.call 47 (.cons (.call 21 (.cons (.var 0) .nil)) .nil))) .nil)⟩
/-- live: lot -/
def d53 : Fd := ⟨1, 0, (.cons (.ret [] (.call 48 (.cons (.call 46 (.cons (.var 0) .nil)) .nil))) .nil)⟩
/-- held_part: lot hold own -/
def d54 : Fd := ⟨2, 1, (.cons (.asg [] 2 false (.call 46 (.cons (.var 0) .nil))) (.cons (.ret [] (.call 49 (.cons (.var 2) (.cons (.call 23 (.cons (.var 1) (.cons (.bi .len (.cons (.ix (.var 2) (.con (.int 0))) .nil)) .nil))) .nil)))) .nil))⟩
/-- halves: lot place own -/
def d55 : Fd := ⟨2, 1, (.cons (.asg [] 2 false (.call 46 (.cons (.var 0) .nil))) (.cons (.ex [] (.call 17 (.cons (.call 16 (.cons (.var 1) .nil)) (.cons (.bi .len (.cons (.ix (.var 2) (.con (.int 0))) .nil)) .nil)))) (.cons (.ret [] (.tup (.cons (.call 49 (.cons (.var 2) (.cons (.tup (.cons (.tup (.cons (.var 1) (.cons (.con (.int 0)) .nil))) .nil)) .nil))) (.cons (.call 49 (.cons (.var 2) (.cons (.tup (.cons (.tup (.cons (.var 1) (.cons (.con (.int 1)) .nil))) .nil)) .nil))) .nil)))) .nil)))⟩
/-- nearest: lot plan own far -/
def d56 : Fd := ⟨2, 2, (.cons (.par2 [] 2 false (.call 46 (.cons (.var 0) .nil)) 3 false (.call 13 (.cons (.var 1) .nil))) (.cons (.ife [] (.cmp .ne (.bi .len (.cons (.var 3) .nil)) (.bi .len (.cons (.ix (.var 2) (.con (.int 0))) .nil))) (.cons (.raise 3) .nil) .nil) (.cons (.ret [] (.call 50 (.cons (.var 2) (.cons (.var 3) .nil)))) .nil)))⟩
/-- turned_lot: lot places own told plan -/
def d57 : Fd := ⟨2, 3, (.cons (.asg [] 2 false (.call 46 (.cons (.var 0) .nil))) (.cons (.asg [] 3 false (.call 15 (.cons (.var 1) (.cons (.bi .len (.cons (.ix (.var 2) (.con (.int 0))) .nil)) .nil)))) (.cons (.ret [] (.call 47 (.cons (.comp [4] (.nm 4) (.seq (.var 2)) (.con (.bl true)) (.call 25 (.cons (.var 4) (.cons (.var 3) .nil)))) .nil))) .nil)))⟩
/-- moved_lot: lot order own told plan -/
def d58 : Fd := ⟨2, 3, (.cons (.asg [] 2 false (.call 46 (.cons (.var 0) .nil))) (.cons (.asg [] 3 false (.call 19 (.cons (.var 1) (.cons (.bi .len (.cons (.ix (.var 2) (.con (.int 0))) .nil)) .nil)))) (.cons (.ret [] (.call 47 (.cons (.comp [4] (.nm 4) (.seq (.var 2)) (.con (.bl true)) (.call 51 (.cons (.var 4) (.cons (.var 3) .nil)))) .nil))) .nil)))⟩
/-- shadow: lot places own told plan -/
def d59 : Fd := ⟨2, 3, (.cons (.asg [] 2 false (.call 46 (.cons (.var 0) .nil))) (.cons (.asg [] 3 false (.call 15 (.cons (.var 1) (.cons (.bi .len (.cons (.ix (.var 2) (.con (.int 0))) .nil)) .nil)))) (.cons (.ife [] (.cmp .eq (.var 3) (.tup .nil)) (.cons (.raise 3) .nil) .nil) (.cons (.ret [] (.call 47 (.cons (.comp [4] (.nm 4) (.seq (.var 2)) (.con (.bl true)) (.call 51 (.cons (.var 4) (.cons (.var 3) .nil)))) .nil))) .nil))))⟩
/-- narrowed: lot own places plan -/
def d60 : Fd := ⟨1, 3, (.cons (.asg [] 1 false (.call 46 (.cons (.var 0) .nil))) (.cons (.asg [] 2 false (.call 48 (.cons (.var 1) .nil))) (.cons (.ife [] (.cmp .eq (.var 2) (.tup .nil)) (.cons (.raise 1) .nil) .nil) (.cons (.ret [] (.call 47 (.cons (.comp [3] (.nm 3) (.seq (.var 1)) (.con (.bl true)) (.call 51 (.cons (.var 3) (.cons (.var 2) .nil)))) .nil))) .nil))))⟩
/-- rest: lot own many known found plan number -/
def d61 : Fd := ⟨1, 6, (.cons (.asg [] 1 false (.call 46 (.cons (.var 0) .nil))) (.cons (.asg [] 2 false (.bi .len (.cons (.ix (.var 1) (.con (.int 0))) .nil))) (.cons (.ife [] (.cmp .gt (.op .sub (.op .shl (.con (.int 1)) (.var 2)) (.bi .len (.cons (.var 1) .nil))) (.con (.int 2000))) (.cons (.raise 2) .nil) .nil) (.cons (.asg [] 3 false (.dictT (.comp [5] (.nm 5) (.seq (.var 1)) (.con (.bl true)) (.tup (.cons (.var 5) (.cons (.con (.bl true)) .nil)))))) (.cons (.asg [] 4 true (.bi .tuple (.cons (.comp [6] (.nm 6) (.rng1 (.op .shl (.con (.int 1)) (.var 2))) (.dInT true (.call 40 (.cons (.var 6) (.cons (.var 2) .nil))) (.var 3)) (.call 40 (.cons (.var 6) (.cons (.var 2) .nil)))) .nil))) (.cons (.ife [] (.cmp .eq (.peek 4) (.tup .nil)) (.cons (.raise 1) .nil) .nil) (.cons (.retV 4) .nil)))))))⟩
/-- lot_at: many number own -/
def d62 : Fd := ⟨2, 1, (.cons (.ife [] (.or (.not (.call 2 (.cons (.var 0) (.cons (.con (.int 1)) (.cons (.con (.int 10)) .nil))))) (.or (.not (.call 1 (.cons (.var 1) (.cons (.con (.int 1)) .nil)))) (.cmp .ge (.var 1) (.op .shl (.con (.int 1)) (.op .shl (.con (.int 1)) (.var 0)))))) (.cons (.raise 3) .nil) .nil) (.cons (.ret [] (.bi .tuple (.cons (.comp [2] (.nm 2) (.rng1 (.op .shl (.con (.int 1)) (.var 0))) (.op .band (.op .shr (.var 1) (.var 2)) (.con (.int 1))) (.call 40 (.cons (.var 2) (.cons (.var 0) .nil)))) .nil))) .nil))⟩
/-- lot_number: lot own plan -/
def d63 : Fd := ⟨1, 2, (.cons (.asg [] 1 false (.call 46 (.cons (.var 0) .nil))) (.cons (.ife [] (.cmp .gt (.bi .len (.cons (.ix (.var 1) (.con (.int 0))) .nil)) (.con (.int 10))) (.cons (.raise 2) .nil) .nil) (.cons (.ret [] (.bi .sum (.cons (.comp [2] (.nm 2) (.seq (.var 1)) (.con (.bl true)) (.op .shl (.con (.int 1)) (.call 39 (.cons (.var 2) .nil)))) .nil))) .nil)))⟩
/-- lowered: row shared own -/
def d64 : Fd := ⟨1, 2, (.cons (.asg [] 1 false (.bi .max2 (.cons (.con (.int 1)) (.cons (.call 10 (.cons (.var 0) .nil)) .nil)))) (.cons (.ret [] (.tup (.cons (.bi .tuple (.cons (.comp [2] (.nm 2) (.seq (.var 0)) (.con (.bl true)) (.op .fdiv (.var 2) (.var 1))) .nil)) (.cons (.var 1) .nil)))) .nil))⟩
/-- pressed: row by place k own -/
def d65 : Fd := ⟨3, 2, (.cons (.ret [] (.bi .tuple (.cons (.comp [3, 4] (.t2 (.nm 3) (.nm 4)) (.enum (.var 0)) (.cmp .ne (.var 3) (.var 2)) (.op .sub (.op .mul (.ix (.var 1) (.var 2)) (.var 4)) (.op .mul (.ix (.var 0) (.var 2)) (.ix (.var 1) (.var 3))))) .nil))) .nil)⟩
/-- lifted: factors by place rest found own k -/
def d66 : Fd := ⟨3, 4, (.cons (.asg [] 3 false (.comp [6, 5] (.t2 (.nm 6) (.nm 5)) (.enum (.var 1)) (.cmp .ne (.var 6) (.var 2)) (.var 5))) (.cons (.asg [] 4 true (.comp [5] (.nm 5) (.seq (.var 0)) (.con (.bl true)) (.op .mul (.ix (.var 1) (.var 2)) (.var 5)))) (.cons (.insS [] 4 (.var 2) (.neg (.call 11 (.cons (.var 3) (.cons (.var 0) .nil))))) (.cons (.ret [4] (.ix (.call 64 (.cons (.var 4) .nil)) (.con (.int 0)))) .nil))))⟩
/-- added_up: rows times length k row own -/
def d67 : Fd := ⟨3, 3, (.cons (.ret [] (.bi .tuple (.cons (.comp [3] (.nm 3) (.rng1 (.var 2)) (.con (.bl true)) (.bi .sum (.cons (.comp [4, 5] (.t2 (.nm 4) (.nm 5)) (.zip2 (.var 0) (.var 1)) (.con (.bl true)) (.op .mul (.ix (.var 4) (.var 3)) (.var 5))) .nil))) .nil))) .nil)⟩
/-- first_not_zero: rows number row own -/
def d68 : Fd := ⟨1, 3, (.cons (.for_ [] (.t2 (.nm 1) (.nm 2)) (.enum (.var 0)) (.cons (.ife [] (.bi .any (.cons (.comp [3] (.nm 3) (.seq (.var 2)) (.con (.bl true)) (.cmp .ne (.var 3) (.con (.int 0)))) .nil)) (.cons (.retV 1) .nil) .nil) .nil)) (.cons (.ret [] (.con .non)) .nil))⟩
/-- pressed_level: level rows number by place near far told whole first times surplus size shared own k row -/
def d69 : Fd := ⟨3, 14, (.cons (.asg [] 3 false (.ix (.var 0) (.var 2))) (.cons (.asg [] 4 false (.ix (.comp [15, 14] (.t2 (.nm 15) (.nm 14)) (.enum (.var 3)) (.cmp .ne (.var 14) (.con (.int 0))) (.var 15)) (.con (.int 0)))) (.cons (.asg [] 5 false (.comp [14] (.nm 14) (.seq (.var 0)) (.con (.bl true)) (.call 64 (.cons (.call 65 (.cons (.var 14) (.cons (.var 3) (.cons (.var 4) .nil)))) .nil)))) (.cons (.asg [] 6 false (.comp [14] (.nm 14) (.seq (.var 1)) (.con (.bl true)) (.call 64 (.cons (.call 65 (.cons (.var 14) (.cons (.var 3) (.cons (.var 4) .nil)))) .nil)))) (.cons (.asg [] 7 false (.call 70 (.cons (.comp [14, 13] (.t2 (.nm 14) (.nm 13)) (.seq (.var 5)) (.con (.bl true)) (.var 14)) (.cons (.comp [14, 13] (.t2 (.nm 14) (.nm 13)) (.seq (.var 6)) (.con (.bl true)) (.var 14)) .nil)))) (.cons (.ife [] (.cmp .eq (.ix (.var 7) (.con (.int 0))) (.con (.str (PySem.Str.ofString "prices")))) (.cons (.ret [] (.tup (.cons (.con (.str (PySem.Str.ofString "prices"))) (.cons (.call 66 (.cons (.ix (.var 7) (.con (.int 1))) (.cons (.var 3) (.cons (.var 4) .nil)))) .nil)))) .nil) .nil) (.cons (.asg [] 8 false (.con (.int 1))) (.cons (.for_ [] (.t2 (.nm 14) (.nm 13)) (.seq (.op .add (.var 5) (.var 6))) (.cons (.asg [] 8 false (.mth true (.var 8) (.var 13))) .nil)) (.cons (.asg [] 9 true (.comp [15, 14] (.t2 (.nm 15) (.nm 14)) (.enum (.ix (.var 7) (.con (.int 1)))) (.con (.bl true)) (.op .mul (.var 14) (.op .fdiv (.var 8) (.ix (.ix (.var 5) (.var 15)) (.con (.int 1))))))) (.cons (.asg [] 10 false (.comp [15, 14] (.t2 (.nm 15) (.nm 14)) (.enum (.ix (.var 7) (.con (.int 2)))) (.con (.bl true)) (.op .mul (.var 14) (.op .fdiv (.var 8) (.ix (.ix (.var 6) (.var 15)) (.con (.int 1))))))) (.cons (.asgIx [] 9 (.var 2) (.con (.int 0))) (.cons (.asg [9] 11 false (.op .add (.call 11 (.cons (.comp [16] (.nm 16) (.seq (.var 0)) (.con (.bl true)) (.ix (.var 16) (.var 4))) (.cons (.var 9) .nil))) (.call 11 (.cons (.comp [16] (.nm 16) (.seq (.var 1)) (.con (.bl true)) (.ix (.var 16) (.var 4))) (.cons (.var 10) .nil))))) (.cons (.asg [] 12 false (.bi .abs (.cons (.ix (.var 3) (.var 4)) .nil))) (.cons (.par2 [] 9 true (.comp [14] (.nm 14) (.seq (.peek 9)) (.con (.bl true)) (.op .mul (.var 12) (.var 14))) 10 false (.comp [14] (.nm 14) (.seq (.var 10)) (.con (.bl true)) (.op .mul (.var 12) (.var 14)))) (.cons (.asgIx [] 9 (.var 2) (.ife (.cmp .gt (.ix (.var 3) (.var 4)) (.con (.int 0))) (.neg (.var 11)) (.var 11))) (.cons (.asg [] 13 false (.bi .max2 (.cons (.con (.int 1)) (.cons (.call 10 (.cons (.op .add (.peek 9) (.var 10)) .nil)) .nil)))) (.cons (.ret [] (.tup (.cons (.con (.str (PySem.Str.ofString "bag"))) (.cons (.bi .tuple (.cons (.comp [14] (.nm 14) (.seq (.peek 9)) (.con (.bl true)) (.op .fdiv (.var 14) (.var 13))) .nil)) (.cons (.bi .tuple (.cons (.comp [14] (.nm 14) (.seq (.var 10)) (.con (.bl true)) (.op .fdiv (.var 14) (.var 13))) .nil)) .nil))))) .nil)))))))))))))))))⟩
/-- parted: level rows number length factors row told most later own k minus -/
def d70 : Fd := ⟨2, 10, (.cons (.asg [] 2 false (.call 68 (.cons (.var 0) .nil))) (.cons (.ife [] (.cmp .isnot (.var 2) (.con .non)) (.cons (.ret [] (.call 69 (.cons (.var 0) (.cons (.var 1) (.cons (.var 2) .nil))))) .nil) .nil) (.cons (.asg [] 3 false (.bi .len (.cons (.ix (.op .add (.op .add (.bi .list (.cons (.var 0) .nil)) (.bi .list (.cons (.var 1) .nil))) (.lst (.cons (.tup .nil) .nil))) (.con (.int 0))) .nil))) (.cons (.asg [] 4 false (.op .mul (.tup (.cons (.con (.int 0)) .nil)) (.var 3))) (.cons (.for_ [] (.t2 (.nm 2) (.nm 5)) (.enum (.var 1)) (.cons (.ife [] (.cmp .lt (.call 11 (.cons (.var 4) (.cons (.var 5) .nil))) (.con (.int 0))) (.cons .cont .nil) .nil) (.cons (.ife [] (.not (.bi .any (.cons (.comp [9] (.nm 9) (.seq (.var 5)) (.con (.bl true)) (.cmp .ne (.var 9) (.con (.int 0)))) .nil))) (.cons (.ret [] (.tup (.cons (.con (.str (PySem.Str.ofString "bag"))) (.cons (.op .mul (.tup (.cons (.con (.int 0)) .nil)) (.bi .len (.cons (.var 0) .nil))) (.cons (.bi .tuple (.cons (.comp [10] (.nm 10) (.rng1 (.bi .len (.cons (.var 1) .nil))) (.con (.bl true)) (.ife (.cmp .eq (.var 10) (.var 2)) (.con (.int 1)) (.con (.int 0)))) .nil)) .nil))))) .nil) .nil) (.cons (.asg [] 6 false (.call 70 (.cons (.lst (.cons (.var 5) .nil)) (.cons (.slH (.var 1) (.var 2)) .nil)))) (.cons (.ife [] (.cmp .eq (.ix (.var 6) (.con (.int 0))) (.con (.str (PySem.Str.ofString "bag")))) (.cons (.asg [] 8 false (.op .mul (.tup (.cons (.con (.int 0)) .nil)) (.op .sub (.op .sub (.bi .len (.cons (.var 1) .nil)) (.var 2)) (.con (.int 1))))) (.cons (.ret [] (.tup (.cons (.con (.str (PySem.Str.ofString "bag"))) (.cons (.op .mul (.tup (.cons (.con (.int 0)) .nil)) (.bi .len (.cons (.var 0) .nil))) (.cons (.op .add (.op .add (.ix (.var 6) (.con (.int 2))) (.tup (.cons (.ix (.ix (.var 6) (.con (.int 1))) (.con (.int 0))) .nil))) (.var 8)) .nil))))) .nil)) .nil) (.cons (.asg [] 7 false (.op .add (.con (.int 1)) (.bi .maxS (.cons (.op .add (.lst (.cons (.con (.int 0)) .nil)) (.comp [9] (.nm 9) (.seq (.slH (.var 1) (.var 2))) (.con (.bl true)) (.bi .abs (.cons (.call 11 (.cons (.var 5) (.cons (.var 9) .nil))) .nil)))) .nil)))) (.cons (.asg [] 4 false (.ix (.call 64 (.cons (.comp [9, 11] (.t2 (.nm 9) (.nm 11)) (.zip2 (.ix (.var 6) (.con (.int 1))) (.var 5)) (.con (.bl true)) (.op .sub (.op .mul (.var 7) (.var 9)) (.var 11))) .nil)) (.con (.int 0)))) .nil))))))) (.cons (.ret [] (.tup (.cons (.con (.str (PySem.Str.ofString "prices"))) (.cons (.var 4) .nil)))) .nil))))))⟩
/-- sure_vectors: level rows near far own -/
def d71 : Fd := ⟨2, 3, (.cons (.asgT [] (.t2 (.nm 2) (.nm 3)) (.tup (.cons (.call 4 (.cons (.var 0) .nil)) (.cons (.call 4 (.cons (.var 1) .nil)) .nil)))) (.cons (.ife [] (.or (.not (.bi (.isinst [.tuple]) (.cons (.var 2) .nil))) (.or (.not (.bi (.isinst [.tuple]) (.cons (.var 3) .nil))) (.cmp .eq (.var 3) (.tup .nil)))) (.cons (.raise 3) .nil) .nil) (.cons (.ife [] (.or (.cmp .gt (.bi .len (.cons (.var 2) .nil)) (.con (.int 40))) (.or (.cmp .gt (.bi .len (.cons (.var 3) .nil)) (.con (.int 40))) (.not (.bi .all (.cons (.comp [4] (.nm 4) (.seq (.op .add (.var 2) (.var 3))) (.con (.bl true)) (.call 7 (.cons (.var 4) .nil))) .nil))))) (.cons (.raise 3) .nil) .nil) (.cons (.ife [] (.or (.bi .any (.cons (.comp [4] (.nm 4) (.seq (.op .add (.var 2) (.var 3))) (.con (.bl true)) (.cmp .ne (.bi .len (.cons (.var 4) .nil)) (.bi .len (.cons (.ix (.var 3) (.con (.int 0))) .nil)))) .nil)) (.not (.chain .le .le (.con (.int 1)) (.bi .len (.cons (.ix (.var 3) (.con (.int 0))) .nil)) (.con (.int 12))))) (.cons (.raise 3) .nil) .nil) (.cons (.ret [] (.tup (.cons (.var 2) (.cons (.var 3) .nil)))) .nil)))))⟩
/-- parting: level rows near far -/
def d72 : Fd := ⟨2, 2, (.cons (.asgT [] (.t2 (.nm 2) (.nm 3)) (.call 71 (.cons (.var 0) (.cons (.var 1) .nil)))) (.cons (.ret [] (.call 70 (.cons (.var 2) (.cons (.var 3) .nil)))) .nil))⟩
/-- is_parting: level rows thing near far own -/
def d73 : Fd := ⟨3, 3, (.cons (.asgT [] (.t2 (.nm 3) (.nm 4)) (.call 71 (.cons (.var 0) (.cons (.var 1) .nil)))) (.cons (.ife [] (.or (.not (.bi (.isinst [.tuple]) (.cons (.var 2) .nil))) (.or (.cmp .notin (.bi .len (.cons (.var 2) .nil)) (.tup (.cons (.con (.int 2)) (.cons (.con (.int 3)) .nil)))) (.not (.bi .all (.cons (.comp [5] (.nm 5) (.seq (.slL (.var 2) (.con (.int 1)))) (.con (.bl true)) (.call 7 (.cons (.var 5) .nil))) .nil))))) (.cons (.ret [] (.con (.bl false))) .nil) .nil) (.cons (.ife [] (.cmp .eq (.bi .len (.cons (.var 2) .nil)) (.con (.int 2))) (.cons (.ife [] (.or (.not (.bi (.isinst [.str]) (.cons (.ix (.var 2) (.con (.int 0))) .nil))) (.or (.cmp .ne (.ix (.var 2) (.con (.int 0))) (.con (.str (PySem.Str.ofString "prices")))) (.cmp .ne (.bi .len (.cons (.ix (.var 2) (.con (.int 1))) .nil)) (.bi .len (.cons (.ix (.var 4) (.con (.int 0))) .nil))))) (.cons (.ret [] (.con (.bl false))) .nil) .nil) (.cons (.ret [] (.and (.bi .all (.cons (.comp [5] (.nm 5) (.seq (.var 3)) (.con (.bl true)) (.cmp .eq (.call 11 (.cons (.ix (.var 2) (.con (.int 1))) (.cons (.var 5) .nil))) (.con (.int 0)))) .nil)) (.bi .all (.cons (.comp [5] (.nm 5) (.seq (.var 4)) (.con (.bl true)) (.cmp .lt (.call 11 (.cons (.ix (.var 2) (.con (.int 1))) (.cons (.var 5) .nil))) (.con (.int 0)))) .nil)))) .nil)) .nil) (.cons (.ife [] (.or (.not (.bi (.isinst [.str]) (.cons (.ix (.var 2) (.con (.int 0))) .nil))) (.or (.cmp .ne (.ix (.var 2) (.con (.int 0))) (.con (.str (PySem.Str.ofString "bag")))) (.not (.call 3 (.cons (.ix (.var 2) (.con (.int 1))) (.cons (.bi .len (.cons (.var 3) .nil)) .nil)))))) (.cons (.ret [] (.con (.bl false))) .nil) .nil) (.cons (.ife [] (.or (.not (.call 3 (.cons (.ix (.var 2) (.con (.int 2))) (.cons (.bi .len (.cons (.var 4) .nil)) .nil)))) (.or (.bi .any (.cons (.comp [5] (.nm 5) (.seq (.ix (.var 2) (.con (.int 2)))) (.con (.bl true)) (.cmp .lt (.var 5) (.con (.int 0)))) .nil)) (.not (.bi .any (.cons (.ix (.var 2) (.con (.int 2))) .nil))))) (.cons (.ret [] (.con (.bl false))) .nil) .nil) (.cons (.ret [] (.not (.bi .any (.cons (.call 67 (.cons (.op .add (.var 3) (.var 4)) (.cons (.op .add (.ix (.var 2) (.con (.int 1))) (.ix (.var 2) (.con (.int 2)))) (.cons (.bi .len (.cons (.ix (.var 4) (.con (.int 0))) .nil)) .nil)))) .nil)))) .nil))))))⟩
/-- rank_of: rows number found left by place own k -/
def d74 : Fd := ⟨1, 7, (.cons (.par2 [] 2 true (.con (.int 0)) 3 false (.comp [6] (.nm 6) (.seq (.var 0)) (.con (.bl true)) (.bi .tuple (.cons (.var 6) .nil)))) (.cons (.asg [] 1 false (.call 68 (.cons (.var 3) .nil))) (.cons (.while_ [] (.cmp .isnot (.var 1) (.con .non)) (.cons (.asg [] 4 false (.ix (.var 3) (.var 1))) (.cons (.asg [] 5 false (.ix (.comp [7, 6] (.t2 (.nm 7) (.nm 6)) (.enum (.var 4)) (.cmp .ne (.var 6) (.con (.int 0))) (.var 7)) (.con (.int 0)))) (.cons (.asg [] 3 false (.comp [6] (.nm 6) (.seq (.var 3)) (.con (.bl true)) (.ix (.call 64 (.cons (.call 65 (.cons (.var 6) (.cons (.var 4) (.cons (.var 5) .nil)))) .nil)) (.con (.int 0))))) (.cons (.aug [] 2 .add (.con (.int 1))) (.cons (.asg [] 1 false (.call 68 (.cons (.var 3) .nil))) .nil)))))) (.cons (.retV 2) .nil))))⟩
/-- rank: rows -/
def d75 : Fd := ⟨1, 0, (.cons (.ret [] (.call 74 (.cons (.ix (.call 71 (.cons (.tup .nil) (.cons (.var 0) .nil))) (.con (.int 1))) .nil))) .nil)⟩
/-- sure_prices: prices many own -/
def d76 : Fd := ⟨2, 1, (.cons (.asg [] 2 true (.call 4 (.cons (.var 0) .nil))) (.cons (.ife [2] (.or (.not (.call 7 (.cons (.var 2) .nil))) (.or (.not (.chain .le .le (.con (.int 1)) (.bi .len (.cons (.peek 2) .nil)) (.con (.int 40)))) (.and (.cmp .isnot (.var 1) (.con .non)) (.cmp .ne (.bi .len (.cons (.peek 2) .nil)) (.var 1))))) (.cons (.raise 3) .nil) .nil) (.cons (.retV 2) .nil)))⟩
/-- best_by: lot prices worths most plan own -/
def d77 : Fd := ⟨2, 4, (.cons (.asg [] 2 false (.comp [4] (.nm 4) (.seq (.var 0)) (.con (.bl true)) (.call 11 (.cons (.var 4) (.cons (.var 1) .nil))))) (.cons (.asg [] 3 false (.bi .maxS (.cons (.var 2) .nil))) (.cons (.ret [] (.bi .tuple (.cons (.comp [4, 5] (.t2 (.nm 4) (.nm 5)) (.zip2 (.var 0) (.var 2)) (.cmp .eq (.var 5) (.var 3)) (.var 4)) .nil))) .nil)))⟩
/-- held_prices: hold prices most found place bit own -/
def d78 : Fd := ⟨2, 5, (.cons (.asg [] 2 false (.op .add (.con (.int 1)) (.bi .sum (.cons (.comp [6] (.nm 6) (.seq (.var 1)) (.con (.bl true)) (.bi .abs (.cons (.var 6) .nil))) .nil)))) (.cons (.asg [] 3 true (.bi .list (.cons (.var 1) .nil))) (.cons (.for_ [] (.t2 (.nm 4) (.nm 5)) (.seq (.var 0)) (.cons (.asgIx [] 3 (.var 4) (.op .add (.ix (.var 1) (.var 4)) (.ife (.cmp .eq (.var 5) (.con (.int 1))) (.var 2) (.neg (.var 2))))) .nil)) (.cons (.ret [] (.bi .tuple (.cons (.peek 3) .nil))) .nil))))⟩
/-- worth: plan prices own -/
def d79 : Fd := ⟨2, 1, (.cons (.asg [] 2 false (.call 13 (.cons (.var 0) .nil))) (.cons (.ret [] (.call 11 (.cons (.var 2) (.cons (.call 76 (.cons (.var 1) (.cons (.bi .len (.cons (.var 2) .nil)) .nil))) .nil)))) .nil))⟩
/-- best: lot prices own -/
def d80 : Fd := ⟨2, 1, (.cons (.asg [] 2 false (.call 46 (.cons (.var 0) .nil))) (.cons (.ret [] (.call 77 (.cons (.var 2) (.cons (.call 76 (.cons (.var 1) (.cons (.bi .len (.cons (.ix (.var 2) (.con (.int 0))) .nil)) .nil))) .nil)))) .nil))⟩
/-- gap: lot prices own told worths plan -/
def d81 : Fd := ⟨2, 4, (.cons (.asg [] 2 false (.call 46 (.cons (.var 0) .nil))) (.cons (.asg [] 3 false (.call 76 (.cons (.var 1) (.cons (.bi .len (.cons (.ix (.var 2) (.con (.int 0))) .nil)) .nil)))) (.cons (.asg [] 4 false (.bi .sortedSet (.cons (.comp [5] (.nm 5) (.seq (.var 2)) (.con (.bl true)) (.call 11 (.cons (.var 5) (.cons (.var 3) .nil)))) .nil))) (.cons (.ret [] (.ife (.cmp .gt (.bi .len (.cons (.var 4) .nil)) (.con (.int 1))) (.op .sub (.ix (.var 4) (.neg (.con (.int 1)))) (.ix (.var 4) (.neg (.con (.int 2))))) (.con .non))) .nil))))⟩
/-- alone_prices: plan bit -/
def d82 : Fd := ⟨1, 1, (.cons (.ret [] (.bi .tuple (.cons (.comp [1] (.nm 1) (.seq (.call 13 (.cons (.var 0) .nil))) (.con (.bl true)) (.op .sub (.op .mul (.con (.int 2)) (.var 1)) (.con (.int 1)))) .nil))) .nil)⟩
/-- holding: hold prices own -/
def d83 : Fd := ⟨2, 1, (.cons (.asg [] 2 false (.callD 76 (.cons (.var 1) .nil) [.non])) (.cons (.ret [] (.call 78 (.cons (.call 23 (.cons (.var 0) (.cons (.bi .len (.cons (.var 2) .nil)) .nil))) (.cons (.var 2) .nil)))) .nil))⟩
/-- turned_prices: prices places own told place price -/
def d84 : Fd := ⟨2, 4, (.cons (.asg [] 2 false (.callD 76 (.cons (.var 0) .nil) [.non])) (.cons (.asg [] 3 false (.call 15 (.cons (.var 1) (.cons (.bi .len (.cons (.var 2) .nil)) .nil)))) (.cons (.ret [] (.bi .tuple (.cons (.comp [4, 5] (.t2 (.nm 4) (.nm 5)) (.enum (.var 2)) (.con (.bl true)) (.ife (.cmp .isin (.var 4) (.var 3)) (.neg (.var 5)) (.var 5))) .nil))) .nil)))⟩
/-- moved_prices: prices order own -/
def d85 : Fd := ⟨2, 1, (.cons (.asg [] 2 false (.callD 76 (.cons (.var 0) .nil) [.non])) (.cons (.ret [] (.call 51 (.cons (.var 2) (.cons (.call 19 (.cons (.var 1) (.cons (.bi .len (.cons (.var 2) .nil)) .nil))) .nil)))) .nil))⟩
/-- added_prices: prices other own one two -/
def d86 : Fd := ⟨2, 3, (.cons (.asg [] 2 false (.callD 76 (.cons (.var 0) .nil) [.non])) (.cons (.ret [] (.bi .tuple (.cons (.comp [3, 4] (.t2 (.nm 3) (.nm 4)) (.zip2 (.var 2) (.call 76 (.cons (.var 1) (.cons (.bi .len (.cons (.var 2) .nil)) .nil)))) (.con (.bl true)) (.op .add (.var 3) (.var 4))) .nil))) .nil))⟩
/-- _law_box: script k bit_so -/
def d87 : Fd := ⟨2, 1, (.cons (.asg [] 2 false (.ife (.cmp .lt (.var 1) (.bi .len (.cons (.var 0) .nil))) (.ix (.var 0) (.var 1)) (.con (.int 0)))) (.cons (.ret [] (.slst (.cons (.op .mul (.bi .abs (.cons (.var 2) .nil)) (.bi .int1 (.cons (.cmp .ge (.bi .abs (.cons (.var 2) .nil)) (.op .pow (.con (.int 10)) (.con (.int 18)))) .nil))) (.cons (.op .add (.op .add (.op .mod (.bi .int1 (.cons (.var 2) .nil)) (.con (.int 2305843009213693951))) (.op .mul (.con (.int 39373)) (.var 1))) (.con (.int 7046070))) (.cons (.con (.int 0)) .nil))))) .nil))⟩
/-- _law_take: tin below_so once_so wide_so twice_so drawn_so -/
def d88 : Fd := ⟨2, 4, (.cons (.ife [] (.cmp .gt (.ix (.var 0) (.con (.int 0))) (.con (.int 0))) (.cons (.asg [] 5 true (.op .mod (.bi .int1 (.cons (.ix (.var 0) (.con (.int 0))) .nil)) (.var 1))) (.cons (.asgIx [] 0 (.con (.int 0)) (.op .fdiv (.ix (.var 0) (.con (.int 0))) (.var 1))) (.cons (.retV 5) .nil))) .nil) (.cons (.asgIx [] 0 (.con (.int 2)) (.op .add (.ix (.var 0) (.con (.int 2))) (.con (.int 1)))) (.cons (.asg [] 2 false (.op .mod (.bi .int1 (.cons (.op .mul (.op .add (.ix (.var 0) (.con (.int 1))) (.op .mul (.con (.int 48271)) (.ix (.var 0) (.con (.int 2))))) (.op .add (.con (.int 39373)) (.ix (.var 0) (.con (.int 2))))) .nil)) (.con (.int 2147483647)))) (.cons (.asg [] 3 false (.op .add (.op .mod (.bi .int1 (.cons (.var 2) .nil)) (.con (.int 40009))) (.con (.int 7)))) (.cons (.asg [] 4 false (.op .mod (.bi .int1 (.cons (.op .mul (.op .add (.op .add (.var 2) (.ix (.var 0) (.con (.int 2)))) (.op .fdiv (.ix (.var 0) (.con (.int 1))) (.con (.int 1000003)))) (.var 3)) .nil)) (.con (.int 2147483629)))) (.cons (.ret [] (.op .mod (.bi .int1 (.cons (.op .fdiv (.op .mod (.bi .int1 (.cons (.op .add (.op .mul (.var 4) (.con (.int 48271))) (.var 2)) .nil)) (.con (.int 2147483587))) (.con (.int 64))) .nil)) (.var 1))) .nil))))))⟩
/-- _law_cells: script most_so cells_so k bit_so at_so -/
def d89 : Fd := ⟨2, 4, (.cons (.asg [] 2 true (.or (.bi .list (.cons (.slH (.var 0) (.var 1)) .nil)) (.lst (.cons (.con (.int 0)) .nil)))) (.cons (.for_ [] (.t2 (.nm 3) (.nm 4)) (.enum (.sl (.var 0) (.var 1) (.con (.int 63)))) (.cons (.asg [] 5 false (.op .mod (.bi .int1 (.cons (.var 3) .nil)) (.var 1))) (.cons (.asgIx [] 2 (.var 5) (.op .add (.ix (.peek 2) (.var 5)) (.op .mul (.var 4) (.op .add (.var 3) (.con (.int 2)))))) .nil))) (.cons (.retV 2) .nil)))⟩
/-- _law_same: got due mine its -/
def d90 : Fd := ⟨2, 2, (.cons (.ife [] (.bi (.isinst [.list, .tuple]) (.cons (.var 1) .nil)) (.cons (.ife [] (.or (.cmp .ne (.bi (.isinst [.list]) (.cons (.var 0) .nil)) (.bi (.isinst [.list]) (.cons (.var 1) .nil))) (.cmp .ne (.bi (.isinst [.tuple]) (.cons (.var 0) .nil)) (.bi (.isinst [.tuple]) (.cons (.var 1) .nil)))) (.cons (.ret [] (.con (.bl false))) .nil) .nil) (.cons (.ret [] (.and (.cmp .eq (.bi .len (.cons (.var 0) .nil)) (.bi .len (.cons (.var 1) .nil))) (.bi .all (.cons (.comp [2, 3] (.t2 (.nm 2) (.nm 3)) (.zip2 (.var 0) (.var 1)) (.con (.bl true)) (.call 90 (.cons (.var 2) (.cons (.var 3) .nil)))) .nil)))) .nil)) .nil) (.cons (.ife [] (.cmp .is_ (.var 1) (.con .non)) (.cons (.ret [] (.cmp .is_ (.var 0) (.con .non))) .nil) .nil) (.cons (.ife [] (.bi (.isinst [.bool, .str]) (.cons (.var 1) .nil)) (.cons (.ret [] (.and (.cmp .eq (.bi (.isinst [.bool]) (.cons (.var 0) .nil)) (.bi (.isinst [.bool]) (.cons (.var 1) .nil))) (.and (.cmp .eq (.bi (.isinst [.str]) (.cons (.var 0) .nil)) (.bi (.isinst [.str]) (.cons (.var 1) .nil))) (.cmp .eq (.var 0) (.var 1))))) .nil) .nil) (.cons (.ret [] (.and (.bi (.isinst [.int]) (.cons (.var 0) .nil)) (.and (.not (.bi (.isinst [.bool]) (.cons (.var 0) .nil))) (.cmp .eq (.var 0) (.var 1))))) .nil))))⟩
/-- _law_unmarked: told_so -/
def d91 : Fd := ⟨1, 0, (.cons (.ret [] (.ife (.and (.bi (.isinst [.list]) (.cons (.var 0) .nil)) (.and (.cmp .gt (.bi .len (.cons (.var 0) .nil)) (.con (.int 0))) (.bi (.isinst [.str]) (.cons (.ix (.var 0) (.con (.int 0))) .nil)))) (.lst (.cons (.con (.str (PySem.Str.ofString "told"))) (.cons (.con (.str (PySem.Str.ofString "a mark"))) .nil))) (.var 0))) .nil)⟩
/-- _law_heard: door_so goods_so ones_so twos_so threes_so slip_a slip_b caught told_so -/
def d92 : Fd := ⟨2, 7, (.cons (.asg [] 2 false (.tup (.cons (.con (.fnv 53 (PySem.Str.ofString "live"))) (.cons (.con (.fnv 60 (PySem.Str.ofString "narrowed"))) (.cons (.con (.fnv 61 (PySem.Str.ofString "rest"))) (.cons (.con (.fnv 63 (PySem.Str.ofString "lot_number"))) (.cons (.con (.fnv 52 (PySem.Str.ofString "lot_of"))) (.cons (.con (.fnv 44 (PySem.Str.ofString "sum_of"))) (.cons (.con (.fnv 41 (PySem.Str.ofString "plan_number"))) (.cons (.con (.fnv 82 (PySem.Str.ofString "alone_prices"))) .nil)))))))))) (.cons (.asg [] 3 false (.tup (.cons (.con (.fnv 32 (PySem.Str.ofString "unlike"))) (.cons (.con (.fnv 33 (PySem.Str.ofString "apart"))) (.cons (.con (.fnv 35 (PySem.Str.ofString "agreed"))) (.cons (.con (.fnv 34 (PySem.Str.ofString "turned"))) (.cons (.con (.fnv 36 (PySem.Str.ofString "keeps"))) (.cons (.con (.fnv 42 (PySem.Str.ofString "plan_of"))) (.cons (.con (.fnv 54 (PySem.Str.ofString "held_part"))) (.cons (.con (.fnv 55 (PySem.Str.ofString "halves"))) (.cons (.con (.fnv 56 (PySem.Str.ofString "nearest"))) (.cons (.con (.fnv 57 (PySem.Str.ofString "turned_lot"))) (.cons (.con (.fnv 58 (PySem.Str.ofString "moved_lot"))) (.cons (.con (.fnv 59 (PySem.Str.ofString "shadow"))) (.cons (.con (.fnv 62 (PySem.Str.ofString "lot_at"))) (.cons (.con (.fnv 79 (PySem.Str.ofString "worth"))) (.cons (.con (.fnv 80 (PySem.Str.ofString "best"))) (.cons (.con (.fnv 81 (PySem.Str.ofString "gap"))) (.cons (.con (.fnv 83 (PySem.Str.ofString "holding"))) (.cons (.con (.fnv 84 (PySem.Str.ofString "turned_prices"))) (.cons (.con (.fnv 85 (PySem.Str.ofString "moved_prices"))) (.cons (.con (.fnv 86 (PySem.Str.ofString "added_prices"))) (.cons (.con (.fnv 30 (PySem.Str.ofString "is_hold"))) (.cons (.con (.fnv 31 (PySem.Str.ofString "is_order"))) (.cons (.con (.fnv 72 (PySem.Str.ofString "parting"))) .nil))))))))))))))))))))))))) (.cons (.asg [] 4 false (.tup (.cons (.con (.fnv 37 (PySem.Str.ofString "between"))) (.cons (.con (.fnv 38 (PySem.Str.ofString "mixed"))) (.cons (.con (.fnv 43 (PySem.Str.ofString "end_agreed"))) (.cons (.con (.fnv 73 (PySem.Str.ofString "is_parting"))) .nil)))))) (.cons (.asgT [] (.t2 (.nm 7) (.nm 8)) (.tup (.cons (.con .non) (.cons (.con .non) .nil)))) (.cons (.try_ [⟨true, (some (PySem.Str.ofString "place"))⟩, ⟨false, none⟩, ⟨false, none⟩, ⟨false, none⟩] (.cons (.ife [] (.cmp .lt (.var 0) (.con (.int 8))) (.cons (.asg [] 8 false (.call 91 (.cons (.callV (.ix (.var 2) (.var 0)) (.cons (.ix (.var 1) (.con (.int 0))) .nil)) .nil))) .nil) (.cons (.ife [] (.cmp .lt (.var 0) (.con (.int 31))) (.cons (.asg [] 8 false (.call 91 (.cons (.callV (.ix (.var 3) (.op .sub (.var 0) (.con (.int 8)))) (.cons (.ix (.var 1) (.con (.int 0))) (.cons (.ix (.var 1) (.con (.int 1))) .nil))) .nil))) .nil) (.cons (.ife [] (.cmp .lt (.var 0) (.con (.int 35))) (.cons (.asg [] 8 false (.call 91 (.cons (.callV (.ix (.var 4) (.op .sub (.var 0) (.con (.int 31)))) (.cons (.ix (.var 1) (.con (.int 0))) (.cons (.ix (.var 1) (.con (.int 1))) (.cons (.ix (.var 1) (.con (.int 2))) .nil)))) .nil))) .nil) (.cons (.asg [] 8 false (.call 91 (.cons (.call 75 (.cons (.ix (.var 1) (.con (.int 0))) .nil)) .nil))) .nil)) .nil)) .nil)) .nil) [⟨3, (some 5), 7, .row [.str (PySem.Str.ofString "unfit"), .isi false]⟩, ⟨0, (some 6), 7, .row [.str (PySem.Str.ofString "no place"), .fld (PySem.Str.ofString "place"), .isi true]⟩]) (.cons (.ret [] (.ife (.cmp .is_ (.var 7) (.con .non)) (.var 8) (.var 7))) .nil))))))⟩
/-- _law_no_plans:  -/
def d93 : Fd := ⟨0, 0, (.cons (.ret [] (.lst (.cons (.con .non) (.cons (.con (.int 0)) (.cons (.con (.str (PySem.Str.ofString "01"))) (.cons (.tup .nil) (.cons (.lst .nil) (.cons (.tup (.cons (.con (.int 0)) (.cons (.con (.int 2)) .nil))) (.cons (.tup (.cons (.con (.int 0)) (.cons (.neg (.con (.int 1))) .nil))) (.cons (.tup (.cons (.con (.bl true)) (.cons (.con (.int 0)) .nil))) (.cons (.tup (.cons (.con (.int 0)) (.cons (.con .non) .nil))) (.cons (.tup (.cons (.tup (.cons (.con (.int 0)) (.cons (.con (.int 1)) .nil))) .nil)) (.cons (.lst (.cons (.con (.int 0)) (.cons (.con (.str (PySem.Str.ofString "1"))) .nil))) (.cons (.op .mul (.tup (.cons (.con (.int 0)) .nil)) (.con (.int 41))) (.cons (.dLit 0 1) .nil))))))))))))))) .nil)⟩
/-- _law_no_lots:  -/
def d94 : Fd := ⟨0, 0, (.cons (.ret [] (.lst (.cons (.con .non) (.cons (.con (.int 0)) (.cons (.tup .nil) (.cons (.lst .nil) (.cons (.tup (.cons (.tup (.cons (.con (.int 1)) (.cons (.con (.int 0)) .nil))) (.cons (.tup (.cons (.con (.int 0)) (.cons (.con (.int 1)) .nil))) .nil))) (.cons (.tup (.cons (.tup (.cons (.con (.int 0)) (.cons (.con (.int 1)) .nil))) (.cons (.tup (.cons (.con (.int 0)) (.cons (.con (.int 1)) .nil))) .nil))) (.cons (.tup (.cons (.tup (.cons (.con (.int 0)) (.cons (.con (.int 1)) .nil))) (.cons (.tup (.cons (.con (.int 0)) (.cons (.con (.int 1)) (.cons (.con (.int 1)) .nil)))) .nil))) (.cons (.tup (.cons (.tup (.cons (.con (.int 0)) (.cons (.con (.int 2)) .nil))) .nil)) (.cons (.tup (.cons (.con (.int 0)) (.cons (.con (.int 1)) .nil))) (.cons (.tup (.cons (.tup (.cons (.con (.int 0)) (.cons (.con (.int 1)) .nil))) (.cons (.con .non) .nil))) (.cons (.lst (.cons (.lst (.cons (.con (.bl true)) (.cons (.con (.int 0)) .nil))) .nil)) (.cons (.con (.str (PySem.Str.ofString "01"))) .nil)))))))))))))) .nil)⟩
/-- _law_plans_right: part_so bad_so got due places_so holds_so lines_so pairs_so many_so unfit_so one two own k -/
def d95 : Fd := ⟨1, 13, (.cons (.asgT [] (.t3 (.nm 9) (.nm 10) (.nm 11)) (.tup (.cons (.lst (.cons (.con (.str (PySem.Str.ofString "unfit"))) (.cons (.con (.bl true)) .nil))) (.cons (.tup (.cons (.con (.int 0)) (.cons (.con (.int 1)) .nil))) (.cons (.tup (.cons (.con (.int 1)) (.cons (.con (.int 1)) .nil))) .nil))))) (.cons (.asg [] 1 false (.slS (.call 93 .nil) (.var 0) 3)) (.cons (.asg [] 2 true (.comp [12] (.nm 12) (.seq (.var 1)) (.con (.bl true)) (.op .add (.op .add (.lst (.cons (.call 92 (.cons (.con (.int 6)) (.cons (.tup (.cons (.var 12) .nil)) .nil))) (.cons (.call 92 (.cons (.con (.int 7)) (.cons (.tup (.cons (.var 12) .nil)) .nil))) .nil))) (.comp [13] (.nm 13) (.seq (.tup (.cons (.con (.int 8)) (.cons (.con (.int 9)) (.cons (.con (.int 10)) .nil))))) (.con (.bl true)) (.call 92 (.cons (.var 13) (.cons (.tup (.cons (.var 12) (.cons (.var 10) .nil))) .nil))))) (.comp [13] (.nm 13) (.seq (.tup (.cons (.con (.int 8)) (.cons (.con (.int 9)) (.cons (.con (.int 10)) .nil))))) (.con (.bl true)) (.call 92 (.cons (.var 13) (.cons (.tup (.cons (.var 10) (.cons (.var 12) .nil))) .nil))))))) (.cons (.asg [] 2 true (.op .add (.peek 2) (.comp [12] (.nm 12) (.seq (.var 1)) (.con (.bl true)) (.lst (.cons (.call 92 (.cons (.con (.int 11)) (.cons (.tup (.cons (.var 12) (.cons (.tup .nil) .nil))) .nil))) (.cons (.call 92 (.cons (.con (.int 12)) (.cons (.tup (.cons (.var 12) (.cons (.tup .nil) .nil))) .nil))) (.cons (.call 92 (.cons (.con (.int 21)) (.cons (.tup (.cons (.var 12) (.cons (.tup (.cons (.con (.int 1)) (.cons (.con (.int 2)) .nil))) .nil))) .nil))) (.cons (.call 92 (.cons (.con (.int 31)) (.cons (.tup (.cons (.var 12) (.cons (.var 10) (.cons (.var 11) .nil)))) .nil))) (.cons (.call 92 (.cons (.con (.int 31)) (.cons (.tup (.cons (.var 10) (.cons (.var 12) (.cons (.var 11) .nil)))) .nil))) (.cons (.call 92 (.cons (.con (.int 31)) (.cons (.tup (.cons (.var 10) (.cons (.var 11) (.cons (.var 12) .nil)))) .nil))) (.cons (.call 92 (.cons (.con (.int 32)) (.cons (.tup (.cons (.var 12) (.cons (.var 10) (.cons (.tup .nil) .nil)))) .nil))) (.cons (.call 92 (.cons (.con (.int 33)) (.cons (.tup (.cons (.tup (.cons (.con (.int 0)) (.cons (.con (.int 1)) .nil))) (.cons (.var 10) (.cons (.var 12) .nil)))) .nil))) .nil)))))))))))) (.cons (.asg [] 3 true (.op .mul (.lst (.cons (.op .mul (.lst (.cons (.var 9) .nil)) (.con (.int 8))) .nil)) (.op .mul (.con (.int 2)) (.bi .len (.cons (.var 1) .nil))))) (.cons (.app [] 2 (.lst (.cons (.call 92 (.cons (.con (.int 8)) (.cons (.tup (.cons (.tup (.cons (.con (.int 0)) .nil)) (.cons (.var 10) .nil))) .nil))) (.cons (.call 92 (.cons (.con (.int 10)) (.cons (.tup (.cons (.var 10) (.cons (.tup (.cons (.con (.int 0)) (.cons (.con (.int 1)) (.cons (.con (.int 1)) .nil)))) .nil))) .nil))) (.cons (.call 92 (.cons (.con (.int 31)) (.cons (.tup (.cons (.var 10) (.cons (.var 11) (.cons (.tup (.cons (.con (.int 1)) .nil)) .nil)))) .nil))) (.cons (.call 92 (.cons (.con (.int 32)) (.cons (.tup (.cons (.var 10) (.cons (.tup (.cons (.con (.int 0)) .nil)) (.cons (.tup .nil) .nil)))) .nil))) (.cons (.call 92 (.cons (.con (.int 33)) (.cons (.tup (.cons (.tup (.cons (.con (.int 0)) (.cons (.con (.int 1)) .nil))) (.cons (.var 10) (.cons (.tup (.cons (.con (.int 0)) (.cons (.con (.int 1)) (.cons (.con (.int 0)) .nil)))) .nil)))) .nil))) (.cons (.call 92 (.cons (.con (.int 21)) (.cons (.tup (.cons (.var 10) (.cons (.tup (.cons (.con (.int 1)) (.cons (.con (.int 2)) (.cons (.con (.int 3)) .nil)))) .nil))) .nil))) (.cons (.call 92 (.cons (.con (.int 5)) (.cons (.tup (.cons (.lst (.cons (.var 10) (.cons (.tup (.cons (.con (.int 0)) .nil)) .nil))) .nil)) .nil))) .nil))))))))) (.cons (.app [] 3 (.op .mul (.lst (.cons (.var 9) .nil)) (.con (.int 7)))) (.cons (.asg [] 4 false (.slS (.lst (.cons (.con .non) (.cons (.con (.int 0)) (.cons (.tup (.cons (.con (.int 2)) .nil)) (.cons (.tup (.cons (.neg (.con (.int 1))) .nil)) (.cons (.tup (.cons (.con (.int 1)) (.cons (.con (.int 0)) .nil))) (.cons (.tup (.cons (.con (.int 0)) (.cons (.con (.int 0)) .nil))) (.cons (.tup (.cons (.con (.bl true)) .nil)) (.cons (.tup (.cons (.con (.str (PySem.Str.ofString "0"))) .nil)) (.cons (.tup (.cons (.tup (.cons (.con (.int 0)) .nil)) .nil)) .nil)))))))))) (.var 0) 3)) (.cons (.app [] 2 (.op .add (.comp [12] (.nm 12) (.seq (.var 4)) (.con (.bl true)) (.call 92 (.cons (.con (.int 11)) (.cons (.tup (.cons (.var 10) (.cons (.var 12) .nil))) .nil)))) (.comp [12] (.nm 12) (.seq (.var 4)) (.con (.bl true)) (.call 92 (.cons (.con (.int 32)) (.cons (.tup (.cons (.var 10) (.cons (.var 11) (.cons (.var 12) .nil)))) .nil)))))) (.cons (.app [] 3 (.op .mul (.lst (.cons (.var 9) .nil)) (.op .mul (.con (.int 2)) (.bi .len (.cons (.var 4) .nil))))) (.cons (.asg [] 5 false (.slS (.lst (.cons (.con .non) (.cons (.con (.int 0)) (.cons (.tup (.cons (.tup (.cons (.con (.int 0)) (.cons (.con (.int 2)) .nil))) .nil)) (.cons (.tup (.cons (.tup (.cons (.con (.int 2)) (.cons (.con (.int 0)) .nil))) .nil)) (.cons (.tup (.cons (.tup (.cons (.con (.int 1)) (.cons (.con (.int 0)) .nil))) (.cons (.tup (.cons (.con (.int 0)) (.cons (.con (.int 0)) .nil))) .nil))) (.cons (.tup (.cons (.tup (.cons (.con (.int 0)) (.cons (.con (.int 0)) .nil))) (.cons (.tup (.cons (.con (.int 0)) (.cons (.con (.int 1)) .nil))) .nil))) (.cons (.tup (.cons (.tup (.cons (.con (.int 0)) (.cons (.con (.int 0)) (.cons (.con (.int 0)) .nil)))) .nil)) (.cons (.tup (.cons (.con (.int 0)) .nil)) (.cons (.tup (.cons (.tup (.cons (.con (.bl true)) (.cons (.con (.int 0)) .nil))) .nil)) (.cons (.tup (.cons (.tup (.cons (.con (.int 0)) (.cons (.con (.bl false)) .nil))) .nil)) (.cons (.tup (.cons (.tup (.cons (.neg (.con (.int 1))) (.cons (.con (.int 0)) .nil))) .nil)) .nil)))))))))))) (.var 0) 3)) (.cons (.app [] 2 (.op .add (.op .add (.comp [12] (.nm 12) (.seq (.var 5)) (.con (.bl true)) (.call 92 (.cons (.con (.int 12)) (.cons (.tup (.cons (.var 10) (.cons (.var 12) .nil))) .nil)))) (.comp [12] (.nm 12) (.seq (.var 5)) (.con (.bl true)) (.call 92 (.cons (.con (.int 24)) (.cons (.tup (.cons (.var 12) (.cons (.tup (.cons (.con (.int 5)) (.cons (.con (.int 5)) .nil))) .nil))) .nil))))) (.comp [12] (.nm 12) (.seq (.var 5)) (.con (.bl true)) (.call 92 (.cons (.con (.int 14)) (.cons (.tup (.cons (.tup (.cons (.var 10) (.cons (.var 11) .nil))) (.cons (.var 12) .nil))) .nil)))))) (.cons (.app [] 3 (.op .mul (.lst (.cons (.var 9) .nil)) (.op .mul (.con (.int 3)) (.bi .len (.cons (.var 5) .nil))))) (.cons (.asg [] 6 false (.slS (.lst (.cons (.con .non) (.cons (.con (.int 0)) (.cons (.tup (.cons (.con (.int 0)) .nil)) (.cons (.tup (.cons (.con (.int 0)) (.cons (.con (.int 0)) .nil))) (.cons (.tup (.cons (.con (.int 0)) (.cons (.con (.int 2)) .nil))) (.cons (.tup (.cons (.con (.int 1)) (.cons (.con (.int 0)) (.cons (.con (.int 2)) .nil)))) (.cons (.tup (.cons (.con (.int 0)) (.cons (.con (.bl true)) .nil))) (.cons (.tup (.cons (.con (.int 0)) (.cons (.con (.str (PySem.Str.ofString "1"))) .nil))) (.cons (.tup .nil) .nil)))))))))) (.var 0) 3)) (.cons (.app [] 2 (.op .add (.op .add (.comp [12] (.nm 12) (.seq (.var 6)) (.con (.bl true)) (.call 92 (.cons (.con (.int 33)) (.cons (.tup (.cons (.var 12) (.cons (.var 10) (.cons (.var 11) .nil)))) .nil)))) (.comp [12] (.nm 12) (.seq (.var 6)) (.con (.bl true)) (.call 92 (.cons (.con (.int 18)) (.cons (.tup (.cons (.tup (.cons (.var 10) (.cons (.var 11) .nil))) (.cons (.var 12) .nil))) .nil))))) (.comp [12] (.nm 12) (.seq (.var 6)) (.con (.bl true)) (.call 92 (.cons (.con (.int 26)) (.cons (.tup (.cons (.tup (.cons (.con (.int 5)) (.cons (.con (.int 6)) .nil))) (.cons (.var 12) .nil))) .nil)))))) (.cons (.app [] 3 (.op .mul (.lst (.cons (.var 9) .nil)) (.op .mul (.con (.int 3)) (.bi .len (.cons (.var 6) .nil))))) (.cons (.asg [] 7 false (.slS (.lst (.cons (.tup (.cons (.con .non) (.cons (.con (.int 2)) .nil))) (.cons (.tup (.cons (.neg (.con (.int 1))) (.cons (.con (.int 2)) .nil))) (.cons (.tup (.cons (.con (.int 4)) (.cons (.con (.int 2)) .nil))) (.cons (.tup (.cons (.con (.bl true)) (.cons (.con (.int 2)) .nil))) (.cons (.tup (.cons (.con (.str (PySem.Str.ofString "0"))) (.cons (.con (.int 2)) .nil))) (.cons (.tup (.cons (.con (.int 0)) (.cons (.con (.int 0)) .nil))) (.cons (.tup (.cons (.con (.int 0)) (.cons (.con (.int 41)) .nil))) (.cons (.tup (.cons (.con (.int 0)) (.cons (.con .non) .nil))) (.cons (.tup (.cons (.con (.int 0)) (.cons (.con (.bl true)) .nil))) (.cons (.tup (.cons (.op .shl (.con (.int 1)) (.con (.int 40))) (.cons (.con (.int 40)) .nil))) (.cons (.tup (.cons (.con (.int 0)) (.cons (.neg (.con (.int 1))) .nil))) .nil)))))))))))) (.var 0) 3)) (.cons (.app [] 2 (.comp [12] (.nm 12) (.seq (.var 7)) (.con (.bl true)) (.call 92 (.cons (.con (.int 13)) (.cons (.var 12) .nil))))) (.cons (.app [] 3 (.op .mul (.lst (.cons (.var 9) .nil)) (.bi .len (.cons (.var 7) .nil)))) (.cons (.asg [] 8 false (.lst (.cons (.con .non) (.cons (.con (.int 0)) (.cons (.con (.int 41)) (.cons (.neg (.con (.int 1))) (.cons (.con (.bl true)) (.cons (.con (.str (PySem.Str.ofString "2"))) (.cons (.tup (.cons (.con (.int 2)) .nil)) .nil))))))))) (.cons (.app [] 2 (.op .add (.comp [12] (.nm 12) (.seq (.var 8)) (.con (.bl true)) (.call 92 (.cons (.con (.int 28)) (.cons (.tup (.cons (.var 12) (.cons (.tup .nil) .nil))) .nil)))) (.comp [12] (.nm 12) (.seq (.var 8)) (.con (.bl true)) (.call 92 (.cons (.con (.int 29)) (.cons (.tup (.cons (.var 12) (.cons (.tup .nil) .nil))) .nil)))))) (.cons (.app [] 3 (.op .mul (.lst (.cons (.var 9) .nil)) (.con (.int 14)))) (.cons (.ret [2, 3] (.call 90 (.cons (.var 2) (.cons (.var 3) .nil)))) .nil)))))))))))))))))))))))⟩
/-- _law_lots_right: part_so bad_so got due rows_so numbers_so costs_so unfit_so lot_so own k -/
def d96 : Fd := ⟨1, 10, (.cons (.asgT [] (.t2 (.nm 7) (.nm 8)) (.tup (.cons (.lst (.cons (.con (.str (PySem.Str.ofString "unfit"))) (.cons (.con (.bl true)) .nil))) (.cons (.tup (.cons (.tup (.cons (.con (.int 0)) (.cons (.con (.int 1)) .nil))) (.cons (.tup (.cons (.con (.int 1)) (.cons (.con (.int 1)) .nil))) .nil))) .nil)))) (.cons (.asg [] 1 false (.slS (.call 94 .nil) (.var 0) 3)) (.cons (.asg [] 2 true (.comp [9] (.nm 9) (.seq (.var 1)) (.con (.bl true)) (.op .add (.comp [10] (.nm 10) (.seq (.tup (.cons (.con (.int 0)) (.cons (.con (.int 1)) (.cons (.con (.int 2)) (.cons (.con (.int 3)) .nil)))))) (.con (.bl true)) (.call 92 (.cons (.var 10) (.cons (.tup (.cons (.var 9) .nil)) .nil)))) (.lst (.cons (.call 92 (.cons (.con (.int 14)) (.cons (.tup (.cons (.var 9) (.cons (.tup .nil) .nil))) .nil))) (.cons (.call 92 (.cons (.con (.int 15)) (.cons (.tup (.cons (.var 9) (.cons (.con (.int 0)) .nil))) .nil))) (.cons (.call 92 (.cons (.con (.int 15)) (.cons (.tup (.cons (.var 9) (.cons (.con (.int 9)) .nil))) .nil))) (.cons (.call 92 (.cons (.con (.int 16)) (.cons (.tup (.cons (.var 9) (.cons (.tup (.cons (.con (.int 0)) (.cons (.con (.int 1)) .nil))) .nil))) .nil))) (.cons (.call 92 (.cons (.con (.int 17)) (.cons (.tup (.cons (.var 9) (.cons (.tup .nil) .nil))) .nil))) (.cons (.call 92 (.cons (.con (.int 18)) (.cons (.tup (.cons (.var 9) (.cons (.tup (.cons (.con (.int 0)) (.cons (.con (.int 1)) .nil))) .nil))) .nil))) (.cons (.call 92 (.cons (.con (.int 19)) (.cons (.tup (.cons (.var 9) (.cons (.tup (.cons (.con (.int 0)) .nil)) .nil))) .nil))) (.cons (.call 92 (.cons (.con (.int 22)) (.cons (.tup (.cons (.var 9) (.cons (.tup (.cons (.con (.int 1)) (.cons (.con (.int 1)) .nil))) .nil))) .nil))) (.cons (.call 92 (.cons (.con (.int 23)) (.cons (.tup (.cons (.var 9) (.cons (.tup (.cons (.con (.int 1)) (.cons (.con (.int 1)) .nil))) .nil))) .nil))) .nil))))))))))))) (.cons (.asg [] 3 true (.op .mul (.lst (.cons (.op .mul (.lst (.cons (.var 7) .nil)) (.con (.int 13))) .nil)) (.bi .len (.cons (.var 1) .nil)))) (.cons (.asg [] 4 false (.lst (.cons (.con .non) (.cons (.con (.int 0)) (.cons (.tup .nil) (.cons (.tup (.cons (.tup (.cons (.con (.int 0)) (.cons (.con (.int 2)) .nil))) .nil)) (.cons (.tup (.cons (.tup (.cons (.con (.int 0)) .nil)) (.cons (.tup (.cons (.con (.int 0)) (.cons (.con (.int 1)) .nil))) .nil))) (.cons (.tup (.cons (.con (.int 0)) (.cons (.con (.int 1)) .nil))) (.cons (.con (.str (PySem.Str.ofString "01"))) (.cons (.lst (.cons (.con .non) .nil)) .nil)))))))))) (.cons (.app [] 2 (.op .add (.comp [9] (.nm 9) (.seq (.var 4)) (.con (.bl true)) (.call 92 (.cons (.con (.int 4)) (.cons (.tup (.cons (.var 9) .nil)) .nil)))) (.comp [9] (.nm 9) (.seq (.var 4)) (.con (.bl true)) (.call 92 (.cons (.con (.int 5)) (.cons (.tup (.cons (.var 9) .nil)) .nil)))))) (.cons (.app [] 3 (.op .mul (.lst (.cons (.var 7) .nil)) (.con (.int 16)))) (.cons (.app [] 2 (.op .add (.op .add (.comp [9] (.nm 9) (.seq (.op .add (.call 93 .nil) (.lst (.cons (.tup (.cons (.con (.int 0)) .nil)) (.cons (.tup (.cons (.con (.int 0)) (.cons (.con (.int 1)) (.cons (.con (.int 1)) .nil)))) .nil))))) (.con (.bl true)) (.call 92 (.cons (.con (.int 16)) (.cons (.tup (.cons (.var 8) (.cons (.var 9) .nil))) .nil)))) (.comp [9] (.nm 9) (.seq (.tup (.cons (.con .non) (.cons (.tup .nil) (.cons (.tup (.cons (.con (.int 2)) .nil)) (.cons (.tup (.cons (.con (.int 1)) (.cons (.con (.int 0)) .nil))) (.cons (.con (.int 0)) .nil))))))) (.con (.bl true)) (.call 92 (.cons (.con (.int 19)) (.cons (.tup (.cons (.var 8) (.cons (.var 9) .nil))) .nil))))) (.comp [9] (.nm 9) (.seq (.tup (.cons (.con .non) (.cons (.tup (.cons (.con (.int 2)) .nil)) (.cons (.tup (.cons (.con (.int 1)) (.cons (.con (.int 0)) .nil))) (.cons (.con (.int 0)) (.cons (.tup (.cons (.con (.int 0)) (.cons (.con (.int 0)) .nil))) .nil))))))) (.con (.bl true)) (.call 92 (.cons (.con (.int 17)) (.cons (.tup (.cons (.var 8) (.cons (.var 9) .nil))) .nil)))))) (.cons (.app [] 3 (.op .mul (.lst (.cons (.var 7) .nil)) (.con (.int 25)))) (.cons (.app [] 2 (.op .add (.comp [9] (.nm 9) (.seq (.tup (.cons (.con .non) (.cons (.con (.str (PySem.Str.ofString "0"))) (.cons (.con (.bl true)) (.cons (.tup (.cons (.con (.int 0)) .nil)) .nil)))))) (.con (.bl true)) (.call 92 (.cons (.con (.int 15)) (.cons (.tup (.cons (.var 8) (.cons (.var 9) .nil))) .nil)))) (.comp [9] (.nm 9) (.seq (.tup (.cons (.con (.int 2)) (.cons (.neg (.con (.int 1))) (.cons (.op .pow (.con (.int 10)) (.con (.int 20))) .nil))))) (.con (.bl true)) (.call 92 (.cons (.con (.int 15)) (.cons (.tup (.cons (.var 8) (.cons (.var 9) .nil))) .nil)))))) (.cons (.app [] 3 (.op .add (.op .mul (.lst (.cons (.var 7) .nil)) (.con (.int 4))) (.lst (.cons (.lst (.cons (.con (.str (PySem.Str.ofString "no place"))) (.cons (.con (.int 2)) (.cons (.con (.bl true)) .nil)))) (.cons (.lst (.cons (.con (.str (PySem.Str.ofString "no place"))) (.cons (.neg (.con (.int 1))) (.cons (.con (.bl true)) .nil)))) (.cons (.lst (.cons (.con (.str (PySem.Str.ofString "no place"))) (.cons (.op .pow (.con (.int 10)) (.con (.int 20))) (.cons (.con (.bl true)) .nil)))) .nil)))))) (.cons (.asg [] 5 false (.lst (.cons (.tup (.cons (.con (.int 0)) (.cons (.con (.int 1)) .nil))) (.cons (.tup (.cons (.con (.int 11)) (.cons (.con (.int 1)) .nil))) (.cons (.tup (.cons (.con (.int 1)) (.cons (.con (.int 0)) .nil))) (.cons (.tup (.cons (.con (.int 1)) (.cons (.con (.int 4)) .nil))) (.cons (.tup (.cons (.con (.int 2)) (.cons (.con (.int 16)) .nil))) (.cons (.tup (.cons (.con (.bl true)) (.cons (.con (.int 1)) .nil))) (.cons (.tup (.cons (.con (.int 1)) (.cons (.con (.bl true)) .nil))) (.cons (.tup (.cons (.con (.int 1)) (.cons (.con .non) .nil))) (.cons (.tup (.cons (.con .non) (.cons (.con (.int 1)) .nil))) (.cons (.tup (.cons (.con (.int 1)) (.cons (.neg (.con (.int 1))) .nil))) (.cons (.tup (.cons (.con (.int 10)) (.cons (.op .shl (.con (.int 1)) (.con (.int 1024))) .nil))) .nil))))))))))))) (.cons (.app [] 2 (.comp [9] (.nm 9) (.seq (.var 5)) (.con (.bl true)) (.call 92 (.cons (.con (.int 20)) (.cons (.var 9) .nil))))) (.cons (.app [] 3 (.op .mul (.lst (.cons (.var 7) .nil)) (.con (.int 11)))) (.cons (.asg [] 6 false (.lst (.cons (.con .non) (.cons (.con (.int 0)) (.cons (.tup .nil) (.cons (.tup (.cons (.con (.int 1)) .nil)) (.cons (.tup (.cons (.con (.int 1)) (.cons (.con (.int 2)) (.cons (.con (.int 3)) .nil)))) (.cons (.tup (.cons (.con (.int 1)) (.cons (.con .non) .nil))) (.cons (.tup (.cons (.con (.int 1)) (.cons (.con (.bl true)) .nil))) (.cons (.con (.str (PySem.Str.ofString "12"))) (.cons (.tup (.cons (.tup (.cons (.con (.int 1)) (.cons (.con (.int 2)) .nil))) .nil)) .nil))))))))))) (.cons (.app [] 2 (.op .add (.op .add (.op .add (.comp [9] (.nm 9) (.seq (.var 6)) (.con (.bl true)) (.call 92 (.cons (.con (.int 21)) (.cons (.tup (.cons (.tup (.cons (.con (.int 0)) (.cons (.con (.int 1)) .nil))) (.cons (.var 9) .nil))) .nil)))) (.comp [9] (.nm 9) (.seq (.var 6)) (.con (.bl true)) (.call 92 (.cons (.con (.int 22)) (.cons (.tup (.cons (.var 8) (.cons (.var 9) .nil))) .nil))))) (.comp [9] (.nm 9) (.seq (.var 6)) (.con (.bl true)) (.call 92 (.cons (.con (.int 23)) (.cons (.tup (.cons (.var 8) (.cons (.var 9) .nil))) .nil))))) (.comp [9] (.nm 9) (.seq (.var 6)) (.con (.bl true)) (.call 92 (.cons (.con (.int 27)) (.cons (.tup (.cons (.tup (.cons (.con (.int 1)) (.cons (.con (.int 2)) .nil))) (.cons (.var 9) .nil))) .nil)))))) (.cons (.app [] 3 (.op .mul (.lst (.cons (.var 7) .nil)) (.con (.int 36)))) (.cons (.asg [] 6 false (.lst (.cons (.con .non) (.cons (.con (.int 0)) (.cons (.tup .nil) (.cons (.tup (.cons (.con (.int 1)) (.cons (.con .non) .nil))) (.cons (.tup (.cons (.con (.int 1)) (.cons (.con (.bl true)) .nil))) (.cons (.con (.str (PySem.Str.ofString "12"))) (.cons (.op .mul (.tup (.cons (.con (.int 0)) .nil)) (.con (.int 41))) .nil))))))))) (.cons (.app [] 2 (.op .add (.op .add (.op .add (.op .add (.comp [9] (.nm 9) (.seq (.var 6)) (.con (.bl true)) (.call 92 (.cons (.con (.int 24)) (.cons (.tup (.cons (.tup .nil) (.cons (.var 9) .nil))) .nil)))) (.comp [9] (.nm 9) (.seq (.var 6)) (.con (.bl true)) (.call 92 (.cons (.con (.int 25)) (.cons (.tup (.cons (.var 9) (.cons (.tup .nil) .nil))) .nil))))) (.comp [9] (.nm 9) (.seq (.var 6)) (.con (.bl true)) (.call 92 (.cons (.con (.int 26)) (.cons (.tup (.cons (.var 9) (.cons (.tup (.cons (.con (.int 0)) (.cons (.con (.int 1)) .nil))) .nil))) .nil))))) (.comp [9] (.nm 9) (.seq (.var 6)) (.con (.bl true)) (.call 92 (.cons (.con (.int 27)) (.cons (.tup (.cons (.var 9) (.cons (.tup (.cons (.con (.int 1)) (.cons (.con (.int 2)) .nil))) .nil))) .nil))))) (.comp [9] (.nm 9) (.seq (.tup (.cons (.con .non) (.cons (.tup (.cons (.con (.int 2)) .nil)) (.cons (.tup (.cons (.con (.int 1)) (.cons (.con (.int 0)) .nil))) (.cons (.con (.int 0)) .nil)))))) (.con (.bl true)) (.call 92 (.cons (.con (.int 25)) (.cons (.tup (.cons (.tup (.cons (.con (.int 1)) (.cons (.con (.int 2)) .nil))) (.cons (.var 9) .nil))) .nil)))))) (.cons (.app [] 3 (.op .mul (.lst (.cons (.var 7) .nil)) (.con (.int 32)))) (.cons (.ret [2, 3] (.call 90 (.cons (.var 2) (.cons (.var 3) .nil)))) .nil)))))))))))))))))))))⟩
/-- _law_rows_right: unfit_so bad_so got levels_so its lot_so soft_so own -/
def d97 : Fd := ⟨0, 8, (.cons (.asg [] 0 false (.lst (.cons (.con (.str (PySem.Str.ofString "unfit"))) (.cons (.con (.bl true)) .nil)))) (.cons (.asg [] 1 false (.lst (.cons (.con .non) (.cons (.con (.int 0)) (.cons (.tup .nil) (.cons (.tup (.cons (.tup .nil) .nil)) (.cons (.tup (.cons (.tup (.cons (.con (.int 1)) (.cons (.con .non) .nil))) .nil)) (.cons (.tup (.cons (.tup (.cons (.con (.int 1)) .nil)) (.cons (.tup (.cons (.con (.int 1)) (.cons (.con (.int 2)) .nil))) .nil))) (.cons (.tup (.cons (.tup (.cons (.con (.int 1)) (.cons (.con (.bl true)) .nil))) .nil)) (.cons (.tup (.cons (.con (.int 1)) (.cons (.con (.int 2)) .nil))) (.cons (.con (.str (PySem.Str.ofString "12"))) (.cons (.tup (.cons (.op .mul (.tup (.cons (.con (.int 0)) .nil)) (.con (.int 13))) .nil)) (.cons (.op .mul (.tup (.cons (.tup (.cons (.con (.int 0)) .nil)) .nil)) (.con (.int 41))) .nil))))))))))))) (.cons (.asg [] 2 true (.lst (.cons (.op .add (.op .add (.comp [7] (.nm 7) (.seq (.var 1)) (.con (.bl true)) (.call 92 (.cons (.con (.int 30)) (.cons (.tup (.cons (.tup .nil) (.cons (.var 7) .nil))) .nil)))) (.comp [7] (.nm 7) (.seq (.var 1)) (.con (.bl true)) (.call 92 (.cons (.con (.int 34)) (.cons (.tup (.cons (.tup .nil) (.cons (.var 7) (.cons (.con .non) .nil)))) .nil))))) (.comp [7] (.nm 7) (.seq (.var 1)) (.con (.bl true)) (.call 92 (.cons (.con (.int 35)) (.cons (.tup (.cons (.var 7) .nil)) .nil))))) .nil))) (.cons (.asg [] 3 false (.lst (.cons (.con .non) (.cons (.con (.int 0)) (.cons (.tup (.cons (.tup (.cons (.con (.int 1)) .nil)) .nil)) (.cons (.tup (.cons (.tup (.cons (.con (.int 1)) (.cons (.con (.int 2)) (.cons (.con (.int 3)) .nil)))) .nil)) (.cons (.tup (.cons (.tup (.cons (.con (.int 1)) (.cons (.con .non) .nil))) .nil)) (.cons (.tup (.cons (.con (.int 1)) (.cons (.con (.int 2)) .nil))) (.cons (.op .mul (.tup (.cons (.tup (.cons (.con (.int 0)) (.cons (.con (.int 0)) .nil))) .nil)) (.con (.int 41))) .nil))))))))) (.cons (.app [] 2 (.op .add (.comp [7] (.nm 7) (.seq (.var 3)) (.con (.bl true)) (.call 92 (.cons (.con (.int 30)) (.cons (.tup (.cons (.var 7) (.cons (.tup (.cons (.tup (.cons (.con (.int 1)) (.cons (.con (.int 2)) .nil))) .nil)) .nil))) .nil)))) (.comp [7] (.nm 7) (.seq (.var 3)) (.con (.bl true)) (.call 92 (.cons (.con (.int 34)) (.cons (.tup (.cons (.var 7) (.cons (.tup (.cons (.tup (.cons (.con (.int 1)) (.cons (.con (.int 2)) .nil))) .nil)) (.cons (.con .non) .nil)))) .nil)))))) (.cons (.par2 [] 5 false (.lst (.cons (.lst (.cons (.con (.int 0)) (.cons (.con (.int 1)) .nil))) (.cons (.lst (.cons (.con (.int 1)) (.cons (.con (.int 0)) .nil))) .nil))) 6 false (.lst (.cons (.lst (.cons (.con (.int 1)) (.cons (.con (.int 0)) .nil))) (.cons (.lst (.cons (.con (.int 0)) (.cons (.con (.int 1)) .nil))) (.cons (.lst (.cons (.con (.int 1)) (.cons (.con (.int 0)) .nil))) .nil))))) (.cons (.asg [] 4 false (.lst (.cons (.call 53 (.cons (.var 5) .nil)) (.cons (.call 52 (.cons (.var 6) .nil)) (.cons (.call 59 (.cons (.var 5) (.cons (.lst (.cons (.con (.int 0)) .nil)) .nil))) (.cons (.call 58 (.cons (.var 5) (.cons (.lst (.cons (.con (.int 1)) (.cons (.con (.int 0)) .nil))) .nil))) (.cons (.call 72 (.cons (.slH (.var 6) (.con (.int 1))) (.cons (.var 5) .nil))) (.cons (.call 61 (.cons (.var 5) .nil)) (.cons (.call 55 (.cons (.var 5) (.cons (.con (.int 0)) .nil))) .nil))))))))) (.cons (.ret [] (.call 90 (.cons (.op .add (.peek 2) (.lst (.cons (.var 5) (.cons (.var 6) (.cons (.bi .len (.cons (.var 4) .nil)) .nil))))) (.cons (.lst (.cons (.op .mul (.lst (.cons (.var 0) .nil)) (.con (.int 33))) (.cons (.op .mul (.lst (.cons (.var 0) .nil)) (.con (.int 14))) (.cons (.lst (.cons (.lst (.cons (.con (.int 0)) (.cons (.con (.int 1)) .nil))) (.cons (.lst (.cons (.con (.int 1)) (.cons (.con (.int 0)) .nil))) .nil))) (.cons (.lst (.cons (.lst (.cons (.con (.int 1)) (.cons (.con (.int 0)) .nil))) (.cons (.lst (.cons (.con (.int 0)) (.cons (.con (.int 1)) .nil))) (.cons (.lst (.cons (.con (.int 1)) (.cons (.con (.int 0)) .nil))) .nil)))) (.cons (.con (.int 7)) .nil)))))) .nil)))) .nil))))))))⟩
/-- law: script tin part_so -/
def d98 : Fd := ⟨1, 2, (.cons (.asg [] 1 false (.call 87 (.cons (.call 89 (.cons (.var 0) (.cons (.con (.int 1)) .nil))) (.cons (.con (.int 0)) .nil)))) (.cons (.asg [] 2 false (.call 88 (.cons (.var 1) (.cons (.con (.int 3)) .nil)))) (.cons (.ret [] (.and (.call 97 .nil) (.and (.call 95 (.cons (.var 2) .nil)) (.call 96 (.cons (.var 2) .nil))))) .nil)))⟩
def prog : List Fd := [d0, d1, d2, d3, d4, d5, d6, d7, d8, d9, d10, d11, d12, d13, d14, d15, d16, d17, d18, d19, d20, d21, d22, d23, d24, d25, d26, d27, d28, d29, d30, d31, d32, d33, d34, d35, d36, d37, d38, d39, d40, d41, d42, d43, d44, d45, d46, d47, d48, d49, d50, d51, d52, d53, d54, d55, d56, d57, d58, d59, d60, d61, d62, d63, d64, d65, d66, d67, d68, d69, d70, d71, d72, d73, d74, d75, d76, d77, d78, d79, d80, d81, d82, d83, d84, d85, d86, d87, d88, d89, d90, d91, d92, d93, d94, d95, d96, d97, d98]
def kws : Kt := ⟨[], [(PySem.Str.ofString "is_number", 1), (PySem.Str.ofString "is_from", 2), (PySem.Str.ofString "is_within", 3), (PySem.Str.ofString "is_long", 2), (PySem.Str.ofString "tupled", 1), (PySem.Str.ofString "ascends", 1), (PySem.Str.ofString "set_of", 1), (PySem.Str.ofString "are_numbers", 1), (PySem.Str.ofString "is_set_below", 2), (PySem.Str.ofString "are_unlike", 2), (PySem.Str.ofString "gcd_of", 1), (PySem.Str.ofString "dotted", 2), (PySem.Str.ofString "is_plan", 1), (PySem.Str.ofString "sure_plan", 1), (PySem.Str.ofString "sure_plans", 1), (PySem.Str.ofString "sure_places", 2), (PySem.Str.ofString "sure_number", 1), (PySem.Str.ofString "sure_place", 2), (PySem.Str.ofString "is_order_of", 2), (PySem.Str.ofString "sure_order", 2), (PySem.Str.ofString "is_row", 1), (PySem.Str.ofString "sure_row", 1), (PySem.Str.ofString "is_hold_of", 2), (PySem.Str.ofString "sure_hold", 2), (PySem.Str.ofString "places_unlike", 2), (PySem.Str.ofString "plan_turned", 2), (PySem.Str.ofString "plan_keeps", 2), (PySem.Str.ofString "hold_of", 2), (PySem.Str.ofString "end_of", 3), (PySem.Str.ofString "place_sums", 2), (PySem.Str.ofString "is_hold", 2), (PySem.Str.ofString "is_order", 2), (PySem.Str.ofString "unlike", 2), (PySem.Str.ofString "apart", 2), (PySem.Str.ofString "turned", 2), (PySem.Str.ofString "agreed", 2), (PySem.Str.ofString "keeps", 2), (PySem.Str.ofString "between", 3), (PySem.Str.ofString "mixed", 3), (PySem.Str.ofString "number_by", 1), (PySem.Str.ofString "plan_by", 2), (PySem.Str.ofString "plan_number", 1), (PySem.Str.ofString "plan_of", 2), (PySem.Str.ofString "end_agreed", 3), (PySem.Str.ofString "sum_of", 1), (PySem.Str.ofString "is_lot", 1), (PySem.Str.ofString "sure_lot", 1), (PySem.Str.ofString "lot_by", 1), (PySem.Str.ofString "live_in", 1), (PySem.Str.ofString "part_of", 2), (PySem.Str.ofString "nearest_in", 2), (PySem.Str.ofString "folded", 2), (PySem.Str.ofString "lot_of", 1), (PySem.Str.ofString "live", 1), (PySem.Str.ofString "held_part", 2), (PySem.Str.ofString "halves", 2), (PySem.Str.ofString "nearest", 2), (PySem.Str.ofString "turned_lot", 2), (PySem.Str.ofString "moved_lot", 2), (PySem.Str.ofString "shadow", 2), (PySem.Str.ofString "narrowed", 1), (PySem.Str.ofString "rest", 1), (PySem.Str.ofString "lot_at", 2), (PySem.Str.ofString "lot_number", 1), (PySem.Str.ofString "lowered", 1), (PySem.Str.ofString "pressed", 3), (PySem.Str.ofString "lifted", 3), (PySem.Str.ofString "added_up", 3), (PySem.Str.ofString "first_not_zero", 1), (PySem.Str.ofString "pressed_level", 3), (PySem.Str.ofString "parted", 2), (PySem.Str.ofString "sure_vectors", 2), (PySem.Str.ofString "parting", 2), (PySem.Str.ofString "is_parting", 3), (PySem.Str.ofString "rank_of", 1), (PySem.Str.ofString "rank", 1), (PySem.Str.ofString "sure_prices", 2), (PySem.Str.ofString "best_by", 2), (PySem.Str.ofString "held_prices", 2), (PySem.Str.ofString "worth", 2), (PySem.Str.ofString "best", 2), (PySem.Str.ofString "gap", 2), (PySem.Str.ofString "alone_prices", 1), (PySem.Str.ofString "holding", 2), (PySem.Str.ofString "turned_prices", 2), (PySem.Str.ofString "moved_prices", 2), (PySem.Str.ofString "added_prices", 2), (PySem.Str.ofString "_law_box", 2), (PySem.Str.ofString "_law_take", 2), (PySem.Str.ofString "_law_cells", 2), (PySem.Str.ofString "_law_same", 2), (PySem.Str.ofString "_law_unmarked", 1), (PySem.Str.ofString "_law_heard", 2), (PySem.Str.ofString "_law_no_plans", 0), (PySem.Str.ofString "_law_no_lots", 0), (PySem.Str.ofString "_law_plans_right", 1), (PySem.Str.ofString "_law_lots_right", 1), (PySem.Str.ofString "_law_rows_right", 0), (PySem.Str.ofString "law", 1)]⟩
end K70

end
section
set_option Elab.async false
set_option linter.all false
set_option maxRecDepth 100000
set_option maxHeartbeats 0
namespace K70
open Ev PySem
def top (i : Nat) : PySem.Stmt := PySem.Challenge.pw_fromanytoany_k70_plans_lots_prices_refus.main.body.getD i (.Pass ⟨0, 0, 0, 0⟩)
def fns : List FnE := [⟨PySem.Str.ofString "is_number", 1⟩, ⟨PySem.Str.ofString "is_from", 2⟩, ⟨PySem.Str.ofString "is_within", 3⟩, ⟨PySem.Str.ofString "is_long", 2⟩, ⟨PySem.Str.ofString "tupled", 1⟩, ⟨PySem.Str.ofString "ascends", 1⟩, ⟨PySem.Str.ofString "set_of", 1⟩, ⟨PySem.Str.ofString "are_numbers", 1⟩, ⟨PySem.Str.ofString "is_set_below", 2⟩, ⟨PySem.Str.ofString "are_unlike", 2⟩, ⟨PySem.Str.ofString "gcd_of", 1⟩, ⟨PySem.Str.ofString "dotted", 2⟩, ⟨PySem.Str.ofString "is_plan", 1⟩, ⟨PySem.Str.ofString "sure_plan", 1⟩, ⟨PySem.Str.ofString "sure_plans", 1⟩, ⟨PySem.Str.ofString "sure_places", 2⟩, ⟨PySem.Str.ofString "sure_number", 1⟩, ⟨PySem.Str.ofString "sure_place", 2⟩, ⟨PySem.Str.ofString "is_order_of", 2⟩, ⟨PySem.Str.ofString "sure_order", 2⟩, ⟨PySem.Str.ofString "is_row", 1⟩, ⟨PySem.Str.ofString "sure_row", 1⟩, ⟨PySem.Str.ofString "is_hold_of", 2⟩, ⟨PySem.Str.ofString "sure_hold", 2⟩, ⟨PySem.Str.ofString "places_unlike", 2⟩, ⟨PySem.Str.ofString "plan_turned", 2⟩, ⟨PySem.Str.ofString "plan_keeps", 2⟩, ⟨PySem.Str.ofString "hold_of", 2⟩, ⟨PySem.Str.ofString "end_of", 3⟩, ⟨PySem.Str.ofString "place_sums", 2⟩, ⟨PySem.Str.ofString "is_hold", 2⟩, ⟨PySem.Str.ofString "is_order", 2⟩, ⟨PySem.Str.ofString "unlike", 2⟩, ⟨PySem.Str.ofString "apart", 2⟩, ⟨PySem.Str.ofString "turned", 2⟩, ⟨PySem.Str.ofString "agreed", 2⟩, ⟨PySem.Str.ofString "keeps", 2⟩, ⟨PySem.Str.ofString "between", 3⟩, ⟨PySem.Str.ofString "mixed", 3⟩, ⟨PySem.Str.ofString "number_by", 1⟩, ⟨PySem.Str.ofString "plan_by", 2⟩, ⟨PySem.Str.ofString "plan_number", 1⟩, ⟨PySem.Str.ofString "plan_of", 2⟩, ⟨PySem.Str.ofString "end_agreed", 3⟩, ⟨PySem.Str.ofString "sum_of", 1⟩, ⟨PySem.Str.ofString "is_lot", 1⟩, ⟨PySem.Str.ofString "sure_lot", 1⟩, ⟨PySem.Str.ofString "lot_by", 1⟩, ⟨PySem.Str.ofString "live_in", 1⟩, ⟨PySem.Str.ofString "part_of", 2⟩, ⟨PySem.Str.ofString "nearest_in", 2⟩, ⟨PySem.Str.ofString "folded", 2⟩, ⟨PySem.Str.ofString "lot_of", 1⟩, ⟨PySem.Str.ofString "live", 1⟩, ⟨PySem.Str.ofString "held_part", 2⟩, ⟨PySem.Str.ofString "halves", 2⟩, ⟨PySem.Str.ofString "nearest", 2⟩, ⟨PySem.Str.ofString "turned_lot", 2⟩, ⟨PySem.Str.ofString "moved_lot", 2⟩, ⟨PySem.Str.ofString "shadow", 2⟩, ⟨PySem.Str.ofString "narrowed", 1⟩, ⟨PySem.Str.ofString "rest", 1⟩, ⟨PySem.Str.ofString "lot_at", 2⟩, ⟨PySem.Str.ofString "lot_number", 1⟩, ⟨PySem.Str.ofString "lowered", 1⟩, ⟨PySem.Str.ofString "pressed", 3⟩, ⟨PySem.Str.ofString "lifted", 3⟩, ⟨PySem.Str.ofString "added_up", 3⟩, ⟨PySem.Str.ofString "first_not_zero", 1⟩, ⟨PySem.Str.ofString "pressed_level", 3⟩, ⟨PySem.Str.ofString "parted", 2⟩, ⟨PySem.Str.ofString "sure_vectors", 2⟩, ⟨PySem.Str.ofString "parting", 2⟩, ⟨PySem.Str.ofString "is_parting", 3⟩, ⟨PySem.Str.ofString "rank_of", 1⟩, ⟨PySem.Str.ofString "rank", 1⟩, ⟨PySem.Str.ofString "sure_prices", 2⟩, ⟨PySem.Str.ofString "best_by", 2⟩, ⟨PySem.Str.ofString "held_prices", 2⟩, ⟨PySem.Str.ofString "worth", 2⟩, ⟨PySem.Str.ofString "best", 2⟩, ⟨PySem.Str.ofString "gap", 2⟩, ⟨PySem.Str.ofString "alone_prices", 1⟩, ⟨PySem.Str.ofString "holding", 2⟩, ⟨PySem.Str.ofString "turned_prices", 2⟩, ⟨PySem.Str.ofString "moved_prices", 2⟩, ⟨PySem.Str.ofString "added_prices", 2⟩, ⟨PySem.Str.ofString "_law_box", 2⟩, ⟨PySem.Str.ofString "_law_take", 2⟩, ⟨PySem.Str.ofString "_law_cells", 2⟩, ⟨PySem.Str.ofString "_law_same", 2⟩, ⟨PySem.Str.ofString "_law_unmarked", 1⟩, ⟨PySem.Str.ofString "_law_heard", 2⟩, ⟨PySem.Str.ofString "_law_no_plans", 0⟩, ⟨PySem.Str.ofString "_law_no_lots", 0⟩, ⟨PySem.Str.ofString "_law_plans_right", 1⟩, ⟨PySem.Str.ofString "_law_lots_right", 1⟩, ⟨PySem.Str.ofString "_law_rows_right", 0⟩, ⟨PySem.Str.ofString "law", 1⟩]
def ds : List Dd := [⟨PySem.Str.ofString "is_number", top 7, [PySem.Str.ofString "thing"], 1⟩, ⟨PySem.Str.ofString "is_from", top 8, [PySem.Str.ofString "thing", PySem.Str.ofString "least"], 2⟩, ⟨PySem.Str.ofString "is_within", top 9, [PySem.Str.ofString "thing", PySem.Str.ofString "least", PySem.Str.ofString "most"], 3⟩, ⟨PySem.Str.ofString "is_long", top 10, [PySem.Str.ofString "thing", PySem.Str.ofString "length"], 2⟩, ⟨PySem.Str.ofString "tupled", top 11, [PySem.Str.ofString "value", PySem.Str.ofString "own"], 1⟩, ⟨PySem.Str.ofString "ascends", top 12, [PySem.Str.ofString "row", PySem.Str.ofString "k"], 1⟩, ⟨PySem.Str.ofString "set_of", top 13, [PySem.Str.ofString "row"], 1⟩, ⟨PySem.Str.ofString "are_numbers", top 14, [PySem.Str.ofString "thing", PySem.Str.ofString "own"], 1⟩, ⟨PySem.Str.ofString "is_set_below", top 15, [PySem.Str.ofString "thing", PySem.Str.ofString "many", PySem.Str.ofString "own"], 2⟩, ⟨PySem.Str.ofString "are_unlike", top 16, [PySem.Str.ofString "thing", PySem.Str.ofString "many"], 2⟩, ⟨PySem.Str.ofString "gcd_of", top 17, [PySem.Str.ofString "numbers", PySem.Str.ofString "found", PySem.Str.ofString "own"], 1⟩, ⟨PySem.Str.ofString "dotted", top 18, [PySem.Str.ofString "one", PySem.Str.ofString "other", PySem.Str.ofString "a", PySem.Str.ofString "b"], 2⟩, ⟨PySem.Str.ofString "is_plan", top 21, [PySem.Str.ofString "thing", PySem.Str.ofString "own"], 1⟩, ⟨PySem.Str.ofString "sure_plan", top 22, [PySem.Str.ofString "plan", PySem.Str.ofString "own"], 1⟩, ⟨PySem.Str.ofString "sure_plans", top 23, [PySem.Str.ofString "plans", PySem.Str.ofString "found", PySem.Str.ofString "own"], 1⟩, ⟨PySem.Str.ofString "sure_places", top 24, [PySem.Str.ofString "places", PySem.Str.ofString "many", PySem.Str.ofString "own"], 2⟩, ⟨PySem.Str.ofString "sure_number", top 25, [PySem.Str.ofString "place"], 1⟩, ⟨PySem.Str.ofString "sure_place", top 26, [PySem.Str.ofString "place", PySem.Str.ofString "many"], 2⟩, ⟨PySem.Str.ofString "is_order_of", top 27, [PySem.Str.ofString "thing", PySem.Str.ofString "many"], 2⟩, ⟨PySem.Str.ofString "sure_order", top 28, [PySem.Str.ofString "order", PySem.Str.ofString "many", PySem.Str.ofString "own"], 2⟩, ⟨PySem.Str.ofString "is_row", top 29, [PySem.Str.ofString "thing", PySem.Str.ofString "own"], 1⟩, ⟨PySem.Str.ofString "sure_row", top 30, [PySem.Str.ofString "row", PySem.Str.ofString "own"], 1⟩, ⟨PySem.Str.ofString "is_hold_of", top 31, [PySem.Str.ofString "thing", PySem.Str.ofString "many", PySem.Str.ofString "place", PySem.Str.ofString "bit", PySem.Str.ofString "own"], 2⟩, ⟨PySem.Str.ofString "sure_hold", top 32, [PySem.Str.ofString "hold", PySem.Str.ofString "many", PySem.Str.ofString "own"], 2⟩, ⟨PySem.Str.ofString "places_unlike", top 33, [PySem.Str.ofString "plan", PySem.Str.ofString "other", PySem.Str.ofString "place", PySem.Str.ofString "bit"], 2⟩, ⟨PySem.Str.ofString "plan_turned", top 34, [PySem.Str.ofString "plan", PySem.Str.ofString "places", PySem.Str.ofString "place", PySem.Str.ofString "bit"], 2⟩, ⟨PySem.Str.ofString "plan_keeps", top 35, [PySem.Str.ofString "plan", PySem.Str.ofString "hold", PySem.Str.ofString "place", PySem.Str.ofString "bit"], 2⟩, ⟨PySem.Str.ofString "hold_of", top 36, [PySem.Str.ofString "plan", PySem.Str.ofString "other", PySem.Str.ofString "place", PySem.Str.ofString "bit"], 2⟩, ⟨PySem.Str.ofString "end_of", top 37, [PySem.Str.ofString "order", PySem.Str.ofString "plan", PySem.Str.ofString "other", PySem.Str.ofString "found"], 3⟩, ⟨PySem.Str.ofString "place_sums", top 38, [PySem.Str.ofString "plans", PySem.Str.ofString "times", PySem.Str.ofString "own", PySem.Str.ofString "bit", PySem.Str.ofString "many"], 2⟩, ⟨PySem.Str.ofString "is_hold", top 39, [PySem.Str.ofString "many", PySem.Str.ofString "thing"], 2⟩, ⟨PySem.Str.ofString "is_order", top 40, [PySem.Str.ofString "many", PySem.Str.ofString "thing"], 2⟩, ⟨PySem.Str.ofString "unlike", top 41, [PySem.Str.ofString "plan", PySem.Str.ofString "other", PySem.Str.ofString "own", PySem.Str.ofString "far"], 2⟩, ⟨PySem.Str.ofString "apart", top 42, [PySem.Str.ofString "plan", PySem.Str.ofString "other", PySem.Str.ofString "own", PySem.Str.ofString "far"], 2⟩, ⟨PySem.Str.ofString "turned", top 43, [PySem.Str.ofString "plan", PySem.Str.ofString "places", PySem.Str.ofString "own"], 2⟩, ⟨PySem.Str.ofString "agreed", top 44, [PySem.Str.ofString "plan", PySem.Str.ofString "other", PySem.Str.ofString "own", PySem.Str.ofString "far"], 2⟩, ⟨PySem.Str.ofString "keeps", top 45, [PySem.Str.ofString "plan", PySem.Str.ofString "hold", PySem.Str.ofString "own"], 2⟩, ⟨PySem.Str.ofString "between", top 46, [PySem.Str.ofString "plan", PySem.Str.ofString "other", PySem.Str.ofString "far", PySem.Str.ofString "own", PySem.Str.ofString "two", PySem.Str.ofString "third"], 3⟩, ⟨PySem.Str.ofString "mixed", top 47, [PySem.Str.ofString "plan", PySem.Str.ofString "other", PySem.Str.ofString "places", PySem.Str.ofString "told", PySem.Str.ofString "own", PySem.Str.ofString "far", PySem.Str.ofString "place", PySem.Str.ofString "bit"], 3⟩, ⟨PySem.Str.ofString "number_by", top 48, [PySem.Str.ofString "plan", PySem.Str.ofString "found", PySem.Str.ofString "bit"], 1⟩, ⟨PySem.Str.ofString "plan_by", top 49, [PySem.Str.ofString "number", PySem.Str.ofString "many", PySem.Str.ofString "place"], 2⟩, ⟨PySem.Str.ofString "plan_number", top 50, [PySem.Str.ofString "plan"], 1⟩, ⟨PySem.Str.ofString "plan_of", top 51, [PySem.Str.ofString "number", PySem.Str.ofString "many"], 2⟩, ⟨PySem.Str.ofString "end_agreed", top 52, [PySem.Str.ofString "order", PySem.Str.ofString "plan", PySem.Str.ofString "other", PySem.Str.ofString "own", PySem.Str.ofString "far"], 3⟩, ⟨PySem.Str.ofString "sum_of", top 53, [PySem.Str.ofString "row", PySem.Str.ofString "own"], 1⟩, ⟨PySem.Str.ofString "is_lot", top 57, [PySem.Str.ofString "thing"], 1⟩, ⟨PySem.Str.ofString "sure_lot", top 58, [PySem.Str.ofString "lot", PySem.Str.ofString "own"], 1⟩, ⟨PySem.Str.ofString "lot_by", top 59, [PySem.Str.ofString "plans"], 1⟩, ⟨PySem.Str.ofString "live_in", top 60, [PySem.Str.ofString "lot", PySem.Str.ofString "place", PySem.Str.ofString "own"], 1⟩, ⟨PySem.Str.ofString "part_of", top 61, [PySem.Str.ofString "lot", PySem.Str.ofString "hold", PySem.Str.ofString "own"], 2⟩, ⟨PySem.Str.ofString "nearest_in", top 62, [PySem.Str.ofString "plans", PySem.Str.ofString "plan", PySem.Str.ofString "others", PySem.Str.ofString "far", PySem.Str.ofString "own", PySem.Str.ofString "many"], 2⟩, ⟨PySem.Str.ofString "folded", top 63, [PySem.Str.ofString "plan", PySem.Str.ofString "places", PySem.Str.ofString "place"], 2⟩, ⟨PySem.Str.ofString "lot_of", top 64, [PySem.Str.ofString "row"], 1⟩, ⟨PySem.Str.ofString "live", top 65, [PySem.Str.ofString "lot"], 1⟩, ⟨PySem.Str.ofString "held_part", top 66, [PySem.Str.ofString "lot", PySem.Str.ofString "hold", PySem.Str.ofString "own"], 2⟩, ⟨PySem.Str.ofString "halves", top 67, [PySem.Str.ofString "lot", PySem.Str.ofString "place", PySem.Str.ofString "own"], 2⟩, ⟨PySem.Str.ofString "nearest", top 68, [PySem.Str.ofString "lot", PySem.Str.ofString "plan", PySem.Str.ofString "own", PySem.Str.ofString "far"], 2⟩, ⟨PySem.Str.ofString "turned_lot", top 69, [PySem.Str.ofString "lot", PySem.Str.ofString "places", PySem.Str.ofString "own", PySem.Str.ofString "told", PySem.Str.ofString "plan"], 2⟩, ⟨PySem.Str.ofString "moved_lot", top 70, [PySem.Str.ofString "lot", PySem.Str.ofString "order", PySem.Str.ofString "own", PySem.Str.ofString "told", PySem.Str.ofString "plan"], 2⟩, ⟨PySem.Str.ofString "shadow", top 71, [PySem.Str.ofString "lot", PySem.Str.ofString "places", PySem.Str.ofString "own", PySem.Str.ofString "told", PySem.Str.ofString "plan"], 2⟩, ⟨PySem.Str.ofString "narrowed", top 72, [PySem.Str.ofString "lot", PySem.Str.ofString "own", PySem.Str.ofString "places", PySem.Str.ofString "plan"], 1⟩, ⟨PySem.Str.ofString "rest", top 73, [PySem.Str.ofString "lot", PySem.Str.ofString "own", PySem.Str.ofString "many", PySem.Str.ofString "known", PySem.Str.ofString "found", PySem.Str.ofString "plan", PySem.Str.ofString "number"], 1⟩, ⟨PySem.Str.ofString "lot_at", top 74, [PySem.Str.ofString "many", PySem.Str.ofString "number", PySem.Str.ofString "own"], 2⟩, ⟨PySem.Str.ofString "lot_number", top 75, [PySem.Str.ofString "lot", PySem.Str.ofString "own", PySem.Str.ofString "plan"], 1⟩, ⟨PySem.Str.ofString "lowered", top 79, [PySem.Str.ofString "row", PySem.Str.ofString "shared", PySem.Str.ofString "own"], 1⟩, ⟨PySem.Str.ofString "pressed", top 80, [PySem.Str.ofString "row", PySem.Str.ofString "by", PySem.Str.ofString "place", PySem.Str.ofString "k", PySem.Str.ofString "own"], 3⟩, ⟨PySem.Str.ofString "lifted", top 81, [PySem.Str.ofString "factors", PySem.Str.ofString "by", PySem.Str.ofString "place", PySem.Str.ofString "rest", PySem.Str.ofString "found", PySem.Str.ofString "own", PySem.Str.ofString "k"], 3⟩, ⟨PySem.Str.ofString "added_up", top 82, [PySem.Str.ofString "rows", PySem.Str.ofString "times", PySem.Str.ofString "length", PySem.Str.ofString "k", PySem.Str.ofString "row", PySem.Str.ofString "own"], 3⟩, ⟨PySem.Str.ofString "first_not_zero", top 83, [PySem.Str.ofString "rows", PySem.Str.ofString "number", PySem.Str.ofString "row", PySem.Str.ofString "own"], 1⟩, ⟨PySem.Str.ofString "pressed_level", top 84, [PySem.Str.ofString "level", PySem.Str.ofString "rows", PySem.Str.ofString "number", PySem.Str.ofString "by", PySem.Str.ofString "place", PySem.Str.ofString "near", PySem.Str.ofString "far", PySem.Str.ofString "told", PySem.Str.ofString "whole", PySem.Str.ofString "first", PySem.Str.ofString "times", PySem.Str.ofString "surplus", PySem.Str.ofString "size", PySem.Str.ofString "shared", PySem.Str.ofString "own", PySem.Str.ofString "k", PySem.Str.ofString "row"], 3⟩, ⟨PySem.Str.ofString "parted", top 85, [PySem.Str.ofString "level", PySem.Str.ofString "rows", PySem.Str.ofString "number", PySem.Str.ofString "length", PySem.Str.ofString "factors", PySem.Str.ofString "row", PySem.Str.ofString "told", PySem.Str.ofString "most", PySem.Str.ofString "later", PySem.Str.ofString "own", PySem.Str.ofString "k", PySem.Str.ofString "minus"], 2⟩, ⟨PySem.Str.ofString "sure_vectors", top 86, [PySem.Str.ofString "level", PySem.Str.ofString "rows", PySem.Str.ofString "near", PySem.Str.ofString "far", PySem.Str.ofString "own"], 2⟩, ⟨PySem.Str.ofString "parting", top 87, [PySem.Str.ofString "level", PySem.Str.ofString "rows", PySem.Str.ofString "near", PySem.Str.ofString "far"], 2⟩, ⟨PySem.Str.ofString "is_parting", top 88, [PySem.Str.ofString "level", PySem.Str.ofString "rows", PySem.Str.ofString "thing", PySem.Str.ofString "near", PySem.Str.ofString "far", PySem.Str.ofString "own"], 3⟩, ⟨PySem.Str.ofString "rank_of", top 89, [PySem.Str.ofString "rows", PySem.Str.ofString "number", PySem.Str.ofString "found", PySem.Str.ofString "left", PySem.Str.ofString "by", PySem.Str.ofString "place", PySem.Str.ofString "own", PySem.Str.ofString "k"], 1⟩, ⟨PySem.Str.ofString "rank", top 90, [PySem.Str.ofString "rows"], 1⟩, ⟨PySem.Str.ofString "sure_prices", top 92, [PySem.Str.ofString "prices", PySem.Str.ofString "many", PySem.Str.ofString "own"], 2⟩, ⟨PySem.Str.ofString "best_by", top 93, [PySem.Str.ofString "lot", PySem.Str.ofString "prices", PySem.Str.ofString "worths", PySem.Str.ofString "most", PySem.Str.ofString "plan", PySem.Str.ofString "own"], 2⟩, ⟨PySem.Str.ofString "held_prices", top 94, [PySem.Str.ofString "hold", PySem.Str.ofString "prices", PySem.Str.ofString "most", PySem.Str.ofString "found", PySem.Str.ofString "place", PySem.Str.ofString "bit", PySem.Str.ofString "own"], 2⟩, ⟨PySem.Str.ofString "worth", top 95, [PySem.Str.ofString "plan", PySem.Str.ofString "prices", PySem.Str.ofString "own"], 2⟩, ⟨PySem.Str.ofString "best", top 96, [PySem.Str.ofString "lot", PySem.Str.ofString "prices", PySem.Str.ofString "own"], 2⟩, ⟨PySem.Str.ofString "gap", top 97, [PySem.Str.ofString "lot", PySem.Str.ofString "prices", PySem.Str.ofString "own", PySem.Str.ofString "told", PySem.Str.ofString "worths", PySem.Str.ofString "plan"], 2⟩, ⟨PySem.Str.ofString "alone_prices", top 98, [PySem.Str.ofString "plan", PySem.Str.ofString "bit"], 1⟩, ⟨PySem.Str.ofString "holding", top 99, [PySem.Str.ofString "hold", PySem.Str.ofString "prices", PySem.Str.ofString "own"], 2⟩, ⟨PySem.Str.ofString "turned_prices", top 100, [PySem.Str.ofString "prices", PySem.Str.ofString "places", PySem.Str.ofString "own", PySem.Str.ofString "told", PySem.Str.ofString "place", PySem.Str.ofString "price"], 2⟩, ⟨PySem.Str.ofString "moved_prices", top 101, [PySem.Str.ofString "prices", PySem.Str.ofString "order", PySem.Str.ofString "own"], 2⟩, ⟨PySem.Str.ofString "added_prices", top 102, [PySem.Str.ofString "prices", PySem.Str.ofString "other", PySem.Str.ofString "own", PySem.Str.ofString "one", PySem.Str.ofString "two"], 2⟩, ⟨PySem.Str.ofString "_law_box", top 104, [PySem.Str.ofString "script", PySem.Str.ofString "k", PySem.Str.ofString "bit_so"], 2⟩, ⟨PySem.Str.ofString "_law_take", top 105, [PySem.Str.ofString "tin", PySem.Str.ofString "below_so", PySem.Str.ofString "once_so", PySem.Str.ofString "wide_so", PySem.Str.ofString "twice_so", PySem.Str.ofString "drawn_so"], 2⟩, ⟨PySem.Str.ofString "_law_cells", top 106, [PySem.Str.ofString "script", PySem.Str.ofString "most_so", PySem.Str.ofString "cells_so", PySem.Str.ofString "k", PySem.Str.ofString "bit_so", PySem.Str.ofString "at_so"], 2⟩, ⟨PySem.Str.ofString "_law_same", top 107, [PySem.Str.ofString "got", PySem.Str.ofString "due", PySem.Str.ofString "mine", PySem.Str.ofString "its"], 2⟩, ⟨PySem.Str.ofString "_law_unmarked", top 108, [PySem.Str.ofString "told_so"], 1⟩, ⟨PySem.Str.ofString "_law_heard", top 109, [PySem.Str.ofString "door_so", PySem.Str.ofString "goods_so", PySem.Str.ofString "ones_so", PySem.Str.ofString "twos_so", PySem.Str.ofString "threes_so", PySem.Str.ofString "slip_a", PySem.Str.ofString "slip_b", PySem.Str.ofString "caught", PySem.Str.ofString "told_so"], 2⟩, ⟨PySem.Str.ofString "_law_no_plans", top 110, [], 0⟩, ⟨PySem.Str.ofString "_law_no_lots", top 111, [], 0⟩, ⟨PySem.Str.ofString "_law_plans_right", top 112, [PySem.Str.ofString "part_so", PySem.Str.ofString "bad_so", PySem.Str.ofString "got", PySem.Str.ofString "due", PySem.Str.ofString "places_so", PySem.Str.ofString "holds_so", PySem.Str.ofString "lines_so", PySem.Str.ofString "pairs_so", PySem.Str.ofString "many_so", PySem.Str.ofString "unfit_so", PySem.Str.ofString "one", PySem.Str.ofString "two", PySem.Str.ofString "own", PySem.Str.ofString "k"], 1⟩, ⟨PySem.Str.ofString "_law_lots_right", top 113, [PySem.Str.ofString "part_so", PySem.Str.ofString "bad_so", PySem.Str.ofString "got", PySem.Str.ofString "due", PySem.Str.ofString "rows_so", PySem.Str.ofString "numbers_so", PySem.Str.ofString "costs_so", PySem.Str.ofString "unfit_so", PySem.Str.ofString "lot_so", PySem.Str.ofString "own", PySem.Str.ofString "k"], 1⟩, ⟨PySem.Str.ofString "_law_rows_right", top 114, [PySem.Str.ofString "unfit_so", PySem.Str.ofString "bad_so", PySem.Str.ofString "got", PySem.Str.ofString "levels_so", PySem.Str.ofString "its", PySem.Str.ofString "lot_so", PySem.Str.ofString "soft_so", PySem.Str.ofString "own"], 0⟩, ⟨PySem.Str.ofString "law", top 115, [PySem.Str.ofString "script", PySem.Str.ofString "tin", PySem.Str.ofString "part_so"], 1⟩]
def kwE : List KwE := []
def cons : List (PySem.Str × U) := [(PySem.Str.ofString "LONGEST", (.int 40)), (PySem.Str.ofString "MOST", (.int 2000)), (PySem.Str.ofString "NUMBERED", (.int 10)), (PySem.Str.ofString "MOST_ROWS", (.int 40)), (PySem.Str.ofString "MOST_LONG", (.int 12))]
def dfs : List (Nat × List U) := [(76, [.non])]
def T : Tb := ⟨fns, kwE, cons, dfs, [⟨PySem.Str.ofString "NoPlace", ⟨true, (some (PySem.Str.ofString "place"))⟩⟩, ⟨PySem.Str.ofString "CanNot", ⟨false, none⟩⟩, ⟨PySem.Str.ofString "TooMany", ⟨false, none⟩⟩, ⟨PySem.Str.ofString "Unfit", ⟨false, none⟩⟩], true⟩
theorem chk : chkAll T T.fns ds prog = true := by decide +kernel
end K70

end
section
set_option Elab.async false
set_option linter.all false
set_option maxRecDepth 100000
set_option maxHeartbeats 0
namespace K70
open PySem PySem.Spec PyProof.Rows L2 Ev
abbrev R : PySem.W.OpenRow := PySem.W.OpenLaw.row PySem.Challenge.rw_fromanytoany_k70_plans_lots_prices_refus
abbrev hk : PySem.W.Hook := hookE (faOf T ds) (defsOf T ds) (exB R.prog.main.file T)
def ob (s : PySem.W.SharedT) : AlE := obsE (faOf T ds) (defsOf T ds) (exB R.prog.main.file T) (HandSHeadRun.getT s)
theorem ob_eq (s : PySem.W.SharedT) : ob s = hk.obs s.abs := obsE_eq (HandSHeadRun.getT_eq s)
def names : List PySem.Str := R.prog.boundNames.filter fun n => n != ("law" : PySem.Str) && n != ("gcd" : PySem.Str) && n != ("lcm" : PySem.Str)
theorem opt2 {α β γ : Type} {o : Option α} {f : α → β} {g : α → γ} {b : β} {c : γ} (h1 : o.map f = some b) (h2 : o.map g = some c) : o.map (fun x => (f x, g x)) = some (b, c) := by
  cases o with
  | none => cases h1
  | some a =>
    have e1 := Option.some.inj h1
    have e2 := Option.some.inj h2
    show some (f a, g a) = _
    rw [e1, e2]
theorem optAnd {α : Type} {o : Option α} {f g : α → Bool} (h1 : o.map f = some true) (h2 : o.map g = some true) : o.map (fun x => f x && g x) = some true := by
  cases o with
  | none => cases h1
  | some a =>
    have e1 := Option.some.inj h1
    have e2 := Option.some.inj h2
    show some (f a && g a) = _
    rw [e1, e2] <;> rfl
/-! the run in pieces: one alone is too large for the memory -/
open HandSHeadRun PySem.W PySem.Calls in
theorem run1 (w : World) : (wholeF (fun p => stepQ (denQ tabQ) p w) fenceQ 20000 R.prog).map (fun x => (looksF R.prog x.1.heap x.2.abs, seenQ (PySem.W.view R.prog [0, 115]) names (importedModules R.prog.main.body) (fun s => xlAt (PySem.W.view R.prog [0, 115]) [] s && recOk R.toRowW.records s) x.2.abs)) = some (true, openGood (PySem.W.view R.prog [0, 115]) names) := by
  kernel_rfl
open HandSHeadRun PySem.W PySem.Calls in
theorem run2 (w : World) : (wholeF (fun p => stepQ (denQ tabQ) p w) fenceQ 20000 R.prog).map (fun x => (faOf T ds).all fun f => f.ok (frE (getT x.2))) = some true := by
  kernel_rfl
open HandSHeadRun PySem.W PySem.Calls in
theorem run3 (w : World) : (wholeF (fun p => stepQ (denQ tabQ) p w) fenceQ 20000 R.prog).map (fun x => (defsOf T ds).all fun d => d.ok (frE (getT x.2))) = some true := by
  kernel_rfl
open HandSHeadRun PySem.W PySem.Calls in
theorem run4 (w : World) : (wholeF (fun p => stepQ (denQ tabQ) p w) fenceQ 20000 R.prog).map (fun x => (defsOf T ds).map fun d => He.fnW (frE (getT x.2)) d.at_) = some ((defsOf T ds).map He.DefD.val) := by
  kernel_rfl
open HandSHeadRun PySem.W PySem.Calls in
theorem run5 (w : World) : (wholeF (fun p => stepQ (denQ tabQ) p w) fenceQ 20000 R.prog).map (fun x => exB R.prog.main.file T (frE (getT x.2))) = some true := by
  kernel_rfl
theorem run_head (w : World) : HandSHeadRun.RunEqI R (PySem.W.view R.prog [0, 115]) hk ob 20000 names w := by
  have h := opt2 (run1 w) (opt2 (opt2 (optAnd (run2 w) (run3 w)) (run4 w)) (run5 w))
  unfold HandSHeadRun.RunEqI
  revert h
  generalize (HandSHeadRun.wholeF (fun p => HandSHeadRun.stepQ (HandSHeadRun.denQ HandSHeadRun.tabQ) p w) HandSHeadRun.fenceQ 20000 R.prog) = o
  intro h
  cases o with
  | none => cases h
  | some a =>
    have e := Option.some.inj h
    have e1 := congrArg (fun z => z.1.1) e
    have e2 := congrArg (fun z => z.1.2) e
    have e3 := congrArg (fun z => z.2) e
    refine congrArg some (Prod.ext e1 (Prod.ext e2 e3))
end K70

end
section
set_option Elab.async false
set_option linter.all false
set_option maxRecDepth 100000
set_option maxHeartbeats 0
namespace K70
open Ev PySem
theorem b0 : Bn (ds[0]) := ⟨fun _ _ _ _ _ _ us hl => match us, hl with | [_], _ => rfl⟩
theorem b1 : Bn (ds[1]) := ⟨fun _ _ _ _ _ _ us hl => match us, hl with | [_, _], _ => rfl⟩
theorem b2 : Bn (ds[2]) := ⟨fun _ _ _ _ _ _ us hl => match us, hl with | [_, _, _], _ => rfl⟩
theorem b3 : Bn (ds[3]) := ⟨fun _ _ _ _ _ _ us hl => match us, hl with | [_, _], _ => rfl⟩
theorem b4 : Bn (ds[4]) := ⟨fun _ _ _ _ _ _ us hl => match us, hl with | [_], _ => rfl⟩
theorem b5 : Bn (ds[5]) := ⟨fun _ _ _ _ _ _ us hl => match us, hl with | [_], _ => rfl⟩
theorem b6 : Bn (ds[6]) := ⟨fun _ _ _ _ _ _ us hl => match us, hl with | [_], _ => rfl⟩
theorem b7 : Bn (ds[7]) := ⟨fun _ _ _ _ _ _ us hl => match us, hl with | [_], _ => rfl⟩
theorem b8 : Bn (ds[8]) := ⟨fun _ _ _ _ _ _ us hl => match us, hl with | [_, _], _ => rfl⟩
theorem b9 : Bn (ds[9]) := ⟨fun _ _ _ _ _ _ us hl => match us, hl with | [_, _], _ => rfl⟩
theorem b10 : Bn (ds[10]) := ⟨fun _ _ _ _ _ _ us hl => match us, hl with | [_], _ => rfl⟩
theorem b11 : Bn (ds[11]) := ⟨fun _ _ _ _ _ _ us hl => match us, hl with | [_, _], _ => rfl⟩
theorem b12 : Bn (ds[12]) := ⟨fun _ _ _ _ _ _ us hl => match us, hl with | [_], _ => rfl⟩
theorem b13 : Bn (ds[13]) := ⟨fun _ _ _ _ _ _ us hl => match us, hl with | [_], _ => rfl⟩
theorem b14 : Bn (ds[14]) := ⟨fun _ _ _ _ _ _ us hl => match us, hl with | [_], _ => rfl⟩
theorem b15 : Bn (ds[15]) := ⟨fun _ _ _ _ _ _ us hl => match us, hl with | [_, _], _ => rfl⟩
theorem b16 : Bn (ds[16]) := ⟨fun _ _ _ _ _ _ us hl => match us, hl with | [_], _ => rfl⟩
theorem b17 : Bn (ds[17]) := ⟨fun _ _ _ _ _ _ us hl => match us, hl with | [_, _], _ => rfl⟩
theorem b18 : Bn (ds[18]) := ⟨fun _ _ _ _ _ _ us hl => match us, hl with | [_, _], _ => rfl⟩
theorem b19 : Bn (ds[19]) := ⟨fun _ _ _ _ _ _ us hl => match us, hl with | [_, _], _ => rfl⟩
theorem b20 : Bn (ds[20]) := ⟨fun _ _ _ _ _ _ us hl => match us, hl with | [_], _ => rfl⟩
theorem b21 : Bn (ds[21]) := ⟨fun _ _ _ _ _ _ us hl => match us, hl with | [_], _ => rfl⟩
theorem b22 : Bn (ds[22]) := ⟨fun _ _ _ _ _ _ us hl => match us, hl with | [_, _], _ => rfl⟩
theorem b23 : Bn (ds[23]) := ⟨fun _ _ _ _ _ _ us hl => match us, hl with | [_, _], _ => rfl⟩
theorem b24 : Bn (ds[24]) := ⟨fun _ _ _ _ _ _ us hl => match us, hl with | [_, _], _ => rfl⟩
theorem b25 : Bn (ds[25]) := ⟨fun _ _ _ _ _ _ us hl => match us, hl with | [_, _], _ => rfl⟩
theorem b26 : Bn (ds[26]) := ⟨fun _ _ _ _ _ _ us hl => match us, hl with | [_, _], _ => rfl⟩
theorem b27 : Bn (ds[27]) := ⟨fun _ _ _ _ _ _ us hl => match us, hl with | [_, _], _ => rfl⟩
theorem b28 : Bn (ds[28]) := ⟨fun _ _ _ _ _ _ us hl => match us, hl with | [_, _, _], _ => rfl⟩
theorem b29 : Bn (ds[29]) := ⟨fun _ _ _ _ _ _ us hl => match us, hl with | [_, _], _ => rfl⟩
theorem b30 : Bn (ds[30]) := ⟨fun _ _ _ _ _ _ us hl => match us, hl with | [_, _], _ => rfl⟩
theorem b31 : Bn (ds[31]) := ⟨fun _ _ _ _ _ _ us hl => match us, hl with | [_, _], _ => rfl⟩
theorem b32 : Bn (ds[32]) := ⟨fun _ _ _ _ _ _ us hl => match us, hl with | [_, _], _ => rfl⟩
theorem b33 : Bn (ds[33]) := ⟨fun _ _ _ _ _ _ us hl => match us, hl with | [_, _], _ => rfl⟩
theorem b34 : Bn (ds[34]) := ⟨fun _ _ _ _ _ _ us hl => match us, hl with | [_, _], _ => rfl⟩
theorem b35 : Bn (ds[35]) := ⟨fun _ _ _ _ _ _ us hl => match us, hl with | [_, _], _ => rfl⟩
theorem b36 : Bn (ds[36]) := ⟨fun _ _ _ _ _ _ us hl => match us, hl with | [_, _], _ => rfl⟩
theorem b37 : Bn (ds[37]) := ⟨fun _ _ _ _ _ _ us hl => match us, hl with | [_, _, _], _ => rfl⟩
theorem b38 : Bn (ds[38]) := ⟨fun _ _ _ _ _ _ us hl => match us, hl with | [_, _, _], _ => rfl⟩
theorem b39 : Bn (ds[39]) := ⟨fun _ _ _ _ _ _ us hl => match us, hl with | [_], _ => rfl⟩
theorem b40 : Bn (ds[40]) := ⟨fun _ _ _ _ _ _ us hl => match us, hl with | [_, _], _ => rfl⟩
theorem b41 : Bn (ds[41]) := ⟨fun _ _ _ _ _ _ us hl => match us, hl with | [_], _ => rfl⟩
theorem b42 : Bn (ds[42]) := ⟨fun _ _ _ _ _ _ us hl => match us, hl with | [_, _], _ => rfl⟩
theorem b43 : Bn (ds[43]) := ⟨fun _ _ _ _ _ _ us hl => match us, hl with | [_, _, _], _ => rfl⟩
theorem b44 : Bn (ds[44]) := ⟨fun _ _ _ _ _ _ us hl => match us, hl with | [_], _ => rfl⟩
theorem b45 : Bn (ds[45]) := ⟨fun _ _ _ _ _ _ us hl => match us, hl with | [_], _ => rfl⟩
theorem b46 : Bn (ds[46]) := ⟨fun _ _ _ _ _ _ us hl => match us, hl with | [_], _ => rfl⟩
theorem b47 : Bn (ds[47]) := ⟨fun _ _ _ _ _ _ us hl => match us, hl with | [_], _ => rfl⟩
theorem b48 : Bn (ds[48]) := ⟨fun _ _ _ _ _ _ us hl => match us, hl with | [_], _ => rfl⟩
theorem b49 : Bn (ds[49]) := ⟨fun _ _ _ _ _ _ us hl => match us, hl with | [_, _], _ => rfl⟩
theorem b50 : Bn (ds[50]) := ⟨fun _ _ _ _ _ _ us hl => match us, hl with | [_, _], _ => rfl⟩
theorem b51 : Bn (ds[51]) := ⟨fun _ _ _ _ _ _ us hl => match us, hl with | [_, _], _ => rfl⟩
theorem b52 : Bn (ds[52]) := ⟨fun _ _ _ _ _ _ us hl => match us, hl with | [_], _ => rfl⟩
theorem b53 : Bn (ds[53]) := ⟨fun _ _ _ _ _ _ us hl => match us, hl with | [_], _ => rfl⟩
theorem b54 : Bn (ds[54]) := ⟨fun _ _ _ _ _ _ us hl => match us, hl with | [_, _], _ => rfl⟩
theorem b55 : Bn (ds[55]) := ⟨fun _ _ _ _ _ _ us hl => match us, hl with | [_, _], _ => rfl⟩
theorem b56 : Bn (ds[56]) := ⟨fun _ _ _ _ _ _ us hl => match us, hl with | [_, _], _ => rfl⟩
theorem b57 : Bn (ds[57]) := ⟨fun _ _ _ _ _ _ us hl => match us, hl with | [_, _], _ => rfl⟩
theorem b58 : Bn (ds[58]) := ⟨fun _ _ _ _ _ _ us hl => match us, hl with | [_, _], _ => rfl⟩
theorem b59 : Bn (ds[59]) := ⟨fun _ _ _ _ _ _ us hl => match us, hl with | [_, _], _ => rfl⟩
theorem b60 : Bn (ds[60]) := ⟨fun _ _ _ _ _ _ us hl => match us, hl with | [_], _ => rfl⟩
theorem b61 : Bn (ds[61]) := ⟨fun _ _ _ _ _ _ us hl => match us, hl with | [_], _ => rfl⟩
theorem b62 : Bn (ds[62]) := ⟨fun _ _ _ _ _ _ us hl => match us, hl with | [_, _], _ => rfl⟩
theorem b63 : Bn (ds[63]) := ⟨fun _ _ _ _ _ _ us hl => match us, hl with | [_], _ => rfl⟩
theorem b64 : Bn (ds[64]) := ⟨fun _ _ _ _ _ _ us hl => match us, hl with | [_], _ => rfl⟩
theorem b65 : Bn (ds[65]) := ⟨fun _ _ _ _ _ _ us hl => match us, hl with | [_, _, _], _ => rfl⟩
theorem b66 : Bn (ds[66]) := ⟨fun _ _ _ _ _ _ us hl => match us, hl with | [_, _, _], _ => rfl⟩
theorem b67 : Bn (ds[67]) := ⟨fun _ _ _ _ _ _ us hl => match us, hl with | [_, _, _], _ => rfl⟩
theorem b68 : Bn (ds[68]) := ⟨fun _ _ _ _ _ _ us hl => match us, hl with | [_], _ => rfl⟩
theorem b69 : Bn (ds[69]) := ⟨fun _ _ _ _ _ _ us hl => match us, hl with | [_, _, _], _ => rfl⟩
theorem b70 : Bn (ds[70]) := ⟨fun _ _ _ _ _ _ us hl => match us, hl with | [_, _], _ => rfl⟩
theorem b71 : Bn (ds[71]) := ⟨fun _ _ _ _ _ _ us hl => match us, hl with | [_, _], _ => rfl⟩
theorem b72 : Bn (ds[72]) := ⟨fun _ _ _ _ _ _ us hl => match us, hl with | [_, _], _ => rfl⟩
theorem b73 : Bn (ds[73]) := ⟨fun _ _ _ _ _ _ us hl => match us, hl with | [_, _, _], _ => rfl⟩
theorem b74 : Bn (ds[74]) := ⟨fun _ _ _ _ _ _ us hl => match us, hl with | [_], _ => rfl⟩
theorem b75 : Bn (ds[75]) := ⟨fun _ _ _ _ _ _ us hl => match us, hl with | [_], _ => rfl⟩
theorem b76 : BnX T 76 (ds[76]) := ⟨⟨fun j hj TT kV doc pm an cdv ct us its h1 h2 => by
  match j, hj, us, its, h1, h2 with
  | 0, _, [u0], [x0], _, _ => exact ⟨_, rfl, rfl⟩
  | 1, _, [u0, u1], [x0], _, _ => exact ⟨_, rfl, rfl⟩
  ⟩, by decide, rfl⟩
theorem b77 : Bn (ds[77]) := ⟨fun _ _ _ _ _ _ us hl => match us, hl with | [_, _], _ => rfl⟩
theorem b78 : Bn (ds[78]) := ⟨fun _ _ _ _ _ _ us hl => match us, hl with | [_, _], _ => rfl⟩
theorem b79 : Bn (ds[79]) := ⟨fun _ _ _ _ _ _ us hl => match us, hl with | [_, _], _ => rfl⟩
theorem b80 : Bn (ds[80]) := ⟨fun _ _ _ _ _ _ us hl => match us, hl with | [_, _], _ => rfl⟩
theorem b81 : Bn (ds[81]) := ⟨fun _ _ _ _ _ _ us hl => match us, hl with | [_, _], _ => rfl⟩
theorem b82 : Bn (ds[82]) := ⟨fun _ _ _ _ _ _ us hl => match us, hl with | [_], _ => rfl⟩
theorem b83 : Bn (ds[83]) := ⟨fun _ _ _ _ _ _ us hl => match us, hl with | [_, _], _ => rfl⟩
theorem b84 : Bn (ds[84]) := ⟨fun _ _ _ _ _ _ us hl => match us, hl with | [_, _], _ => rfl⟩
theorem b85 : Bn (ds[85]) := ⟨fun _ _ _ _ _ _ us hl => match us, hl with | [_, _], _ => rfl⟩
theorem b86 : Bn (ds[86]) := ⟨fun _ _ _ _ _ _ us hl => match us, hl with | [_, _], _ => rfl⟩
theorem b87 : Bn (ds[87]) := ⟨fun _ _ _ _ _ _ us hl => match us, hl with | [_, _], _ => rfl⟩
theorem b88 : Bn (ds[88]) := ⟨fun _ _ _ _ _ _ us hl => match us, hl with | [_, _], _ => rfl⟩
theorem b89 : Bn (ds[89]) := ⟨fun _ _ _ _ _ _ us hl => match us, hl with | [_, _], _ => rfl⟩
theorem b90 : Bn (ds[90]) := ⟨fun _ _ _ _ _ _ us hl => match us, hl with | [_, _], _ => rfl⟩
theorem b91 : Bn (ds[91]) := ⟨fun _ _ _ _ _ _ us hl => match us, hl with | [_], _ => rfl⟩
theorem b92 : Bn (ds[92]) := ⟨fun _ _ _ _ _ _ us hl => match us, hl with | [_, _], _ => rfl⟩
theorem b93 : Bn (ds[93]) := ⟨fun _ _ _ _ _ _ us hl => match us, hl with | [], _ => rfl⟩
theorem b94 : Bn (ds[94]) := ⟨fun _ _ _ _ _ _ us hl => match us, hl with | [], _ => rfl⟩
theorem b95 : Bn (ds[95]) := ⟨fun _ _ _ _ _ _ us hl => match us, hl with | [_], _ => rfl⟩
theorem b96 : Bn (ds[96]) := ⟨fun _ _ _ _ _ _ us hl => match us, hl with | [_], _ => rfl⟩
theorem b97 : Bn (ds[97]) := ⟨fun _ _ _ _ _ _ us hl => match us, hl with | [], _ => rfl⟩
theorem b98 : Bn (ds[98]) := ⟨fun _ _ _ _ _ _ us hl => match us, hl with | [_], _ => rfl⟩
theorem allB : AllX T 0 ds := ⟨b0, b1, b2, b3, b4, b5, b6, b7, b8, b9, b10, b11, b12, b13, b14, b15, b16, b17, b18, b19, b20, b21, b22, b23, b24, b25, b26, b27, b28, b29, b30, b31, b32, b33, b34, b35, b36, b37, b38, b39, b40, b41, b42, b43, b44, b45, b46, b47, b48, b49, b50, b51, b52, b53, b54, b55, b56, b57, b58, b59, b60, b61, b62, b63, b64, b65, b66, b67, b68, b69, b70, b71, b72, b73, b74, b75, b76, b77, b78, b79, b80, b81, b82, b83, b84, b85, b86, b87, b88, b89, b90, b91, b92, b93, b94, b95, b96, b97, b98, trivial⟩
theorem allF : ∀ f, f ∉ T.dfs.map Prod.fst ∨ (dfOf T f).all plainDv = true := fun f => by
  by_cases h76 : f = 76
  · subst h76; exact .inr (by decide +kernel)
  exact .inl (by simp [T, dfs, h76])
theorem allK : ∀ kw ke, nth kw T.kws = some ke → ∃ d p, nth ke.f ds = some d ∧ nth kw kws.ks = some p ∧ dfOf T ke.f = [] ∧ Kn d ke p
  | n + 0, ke, h => by
    rw [nth_get] at h
    have h1 := (List.getElem?_eq_some_iff.mp h).1
    exact absurd h1 (by show ¬ n + 0 < 0; omega)
end K70

end
section
set_option Elab.async false
set_option linter.all false
set_option maxRecDepth 100000
set_option maxHeartbeats 2000000
namespace K70
open Ev PySem
theorem log_small {n : Nat} (h : n < 2 ^ 200) : n.log2 < 200 := by
  by_cases h0 : n = 0
  · subst h0; decide
  · exact (Nat.log2_lt h0).mpr h
theorem mul_small {i j : Int} (hi : i.natAbs < 2 ^ 200) (hj : j.natAbs < 2 ^ 200) : mulOk i j = true := by
  have h1 := log_small hi
  have h2 := log_small hj
  unfold mulOk
  exact decide_eq_true (by omega)
theorem div_small {j : Int} (h0 : j ≠ 0) (hj : j.natAbs < 2 ^ 200) : divOk j = true := by
  have h2 := log_small hj
  unfold divOk
  simp [h0]
  omega
/-- the box that all draws come from -/
structure Box (a b c : Int) (m : Nat) : Prop where
  a0 : 0 ≤ a
  b0 : 0 ≤ b
  b1 : b < 2 ^ 63
  c0 : 0 ≤ c
  c1 : c + m ≤ 1000000
def sto (a b c : Int) : Sto := [.lst [a, b, c]]
theorem gz0 (a b c : Int) : getIx (.ref 0) (.int 0) (sto a b c) = some (.int a) := rfl
theorem gz1 (a b c : Int) : getIx (.ref 0) (.int 1) (sto a b c) = some (.int b) := rfl
theorem gz2 (a b c : Int) : getIx (.ref 0) (.int 2) (sto a b c) = some (.int c) := rfl
theorem s0 (a b c w : Int) (r : Ev.Env) : setIx 0 (.int 0) (.int w) (.sh (.ref 0) :: r) (sto a b c) = .ok .nx (.sh (.ref 0) :: r) (sto w b c) := rfl
theorem s2 (a b c w : Int) (r : Ev.Env) : setIx 0 (.int 2) (.int w) (.sh (.ref 0) :: r) (sto a b c) = .ok .nx (.sh (.ref 0) :: r) (sto a b w) := rfl
theorem take_ok {a b c n : Int} {m : Nat} (B : Box a b c (m + 1)) (h0 : 0 < n) (h1 : n < 2 ^ 60) (d : Nat) : ∃ x a' c' f, run prog kws (d + 1) 88 [.ref 0, .int n] (sto a b c) = .ok ⟨.int x, f⟩ (sto a' b c') ∧ 0 ≤ x ∧ x < n ∧ Box a' b c' m := by
  have hn : (n == 0) = false := by simp; omega
  have hd : divOk n = true := div_small (by omega) (by have : (2 : Nat) ^ 60 < 2 ^ 200 := by decide
                                                       omega)
  by_cases ha : 0 < a
  · refine ⟨a.fmod n, a.fdiv n, c, false, ?_, Int.fmod_nonneg_of_pos _ h0, Int.fmod_lt_of_pos _ h0, Int.fdiv_nonneg B.a0 (Int.le_of_lt h0), B.b0, B.b1, B.c0, by have := B.c1; omega⟩
    rw [run_at (fd := d88) rfl rfl]
    have e : decide (0 < a) = true := decide_eq_true ha
    simp only [d88, List.map_cons, List.map_nil, rep, List.append_nil, List.cons_append, List.nil_append, evB, evS, evE, evA, freeze, x_st, x_stN, x_bind, look, put, x_ofO, gz0, s0, x_gt, e, x_tb, x_int1, x_mod hn, x_fdiv hd, Rv.slot]
    rfl
  · have e : decide (0 < a) = false := decide_eq_false ha
    have c0 := B.c0
    have c1 := B.c1
    have b0 := B.b0
    have b1 := B.b1
    have m1 : mulOk 48271 (c + 1) = true := mul_small (by decide) (by omega)
    have m2 : mulOk (b + 48271 * (c + 1)) (39373 + (c + 1)) = true := mul_small (by omega) (by omega)
    have o0 := Int.fmod_nonneg_of_pos ((b + 48271 * (c + 1)) * (39373 + (c + 1))) (b := 2147483647) (by decide)
    have o1 := Int.fmod_lt_of_pos ((b + 48271 * (c + 1)) * (39373 + (c + 1))) (b := 2147483647) (by decide)
    generalize honce : ((b + 48271 * (c + 1)) * (39373 + (c + 1))).fmod 2147483647 = once at o0 o1
    have w0 := Int.fmod_nonneg_of_pos once (b := 40009) (by decide)
    have w1 := Int.fmod_lt_of_pos once (b := 40009) (by decide)
    generalize hwide : once.fmod 40009 = wide at w0 w1
    have q0 := Int.fdiv_nonneg b0 (show (0 : Int) ≤ 1000003 by decide)
    have q1 : b.fdiv 1000003 ≤ b := by rw [Int.fdiv_eq_ediv_of_nonneg _ (by decide)]; exact Int.ediv_le_self _ b0
    generalize hquot : b.fdiv 1000003 = quot at q0 q1
    have m3 : mulOk (once + (c + 1) + quot) (wide + 7) = true := mul_small (by omega) (by omega)
    have t0 := Int.fmod_nonneg_of_pos ((once + (c + 1) + quot) * (wide + 7)) (b := 2147483629) (by decide)
    have t1 := Int.fmod_lt_of_pos ((once + (c + 1) + quot) * (wide + 7)) (b := 2147483629) (by decide)
    generalize htw : ((once + (c + 1) + quot) * (wide + 7)).fmod 2147483629 = tw at t0 t1
    have m4 : mulOk tw 48271 = true := mul_small (by omega) (by decide)
    refine ⟨_, a, c + 1, false, ?_, Int.fmod_nonneg_of_pos (((tw * 48271 + once).fmod 2147483587).fdiv 64) h0, Int.fmod_lt_of_pos _ h0, B.a0, b0, b1, by omega, by omega⟩
    rw [run_at (fd := d88) rfl rfl]
    simp only [d88, List.map_cons, List.map_nil, rep, List.append_nil, List.cons_append, List.nil_append, evB, evS, evE, evA, freeze, x_st, x_stN, x_bind, look, put, x_ofO, gz0, gz1, gz2, s2, x_gt, e, x_tb, x_int1, x_add, x_mul m1, x_mul m2, x_mul m3, x_mul m4, x_mod hn, x_mod (show ((2147483647 : Int) == 0) = false by decide), x_mod (show ((40009 : Int) == 0) = false by decide), x_mod (show ((2147483629 : Int) == 0) = false by decide), x_mod (show ((2147483587 : Int) == 0) = false by decide), x_fdiv (show divOk 1000003 = true by decide), x_fdiv (show divOk 64 = true by decide), Rv.slot, honce, hwide, hquot, htw]
    rfl
end K70

end
section
set_option Elab.async false
set_option linter.all false
set_option maxRecDepth 100000
set_option maxHeartbeats 2000000
namespace K70
open Ev PySem
theorem log_lt {n k : Nat} (hk : 0 < k) (h : n < 2 ^ k) : n.log2 < k := by
  by_cases h0 : n = 0
  · subst h0; simpa using hk
  · exact (Nat.log2_lt h0).mpr h
/-- few enough bits -/
def Few (k : Nat) (i : Int) : Prop := i.natAbs < 2 ^ k
theorem few_mul {i j : Int} {k l : Nat} (hi : Few k i) (hj : Few l j) (hk : 0 < k) (hl : 0 < l) (h : k + l < 100000000) : mulOk i j = true := by
  have h1 := log_lt hk hi
  have h2 := log_lt hl hj
  unfold mulOk
  exact decide_eq_true (by omega)
/-- a loop over pairs that keeps an invariant -/
theorem forL_all {f : U → Ev.Env → Sto → RS} {s : Sto} (I : Nat → Ev.Env → Prop) : ∀ (us : List U) (n : Nat) (ρ : Ev.Env), I n ρ → (∀ k ρ, I k ρ → n ≤ k → ∀ x, us[k - n]? = some x → ∃ ρ', f x ρ s = .ok .nx ρ' s ∧ I (k + 1) ρ') → ∃ ρ', forL f us ρ s = .ok .nx ρ' s ∧ I (n + us.length) ρ'
  | [], n, ρ, h, _ => ⟨ρ, rfl, h⟩
  | x :: us, n, ρ, h, step => by
    obtain ⟨ρ1, e1, h1⟩ := step n ρ h (Nat.le_refl _) x (by simp)
    obtain ⟨ρ2, e2, h2⟩ := forL_all I us (n + 1) ρ1 h1 fun k ρ hk hn y hy => step k ρ hk (by omega) y (by
      rw [show k - n = (k - (n + 1)) + 1 by omega]
      simpa using hy)
    refine ⟨ρ2, ?_, ?_⟩
    · simp only [forL, e1, e2]
    · rw [List.length_cons, show n + (us.length + 1) = n + 1 + us.length by omega]
      exact h2
theorem cut_first (x : U) (r : List U) : cutL (x :: r) none (some 1) = [x] := by
  unfold cutL HT.sIx
  simp
theorem cut_rest (x : U) (r : List U) (h : r.length ≤ 62) : cutL (x :: r) (some 1) (some 63) = r := by
  have e1 : HT.sIx (x :: r).length 0 (some 1) = 1 := by
    have := HT.sIx_nat (x :: r).length 0 1
    rw [List.length_cons] at this ⊢
    exact this.trans (by omega)
  have e2 : HT.sIx (x :: r).length (x :: r).length (some 63) = r.length + 1 := by
    have := HT.sIx_nat (x :: r).length (x :: r).length 63
    rw [List.length_cons] at this ⊢
    exact this.trans (by omega)
  unfold cutL
  rw [e1, e2, List.drop_succ_cons, List.drop_zero, Nat.add_sub_cancel, List.take_length]
theorem cell_step {B : Nat} {scr x3 x4 x5 : U} {w y : Int} {k : Nat} {F : CallF} {s : Sto} (hk : k ≤ 63) (hy : y.natAbs.log2 < 2000000) (r3 r4 r5 : Slot) :
    evB F kws (.cons (.asg [] 5 false (.op .mod (.bi .int1 (.cons (.var 3) .nil)) (.var 1))) (.cons (.asgIx [] 2 (.var 5) (.op .add (.ix (.peek 2) (.var 5)) (.op .mul (.var 4) (.op .add (.var 3) (.con (.int 2)))))) .nil)) [.sh scr, .sh (.int 1), .own (.lst [.int w]), .sh (.int k), .sh (.int y), r5] s =
      .ok .nx [.sh scr, .sh (.int 1), .own (.lst [.int (w + y * (k + 2))]), .sh (.int k), .sh (.int y), .sh (.int 0)] s := by
  have m1 : mulOk y ((k : Int) + 2) = true := by
    have h1 : ((k : Int) + 2).natAbs.log2 < 7 := log_lt (by decide) (by omega)
    unfold mulOk
    exact decide_eq_true (by omega)
  have f1 : (k : Int).fmod 1 = 0 := by rw [Int.fmod_eq_emod_of_nonneg _ (by decide)]; exact Int.emod_one _
  simp only [evB, evS, evE, evA, freeze, x_st, x_stN, x_bind, look, put, x_ofO, x_int1, x_mod (show ((1 : Int) == 0) = false by decide), f1, Rv.slot, x_add, x_mul m1]
  rfl
theorem grow_ok {w y : Int} {k B : Nat} (hw : w.natAbs ≤ (1 + k * 100) * B) (hy : y.natAbs ≤ B) (hk : k ≤ 63) : (w + y * (k + 2)).natAbs ≤ (1 + (k + 1) * 100) * B := by
  have h1 := Int.natAbs_add_le w (y * (k + 2))
  rw [Int.natAbs_mul] at h1
  have h2 : ((k : Int) + 2).natAbs = k + 2 := by omega
  rw [h2] at h1
  have h3 : y.natAbs * (k + 2) ≤ B * 100 := Nat.mul_le_mul hy (by omega)
  have h4 : (1 + (k + 1) * 100) * B = (1 + k * 100) * B + B * 100 := by
    rw [show 1 + (k + 1) * 100 = (1 + k * 100) + 100 by omega, Nat.add_mul, Nat.mul_comm 100 B]
  omega
theorem cells_ok {B : Nat} (ns : List Int) (hl : ns.length ≤ 63) (hb : ∀ y ∈ ns, y.natAbs ≤ B) (hL : ∀ y ∈ ns, y.natAbs.log2 < 2000000) (d : Nat) (s : Sto) : ∃ v : Int, run prog kws (d + 1) 89 [.lst (ns.map .int), .int 1] s = .ok ⟨.lst [.int v], true⟩ s ∧ v.natAbs ≤ 100 * 100 * B := by
  cases ns with
  | nil => exact ⟨0, rfl, Nat.zero_le _⟩
  | cons y0 r =>
    have hr : (r.map U.int).length ≤ 62 := by rw [List.length_map]; simpa using hl
    rw [run_at (fd := d89) rfl rfl]
    have a1 : evE (run prog kws d) kws (.or (.bi .list (.cons (.slH (.var 0) (.var 1)) .nil)) (.lst (.cons (.con (.int 0)) .nil))) [.sh (.lst ((y0 :: r).map .int)), .sh (.int 1), .un, .un, .un, .un] s = .ok ⟨.lst [.int y0], true⟩ s := by
      refine ev_orT (ev_bi1 (v := ⟨.lst [.int y0], true⟩) ?_ rfl) rfl
      simp only [evE, look, x_bind, bnd, x_ofO, List.map_cons, getSl, cut_first]
    have a2 : evI (run prog kws d) kws (.enum (.sl (.var 0) (.var 1) (.con (.int 63)))) [.sh (.lst ((y0 :: r).map .int)), .sh (.int 1), .own (.lst [.int y0]), .un, .un, .un] s = .ok (enumU 0 (r.map .int)) s := by
      simp only [evI, evE, look, x_bind, bnd, x_ofO, List.map_cons, getSl, cut_rest _ _ hr, items]
    obtain ⟨ρ', e, w, x3, x4, x5, rfl, hw⟩ := forL_all (s := s) (f := fun u r s => match bindTg (.t2 (.nm 3) (.nm 4)) u r with | some r => evB (run prog kws d) kws (.cons (.asg [] 5 false (.op .mod (.bi .int1 (.cons (.var 3) .nil)) (.var 1))) (.cons (.asgIx [] 2 (.var 5) (.op .add (.ix (.peek 2) (.var 5)) (.op .mul (.var 4) (.op .add (.var 3) (.con (.int 2)))))) .nil)) r s | none => .bad)
      (fun k ρ => ∃ (w : Int) (x3 x4 x5 : Slot), ρ = [.sh (.lst ((y0 :: r).map .int)), .sh (.int 1), .own (.lst [.int w]), x3, x4, x5] ∧ w.natAbs ≤ (1 + k * 100) * B) (enumU 0 (r.map .int)) 0 [.sh (.lst ((y0 :: r).map .int)), .sh (.int 1), .own (.lst [.int y0]), .un, .un, .un] ⟨y0, _, _, _, rfl, by have := hb y0 List.mem_cons_self; omega⟩ fun k ρ hI _ x hx => by
        obtain ⟨w, x3, x4, x5, rfl, hw⟩ := hI
        rw [Nat.sub_zero] at hx
        obtain ⟨u, e1, rfl⟩ := enumU_get _ 0 k x hx
        rw [List.getElem?_map] at e1
        cases e2 : r[k]? with
        | none => rw [e2] at e1; cases e1
        | some y =>
          rw [e2] at e1
          cases e1
          have hy := List.mem_cons_of_mem y0 (List.mem_of_getElem? e2)
          have hk : k ≤ 63 := by have := (List.getElem?_eq_some_iff.mp e2).1; simp at hl; omega
          refine ⟨_, ?_, w + y * (k + 2), .sh (.int k), .sh (.int y), .sh (.int 0), rfl, ?_⟩
          · have := cell_step (B := B) (scr := .lst ((y0 :: r).map .int)) (x3 := .non) (x4 := .non) (x5 := .non) (w := w) (F := run prog kws d) (s := s) hk (hL y hy) x3 x4 x5
            rw [Nat.zero_add]
            exact this
          · exact grow_ok hw (hb y hy) hk
    have a3 := e
    refine ⟨w, ?_, ?_⟩
    · refine fin_of (ρ := [.sh (.lst ((y0 :: r).map .int)), .sh (.int 1), .own (.lst [.int w]), x3, x4, x5]) ((evB_nx (ρ := [.sh (.lst ((y0 :: r).map .int)), .sh (.int 1), .un, .un, .un, .un]) (ρ1 := [.sh (.lst ((y0 :: r).map .int)), .sh (.int 1), .own (.lst [.int y0]), .un, .un, .un]) (s1 := s) (evS_asg (fz := []) (i := 2) (o := true) a1)).trans ?_)
      refine (evB_nx (ρ1 := [.sh (.lst ((y0 :: r).map .int)), .sh (.int 1), .own (.lst [.int w]), x3, x4, x5]) (s1 := s) ?_).trans (evB_ret (evS_retO rfl))
      simp only [evS, freeze, a2, x_st]
      rw [show inLim (enumU 0 (r.map U.int)) = true from decide_eq_true (by rw [enumU_len]; unfold lim; omega)]
      exact a3
    · have hlen : 0 + (enumU 0 (r.map U.int)).length ≤ 62 := by rw [enumU_len]; omega
      exact Nat.le_trans hw (Nat.mul_le_mul_right B (by omega))
end K70

end
section
set_option Elab.async false
set_option linter.all false
set_option maxRecDepth 100000
set_option maxHeartbeats 2000000
namespace K70
open Ev PySem
theorem box_ok (v : Int) (hv : v.natAbs.log2 < 50000000) (d m : Nat) (hm : m ≤ 1000000) : ∃ a b, run prog kws (d + 1) 87 [.lst [.int v], .int 0] [] = .ok ⟨.ref 0, false⟩ (sto a b 0) ∧ Box a b 0 m := by
  have b0 := Int.fmod_nonneg_of_pos v (b := 2305843009213693951) (by decide)
  have b1 := Int.fmod_lt_of_pos v (b := 2305843009213693951) (by decide)
  have ha : ∃ w : Int, (if v < 0 then -v else v) = w ∧ 0 ≤ w ∧ w.natAbs = v.natAbs := ⟨_, rfl, by split <;> omega, by split <;> omega⟩
  obtain ⟨w, hw, w0, w1⟩ := ha
  have hq : ∃ q : Int, (if decide ((10 : Int) ^ 18 ≤ w) = true then (1 : Int) else 0) = q ∧ (q = 0 ∨ q = 1) := ⟨_, rfl, by split <;> simp⟩
  obtain ⟨q, hq, hq2⟩ := hq
  have mq : mulOk w q = true := by
    have h1 : q.natAbs.log2 = 0 := by rcases hq2 with e | e <;> rw [e] <;> decide
    unfold mulOk
    rw [w1, h1]
    exact decide_eq_true (by omega)
  refine ⟨w * q, v.fmod 2305843009213693951 + 39373 * 0 + 7046070, ?_, ⟨Int.mul_nonneg w0 (by rcases hq2 with e | e <;> rw [e] <;> decide), by omega, by omega, by decide, by omega⟩⟩
  rw [run_at (fd := d87) rfl rfl]
  have x_abs : biV .abs [.int v] = some ⟨.int w, false⟩ := by simp only [biV, hw]
  have x_pow : op2 .pow (.int 10) (.int 18) = some ⟨.int (10 ^ 18), false⟩ := rfl
  have x_b : biV .int1 [.bl (decide ((10 : Int) ^ 18 ≤ w))] = some ⟨.int q, false⟩ := by simp only [biV, hq]
  have x_len : biV .len [.lst [.int v]] = some ⟨.int 1, false⟩ := rfl
  have x_ix : getIx (.lst [.int v]) (.int 0) [] = some (.int v) := rfl
  have x_01 : truth (.bl (decide ((0 : Int) < 1))) = some true := rfl
  simp only [d87, List.map_cons, List.map_nil, rep, List.append_nil, List.cons_append, List.nil_append, evB, evS, evE, evA, freeze, x_st, x_stN, x_bind, look, put, x_ofO, x_len, x_lt, x_01, x_ix, Rv.slot, x_abs, x_pow, x_ge, x_b, x_mul mq, x_int1, x_mod (show ((2305843009213693951 : Int) == 0) = false by decide), x_mul (show mulOk 39373 0 = true by decide), x_add, intsU]
  rfl
end K70

end
section
set_option Elab.async false
set_option linter.all false
set_option maxRecDepth 100000
set_option maxHeartbeats 0
namespace K70
open Ev PySem
/-! ### the concrete runs -/
theorem rows_ok (s : Sto) : run prog kws 39 97 [] s = .ok ⟨.bl true, false⟩ s := by kernel_rfl
theorem plans0 (s : Sto) : run prog kws 39 95 [.int 0] s = .ok ⟨.bl true, false⟩ s := by kernel_rfl
theorem lots0 (s : Sto) : run prog kws 39 96 [.int 0] s = .ok ⟨.bl true, false⟩ s := by kernel_rfl
theorem plans1 (s : Sto) : run prog kws 39 95 [.int 1] s = .ok ⟨.bl true, false⟩ s := by kernel_rfl
theorem lots1 (s : Sto) : run prog kws 39 96 [.int 1] s = .ok ⟨.bl true, false⟩ s := by kernel_rfl
theorem plans2 (s : Sto) : run prog kws 39 95 [.int 2] s = .ok ⟨.bl true, false⟩ s := by kernel_rfl
theorem lots2 (s : Sto) : run prog kws 39 96 [.int 2] s = .ok ⟨.bl true, false⟩ s := by kernel_rfl
end K70

end
section
set_option Elab.async false
set_option linter.all false
set_option maxRecDepth 100000
set_option maxHeartbeats 4000000
namespace K70
open Ev PySem
theorem part_ok {x : Int} (h0 : 0 ≤ x) (h1 : x < 3) (s : Sto) : run prog kws 39 95 [.int x] s = .ok ⟨.bl true, false⟩ s ∧ run prog kws 39 96 [.int x] s = .ok ⟨.bl true, false⟩ s := by
  have h : x = 0 ∨ x = 1 ∨ x = 2 := by omega
  rcases h with rfl | rfl | rfl
  · exact ⟨plans0 s, lots0 s⟩
  · exact ⟨plans1 s, lots1 s⟩
  · exact ⟨plans2 s, lots2 s⟩
theorem log_le {n B : Nat} (h : n ≤ B) : n.log2 ≤ B.log2 := by
  by_cases h0 : n = 0
  · subst h0; simp
  · exact (Nat.le_log2 (by omega)).mpr (Nat.le_trans (Nat.log2_self_le h0) h)
theorem law_ok {B : Nat} (ns : List Int) (hl : ns.length ≤ 63) {L : Nat} (hB : B = 2 ^ L) (hL : L = 1048577) (hb : ∀ y ∈ ns, y.natAbs ≤ B) : ∃ f s', run prog kws 40 98 [.lst (ns.map .int)] [] = .ok ⟨.bl true, f⟩ s' := by
  have lg : B.log2 = L := by rw [hB]; exact Nat.log2_two_pow
  obtain ⟨v, e, hv⟩ := cells_ok (B := B) ns hl hb (fun y hy => by have := log_le (hb y hy); omega) 38 []
  have hv2 : v.natAbs.log2 < 50000000 := by
    have h1 : v.natAbs ≤ 2 ^ (L + 14) := by
      rw [Nat.pow_add, ← hB]
      have : (2 : Nat) ^ 14 = 16384 := by decide
      rw [this]; omega
    have := log_le h1
    rw [Nat.log2_two_pow] at this
    omega
  obtain ⟨a, b, e2, Bx⟩ := box_ok v hv2 38 1 (by omega)
  obtain ⟨x, a', c', f, e3, x0, x1, _⟩ := take_ok (n := 3) (m := 0) Bx (by decide) (by decide) 38
  obtain ⟨e5, e6⟩ := part_ok x0 x1 (sto a' b c')
  rw [run_at (fd := d98) rfl rfl]
  have h1 : evE (run prog kws 39) kws (.call 87 (.cons (.call 89 (.cons (.var 0) (.cons (.con (.int 1)) .nil))) (.cons (.con (.int 0)) .nil))) [.sh (.lst (ns.map .int)), .un, .un] [] = .ok ⟨.ref 0, false⟩ (sto a b 0) := by
    have h42 : evE (run prog kws 39) kws (.call 89 (.cons (.var 0) (.cons (.con (.int 1)) .nil))) [.sh (.lst (ns.map .int)), .un, .un] [] = .ok ⟨.lst [.int v], true⟩ [] :=
      (ev_call (evA_cons (ev_var (u := .lst (ns.map .int)) rfl) (evA_cons (v := ⟨.int 1, false⟩) (s1 := []) rfl evA_nil))).trans e
    exact (ev_call (evA_cons h42 (evA_cons (v := ⟨.int 0, false⟩) (s1 := []) rfl evA_nil))).trans e2
  have h2 : evE (run prog kws 39) kws (.call 88 (.cons (.var 1) (.cons (.con (.int 3)) .nil))) [.sh (.lst (ns.map .int)), .sh (.ref 0), .un] (sto a b 0) = .ok ⟨.int x, f⟩ (sto a' b c') :=
    (ev_call (evA_cons (ev_var (u := .ref 0) rfl) (evA_cons (v := ⟨.int 3, false⟩) (s1 := sto a b 0) rfl evA_nil))).trans e3
  have h3 : evE (run prog kws 39) kws (.and (.call 97 .nil) (.and (.call 95 (.cons (.var 2) .nil)) (.call 96 (.cons (.var 2) .nil)))) [.sh (.lst (ns.map .int)), .sh (.ref 0), .sh (.int x)] (sto a' b c') = .ok ⟨.bl true, false⟩ (sto a' b c') := by
    refine (ev_andT ((ev_call evA_nil).trans (rows_ok _)) rfl).trans ?_
    refine (ev_andT ((ev_call (evA_cons (ev_var (u := .int x) rfl) evA_nil)).trans e5) rfl).trans ?_
    exact (ev_call (evA_cons (ev_var (u := .int x) rfl) evA_nil)).trans e6
  refine ⟨false, sto a' b c', fin_of (ρ := [.sh (.lst (ns.map .int)), .sh (.ref 0), .sh (.int x)]) (s := sto a' b c') ?_⟩
  refine (evB_nx (evS_asg (fz := []) h1)).trans ?_
  refine (evB_nx (evS_asg (fz := []) h2)).trans ?_
  exact evB_ret (evS_ret (fz := []) h3)
theorem hrun_of (ns : List Int) (hl : ns.length ≤ 63) (hb : ∀ k ∈ ns, Builtin.Int.intBits k ≤ 1048576) : ∃ f s', run prog kws 40 98 [.lst (ns.map .int)] [] = .ok ⟨.bl true, f⟩ s' := by
  obtain ⟨L, hL⟩ : ∃ L : Nat, L = 1048577 := ⟨_, rfl⟩
  refine law_ok ns hl (B := 2 ^ L) rfl hL fun y hy => ?_
  have h := hb y hy
  unfold Builtin.Int.intBits at h
  by_cases h0 : y.natAbs = 0
  · rw [h0]; exact Nat.zero_le _
  · have hz : (y == 0) = false := by simp; omega
    rw [hz] at h
    have h2 : y.natAbs.log2 < L := by simp at h; omega
    exact Nat.le_of_lt ((Nat.log2_lt h0).mp h2)
end K70

end
section
set_option Elab.async false
set_option linter.all false
set_option maxRecDepth 100000
set_option maxHeartbeats 0
open PySem PySem.W PySem.Calls PyProof.Rows
/-- the law holds if the plain run says True -/
theorem k70_of (hrun : ∀ ns : List Int, ns.length ≤ 63 → (∀ k ∈ ns, Builtin.Int.intBits k ≤ 1048576) → ∃ f s', Ev.run K70.prog K70.kws 40 98 [.lst (ns.map .int)] [] = .ok ⟨.bl true, f⟩ s') : PySem.Challenge.rw_fromanytoany_k70_plans_lots_prices_refus.Holds := by
  w_on; o_law
  refine HandSHeadRun.head_imp (r := OpenLaw.row PySem.Challenge.rw_fromanytoany_k70_plans_lots_prices_refus) (q := view (OpenLaw.row PySem.Challenge.rw_fromanytoany_k70_plans_lots_prices_refus).prog [0, 115]) (H := K70.hk) (ob := K70.ob) (M := 20000) (loose := K70.names) (d := HandSHeadRun.topDef (OpenLaw.row PySem.Challenge.rw_fromanytoany_k70_plans_lots_prices_refus).prog 115) (kwd := []) K70.ob_eq
    K70.run_head (by kernel_rfl) (by kernel_rfl) (by kernel_rfl) (by rfl) (by first | assumption | decide +kernel) (by decide +kernel) ⟨rfl, rfl, rfl, rfl, rfl, by decide +kernel⟩ ?hw ?hc
  case hw => w_witness2
  case hc =>
    refine Ev.walkR (l := PySem.Challenge.rw_fromanytoany_k70_plans_lots_prices_refus) (n := 63) (k := 40) (x := "script") (T := K70.T) (ds := K70.ds) (Pf := K70.prog) (KW := K70.kws) (f0 := 98) (fe := K70.fns[98]) (dd := K70.ds[98]) (fd := ⟨0, 0, .nil⟩) rfl (by decide) (by kernel_rfl) ⟨rfl, by decide, by decide⟩ K70.chk rfl rfl (by decide +kernel) (by kernel_rfl) rfl ?F hrun
    intro w mg fa h Y G hmg0
    obtain ⟨K, KX, c⟩ := Y
    exact ⟨K, KX, Ev.hdOk K70.chk (by decide +kernel) K70.allB K70.allF K70.allK (by decide +kernel) rfl KX G c, fun a fdt FD s u => (L2.FunD.bindsA (ps := ["script"]) FD (K70.b98.b)) s [u] rfl⟩

end
open PySem PySem.W PyProof.Rows
set_option Elab.async false
theorem PySem.Challenge.cw_fromanytoany_k70_plans_lots_prices_refus_holds : PySem.Challenge.rw_fromanytoany_k70_plans_lots_prices_refus.Holds := by
  exact k70_of K70.hrun_of
