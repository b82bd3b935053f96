import PyProof.Rows.All
import Wide.All
import OpenK.AllK
import Wide.FinOn
import HandS.ForExc
import HandS.Comp
import HandS.Deep
import HandS.Wide
import HandS.TupAny
import HandS.TupMul
import HandS.IsInst
import HandS.ExcIs
import HandS.Iter
import HandS.Zip
import HandS.SortKw
import HandS.Dict
import HandS.Text
import HandS.Style
import HandS.CallSlots
import HandS.Defaults
import HandS.TryMany
import KE.DatumOrd
import PyProof.Rows.InDataRows
import KE.GoesZip
import KE.GoesMore
import KE.GoesEnum
import HandS.SetFor
import HandS.Set
import HandS.Strs
import HandS.TupSets
import HandS.Conv
import KE.KDictZip
import PyProof.ListNew
import HandS.OwnEq
import HandS.SetKeys
import HandS.SortInts
import HandS.More
import KE.KDictPairs
import HandS.RaiseMore
import KE.KIntText
import HandS.StrMore
import HandS.TupLen
import HandS.WordsDict
import HandS.DictTup
import PyProof.DictMoreH
import HandS.Rev
import KE.KDictList
import PySem.Challenge.RW_lendrule_k80_shapes_as_texts
set_option Elab.async false
set_option linter.all false
set_option maxRecDepth 100000
set_option maxHeartbeats 2000000
/-! A small language with values as trees: its syntax and what it computes. -/
namespace Ly
open PySem

/-- data: None, truths, whole numbers, texts, tuples, lists, dicts (keys: ints and texts; tuples of such) -/
inductive D where
  | non | bl (b : Bool) | int (i : Int) | str (s : Str) | tup (ds : List D) | lst (ds : List D) | dic (t : Bool) (ks : List (List L2.Key)) (ds : List D) | exn

inductive Bo where
  | add | sub | mul | div | mod | pow
  deriving DecidableEq
inductive Co where
  | eq | ne | lt | le | gt | ge | isn | nisn | inn | nin
  deriving DecidableEq
inductive Bi where
  | len | tuple | list | int | bool | max2 | min2 | max1 | min1 | maxd | sum | all | any | sorted | str
  deriving DecidableEq
inductive Me where
  | isdigit | join | find3 | partition | split | endswith | lcount
  deriving DecidableEq
inductive Ty where
  | tuple | int | bool | str | list
  deriving DecidableEq
inductive Tg where
  | name (i : Nat) | tup (js : List Nat)
  deriving DecidableEq

mutual
inductive E where
  | var (i : Nat) | mv (i : Nat) | cst (d : D) | glb (g : Nat)
  | bin (o : Bo) (a b : E) | neg (a : E)
  | cmp (c : Co) (a b : E) | chain (c c' : Co) (a b e : E) | bop (isAnd : Bool) (es : Es) | not (a : E) | ife (c a b : E)
  | tup (h : Nat) (es : Es) | lst (h : Nat) (es : Es)
  | ix (a k : E) | sl (a : E) (lo hi : Eo) | rev (a : E) | sset (a : E) | lrg (a : E) | lrgd (a b : E) | lzip (a b : E) | stp (a b c : E) | dnew (t : Bool) | dn1 (z : Int) (b : Bool) | din (neg : Bool) (k a : E) | dix (a k : E) | dgt (a k : E) | lidx (i : Nat) (e : E) | lcnt (i : Nat) (e : E) | meth (m : Me) (a : E) (es : Es) | sdic (a : E) | lset (a : E) | dprs (a : E) | dlen (i : Nat) | dnw2 (t : Bool) | dkeys (a : E)
  | call (b : Bool) (f : Nat) (es : Es) | callD (f : Nat) (es : Es) (ss : List Str) | blt (f : Bi) (es : Es) | isi (a : E) (t : Ty) | isx (i k : Nat) | isxs (i : Nat) (ks : List Nat)
  | comp (h : Nat) (elt : E) (t : Tg) (src : Sr) (cond : Eo)
inductive Es where
  | nil | cons (e : E) (es : Es)
inductive Eo where
  | no | yes (e : E)
inductive Sr where
  | seq (e : E) | seqB (e : E) | range (es : Es) | enum (e : E) | zip (a b : E) | keys (i : Nat) | revS (e : E)
end

mutual
inductive S where
  | set (i h : Nat) (e : E) | setT (js : List Nat) (e : E) | drop (e : E)
  | app (i : Nat) (e : E) | ext (i : Nat) (e : E) | appP (i : Nat) (e : E) | appL (i : Nat) (k e : E) | forD (t : Tg) (i : Nat) (b : B) | forP (t : Tg) (a : E) (i : Nat) (b : B) | ins (i : Nat) (k e : E) | rvs (i : Nat) | clear (i : Nat) | popS (i : Nat)
  | dpop (i : Nat) (k : E) | forU (t : Tg) (i : Nat) (b : B) | dputN (i : Nat) (k e : E) | dput2 (i : Nat) (k k2 : E) (b : Bool) | appD (i : Nat) (k e : E)
  | dput (i : Nat) (k e : E) | dsd (i : Nat) (k e : E) | aug (i : Nat) (o : Bo) (e : E) | seti (i : Nat) (k e : E)
  | ife (c : E) (a b : B) | for_ (t : Tg) (s : Sr) (b : B) | whl (c : E) (b : B)
  | ret (e : E) | retN | raise (c : Nat) (m : Str) | try_ (b : B) (c : Nat) (i : Option Nat) (h : B) | try2 (b : B) (c1 : Nat) (h1 : B) (c2 : Nat) (h2 : B)
  | pass | brk | cont | bad
inductive B where
  | nil | cons (s : S) (b : B)
end

/-- walked as it stands, not taken from its owner (in comprehensions alone) -/
def Sr.bw : Sr → Bool
  | .seqB _ => true
  | _ => false
def Es.len : Es → Nat
  | .nil => 0
  | .cons _ es => es.len + 1

abbrev Env := List (Option (Nat × D))
/-- what an expression gives -/
inductive R (α : Type) where
  | ok (a : α) | exc (r : Env) (c : Nat) | bad
/-- what a call gives -/
inductive CR where
  | ok (l : Nat) (d : D) | exc (c : Nat) | bad
/-- how a statement ends -/
inductive O where
  | nx (r : Env) | ret (l : Nat) (d : D) | bk (r : Env) | ct (r : Env) | exc (r : Env) (c : Nat) | bad

def R.bind {α β : Type} (x : R α) (f : α → R β) : R β :=
  match x with
  | .ok a => f a
  | .exc r c => .exc r c
  | .bad => .bad
def R.toO {α : Type} (x : R α) (f : α → O) : O :=
  match x with
  | .ok a => f a
  | .exc r c => .exc r c
  | .bad => .bad
def R.of {α : Type} (x : Option α) : R α :=
  match x with
  | some a => .ok a
  | none => .bad

abbrev LN : Nat := 16777216

/-! ### data -/
mutual
/-- as the library's data -/
def D.pd : D → PyData
  | .non => .none
  | .bl b => .bool b
  | .int i => .int i
  | .str s => .str s
  | .tup ds => .tuple (pds ds)
  | .lst ds => .list (pds ds)
  | .dic _ _ _ => .none
  | .exn => .none
def pds : List D → List PyData
  | [] => []
  | d :: ds => d.pd :: pds ds
end
mutual
/-- may be compared: no dict, no error in it, at most so deep, texts of real signs -/
def D.okd : Nat → D → Bool
  | _, .non => true
  | _, .bl _ => true
  | _, .int _ => true
  | _, .str s => PyData.strOk s
  | n + 1, .tup ds => okds n ds
  | n + 1, .lst ds => okds n ds
  | _, _ => false
def okds : Nat → List D → Bool
  | _, [] => true
  | n, d :: ds => d.okd n && okds n ds
end
mutual
/-- no list that might also be held elsewhere: all lists in it within the first l levels -/
def D.clean : Nat → D → Bool
  | l + 1, .lst ds => cleans l ds
  | 0, .lst _ => false
  | l, .tup ds => cleans (l - 1) ds
  | _, .dic _ _ _ => false
  | _, _ => true
def cleans : Nat → List D → Bool
  | _, [] => true
  | l, d :: ds => d.clean l && cleans l ds
end
def okd (d : D) : Bool := d.okd 60
def eqd (x y : D) : Bool := PyData.eqv x.pd y.pd
def flatD : D → Bool
  | .non => true
  | .bl _ => true
  | .int _ => true
  | .str _ => true
  | _ => false

/-- a list times k (the unknown in front: the kernel must not count) -/
def lmulB (k : Int) (n : Nat) : Bool := decide (k.natAbs ≤ 1000000) && decide (n * k.natAbs ≤ LN)
def binop : Bo → D → D → Option (Nat × D)
  | .add, .int i, .int j => some (0, .int (i + j))
  | .add, .str a, .str b => if a.length + b.length ≤ LN then some (0, .str (a ++ b)) else none
  | .add, .lst a, .lst b => if a.length + b.length ≤ LN then some (1, .lst (a ++ b)) else none
  | .add, .tup a, .tup b => if a.length + b.length ≤ LN then some (0, .tup (a ++ b)) else none
  | .sub, .int i, .int j => some (0, .int (i - j))
  | .mul, .int i, .int j => if i.natAbs < 2 ^ 64 ∨ j.natAbs < 2 ^ 64 ∨ (i.natAbs < 2 ^ 4096 ∧ j.natAbs < 2 ^ 4096) then some (0, .int (i * j)) else none
  | .mul, .str a, .int k => if 2 ≤ k ∧ k ≤ 1000 ∧ 1 ≤ a.length ∧ a.length ≤ 1000 then some (0, .str ⟨(List.replicate k.toNat a.cps).foldl (· ++ ·) #[]⟩) else none
  | .mul, .lst a, .int k => if lmulB k a.length then some (1, .lst (List.replicate k.toNat a).flatten) else none
  | .mul, .tup a, .int k => if a ≠ [] ∧ 2 ≤ k ∧ k ≤ 1000 ∧ a.length ≤ 1000 then some (0, .tup (List.replicate k.toNat a).flatten) else if k = 1 then some (0, .tup a) else none
  | .div, .int i, .int j => if 0 < j ∧ j.natAbs < 2 ^ 4096 then some (0, .int (i / j)) else none
  | .mod, .int i, .int j => if 0 < j then some (0, .int (i % j)) else none
  | .pow, .int i, .int j => if 0 ≤ j ∧ j ≤ 1000000 ∧ i.natAbs < 2 ^ 64 then some (0, .int (i ^ j.toNat)) else none
  | _, _, _ => none

/-- a list of something, of any depth, beside [] -/
def nilC : D → D → Bool
  | .lst (_ :: _), .lst [] => true
  | _, _ => false
def cmpop : Co → D → D → Option Bool
  | .eq, x, y => if okd x && okd y then some (eqd x y) else if nilC x y then some false else none
  | .ne, x, y => if okd x && okd y then some (!eqd x y) else if nilC x y then some true else none
  | .lt, .int i, .int j => some (decide (i < j))
  | .le, .int i, .int j => some (decide (i ≤ j))
  | .gt, .int i, .int j => some (decide (j < i))
  | .ge, .int i, .int j => some (decide (j ≤ i))
  | .isn, x, .non => some (match x with | .non => true | _ => false)
  | .nisn, x, .non => some (match x with | .non => false | _ => true)
  | .isn, .bl a, .bl b => some (decide (a = b))
  | .nisn, .bl a, .bl b => some (!decide (a = b))
  | .inn, x, .lst ds => if okd x && okd (.lst ds) then some (ds.any fun z => eqd z x) else none
  | .nin, x, .lst ds => if okd x && okd (.lst ds) then some (!ds.any fun z => eqd z x) else none
  | .inn, x, .tup ds => if okd x && okd (.tup ds) then some (ds.any fun z => eqd z x) else none
  | .nin, x, .tup ds => if okd x && okd (.tup ds) then some (!ds.any fun z => eqd z x) else none
  | .inn, .str a, .str b => some (!(Builtin.Str.occurrences b a 0 b.length 1).isEmpty)
  | .nin, .str a, .str b => some (!(!(Builtin.Str.occurrences b a 0 b.length 1).isEmpty))
  | _, _, _ => none

/-- the place in xs, of any sign -/
def atD (ds : List D) (i : Int) : Option D := L2.atI ds i
def ixop : D → D → Option D
  | .tup ds, .int i => atD ds i
  | .lst ds, .int i => atD ds i
  | .str s, .int i => if s.length ≤ LN then (L2.atI s.cps.toList i).map fun c => .str ⟨#[c]⟩ else none
  | _, _ => none
def cutD {α : Type} (xs : List α) (lo hi : Option Int) : List α := (xs.drop (HT.sIx xs.length 0 lo)).take (HT.sIx xs.length xs.length hi - HT.sIx xs.length 0 lo)
def slop : D → Option Int → Option Int → Option (Nat × D)
  | .lst ds, lo, hi => some (1, .lst (cutD ds lo hi))
  | .tup ds, lo, hi => some (0, .tup (cutD ds lo hi))
  | .str s, lo, hi => if s.length ≤ LN then some (0, .str ⟨(cutD s.cps.toList lo hi).toArray⟩) else none
  | _, _, _ => none
def asInts : List D → Option (List Int)
  | [] => some []
  | .int i :: ds => (asInts ds).map (i :: ·)
  | _ :: _ => none
def asBls : List D → Option (List Bool)
  | [] => some []
  | .bl i :: ds => (asBls ds).map (i :: ·)
  | _ :: _ => none
/-- the greatest, or d of none -/
def maxOr (d : Int) : List Int → Int
  | [] => d
  | x :: xs => xs.foldl (fun a b => if b > a then b else a) x
def minOr (d : Int) : List Int → Int
  | [] => d
  | x :: xs => xs.foldl (fun a b => if b < a then b else a) x
/-- sorted -/
def insI (x : Int) : List Int → List Int
  | [] => [x]
  | y :: ys => if x ≤ y then x :: y :: ys else y :: insI x ys
def sortI : List Int → List Int
  | [] => []
  | x :: xs => insI x (sortI xs)
/-- sorted, each once -/
def insU (x : Int) : List Int → List Int
  | [] => [x]
  | y :: ys => if x < y then x :: y :: ys else if x = y then y :: ys else y :: insU x ys
def usortI : List Int → List Int
  | [] => []
  | x :: xs => insU x (usortI xs)
def asStrs : List D → Option (List Str)
  | [] => some []
  | .str s :: ds => (asStrs ds).map (s :: ·)
  | _ :: _ => none
/-- the first place of an equal one -/
def idxD (ds : List D) (d : D) : Option Nat := ds.findIdx? fun z => eqd z d
def bltop : Bi → List D → Option (Nat × D)
  | .len, [.lst ds] => some (0, .int ds.length)
  | .len, [.tup ds] => some (0, .int ds.length)
  | .len, [.str s] => if s.length ≤ LN then some (0, .int s.length) else none
  | .tuple, [.lst ds] => some (0, .tup ds)
  | .tuple, [.tup ds] => some (0, .tup ds)
  | .list, [.lst ds] => some (1, .lst ds)
  | .list, [.tup ds] => some (1, .lst ds)
  | .int, [.int i] => some (0, .int i)
  | .int, [.str s] => if s.length ≤ 640 then (PySem.intText? s).map fun i => (0, D.int i) else none
  | .int, [.bl b] => some (0, .int (if b then 1 else 0))
  | .bool, [.int i] => some (0, .bl (i != 0))
  | .bool, [.bl b] => some (0, .bl b)
  | .max2, [.int i, .int j] => some (0, .int (if j > i then j else i))
  | .min2, [.int i, .int j] => some (0, .int (if j < i then j else i))
  | .max1, [.lst ds] => (asInts ds).bind fun is => if is.isEmpty then none else some (0, .int (maxOr 0 is))
  | .min1, [.lst ds] => (asInts ds).bind fun is => if is.isEmpty then none else some (0, .int (minOr 0 is))
  | .maxd, [.lst ds, .int d] => (asInts ds).map fun is => (0, .int (maxOr d is))
  | .sum, [.lst ds] => (asInts ds).map fun is => (0, .int is.sum)
  | .all, [.lst ds] => (asBls ds).map fun bs => (0, .bl (bs.all id))
  | .any, [.lst ds] => (asBls ds).map fun bs => (0, .bl (bs.any id))
  | .sorted, [.lst ds] => (asInts ds).map fun is => (1, .lst ((sortI is).map D.int))
  | .str, [.int i] => if i.natAbs.log2 < 1920 then some (0, .str (toString i)) else none
  | .str, [.str s] => some (0, .str s)
  | _, _ => none
/-- methods: of texts, and the count of a text in a list of texts -/
def methop : Me → D → List D → Option (Nat × D)
  | .isdigit, .str a, [] => some (0, .bl (Txt.isdigit a))
  | .join, .str a, [.lst ds] => (asStrs ds).bind fun ss => if (ss.map (·.length)).sum + ss.length * a.length ≤ 16777216 then some (0, .str (Txt.join a ss)) else none
  | .find3, .str a, [.str b, .int i] => some (0, .int (Txt.find3 a b i))
  | .partition, .str a, [.str b] => if b.length = 0 ∨ LN < a.length then none else some (0, .tup [.str (Txt.partition a b).1, .str (Txt.partition a b).2.1, .str (Txt.partition a b).2.2])
  | .split, .str a, [.str b] => if b.length = 0 ∨ LN < a.length + 2 then none else some (1, .lst ((Txt.split a b).map D.str))
  | .endswith, .str a, [.str b] => some (0, .bl (Txt.endswith a b))
  | .lcount, .lst ds, [.str k] => (asStrs ds).map fun ss => (0, .int (ss.count k : Nat))
  | _, _, _ => none
/-- whose method it is -/
def methTy : Me → D → Bool
  | .lcount, .lst _ => true
  | .lcount, _ => false
  | _, .str _ => true
  | _, _ => false
/-- keys that are whole numbers -/
def asIntK : List (List L2.Key) → Option (List Int)
  | [] => some []
  | [.inl i] :: ks => (asIntK ks).map (i :: ·)
  | _ :: _ => none
/-- how many unlike ones there are among the first n -/
def uniqN (ss : List Str) : Nat → Nat
  | 0 => 0
  | n + 1 => if ss.getD n "" ∈ ss.take n then uniqN ss n else uniqN ss n + 1
/-- pairs of a text and something, as a dict's keys and values -/
def asPrs : List D → Option (List Str × List D)
  | [] => some ([], [])
  | .tup [.str s, d] :: ds => (asPrs ds).map fun p => (s :: p.1, d :: p.2)
  | _ :: _ => none
def isaop : D → Ty → Option Bool
  | .non, .tuple => some false | .non, .int => some false | .non, .bool => some false | .non, .str => some false | .non, .list => some false
  | .bl _, .tuple => some false | .bl _, .int => some true | .bl _, .bool => some true | .bl _, .str => some false | .bl _, .list => some false
  | .int _, .tuple => some false | .int _, .int => some true | .int _, .bool => some false | .int _, .str => some false | .int _, .list => some false
  | .str _, .tuple => some false | .str _, .int => some false | .str _, .bool => some false | .str _, .str => some true | .str _, .list => some false
  | .tup _, .tuple => some true | .tup _, .int => some false | .tup _, .bool => some false | .tup _, .str => some false | .tup _, .list => some false
  | .lst _, .tuple => some false | .lst _, .int => some false | .lst _, .bool => some false | .lst _, .str => some false | .lst _, .list => some true
  | _, _ => none

/-! ### frames -/
/-- slot i is held elsewhere too from level j on -/
def lower (j i : Nat) (r : Env) : Env :=
  match r[i]? with
  | some (some (l, d)) => r.set i (some (min l j, d))
  | _ => r
def getv (r : Env) (i : Nat) : Option (Nat × D) :=
  match r[i]? with
  | some (some x) => some x
  | _ => none
def setAll : List Nat → List D → Env → Env
  | i :: js, d :: ds, r => setAll js ds (r.set i (some (0, d)))
  | _, _, r => r
/-- a target takes an item -/
def Tg.put : Tg → D → Env → Option Env
  | .name i, d, r => some (r.set i (some (0, d)))
  | .tup js, .tup ds, r => if ds.length = js.length then some (setAll js ds r) else none
  | _, _, _ => none
def Tg.ids : Tg → List Nat
  | .name i => [i]
  | .tup js => js
def wipeE : List Nat → Env → Env
  | [], r => r
  | i :: js, r => (wipeE js r).set i none
def enumD : Nat → List D → List D
  | _, [] => []
  | n, d :: ds => .tup [.int n, d] :: enumD (n + 1) ds
/-- a name's text and its kind -/
def isPr : D → Bool
  | .tup [.str _, .tup (.str _ :: _)] => true
  | _ => false
/-- pairs, all of them (one at least): as a dict may be made of -/
def isPrs : List D → Bool
  | [] => false
  | d :: ds => isPr d && ds.all isPr
/-- no two pairs go together -/
def zipOk : List D → List D → Bool
  | a :: as, b :: bs => !(isPr a && isPr b) && zipOk as bs
  | _, _ => true
def zipD : List D → List D → List D
  | a :: as, b :: bs => .tup [a, b] :: zipD as bs
  | _, _ => []
def rangeD (lo : Int) : Nat → List D
  | 0 => []
  | n + 1 => .int lo :: rangeD (lo + 1) n
def downD (hi : Int) : Nat → List D
  | 0 => []
  | n + 1 => .int hi :: downD (hi - 1) n
/-- (kept small and with the unknown in front: the kernel must not count down from 2 ^ 62) -/
def rng62 (i : Int) : Bool := decide (i.natAbs ≤ 8000000)
def rangeop : List D → Option (List D)
  | [.int n] => if rng62 n then some (rangeD 0 n.toNat) else none
  | [.int a, .int b] => if rng62 a && rng62 b then some (rangeD a (b - a).toNat) else none
  | _ => none
def itemsOf : D → Option (List D)
  | .lst ds => some ds
  | .tup ds => some ds
  | _ => none
/-- what a for or a comprehension walks: a text's signs too -/
def seqOf : D → Option (List D)
  | .lst ds => some ds
  | .tup ds => some ds
  | .str s => some (s.cps.toList.map fun c => .str ⟨#[c]⟩)
  | _ => none
def enumOf (x : D) : Option (List D) := (itemsOf x).map (enumD 0)
def zipOf (x y : D) : Option (List D) :=
  match itemsOf x, itemsOf y with
  | some as, some bs => if zipOk as bs then some (zipD as bs) else none
  | _, _ => none
/-! dicts: keys and values side by side -/
def keysD : List D → Option (List L2.Key)
  | [] => some []
  | .int i :: ds => (keysD ds).map (.inl i :: ·)
  | .str s :: ds => (keysD ds).map (.inr s :: ·)
  | _ :: _ => none
/-- a key as a datum -/
def kD : L2.Key → D
  | .inl i => .int i
  | .inr s => .str s
def keyDt (t : Bool) (k : List L2.Key) : D := if t then .tup (k.map kD) else match k with
  | x :: _ => kD x
  | [] => .non
/-- as a key: of a dict whose keys are tuples (t), or whole numbers and texts -/
def keyD : Bool → D → Option (List L2.Key)
  | false, .int i => some [.inl i]
  | false, .str s => some [.inr s]
  | true, .tup ds => keysD ds
  | _, _ => none
section
variable {κ α : Type} [DecidableEq κ]
def dval (ks : List κ) (xs : List α) (k : κ) : Option α := ((ks.zip xs).find? fun p => decide (p.1 = k)).map (·.2)
def hasK (ks : List κ) (k : κ) : Bool := decide (k ∈ ks)
def dputK (ks : List κ) (k : κ) : List κ := if k ∈ ks then ks else ks ++ [k]
def dputV (ks : List κ) (xs : List α) (k : κ) (x : α) : List α := if k ∈ ks then (ks.zip xs).map (fun p => if p.1 = k then x else p.2) else xs ++ [x]
end
/-- a key goes -/
def dropDK (ks : List (List L2.Key)) (q : List L2.Key) : List (List L2.Key) := ks.filter fun k => decide (k ≠ q)
def dropDV {α : Type} (ks : List (List L2.Key)) (xs : List α) (q : List L2.Key) : List α := ((ks.zip xs).filter fun p => decide (p.1 ≠ q)).map (·.2)
/-- the place of a key -/
def ixK (ks : List (List L2.Key)) (q : List L2.Key) : Nat := ks.findIdx fun k => decide (k = q)
/-- a dict of pairs laid one after the other -/
def dprsK {α : Type} : List Str → List α → List (List L2.Key) → List α → List (List L2.Key) × List α
  | s :: ss, x :: xs, ks, vs => dprsK ss xs (dputK ks [.inr s]) (dputV ks vs [.inr s] x)
  | _, _, ks, vs => (ks, vs)
/-- which places xs[i::k] takes of n -/
def stepIx (n : Nat) (i k : Int) : List Nat := PySem.sliceRange (max 0 (min (if i < 0 then i + n else i) n)) n k
def stepD (ds : List D) (i k : Int) : List D := (stepIx ds.length i k).filterMap (ds[·]?)
/-- a comprehension's turns: f gives the new frame and perhaps an item -/
def compLoop (f : Env → D → R (Env × Option D)) : List D → Env → List D → Option (Env × List D)
  | [], r, acc => some (r, acc)
  | x :: xs, r, acc =>
    match f r x with
    | .ok (r1, some y) => if acc.length < LN then compLoop f xs r1 (acc ++ [y]) else none
    | .ok (r1, none) => compLoop f xs r1 acc
    | _ => none

def compT (t : Tg) (h : Nat) (c : Env → R (Env × Bool)) (e : Env → R (Env × Nat × D)) (xs : List D) (r : Env) : Option (Env × List D) :=
  compLoop (fun q x => (R.of (t.put x q)).bind fun q1 => (c q1).bind fun (q2, b) =>
    if b then (e q2).bind fun (q3, l, y) => if h ≤ l then .ok (wipeE t.ids q3, some y) else .bad else .ok (wipeE t.ids q2, none)) xs r []
section
variable (G : Nat → Option D) (sub : Nat → Nat → Bool) (cf : Nat → List D → CR)
mutual
/-- in mode j: held elsewhere too from level j on (0: as a value of one's own) -/
def ev (j : Nat) : E → Env → R (Env × Nat × D)
  | .var i, r => match getv r i with
    | some (l, d) => if l < 100 then .ok (lower j i r, 0, d) else .bad
    | none => .bad
  | .mv i, r => match getv r i with
    | some (l, d) => if l < 100 then .ok (r.set i none, l, d) else .bad
    | none => .bad
  | .cst d, r => .ok (r, 0, d)
  | .glb g, r => (R.of (G g)).bind fun d => .ok (r, 0, d)
  | .bin o a b, r => (ev 1 a r).bind fun (r1, _, x) => (ev 1 b r1).bind fun (r2, _, y) => (R.of (binop o x y)).bind fun (l, z) => .ok (r2, l, z)
  | .neg a, r => (ev 9 a r).bind fun (r1, _, x) => match x with
    | .int i => .ok (r1, 0, .int (-i))
    | _ => .bad
  | .cmp c a b, r => (ev 9 a r).bind fun (r1, _, x) => (ev 9 b r1).bind fun (r2, _, y) => (R.of (cmpop c x y)).bind fun z => .ok (r2, 0, .bl z)
  | .chain c c' a b e, r => (ev 9 a r).bind fun (r1, _, x) => (ev 9 b r1).bind fun (r2, _, y) => (R.of (cmpop c x y)).bind fun z =>
    if z then (ev 9 e r2).bind fun (r3, _, u) => (R.of (cmpop c' y u)).bind fun z' => .ok (r3, 0, .bl z') else .ok (r2, 0, .bl false)
  | .bop isAnd es, r => evBop isAnd es r
  | .not a, r => (ev 9 a r).bind fun (r1, _, x) => match x with
    | .bl b => .ok (r1, 0, .bl (!b))
    | _ => .bad
  | .ife c a b, r => (ev 9 c r).bind fun (r1, _, x) => match x with
    | .bl true => ev j a r1
    | .bl false => ev j b r1
    | _ => .bad
  | .tup h es, r => (evs 0 h es r).bind fun (r1, ds) => .ok (r1, h + 1, .tup ds)
  | .lst h es, r => (evs 0 (h - 1) es r).bind fun (r1, ds) => .ok (r1, h, .lst ds)
  | .ix a k, r => (ev (j + 1) a r).bind fun (r1, _, x) => (ev 9 k r1).bind fun (r2, _, y) => (R.of (ixop x y)).bind fun z => .ok (r2, 0, z)
  | .sl a lo hi, r => (ev 1 a r).bind fun (r1, _, x) => (evo lo r1).bind fun (r2, lo') => (evo hi r2).bind fun (r3, hi') => (R.of (slop x lo' hi')).bind fun (l, z) => .ok (r3, l, z)
  | .rev a, r => (ev 1 a r).bind fun (r1, _, x) => match x with
    | .lst ds => .ok (r1, 1, .lst ds.reverse)
    | _ => .bad
  | .sset a, r => (ev 1 a r).bind fun (r1, _, x) => match x with
    | .lst ds => (R.of (asInts ds)).bind fun is => if is.length < 60 ∨ (usortI is).length < 4000 then .ok (r1, 1, .lst ((usortI is).map D.int)) else .bad
    | _ => .bad
  | .lrg a, r => (ev 9 a r).bind fun (r1, _, x) => match x with
    | .int n => if rng62 n then .ok (r1, 1, .lst (rangeD 0 n.toNat)) else .bad
    | _ => .bad
  | .lidx i e, r => match getv r i with
    | some (l0, .lst _) => if l0 < 100 then (ev 9 e r).bind fun (r1, _, d) => (match getv r1 i with
      | some (l1, .lst ds) => if l1 < 100 ∧ (okd (.lst ds) && okd d) = true then (R.of (idxD ds d)).bind fun j => .ok (r1, 0, .int (j : Nat)) else .bad
      | _ => .bad) else .bad
    | _ => .bad
  | .lcnt i e, r => match getv r i with
    | some (_ + 1, .lst _) => (ev 9 e r).bind fun (r1, _, d) => (match getv r1 i, d with
      | some (_ + 1, .lst ds), .str k => (R.of (asStrs ds)).bind fun ss => .ok (r1, 0, .int (ss.count k : Nat))
      | _, _ => .bad)
    | _ => .bad
  | .lrgd a b, r => (ev 9 a r).bind fun (r1, _, x) => (ev 9 b r1).bind fun (r2, _, y) => match x, y with
    | .int i, .int j => if rng62 i && rng62 j then .ok (r2, 1, .lst (downD i (i - j).toNat)) else .bad
    | _, _ => .bad
  | .lzip a b, r => (ev 1 a r).bind fun (r1, _, x) => (ev 1 b r1).bind fun (r2, _, y) => match x, y with
    | .lst as, .lst bs => if zipOk as bs then .ok (r2, 1, .lst (zipD as bs)) else .bad
    | _, _ => .bad
  | .stp a b c, r => (ev 1 a r).bind fun (r1, _, x) => (ev 9 b r1).bind fun (r2, _, y) => match y with
    | .int i => (ev 9 c r2).bind fun (r3, _, z) => (match x, z with
      | .lst ds, .int k => if 0 < k then .ok (r3, 1, .lst (stepD ds i k)) else .bad
      | _, _ => .bad)
    | _ => .bad
  | .meth m a es, r => (ev 1 a r).bind fun (r1, _, x) => if methTy m x then (evs 1 0 es r1).bind fun (r2, ds) => (R.of (methop m x ds)).bind fun (l, z) => .ok (r2, l, z) else .bad
  | .sdic a, r => (ev 1 a r).bind fun (r1, _, x) => match x with
    | .dic false ks _ => (R.of (asIntK ks)).bind fun is => if is.length < LN then .ok (r1, 1, .lst ((sortI is).map D.int)) else .bad
    | _ => .bad
  | .lset a, r => (ev 1 a r).bind fun (r1, _, x) => match x with
    | .lst ds => (R.of (asStrs ds)).bind fun ss => if ss.length < 60 then .ok (r1, 0, .int (uniqN ss ss.length : Nat)) else .bad
    | _ => .bad
  | .dprs a, r => (ev 1 a r).bind fun (r1, _, x) => match x with
    | .tup ds => (R.of (asPrs ds)).bind fun p => if p.1.length < 60 ∧ isPrs ds = true then .ok (r1, 1, .dic false (dprsK p.1 p.2 [] []).1 (dprsK p.1 p.2 [] []).2) else .bad
    | _ => .bad
  | .dlen i, r => match getv r i with
    | some (_ + 1, .dic _ ks _) => .ok (r, 0, .int (ks.length : Nat))
    | _ => .bad
  | .dnew t, r => .ok (r, 1, .dic t [] [])
  | .dn1 z b, r => .ok (r, 1, .dic false [[.inl z]] [.bl b])
  | .dnw2 t, r => .ok (r, 2, .dic t [] [])
  | .dkeys a, r => (ev 1 a r).bind fun (r1, _, x) => match x with
    | .dic t ks _ => if ks.length < LN then .ok (r1, 1, .lst (ks.map (keyDt t))) else .bad
    | _ => .bad
  | .din neg k a, r => (ev 9 k r).bind fun (r1, _, y) => (ev 1 a r1).bind fun (r2, _, x) => match x with
    | .dic t ks ds => (R.of (keyD t y)).bind fun q => .ok (r2, 0, .bl (neg ^^ (dval ks ds q).isSome))
    | _ => .bad
  | .dix a k, r => (ev (j + 1) a r).bind fun (r1, _, x) => (ev 9 k r1).bind fun (r2, _, y) => match x with
    | .dic t ks ds => (R.of (keyD t y)).bind fun q => (R.of (dval ks ds q)).bind fun d => .ok (r2, 0, d)
    | _ => .bad
  | .dgt a k, r => (ev 1 a r).bind fun (r1, _, x) => match x with
    | .dic t ks ds => (ev 9 k r1).bind fun (r2, _, y) => (R.of (keyD t y)).bind fun q => .ok (r2, 0, (dval ks ds q).getD .non)
    | _ => .bad
  | .call b f es, r => (evs (if b then 9 else 0) 0 es r).bind fun (r1, ds) => match cf f ds with
    | .ok l d => if b && !d.clean l then .bad else .ok (r1, l, d)
    | .exc c => .exc r1 c
    | .bad => .bad
  | .callD f es ss, r => (evs 0 0 es r).bind fun (r1, ds) => match cf f (ds ++ ss.map D.str) with
    | .ok l d => .ok (r1, l, d)
    | .exc c => .exc r1 c
    | .bad => .bad
  | .blt f es, r => (evs 1 0 es r).bind fun (r1, ds) => (R.of (bltop f ds)).bind fun (l, z) => .ok (r1, l, z)
  | .isi a t, r => (ev 9 a r).bind fun (r1, _, x) => (R.of (isaop x t)).bind fun z => .ok (r1, 0, .bl z)
  | .isx i k, r => match getv r i with
    | some (l, .exn) => if 100 ≤ l then .ok (r, 0, .bl (sub (l - 100) k)) else .bad
    | _ => .bad
  | .isxs i ks, r => match getv r i with
    | some (l, .exn) => if 100 ≤ l then .ok (r, 0, .bl (ks.any fun k => sub (l - 100) k)) else .bad
    | _ => .bad
  | .comp h elt t src cond, r => (evSr src r).bind fun (r1, xs) =>
    (R.of (compT t (h - 1) (evc cond) (ev 0 elt) xs (wipeE t.ids r1))).bind fun (r2, ys) => .ok (wipeE t.ids r2, h, .lst ys)
/-- the items of a display, arguments: in mode j, each owned at least h deep -/
def evs (j h : Nat) : Es → Env → R (Env × List D)
  | .nil, r => .ok (r, [])
  | .cons e es, r => (ev j e r).bind fun (r1, l, d) => if h ≤ l ∨ flatD d = true then (evs j h es r1).bind fun (r2, ds) => .ok (r2, d :: ds) else .bad
/-- and, or: of truths -/
def evBop (isAnd : Bool) : Es → Env → R (Env × Nat × D)
  | .nil, _ => .bad
  | .cons e .nil, r => (ev 9 e r).bind fun (r1, _, x) => match x with
    | .bl b => .ok (r1, 0, .bl b)
    | _ => .bad
  | .cons e (.cons e' es), r => (ev 9 e r).bind fun (r1, _, x) => match x with
    | .bl b => if b = isAnd then evBop isAnd (.cons e' es) r1 else .ok (r1, 0, .bl b)
    | _ => .bad
/-- a part of a slice -/
def evo : Eo → Env → R (Env × Option Int)
  | .no, r => .ok (r, none)
  | .yes e, r => (ev 9 e r).bind fun (r1, _, x) => match x with
    | .int i => .ok (r1, some i)
    | _ => .bad
/-- a comprehension's if -/
def evc : Eo → Env → R (Env × Bool)
  | .no, r => .ok (r, true)
  | .yes e, r => (ev 9 e r).bind fun (r1, _, x) => match x with
    | .bl b => .ok (r1, b)
    | _ => .bad
/-- what is walked -/
def evSr : Sr → Env → R (Env × List D)
  | .seq e, r => (ev 0 e r).bind fun (r1, _, x) => (R.of (seqOf x)).bind fun ds => .ok (r1, ds)
  | .seqB e, r => (ev 1 e r).bind fun (r1, _, x) => match x with
    | .lst ds => .ok (r1, ds)
    | _ => .bad
  | .range es, r => (evs 9 0 es r).bind fun (r1, ds) => (R.of (rangeop ds)).bind fun xs => .ok (r1, xs)
  | .enum e, r => (ev 0 e r).bind fun (r1, _, x) => (R.of (enumOf x)).bind fun ds => .ok (r1, ds)
  | .keys i, r => match getv r i with
    | some (_ + 1, .dic tt ks ds) => .ok (r.set i (some (0, .dic tt ks ds)), ks.map (keyDt tt))
    | _ => .bad
  | .revS e, r => (ev 0 e r).bind fun (r1, _, x) => match x with
    | .lst ds => .ok (r1, ds.reverse)
    | _ => .bad
  | .zip a b, r => (ev 0 a r).bind fun (r1, _, x) => (ev 0 b r1).bind fun (r2, _, y) => (R.of (zipOf x y)).bind fun ds => .ok (r2, ds)
end

/-- no slot holds an error -/
def noX : Env → Bool
  | [] => true
  | none :: r => noX r
  | some (l, _) :: r => decide (l < 100) && noX r
/-- a for's turns -/
def forLoop (f : Env → D → O) : List D → Env → O
  | [], r => .nx r
  | x :: xs, r =>
    match f r x with
    | .nx r1 => forLoop f xs r1
    | .ct r1 => forLoop f xs r1
    | .bk r1 => .nx r1
    | .ret l d => .ret l d
    | .exc r1 c => .exc r1 c
    | .bad => .bad
def forT (t : Tg) (f : Env → O) (xs : List D) (r : Env) : O :=
  forLoop (fun q x => match t.put x q with
    | some q1 => f q1
    | none => .bad) xs r
/-- a while's turns -/
def whlLoop (c : Env → R (Env × Nat × D)) (f : Env → O) : Nat → Env → O
  | 0, _ => .bad
  | n + 1, r => (c r).toO fun (r1, _, x) => match x with
    | .bl true => (match f r1 with
      | .nx r2 => whlLoop c f n r2
      | .ct r2 => whlLoop c f n r2
      | .bk r2 => .nx r2
      | .ret l d => .ret l d
      | .exc r2 c => .exc r2 c
      | .bad => .bad)
    | .bl false => .nx r1
    | _ => .bad

variable (fu : Nat)
mutual
def evS : S → Env → O
  | .set i h e, r => (ev G sub cf 0 e r).toO fun (r1, l, d) => .nx (r1.set i (some (min l h, d)))
  | .setT js e, r => (ev G sub cf 0 e r).toO fun (r1, _, d) => match d with
    | .tup ds => if ds.length = js.length then .nx (setAll js ds r1) else .bad
    | _ => .bad
  | .drop e, r => (ev G sub cf 9 e r).toO fun (r1, _, _) => .nx r1
  | .app i e, r => match getv r i with
    | some (_ + 1, .lst _) => (ev G sub cf 0 e r).toO fun (r1, l, d) => (match getv r1 i with
      | some (m + 1, .lst ds) => if ds.length < LN then .nx (r1.set i (some (min m l + 1, .lst (ds ++ [d])))) else .bad
      | _ => .bad)
    | _ => .bad
  | .ext i e, r => match getv r i with
    | some (_ + 1, .lst _) => (ev G sub cf 1 e r).toO fun (r1, _, d) => (match getv r1 i with
      | some (_ + 1, .lst ds) => (match itemsOf d with
        | some xs => if ds.length + xs.length ≤ LN then .nx (r1.set i (some (1, .lst (ds ++ xs)))) else .bad
        | none => .bad)
      | _ => .bad)
    | _ => .bad
  | .appP i e, r => match getv r i with
    | some (m + 2, .tup (.lst ds :: _)) => if m < 90 then (ev G sub cf 0 e (r.set i none)).toO fun (r1, _, _) => if ds.length < LN then .nx r1 else .bad else .bad
    | _ => .bad
  | .appL i k e, r => match getv r i with
    | some (m + 2, .lst ds) => if m < 90 then (ev G sub cf 9 k (r.set i none)).toO fun (r1, _, y) => (match y with
      | .int p => (match L2.ixN ds.length p with
        | some q => (match ds[q]? with
          | some (.lst es) => (ev G sub cf 0 e r1).toO fun (r2, _, d) => if es.length < LN then .nx (r2.set i (some (2, .lst (ds.set q (.lst (es ++ [d])))))) else .bad
          | _ => .bad)
        | none => .bad)
      | _ => .bad) else .bad
    | _ => .bad
  | .forD t i b, r => match getv r i with
    | some (_ + 1, .dic tt ks ds) => forT t (evB b) (ks.map (keyDt tt)) (r.set i (some (0, .dic tt ks ds)))
    | _ => .bad
  | .forP t a i b, r => (ev G sub cf 0 a r).toO fun (r1, _, x) => match getv r1 i with
    | some (_ + 1, .lst ds) => (match ds.getLast? with
      | some y => (match ixop x y with
        | some z => (match itemsOf z with
          | some xs => forT t (evB b) xs (r1.set i (some (1, .lst ds.dropLast)))
          | none => .bad)
        | none => .bad)
      | none => .bad)
    | _ => .bad
  | .ins i k e, r => match getv r i with
    | some (_ + 1, .lst _) => (ev G sub cf 9 k r).toO fun (r1, _, y) => (ev G sub cf 0 e r1).toO fun (r2, l, d) => (match getv r2 i, y with
      | some (m + 1, .lst ds), .int p => if ds.length < LN ∧ 0 ≤ p ∧ p ≤ 1000000 then .nx (r2.set i (some (min m l + 1, .lst (ds.take p.toNat ++ [d] ++ ds.drop p.toNat)))) else .bad
      | _, _ => .bad)
    | _ => .bad
  | .rvs i, r => match getv r i with
    | some (m + 1, .lst ds) => .nx (r.set i (some (m + 1, .lst ds.reverse)))
    | _ => .bad
  | .clear i, r => match getv r i with
    | some (_ + 1, .lst _) => .nx (r.set i (some (1, .lst [])))
    | _ => .bad
  | .popS i, r => match getv r i with
    | some (_ + 1, .lst ds) => if ds.isEmpty then .bad else .nx (r.set i (some (1, .lst ds.dropLast)))
    | _ => .bad
  | .aug i o e, r => match getv r i with
    | some (_, x) => (ev G sub cf 9 e r).toO fun (r1, _, y) => (match o, x, y with
      | .add, .int a, .int b => .nx (r1.set i (some (0, .int (a + b))))
      | .add, .str a, .str b => if a.length + b.length ≤ LN then .nx (r1.set i (some (0, .str (a ++ b)))) else .bad
      | .sub, .int a, .int b => .nx (r1.set i (some (0, .int (a - b))))
      | _, _, _ => .bad)
    | none => .bad
  | .seti i k e, r => match getv r i with
    | some (_ + 1, .lst _) => (ev G sub cf 0 e r).toO fun (r1, l, d) => (ev G sub cf 9 k r1).toO fun (r2, _, y) => (match getv r2 i, y with
      | some (m + 1, .lst ds), .int p => (match L2.ixN ds.length p with
        | some q => .nx (r2.set i (some (min m l + 1, .lst (ds.set q d))))
        | none => .bad)
      | _, _ => .bad)
    | _ => .bad
  | .dsd i k e, r => match getv r i with
    | some (_ + 1, .dic false _ _) => (ev G sub cf 9 k r).toO fun (r1, _, y) => (ev G sub cf 9 e r1).toO fun (r2, _, d) => (match getv r2 i, d with
      | some (_ + 1, .dic false ks ds), .int z => (match keyD false y with
        | some q => if ks.length < LN then (if hasK ks q then .nx r2 else .nx (r2.set i (some (1, .dic false (dputK ks q) (dputV ks ds q (.int z)))))) else .bad
        | none => .bad)
      | _, _ => .bad)
    | _ => .bad
  | .dpop i k, r => match getv r i with
    | some (_ + 1, .dic true _ _) => (ev G sub cf 9 k r).toO fun (r1, _, y) => (match getv r1 i with
      | some (_ + 1, .dic true ks ds) => (match keyD true y with
        | some q => if hasK ks q then .nx (r1.set i (some (1, .dic true (dropDK ks q) (dropDV ks ds q)))) else .bad
        | none => .bad)
      | _ => .bad)
    | _ => .bad
  | .forU t i b, r => match getv r i with
    | some (_ + 1, .dic tt ks ds) => (match forT t (evB b) (ks.map (keyDt tt)) (r.set i (some (1099, .exn))) with
      | .nx r1 => (match getv r1 i with
        | some (l, .exn) => if l = 1099 ∧ noX (r1.set i none) = true then .nx (r1.set i (some (1, .dic tt ks ds))) else .bad
        | _ => .bad)
      | .ret l d => .ret l d
      | _ => .bad)
    | _ => .bad
  | .dputN i k e, r => match getv r i with
    | some (_ + 2, .dic _ _ _) => (ev G sub cf 0 e r).toO fun (r1, l, d) => (match l with
      | _ + 1 => (ev G sub cf 9 k r1).toO fun (r2, _, y) => (match getv r2 i with
        | some (_ + 2, .dic t ks ds) => (match keyD t y with
          | some q => if ks.length < LN ∧ hasK ks q = false then .nx (r2.set i (some (2, .dic t (ks ++ [q]) (ds ++ [d])))) else .bad
          | none => .bad)
        | _ => .bad)
      | 0 => .bad)
    | _ => .bad
  | .dput2 i k k2 b, r => match getv r i with
    | some (m + 2, .dic t ks ds) => if m < 90 then (ev G sub cf 9 k (r.set i none)).toO fun (r1, _, y) => (match keyD t y with
      | some q => (match dval ks ds q with
        | some (.dic t2 ks2 ds2) => (ev G sub cf 9 k2 r1).toO fun (r2, _, y2) => (match keyD t2 y2 with
          | some q2 => if ks2.length < LN then .nx (r2.set i (some (2, .dic t ks (ds.set (ixK ks q) (.dic t2 (dputK ks2 q2) (dputV ks2 ds2 q2 (.bl b))))))) else .bad
          | none => .bad)
        | _ => .bad)
      | none => .bad) else .bad
    | _ => .bad
  | .appD i k e, r => match getv r i with
    | some (m + 2, .dic t ks ds) => if m < 90 then (ev G sub cf 9 k (r.set i none)).toO fun (r1, _, y) => (match keyD t y with
      | some q => (match dval ks ds q with
        | some (.lst es) => (ev G sub cf 0 e r1).toO fun (r2, _, d) => if es.length < LN then .nx (r2.set i (some (2, .dic t ks (ds.set (ixK ks q) (.lst (es ++ [d])))))) else .bad
        | _ => .bad)
      | none => .bad) else .bad
    | _ => .bad
  | .dput i k e, r => match getv r i with
    | some (_ + 1, .dic _ _ _) => (ev G sub cf 0 e r).toO fun (r1, _, d) => (ev G sub cf 9 k r1).toO fun (r2, _, y) => (match getv r2 i with
      | some (_ + 1, .dic t ks ds) => (match keyD t y with
        | some q => if ks.length < LN then .nx (r2.set i (some (1, .dic t (dputK ks q) (dputV ks ds q d)))) else .bad
        | none => .bad)
      | _ => .bad)
    | _ => .bad
  | .ife c a b, r => (ev G sub cf 9 c r).toO fun (r1, _, x) => match x with
    | .bl true => evB a r1
    | .bl false => evB b r1
    | _ => .bad
  | .for_ t s b, r => (evSr G sub cf s r).toO fun (r1, xs) => forT t (evB b) xs r1
  | .whl c b, r => whlLoop (ev G sub cf 9 c) (evB b) fu r
  | .ret e, r => (ev G sub cf 0 e r).toO fun (_, l, d) => .ret l d
  | .retN, _ => .ret 0 .non
  | .raise c _, r => .exc r c
  | .try_ b c i h, r => match evB b r with
    | .exc r1 k => if sub k c then (match i with
        | some j => (match evB h (r1.set j (some (100 + k, .exn))) with
          | .nx r2 => if noX (r2.set j none) then .nx (r2.set j none) else .bad
          | .bk r2 => if noX (r2.set j none) then .bk (r2.set j none) else .bad
          | .ct r2 => if noX (r2.set j none) then .ct (r2.set j none) else .bad
          | .ret l d => .ret l d
          | _ => .bad)
        | none => (match evB h r1 with
          | .exc _ _ => .bad
          | o => o)) else .exc r1 k
    | o => o
  | .try2 b c1 h1 c2 h2, r => match evB b r with
    | .exc r1 k => if sub k c1 then (match evB h1 r1 with
        | .exc _ _ => .bad
        | o => o) else if sub k c2 then (match evB h2 r1 with
        | .exc _ _ => .bad
        | o => o) else .exc r1 k
    | o => o
  | .pass, r => .nx r
  | .brk, r => .bk r
  | .cont, r => .ct r
  | .bad, _ => .bad
def evB : B → Env → O
  | .nil, r => .nx r
  | .cons s b, r => match evS s r with
    | .nx r1 => evB b r1
    | o => o
end
end

/-- a def: its parameters' number, all names' number, its body -/
structure Fn where
  np : Nat
  nn : Nat
  body : B
def startE (nn : Nat) (ds : List D) : Env := ds.map (fun d => some (0, d)) ++ List.replicate (nn - ds.length) none
def callF (G : Nat → Option D) (sub : Nat → Nat → Bool) (T : List Fn) (fu : Nat) : Nat → Nat → List D → CR
  | 0, _, _ => .bad
  | n + 1, f, ds => match T[f]? with
    | some F => if ds.length = F.np then (match evB G sub (callF G sub T fu n) fu F.body (startE F.nn ds) with
      | .ret l d => .ok l d
      | .nx _ => .ok 0 .non
      | .exc _ c => .exc c
      | _ => .bad) else .bad
    | none => .bad
end Ly

set_option Elab.async false
set_option linter.all false
set_option maxRecDepth 100000
set_option maxHeartbeats 2000000
/-! How a value of the heap stands for a datum; states. -/
namespace Ly
open PySem PySem.Spec PyProof.Rows L2

/-- a list written with the program -/
def KLst (K : PySem.W.Frag) (a : Addr) (xs : List V) : Prop :=
  ∃ (o : Obj) (its : Array Value) (n : Nat), K.lookup a = some o ∧ o.cls = .type "list" ∧ o.dict = none ∧ o.data = .seq its n ∧ its.size ≤ sizeLine ∧ Vals xs its.toList
/-- a list that may be read and is nobody's own -/
def LstF (K : PySem.W.Frag) (H : Hp) (hot : List Addr) (a : Addr) (xs : List V) : Prop := (Rd H a (.lst xs) ∧ a ∉ hot) ∨ KLst K a xs
theorem LstF.seq {K : PySem.W.Frag} {H : Hp} {hot : List Addr} {a : Addr} {xs : List V} (h : LstF K H hot a xs) : SqL K H a xs := by
  rcases h with ⟨h, _⟩ | h
  · exact .inl h
  · exact .inr h

/-- a tuple that may be read; one that may be a key stands in H itself -/
def TupF0 (K : PySem.W.Frag) (H : Hp) (a : Addr) (vs : List V) : Prop := H a = some (.tup vs) ∨ (SqT K H a vs ∧ ∃ v ∈ vs, ∀ k : L2.Key, v ≠ L2.kV k)
/-- a tuple without a dict of its own -/
def Pl (H : Hp) (a : Addr) (vs : List V) : Prop := ∃ o : Obj, H a = some (.frz o (.tup vs)) ∧ o.dict = none
/-- .. one that a dict may be made of has no dict itself -/
def TupF (K : PySem.W.Frag) (H : Hp) (a : Addr) (vs : List V) (ds : List D) : Prop := TupF0 K H a vs ∧ (isPrs ds = true → Pl H a vs)
theorem TupF.sq {K : PySem.W.Frag} {H : Hp} {a : Addr} {vs : List V} {ds : List D} (h : TupF K H a vs ds) : SqT K H a vs := by
  rcases h.1 with h | h
  · exact SqT.of h
  · exact h.1
/-- how a new tuple is laid -/
def tO (b : Bool) (o : Obj) (vs : List V) : HO := if b then .frz o (.tup vs) else .tup vs
/-- the one key of a list -/
def k1 (k : List L2.Key) : L2.Key := k.headD (.inl 0)
/-- a dict's object -/
def dOb (t : Bool) (ks : List (List L2.Key)) (vs : List V) : HO := if t then .dT (ks.zip vs) else .dK ((ks.map k1).zip vs)
def dOk (t : Bool) (ks : List (List L2.Key)) : Prop := t = false → ∀ k ∈ ks, ∃ x, k = [x]
theorem dOb_tup {t : Bool} {ks : List (List L2.Key)} {vs ws : List V} : dOb t ks vs ≠ .tup ws := by cases t <;> exact fun z => nomatch z
theorem dOb_frz {t : Bool} {ks : List (List L2.Key)} {vs : List V} {o : Obj} {u : HO} : dOb t ks vs ≠ .frz o u := by cases t <;> exact fun z => nomatch z
/-- what may be one's own: a list, a dict -/
def Own1 (o : Option HO) : Prop := (∃ xs, o = some (.lst xs)) ∨ ∃ t ks vs, o = some (dOb t ks vs) ∨ ∃ u, o = some (.frz u (dOb t ks vs))
theorem Own1.ne {o : Option HO} (h : Own1 o) : o ≠ none := by
  rcases h with ⟨xs, h⟩ | ⟨t, ks, vs, h | ⟨u, h⟩⟩ <;> rw [h] <;> exact fun z => nomatch z
theorem Own1.no_tup {o : Option HO} (h : Own1 o) {vs : List V} (e : o = some (.tup vs)) : False := by
  rcases h with ⟨xs, h⟩ | ⟨t, ks, vs, h | ⟨u, h⟩⟩
  · rw [h] at e; cases e
  · rw [h] at e; exact dOb_tup (Option.some.inj e)
  · rw [h] at e; cases e
theorem Own1.no_frz {o : Option HO} (h : Own1 o) {ob : Obj} {vs : List V} (e : o = some (.frz ob (.tup vs))) : False := by
  rcases h with ⟨xs, h⟩ | ⟨t, ks, vs, h | ⟨u, h⟩⟩
  · rw [h] at e; cases e
  · rw [h] at e; exact dOb_frz (Option.some.inj e)
  · rw [h] at e
    have := Option.some.inj e
    injection this with _ q
    exact dOb_tup q
mutual
/-- v stands for d; lists within the first l levels are owned: theirs are the addresses told -/
inductive Rep (K : PySem.W.Frag) (H : Hp) (hot : List Addr) : Nat → V → D → List Addr → Prop where
  | non (l : Nat) : Rep K H hot l .non .non []
  | bl (l : Nat) (b : Bool) : Rep K H hot l (.bl b) (.bl b) []
  | int (l : Nat) (i : Int) : Rep K H hot l (.int i) (.int i) []
  | str (l : Nat) (s : Str) : Rep K H hot l (.str s) (.str s) []
  | tup {l : Nat} {a : Addr} {vs : List V} {ds : List D} {A : List Addr} : TupF K H a vs ds → Reps K H hot (l - 1) vs ds A → Rep K H hot l (.ref a) (.tup ds) A
  | lst0 {a : Addr} {vs : List V} {ds : List D} {A : List Addr} : LstF K H hot a vs → Reps K H hot 0 vs ds A → Rep K H hot 0 (.ref a) (.lst ds) A
  | lstS {l : Nat} {a : Addr} {vs : List V} {ds : List D} {A : List Addr} : H a = some (.lst vs) → Reps K H hot l vs ds A → Rep K H hot (l + 1) (.ref a) (.lst ds) (a :: A)
  | dic0 {a : Addr} {t : Bool} {ks : List (List L2.Key)} {vs : List V} {ds : List D} : (Rd H a (dOb t ks vs) ∧ a ∉ hot) → dOk t ks → ks.length = vs.length → Reps K H hot 0 vs ds [] → Rep K H hot 0 (.ref a) (.dic t ks ds) []
  | dicS {l : Nat} {a : Addr} {t : Bool} {ks : List (List L2.Key)} {vs : List V} {ds : List D} {A : List Addr} : H a = some (dOb t ks vs) → dOk t ks → ks.length = vs.length → Reps K H hot l vs ds A → Rep K H hot (l + 1) (.ref a) (.dic t ks ds) (a :: A)
inductive Reps (K : PySem.W.Frag) (H : Hp) (hot : List Addr) : Nat → List V → List D → List Addr → Prop where
  | nil (l : Nat) : Reps K H hot l [] [] []
  | cons {l : Nat} {v : V} {d : D} {A : List Addr} {vs : List V} {ds : List D} {B : List Addr} : Rep K H hot l v d A → Reps K H hot l vs ds B → Reps K H hot l (v :: vs) (d :: ds) (A ++ B)
end
mutual
/-- v stands for d as it is now; from level j on its lists are nobody's own -/
inductive RepT (K : PySem.W.Frag) (H : Hp) (S hot : List Addr) : Nat → V → D → Prop where
  | non (j : Nat) : RepT K H S hot j .non .non
  | bl (j : Nat) (b : Bool) : RepT K H S hot j (.bl b) (.bl b)
  | int (j : Nat) (i : Int) : RepT K H S hot j (.int i) (.int i)
  | str (j : Nat) (s : Str) : RepT K H S hot j (.str s) (.str s)
  | tup {j : Nat} {a : Addr} {vs : List V} {ds : List D} : TupF K H a vs ds → RepTs K H S hot (j - 1) vs ds → RepT K H S hot j (.ref a) (.tup ds)
  | lst0 {a : Addr} {vs : List V} {ds : List D} : LstF K H hot a vs → RepTs K H S hot 0 vs ds → RepT K H S hot 0 (.ref a) (.lst ds)
  | lstS {j : Nat} {a : Addr} {vs : List V} {ds : List D} : LstF K H S a vs → RepTs K H S hot j vs ds → RepT K H S hot (j + 1) (.ref a) (.lst ds)
  | dic0 {a : Addr} {t : Bool} {ks : List (List L2.Key)} {vs : List V} {ds : List D} : (Rd H a (dOb t ks vs) ∧ a ∉ hot) → dOk t ks → ks.length = vs.length → RepTs K H S hot 0 vs ds → RepT K H S hot 0 (.ref a) (.dic t ks ds)
  | dicS {j : Nat} {a : Addr} {t : Bool} {ks : List (List L2.Key)} {vs : List V} {ds : List D} : (Rd H a (dOb t ks vs) ∧ a ∉ S) → dOk t ks → ks.length = vs.length → RepTs K H S hot j vs ds → RepT K H S hot (j + 1) (.ref a) (.dic t ks ds)
inductive RepTs (K : PySem.W.Frag) (H : Hp) (S hot : List Addr) : Nat → List V → List D → Prop where
  | nil (j : Nat) : RepTs K H S hot j [] []
  | cons {j : Nat} {v : V} {d : D} {vs : List V} {ds : List D} : RepT K H S hot j v d → RepTs K H S hot j vs ds → RepTs K H S hot j (v :: vs) (d :: ds)
end

section
variable {K : PySem.W.Frag} {H H' : Hp} {hot hot' X S S' : List Addr}

theorem rd_frame {a : Addr} {o : HO} (c1 : ∀ a, a ∉ X → ∀ o, H a = some o → H' a = some o) (ha : a ∉ X) (h : Rd H a o) : Rd H' a o := by
  rcases h with h | ⟨u, h⟩
  · exact .inl (c1 a ha _ h)
  · exact .inr ⟨u, c1 a ha _ h⟩
theorem sqt_frame {a : Addr} {vs : List V} (c1 : ∀ a, a ∉ X → ∀ o, H a = some o → H' a = some o) (c2 : ∀ a ∈ X, Own1 (H a)) (h : SqT K H a vs) : SqT K H' a vs := by
  rcases h with h | h
  · refine .inl (rd_frame c1 (fun hx => ?_) h)
    have e := c2 a hx
    rcases h with h | ⟨u, h⟩
    · exact e.no_tup h
    · exact e.no_frz h
  · exact .inr h
theorem tupf_frame {a : Addr} {vs : List V} {ds : List D} (c1 : ∀ a, a ∉ X → ∀ o, H a = some o → H' a = some o) (c2 : ∀ a ∈ X, Own1 (H a)) (h : TupF K H a vs ds) : TupF K H' a vs ds := by
  refine ⟨?_, fun e => ?_⟩
  · rcases h.1 with h | ⟨h, g⟩
    · exact .inl (c1 a (fun hx => (c2 a hx).no_tup h) _ h)
    · exact .inr ⟨sqt_frame c1 c2 h, g⟩
  · obtain ⟨o, h1, h2⟩ := h.2 e
    exact ⟨o, c1 a (fun hx => (c2 a hx).no_frz h1) _ h1, h2⟩
theorem rd_some {a : Addr} {o : HO} (h : Rd H a o) : H a ≠ none := by
  rcases h with h | ⟨u, h⟩ <;> rw [h] <;> exact fun z => nomatch z
theorem lstf_frame {a : Addr} {vs : List V} (c1 : ∀ a, a ∉ X → ∀ o, H a = some o → H' a = some o) (hX : ∀ a ∈ X, a ∈ hot) (c4 : ∀ a, a ∈ hot' → a ∈ hot ∨ H a = none)
    (h : LstF K H hot a vs) : LstF K H' hot' a vs := by
  rcases h with ⟨h, hn⟩ | h
  · refine .inl ⟨rd_frame c1 (fun hx => hn (hX a hx)) h, fun hm => ?_⟩
    rcases c4 a hm with z | z
    · exact hn z
    · exact rd_some h z
  · exact .inr h

theorem dicf_frame {a : Addr} {o : HO} (c1 : ∀ a, a ∉ X → ∀ o, H a = some o → H' a = some o) (hX : ∀ a ∈ X, a ∈ hot) (c4 : ∀ a, a ∈ hot' → a ∈ hot ∨ H a = none)
    (h : Rd H a o ∧ a ∉ hot) : Rd H' a o ∧ a ∉ hot' := by
  obtain ⟨h, hn⟩ := h
  refine ⟨rd_frame c1 (fun hx => hn (hX a hx)) h, fun hm => ?_⟩
  rcases c4 a hm with z | z
  · exact hn z
  · exact rd_some h z
mutual
theorem Rep.frame (c1 : ∀ a, a ∉ X → ∀ o, H a = some o → H' a = some o) (c2 : ∀ a ∈ X, Own1 (H a)) (hX : ∀ a ∈ X, a ∈ hot) (c4 : ∀ a, a ∈ hot' → a ∈ hot ∨ H a = none) :
    ∀ {l : Nat} {v : V} {d : D} {B : List Addr}, Rep K H hot l v d B → (∀ a ∈ X, a ∉ B) → Rep K H' hot' l v d B
  | _, _, _, _, .non l, _ => .non l
  | _, _, _, _, .bl l b, _ => .bl l b
  | _, _, _, _, .int l i, _ => .int l i
  | _, _, _, _, .str l s, _ => .str l s
  | _, _, _, _, .tup h hs, n => .tup (tupf_frame c1 c2 h) (Reps.frame c1 c2 hX c4 hs n)
  | _, _, _, _, .lst0 h hs, n => .lst0 (lstf_frame c1 hX c4 h) (Reps.frame c1 c2 hX c4 hs n)
  | _, _, _, _, .lstS h hs, n => .lstS (c1 _ (fun hx => n _ hx List.mem_cons_self) _ h) (Reps.frame c1 c2 hX c4 hs fun a ha hm => n a ha (List.mem_cons_of_mem _ hm))
  | _, _, _, _, .dic0 h k e hs, n => .dic0 (dicf_frame c1 hX c4 h) k e (Reps.frame c1 c2 hX c4 hs fun a ha hm => nomatch hm)
  | _, _, _, _, .dicS h k e hs, n => .dicS (c1 _ (fun hx => n _ hx List.mem_cons_self) _ h) k e (Reps.frame c1 c2 hX c4 hs fun a ha hm => n a ha (List.mem_cons_of_mem _ hm))
theorem Reps.frame (c1 : ∀ a, a ∉ X → ∀ o, H a = some o → H' a = some o) (c2 : ∀ a ∈ X, Own1 (H a)) (hX : ∀ a ∈ X, a ∈ hot) (c4 : ∀ a, a ∈ hot' → a ∈ hot ∨ H a = none) :
    ∀ {l : Nat} {vs : List V} {ds : List D} {B : List Addr}, Reps K H hot l vs ds B → (∀ a ∈ X, a ∉ B) → Reps K H' hot' l vs ds B
  | _, _, _, _, .nil l, _ => .nil l
  | _, _, _, _, .cons h hs, n => .cons (Rep.frame c1 c2 hX c4 h fun a ha hm => n a ha (List.mem_append_left _ hm)) (Reps.frame c1 c2 hX c4 hs fun a ha hm => n a ha (List.mem_append_right _ hm))
end
mutual
theorem RepT.frame (c1 : ∀ a, a ∉ X → ∀ o, H a = some o → H' a = some o) (c2 : ∀ a ∈ X, Own1 (H a)) (hX : ∀ a ∈ X, a ∈ S) (hS : ∀ a ∈ S, a ∈ hot) (c4 : ∀ a, a ∈ hot' → a ∈ hot ∨ H a = none) (c5 : ∀ a, a ∈ S' → a ∈ S ∨ H a = none) :
    ∀ {j : Nat} {v : V} {d : D}, RepT K H S hot j v d → RepT K H' S' hot' j v d
  | _, _, _, .non l => .non l
  | _, _, _, .bl l b => .bl l b
  | _, _, _, .int l i => .int l i
  | _, _, _, .str l s => .str l s
  | _, _, _, .tup h hs => .tup (tupf_frame c1 c2 h) (RepTs.frame c1 c2 hX hS c4 c5 hs)
  | _, _, _, .lst0 h hs => .lst0 (lstf_frame c1 (fun a ha => hS a (hX a ha)) c4 h) (RepTs.frame c1 c2 hX hS c4 c5 hs)
  | _, _, _, .lstS h hs => .lstS (lstf_frame c1 hX c5 h) (RepTs.frame c1 c2 hX hS c4 c5 hs)
  | _, _, _, .dic0 h k e hs => .dic0 (dicf_frame c1 (fun a ha => hS a (hX a ha)) c4 h) k e (RepTs.frame c1 c2 hX hS c4 c5 hs)
  | _, _, _, .dicS h k e hs => .dicS (dicf_frame c1 hX c5 h) k e (RepTs.frame c1 c2 hX hS c4 c5 hs)
theorem RepTs.frame (c1 : ∀ a, a ∉ X → ∀ o, H a = some o → H' a = some o) (c2 : ∀ a ∈ X, Own1 (H a)) (hX : ∀ a ∈ X, a ∈ S) (hS : ∀ a ∈ S, a ∈ hot) (c4 : ∀ a, a ∈ hot' → a ∈ hot ∨ H a = none) (c5 : ∀ a, a ∈ S' → a ∈ S ∨ H a = none) :
    ∀ {j : Nat} {vs : List V} {ds : List D}, RepTs K H S hot j vs ds → RepTs K H' S' hot' j vs ds
  | _, _, _, .nil l => .nil l
  | _, _, _, .cons h hs => .cons (RepT.frame c1 c2 hX hS c4 c5 h) (RepTs.frame c1 c2 hX hS c4 c5 hs)
end

mutual
theorem Rep.zero : ∀ {v : V} {d : D} {B : List Addr}, Rep K H hot 0 v d B → B = []
  | _, _, _, .non _ => rfl
  | _, _, _, .bl _ _ => rfl
  | _, _, _, .int _ _ => rfl
  | _, _, _, .str _ _ => rfl
  | _, _, _, .tup _ hs => Reps.zero hs
  | _, _, _, .lst0 _ hs => Reps.zero hs
  | _, _, _, .dic0 _ _ _ _ => rfl
theorem Reps.zero : ∀ {vs : List V} {ds : List D} {B : List Addr}, Reps K H hot 0 vs ds B → B = []
  | _, _, _, .nil _ => rfl
  | _, _, _, .cons h hs => by rw [Rep.zero h, Reps.zero hs]; rfl
end
mutual
theorem Rep.toT (hS : ∀ a ∈ S, a ∈ hot) : ∀ {l j : Nat} {v : V} {d : D} {B : List Addr}, Rep K H hot l v d B → (∀ a ∈ B, a ∉ S) → l ≤ j → RepT K H S hot j v d
  | _, j, _, _, _, .non _, _, _ => .non j
  | _, j, _, _, _, .bl _ b, _, _ => .bl j b
  | _, j, _, _, _, .int _ b, _, _ => .int j b
  | _, j, _, _, _, .str _ b, _, _ => .str j b
  | l, j, _, _, _, .tup h hs, n, e => .tup h (Reps.toT hS hs n (by omega))
  | _, 0, _, _, _, .lst0 h hs, n, _ => .lst0 h (Reps.toT hS hs n (Nat.le_refl 0))
  | _, j + 1, _, _, _, .lst0 h hs, n, _ => .lstS (lstf_frame (X := []) (fun a _ o z => z) (fun _ z => nomatch z) (fun a z => .inl (hS a z)) h) (Reps.toT hS hs n (Nat.zero_le j))
  | _, 0, _, _, _, .lstS _ _, _, e => absurd e (by omega)
  | _, j + 1, _, _, _, .lstS h hs, n, e => .lstS (.inl ⟨.inl h, n _ List.mem_cons_self⟩) (Reps.toT hS hs (fun a ha => n a (List.mem_cons_of_mem _ ha)) (by omega))
  | _, 0, _, _, _, .dic0 h k e hs, n, _ => .dic0 h k e (Reps.toT hS hs (fun a ha => nomatch ha) (Nat.le_refl 0))
  | _, j + 1, _, _, _, .dic0 h k e hs, n, _ => .dicS ⟨h.1, fun z => h.2 (hS _ z)⟩ k e (Reps.toT hS hs (fun a ha => nomatch ha) (Nat.zero_le j))
  | _, 0, _, _, _, .dicS _ _ _ _, _, e => absurd e (by omega)
  | _, j + 1, _, _, _, .dicS h k e hs, n, e' => .dicS ⟨.inl h, n _ List.mem_cons_self⟩ k e (Reps.toT hS hs (fun a ha => n a (List.mem_cons_of_mem _ ha)) (by omega))
theorem Reps.toT (hS : ∀ a ∈ S, a ∈ hot) : ∀ {l j : Nat} {vs : List V} {ds : List D} {B : List Addr}, Reps K H hot l vs ds B → (∀ a ∈ B, a ∉ S) → l ≤ j → RepTs K H S hot j vs ds
  | _, j, _, _, _, .nil _, _, _ => .nil j
  | _, _, _, _, _, .cons h hs, n, e => .cons (Rep.toT hS h (fun a ha => n a (List.mem_append_left _ ha)) e) (Reps.toT hS hs (fun a ha => n a (List.mem_append_right _ ha)) e)
end
mutual
theorem RepT.up (hS : ∀ a ∈ S, a ∈ hot) : ∀ {i j : Nat} {v : V} {d : D}, RepT K H S hot i v d → i ≤ j → RepT K H S hot j v d
  | _, j, _, _, .non _, _ => .non j
  | _, j, _, _, .bl _ b, _ => .bl j b
  | _, j, _, _, .int _ b, _ => .int j b
  | _, j, _, _, .str _ b, _ => .str j b
  | l, j, _, _, .tup h hs, e => .tup h (RepTs.up hS hs (by omega))
  | _, 0, _, _, .lst0 h hs, _ => .lst0 h hs
  | _, j + 1, _, _, .lst0 h hs, _ => .lstS (lstf_frame (X := []) (fun a _ o z => z) (fun _ z => nomatch z) (fun a z => .inl (hS a z)) h) (RepTs.up hS hs (Nat.zero_le j))
  | _, 0, _, _, .lstS _ _, e => absurd e (by omega)
  | _, j + 1, _, _, .lstS h hs, e => .lstS h (RepTs.up hS hs (by omega))
  | _, 0, _, _, .dic0 h k e hs, _ => .dic0 h k e hs
  | _, j + 1, _, _, .dic0 h k e hs, _ => .dicS ⟨h.1, fun z => h.2 (hS _ z)⟩ k e (RepTs.up hS hs (Nat.zero_le j))
  | _, 0, _, _, .dicS _ _ _ _, e => absurd e (by omega)
  | _, j + 1, _, _, .dicS h k e hs, e' => .dicS h k e (RepTs.up hS hs (by omega))
theorem RepTs.up (hS : ∀ a ∈ S, a ∈ hot) : ∀ {i j : Nat} {vs : List V} {ds : List D}, RepTs K H S hot i vs ds → i ≤ j → RepTs K H S hot j vs ds
  | _, j, _, _, .nil _, _ => .nil j
  | _, _, _, _, .cons h hs, e => .cons (RepT.up hS h e) (RepTs.up hS hs e)
end
mutual
theorem RepT.zero : ∀ {v : V} {d : D}, RepT K H S hot 0 v d → Rep K H hot 0 v d []
  | _, _, .non _ => .non 0
  | _, _, .bl _ b => .bl 0 b
  | _, _, .int _ b => .int 0 b
  | _, _, .str _ b => .str 0 b
  | _, _, .tup h hs => .tup h (RepTs.zero hs)
  | _, _, .lst0 h hs => .lst0 h (RepTs.zero hs)
  | _, _, .dic0 h k e hs => .dic0 h k e (RepTs.zero hs)
theorem RepTs.zero : ∀ {vs : List V} {ds : List D}, RepTs K H S hot 0 vs ds → Reps K H hot 0 vs ds []
  | _, _, .nil _ => .nil 0
  | _, _, .cons h hs => Reps.cons (A := []) (RepT.zero h) (RepTs.zero hs)
end
/-- with nothing hot, all may be handed on -/
theorem lstf_nil {a : Addr} {xs : List V} (h : LstF K H hot a xs) : LstF K H [] a xs := by
  rcases h with ⟨h, _⟩ | h
  · exact .inl ⟨h, by simp⟩
  · exact .inr h
mutual
theorem RepT.cold : ∀ {j i : Nat} {v : V} {d : D}, RepT K H S hot j v d → RepT K H [] [] i v d
  | _, i, _, _, .non _ => .non i
  | _, i, _, _, .bl _ b => .bl i b
  | _, i, _, _, .int _ b => .int i b
  | _, i, _, _, .str _ b => .str i b
  | _, i, _, _, .tup h hs => .tup h (RepTs.cold hs)
  | _, 0, _, _, .lst0 h hs => .lst0 (lstf_nil h) (RepTs.cold hs)
  | _, i + 1, _, _, .lst0 h hs => .lstS (lstf_nil h) (RepTs.cold hs)
  | _, 0, _, _, .lstS h hs => .lst0 (lstf_nil h) (RepTs.cold hs)
  | _, i + 1, _, _, .lstS h hs => .lstS (lstf_nil h) (RepTs.cold hs)
  | _, 0, _, _, .dic0 h k e hs => .dic0 ⟨h.1, by simp⟩ k e (RepTs.cold hs)
  | _, i + 1, _, _, .dic0 h k e hs => .dicS ⟨h.1, by simp⟩ k e (RepTs.cold hs)
  | _, 0, _, _, .dicS h k e hs => .dic0 ⟨h.1, by simp⟩ k e (RepTs.cold hs)
  | _, i + 1, _, _, .dicS h k e hs => .dicS ⟨h.1, by simp⟩ k e (RepTs.cold hs)
theorem RepTs.cold : ∀ {j i : Nat} {vs : List V} {ds : List D}, RepTs K H S hot j vs ds → RepTs K H [] [] i vs ds
  | _, i, _, _, .nil _ => .nil i
  | _, _, _, _, .cons h hs => .cons (RepT.cold h) (RepTs.cold hs)
end

mutual
/-- some of one's own lists are given up -/
theorem Rep.low : ∀ {l l' : Nat} {v : V} {d : D} {B : List Addr}, Rep K H hot l v d B → l' ≤ l → B.Nodup →
    ∃ B', B'.Sublist B ∧ ∀ hot', (∀ a ∈ hot', a ∈ hot) → (∀ a ∈ B, a ∈ hot' → a ∈ B') → Rep K H hot' l' v d B'
  | _, l', _, _, _, .non _, _, _ => ⟨[], .slnil, fun _ _ _ => .non l'⟩
  | _, l', _, _, _, .bl _ b, _, _ => ⟨[], .slnil, fun _ _ _ => .bl l' b⟩
  | _, l', _, _, _, .int _ b, _, _ => ⟨[], .slnil, fun _ _ _ => .int l' b⟩
  | _, l', _, _, _, .str _ b, _, _ => ⟨[], .slnil, fun _ _ _ => .str l' b⟩
  | l, l', _, _, _, .tup h hs, e, nd =>
    let ⟨B', s, f⟩ := Reps.low (l' := l' - 1) hs (by omega) nd
    ⟨B', s, fun hot' h1 h2 => .tup h (f hot' h1 h2)⟩
  | _, l', _, _, _, .lst0 h hs, e, nd => by
    have e0 : l' = 0 := by omega
    subst e0
    obtain ⟨B', s, f⟩ := Reps.low (l' := 0) hs (Nat.le_refl 0) nd
    exact ⟨B', s, fun hot' h1 h2 => .lst0 (lstf_frame (X := []) (fun a _ o z => z) (fun _ z => nomatch z) (fun a z => .inl (h1 a z)) h) (f hot' h1 h2)⟩
  | _, l', _, _, _, .lstS (a := a) (A := A) h hs, e, nd => by
    have nd' : A.Nodup := (List.nodup_cons.mp nd).2
    cases l' with
    | zero =>
      obtain ⟨B', s, f⟩ := Reps.low (l' := 0) hs (Nat.zero_le _) nd'
      refine ⟨B', s.cons _, fun hot' h1 h2 => .lst0 (.inl ⟨.inl h, fun hm => ?_⟩) (f hot' h1 fun b hb hm => h2 b (List.mem_cons_of_mem _ hb) hm)⟩
      exact (List.nodup_cons.mp nd).1 (s.subset (h2 a List.mem_cons_self hm))
    | succ l' =>
      obtain ⟨B', s, f⟩ := Reps.low (l' := l') hs (by omega) nd'
      refine ⟨a :: B', s.cons_cons _, fun hot' h1 h2 => .lstS h (f hot' h1 fun b hb hm => ?_)⟩
      rcases List.mem_cons.mp (h2 b (List.mem_cons_of_mem _ hb) hm) with z | z
      · subst z
        exact absurd hb (List.nodup_cons.mp nd).1
      · exact z
  | _, l', _, _, _, .dic0 h k e' hs, e, nd => by
    have e0 : l' = 0 := by omega
    subst e0
    obtain ⟨B', s, f⟩ := Reps.low (l' := 0) hs (Nat.le_refl 0) .nil
    have eB : B' = [] := by simpa using s
    subst eB
    exact ⟨[], .slnil, fun hot' h1 h2 => .dic0 (dicf_frame (X := []) (fun a _ o z => z) (fun _ z => nomatch z) (fun a z => .inl (h1 a z)) h) k e' (f hot' h1 (by simp))⟩
  | _, l', _, _, _, .dicS (a := a) (A := A) h k e' hs, e, nd => by
    have nd' : A.Nodup := (List.nodup_cons.mp nd).2
    cases l' with
    | zero =>
      obtain ⟨B', s, f⟩ := Reps.low (l' := 0) hs (Nat.zero_le _) nd'
      refine ⟨[], List.nil_sublist _, fun hot' h1 h2 => .dic0 ⟨.inl h, fun hm => by simpa using h2 a (by simp) hm⟩ k e' ?_⟩
      have q := f hot' h1 fun b hb hm => absurd (h2 b (List.mem_cons_of_mem _ hb) hm) (by simp)
      have eB := Reps.zero q
      subst eB
      exact q
    | succ l' =>
      obtain ⟨B', s, f⟩ := Reps.low (l' := l') hs (by omega) nd'
      refine ⟨a :: B', s.cons_cons _, fun hot' h1 h2 => .dicS h k e' (f hot' h1 fun b hb hm => ?_)⟩
      rcases List.mem_cons.mp (h2 b (List.mem_cons_of_mem _ hb) hm) with z | z
      · subst z
        exact absurd hb (List.nodup_cons.mp nd).1
      · exact z
theorem Reps.low : ∀ {l l' : Nat} {vs : List V} {ds : List D} {B : List Addr}, Reps K H hot l vs ds B → l' ≤ l → B.Nodup →
    ∃ B', B'.Sublist B ∧ ∀ hot', (∀ a ∈ hot', a ∈ hot) → (∀ a ∈ B, a ∈ hot' → a ∈ B') → Reps K H hot' l' vs ds B'
  | _, l', _, _, _, .nil _, _, _ => ⟨[], .slnil, fun _ _ _ => .nil l'⟩
  | _, l', _, _, _, .cons (A := A) (B := B) h hs, e, nd => by
    obtain ⟨n1, n2, n3⟩ := List.nodup_append.mp nd
    obtain ⟨A', s1, f1⟩ := Rep.low (l' := l') h e n1
    obtain ⟨B', s2, f2⟩ := Reps.low (l' := l') hs e n2
    refine ⟨A' ++ B', s1.append s2, fun hot' h1 h2 => .cons (f1 hot' h1 fun a ha hm => ?_) (f2 hot' h1 fun a ha hm => ?_)⟩
    · rcases List.mem_append.mp (h2 a (List.mem_append_left _ ha) hm) with z | z
      · exact z
      · exact absurd rfl (n3 a ha a (s2.subset z))
    · rcases List.mem_append.mp (h2 a (List.mem_append_right _ ha) hm) with z | z
      · exact absurd rfl (n3 a (s1.subset z) a ha)
      · exact z
end
mutual
/-- what holds no list that is held elsewhere: whatever is hot -/
theorem Rep.of_clean : ∀ {l : Nat} {v : V} {d : D} {B : List Addr}, Rep K H hot l v d B → d.clean l = true → Rep K H hot' l v d B
  | _, _, _, _, .non l, _ => .non l
  | _, _, _, _, .bl l b, _ => .bl l b
  | _, _, _, _, .int l b, _ => .int l b
  | _, _, _, _, .str l b, _ => .str l b
  | l, _, _, _, .tup h hs, e => .tup h (Reps.of_clean hs (by cases l <;> simpa [D.clean] using e))
  | _, _, _, _, .lst0 h hs, e => by simp [D.clean] at e
  | _, _, _, _, .lstS h hs, e => .lstS h (Reps.of_clean hs (by simpa [D.clean] using e))
  | _, _, _, _, .dic0 _ _ _ _, e => by simp [D.clean] at e
  | _, _, _, _, .dicS _ _ _ _, e => by simp [D.clean] at e
theorem Reps.of_clean : ∀ {l : Nat} {vs : List V} {ds : List D} {B : List Addr}, Reps K H hot l vs ds B → cleans l ds = true → Reps K H hot' l vs ds B
  | _, _, _, _, .nil l, _ => .nil l
  | _, _, _, _, .cons h hs, e => by
    simp only [cleans, Bool.and_eq_true] at e
    exact .cons (Rep.of_clean h e.1) (Reps.of_clean hs e.2)
end

mutual
theorem RepT.dp : ∀ {n j : Nat} {v : V} {d : D}, RepT K H S hot j v d → d.okd n = true → Dp K H v d.pd
  | _, _, _, _, .non _, _ => .non
  | _, _, _, _, .bl _ b, _ => .bl b
  | _, _, _, _, .int _ b, _ => .int b
  | _, _, _, _, .str _ b, _ => .str b
  | 0, _, _, _, .tup h hs, e => by simp [D.okd] at e
  | n + 1, _, _, _, .tup h hs, e => .tup h.sq (RepTs.dp hs (by simpa [D.okd] using e))
  | 0, _, _, _, .lst0 h hs, e => by simp [D.okd] at e
  | n + 1, _, _, _, .lst0 h hs, e => .lst h.seq (RepTs.dp hs (by simpa [D.okd] using e))
  | 0, _, _, _, .lstS h hs, e => by simp [D.okd] at e
  | n + 1, _, _, _, .lstS h hs, e => .lst h.seq (RepTs.dp hs (by simpa [D.okd] using e))
  | n, _, _, _, .dic0 _ _ _ _, e => by cases n <;> simp [D.okd] at e
  | n, _, _, _, .dicS _ _ _ _, e => by cases n <;> simp [D.okd] at e
theorem RepTs.dp : ∀ {n j : Nat} {vs : List V} {ds : List D}, RepTs K H S hot j vs ds → okds n ds = true → DpAll K H vs (pds ds)
  | _, _, _, _, .nil _, _ => .nil
  | _, _, _, _, .cons h hs, e => by
    simp only [okds, Bool.and_eq_true] at e
    exact .cons (RepT.dp h e.1) (RepTs.dp hs e.2)
end
end

mutual
theorem okd_lay : ∀ {n : Nat} {d : D}, d.okd n = true → d.pd.canLay0 = true ∧ d.pd.depth ≤ n
  | _, .non, _ => by simp [D.pd, PyData.canLay0, PyData.depth]
  | _, .bl _, _ => by simp [D.pd, PyData.canLay0, PyData.depth]
  | _, .int _, _ => by simp [D.pd, PyData.canLay0, PyData.depth]
  | _, .str s, h => by
    have h' : PyData.strOk s = true := by cases ‹Nat› <;> simpa [D.okd] using h
    simp [D.pd, PyData.canLay0, PyData.depth, h']
  | 0, .tup _, h => by simp [D.okd] at h
  | n + 1, .tup ds, h => by
    have q := okds_lay (n := n) (ds := ds) (by simpa [D.okd] using h)
    simp only [D.pd, PyData.canLay0, PyData.depth]
    exact ⟨q.1, by omega⟩
  | 0, .lst _, h => by simp [D.okd] at h
  | n + 1, .lst ds, h => by
    have q := okds_lay (n := n) (ds := ds) (by simpa [D.okd] using h)
    simp only [D.pd, PyData.canLay0, PyData.depth]
    exact ⟨q.1, by omega⟩
  | 0, .dic _ _ _, h => by simp [D.okd] at h
  | n + 1, .dic _ _ _, h => by simp [D.okd] at h
  | 0, .exn, h => by simp [D.okd] at h
  | n + 1, .exn, h => by simp [D.okd] at h
theorem okds_lay : ∀ {n : Nat} {ds : List D}, okds n ds = true → PyData.canLayAll0 (pds ds) = true ∧ PyData.depthAll (pds ds) ≤ n
  | _, [], _ => by simp [pds, PyData.canLayAll0, PyData.depthAll]
  | n, d :: ds, h => by
    simp only [okds, Bool.and_eq_true] at h
    have q := okd_lay h.1
    have q' := okds_lay h.2
    simp only [pds, PyData.canLayAll0, PyData.depthAll, Bool.and_eq_true]
    exact ⟨⟨q.1, q'.1⟩, by omega⟩
end
theorem okd_shaped {d : D} (h : okd d = true) : SeqAt.shaped d.pd = true := by
  have q := okd_lay h
  unfold SeqAt.shaped
  rw [Bool.and_eq_true]
  exact ⟨q.1, decide_eq_true (by omega)⟩
theorem pds_map : ∀ ds : List D, pds ds = ds.map D.pd
  | [] => rfl
  | d :: ds => by rw [pds, pds_map ds]; rfl
end Ly

set_option Elab.async false
set_option linter.all false
set_option maxRecDepth 100000
set_option maxHeartbeats 2000000
/-! States: frames with temporaries. -/
namespace Ly
open PySem PySem.Spec PyProof.Rows L2

inductive Tm where
  | own (v : V) (l : Nat) (d : D) | brw (v : V) (j : Nat) (d : D) | owns (vs : List V) (l : Nat) (ds : List D) | brws (vs : List V) (j : Nat) (ds : List D) | frz (a : Addr) (o : Obj) (u : HO) | opn (a : Addr) (vs : List V) (l : Nat) (ds : List D) | lck (a : Addr) (o : Obj) (t : Bool) (ks : List (List L2.Key)) (vs : List V) (ds : List D) | opnD (a : Addr) (t : Bool) (ks : List (List L2.Key)) (vs : List V) (l : Nat) (ds : List D)
inductive TmOk (K : PySem.W.Frag) (H : Hp) (S hot : List Addr) : Tm → List Addr → Prop where
  | own {v : V} {l : Nat} {d : D} {A : List Addr} : Rep K H hot l v d A → TmOk K H S hot (.own v l d) A
  | brw {v : V} {j : Nat} {d : D} : RepT K H S hot j v d → TmOk K H S hot (.brw v j d) []
  | owns {vs : List V} {l : Nat} {ds : List D} {A : List Addr} : Reps K H hot l vs ds A → TmOk K H S hot (.owns vs l ds) A
  | brws {vs : List V} {j : Nat} {ds : List D} : RepTs K H S hot j vs ds → TmOk K H S hot (.brws vs j ds) []
  | frz {a : Addr} {o : Obj} {u : HO} : H a = some (.frz o u) → a ∉ hot → TmOk K H S hot (.frz a o u) []
  | opn {a : Addr} {vs : List V} {l : Nat} {ds : List D} {A : List Addr} : H a = some (.lst vs) → Reps K H hot l vs ds A → TmOk K H S hot (.opn a vs l ds) (a :: A)
  | lck {a : Addr} {o : Obj} {t : Bool} {ks : List (List L2.Key)} {vs : List V} {ds : List D} : H a = some (.frz o (dOb t ks vs)) → dOk t ks → ks.length = vs.length → Reps K H hot 0 vs ds [] → TmOk K H S hot (.lck a o t ks vs ds) [a]
  | opnD {a : Addr} {t : Bool} {ks : List (List L2.Key)} {vs : List V} {l : Nat} {ds : List D} {A : List Addr} : H a = some (dOb t ks vs) → dOk t ks → ks.length = vs.length → Reps K H hot l vs ds A → TmOk K H S hot (.opnD a t ks vs l ds) (a :: A)
inductive Tms (K : PySem.W.Frag) (H : Hp) (S hot : List Addr) : List Tm → List Addr → Prop where
  | nil : Tms K H S hot [] []
  | cons {t : Tm} {A : List Addr} {ts : List Tm} {B : List Addr} : TmOk K H S hot t A → Tms K H S hot ts B → Tms K H S hot (t :: ts) (A ++ B)
inductive SlotOk (K : PySem.W.Frag) (EX : Addr → Nat → Prop) (H : Hp) (hot : List Addr) : Option V → Option (Nat × D) → List Addr → Prop where
  | non {o : Option V} : SlotOk K EX H hot o none []
  | exc {a : Addr} {c : Nat} : EX a c → SlotOk K EX H hot (some (.ref a)) (some (100 + c, .exn)) []
  | sm {v : V} {l : Nat} {d : D} {A : List Addr} : Rep K H hot l v d A → SlotOk K EX H hot (some v) (some (l, d)) A
inductive Slots (K : PySem.W.Frag) (EX : Addr → Nat → Prop) (H : Hp) (hot : List Addr) : L2.St → Env → List Addr → Prop where
  | nil : Slots K EX H hot [] [] []
  | cons {o : Option V} {x : Option (Nat × D)} {A : List Addr} {vs : L2.St} {ds : Env} {B : List Addr} : SlotOk K EX H hot o x A → Slots K EX H hot vs ds B → Slots K EX H hot (o :: vs) (x :: ds) (A ++ B)
def Tm.mine : Tm → Bool
  | .own _ _ _ => true
  | .owns _ _ _ => true
  | .frz _ _ _ => true
  | .opn _ _ _ _ => true
  | .lck _ _ _ _ _ _ => true
  | .opnD _ _ _ _ _ _ => true
  | _ => false

section
variable {K : PySem.W.Frag} {EX : Addr → Nat → Prop} {H H' : Hp} {hot hot' X S S' : List Addr}
mutual
theorem Rep.mem : ∀ {l : Nat} {v : V} {d : D} {B : List Addr}, Rep K H hot l v d B → ∀ a ∈ B, Own1 (H a)
  | _, _, _, _, .non l => fun _ z => nomatch z
  | _, _, _, _, .bl l b => fun _ z => nomatch z
  | _, _, _, _, .int l b => fun _ z => nomatch z
  | _, _, _, _, .str l b => fun _ z => nomatch z
  | _, _, _, _, .tup h hs => Reps.mem hs
  | _, _, _, _, .lst0 h hs => Reps.mem hs
  | _, _, _, _, .lstS h hs => fun a ha => by
    rcases List.mem_cons.mp ha with e | ha
    · rw [e]; exact .inl ⟨_, h⟩
    · exact Reps.mem hs a ha
  | _, _, _, _, .dic0 _ _ _ _ => fun _ z => nomatch z
  | _, _, _, _, .dicS h _ _ hs => fun a ha => by
    rcases List.mem_cons.mp ha with e | ha
    · rw [e]; exact .inr ⟨_, _, _, .inl h⟩
    · exact Reps.mem hs a ha
theorem Reps.mem : ∀ {l : Nat} {vs : List V} {ds : List D} {B : List Addr}, Reps K H hot l vs ds B → ∀ a ∈ B, Own1 (H a)
  | _, _, _, _, .nil l => fun _ z => nomatch z
  | _, _, _, _, .cons h hs => fun a ha => by
    rcases List.mem_append.mp ha with ha | ha
    · exact Rep.mem h a ha
    · exact Reps.mem hs a ha
end
theorem TmOk.mem {t : Tm} {A : List Addr} (h : TmOk K H S hot t A) : ∀ a ∈ A, Own1 (H a) := by
  cases h with
  | own h => exact h.mem
  | brw h => exact fun _ z => nomatch z
  | owns h => exact h.mem
  | brws h => exact fun _ z => nomatch z
  | frz h _ => exact fun _ z => nomatch z
  | opn h hs =>
    intro b hb
    rcases List.mem_cons.mp hb with rfl | hb
    · exact .inl ⟨_, h⟩
    · exact hs.mem b hb
  | lck h _ _ _ =>
    intro b hb
    rw [List.mem_singleton.mp hb]
    exact .inr ⟨_, _, _, .inr ⟨_, h⟩⟩
  | opnD h _ _ hs =>
    intro b hb
    rcases List.mem_cons.mp hb with rfl | hb
    · exact .inr ⟨_, _, _, .inl h⟩
    · exact hs.mem b hb
theorem Tms.mem : ∀ {ts : List Tm} {A : List Addr}, Tms K H S hot ts A → ∀ a ∈ A, Own1 (H a)
  | _, _, .nil => fun _ z => nomatch z
  | _, _, .cons h hs => fun a ha => by
    rcases List.mem_append.mp ha with ha | ha
    · exact h.mem a ha
    · exact Tms.mem hs a ha
theorem SlotOk.mem {o : Option V} {x : Option (Nat × D)} {A : List Addr} (h : SlotOk K EX H hot o x A) : ∀ a ∈ A, Own1 (H a) := by
  cases h with
  | non => exact fun _ z => nomatch z
  | exc h => exact fun _ z => nomatch z
  | sm h => exact h.mem
theorem Slots.mem : ∀ {σ : L2.St} {r : Env} {A : List Addr}, Slots K EX H hot σ r A → ∀ a ∈ A, Own1 (H a)
  | _, _, _, .nil => fun _ z => nomatch z
  | _, _, _, .cons h hs => fun a ha => by
    rcases List.mem_append.mp ha with ha | ha
    · exact h.mem a ha
    · exact Slots.mem hs a ha

/-- the frame rule's premises: what is not in X stays; X are own lists; what becomes hot is new -/
structure Fr (H H' : Hp) (S S' hot hot' X : List Addr) : Prop where
  c1 : ∀ a, a ∉ X → ∀ o, H a = some o → H' a = some o
  c2 : ∀ a ∈ X, Own1 (H a)
  hX : ∀ a ∈ X, a ∈ hot
  c4 : ∀ a, a ∈ hot' → a ∈ hot ∨ H a = none
  hS : ∀ a ∈ S, a ∈ hot
  c5 : ∀ a, a ∈ S' → a ∈ S ∨ H a = none
theorem TmOk.frame {t : Tm} {A : List Addr} (F : Fr H H' S S' hot hot' X) (h : TmOk K H S hot t A) (hm : (∀ a ∈ X, a ∈ S) ∨ t.mine = true) (hn : ∀ a ∈ X, a ∉ A) : TmOk K H' S' hot' t A := by
  cases h with
  | own h => exact .own (h.frame F.c1 F.c2 F.hX F.c4 hn)
  | owns h => exact .owns (h.frame F.c1 F.c2 F.hX F.c4 hn)
  | brw h =>
    rcases hm with hm | hm
    · exact .brw (h.frame F.c1 F.c2 hm F.hS F.c4 F.c5)
    · cases hm
  | brws h =>
    rcases hm with hm | hm
    · exact .brws (h.frame F.c1 F.c2 hm F.hS F.c4 F.c5)
    · cases hm
  | frz h hn' => exact .frz (F.c1 _ (fun hx => hn' (F.hX _ hx)) _ h) (fun hm => (F.c4 _ hm).elim hn' fun z => by rw [h] at z; cases z)
  | opn h hs => exact .opn (F.c1 _ (fun hx => hn _ hx List.mem_cons_self) _ h) (hs.frame F.c1 F.c2 F.hX F.c4 fun a ha hm => hn a ha (List.mem_cons_of_mem _ hm))
  | lck h ok e hs => exact .lck (F.c1 _ (fun hx => hn _ hx List.mem_cons_self) _ h) ok e (hs.frame F.c1 F.c2 F.hX F.c4 (by simp))
  | opnD h ok e hs => exact .opnD (F.c1 _ (fun hx => hn _ hx List.mem_cons_self) _ h) ok e (hs.frame F.c1 F.c2 F.hX F.c4 fun a ha hm => hn a ha (List.mem_cons_of_mem _ hm))
theorem Tms.frame (F : Fr H H' S S' hot hot' X) : ∀ {ts : List Tm} {A : List Addr}, Tms K H S hot ts A → ((∀ a ∈ X, a ∈ S) ∨ ∀ t ∈ ts, t.mine = true) → (∀ a ∈ X, a ∉ A) → Tms K H' S' hot' ts A
  | _, _, .nil, _, _ => .nil
  | _, _, .cons h hs, hm, hn => .cons (h.frame F (hm.imp id fun z => z _ List.mem_cons_self) fun a ha z => hn a ha (List.mem_append_left _ z))
    (Tms.frame F hs (hm.imp id fun z t ht => z t (List.mem_cons_of_mem _ ht)) fun a ha z => hn a ha (List.mem_append_right _ z))
theorem SlotOk.frame {o : Option V} {x : Option (Nat × D)} {A : List Addr} (F : Fr H H' S S' hot hot' X) (h : SlotOk K EX H hot o x A) (hn : ∀ a ∈ X, a ∉ A) : SlotOk K EX H' hot' o x A := by
  cases h with
  | non => exact .non
  | exc h => exact .exc h
  | sm h => exact .sm (h.frame F.c1 F.c2 F.hX F.c4 hn)
theorem Slots.frame (F : Fr H H' S S' hot hot' X) : ∀ {σ : L2.St} {r : Env} {A : List Addr}, Slots K EX H hot σ r A → (∀ a ∈ X, a ∉ A) → Slots K EX H' hot' σ r A
  | _, _, _, .nil, _ => .nil
  | _, _, _, .cons h hs, hn => .cons (h.frame F fun a ha z => hn a ha (List.mem_append_left _ z)) (Slots.frame F hs fun a ha z => hn a ha (List.mem_append_right _ z))
theorem Slots.length : ∀ {σ : L2.St} {r : Env} {A : List Addr}, Slots K EX H hot σ r A → σ.length = r.length
  | _, _, _, .nil => rfl
  | _, _, _, .cons _ hs => by rw [List.length_cons, List.length_cons, Slots.length hs]
/-- slot i taken out, another put in -/
theorem Slots.split : ∀ {σ : L2.St} {r : Env} {B : List Addr} (i : Nat), Slots K EX H hot σ r B → i < r.length →
    ∃ o x B1 A B2, σ[i]? = some o ∧ r[i]? = some x ∧ B = B1 ++ (A ++ B2) ∧ SlotOk K EX H hot o x A ∧
      ∀ (H' : Hp) (S S' hot' X : List Addr) (o' : Option V) (x' : Option (Nat × D)) (A' : List Addr), Fr H H' S S' hot hot' X → (∀ a ∈ X, a ∉ B1 ∧ a ∉ B2) → SlotOk K EX H' hot' o' x' A' →
        Slots K EX H' hot' (σ.set i o') (r.set i x') (B1 ++ (A' ++ B2))
  | _, _, _, _, .nil, h => absurd h (by simp)
  | _, _, _, 0, .cons (o := o) (x := x) (A := A) (B := B) h hs, _ => ⟨o, x, [], A, B, rfl, rfl, rfl, h, fun H' S S' hot' X o' x' A' F hn h' => by
    show Slots K EX H' hot' _ _ (A' ++ B)
    exact .cons h' (Slots.frame F hs fun a ha => (hn a ha).2)⟩
  | _, _, _, i + 1, .cons (o := o) (x := x) (A := A) (B := B) h hs, hi => by
    obtain ⟨o1, x1, B1, A1, B2, e1, e2, e3, h1, f⟩ := Slots.split i hs (by simpa using hi)
    subst e3
    refine ⟨o1, x1, A ++ B1, A1, B2, by simpa using e1, by simpa using e2, by rw [List.append_assoc], h1, fun H' S S' hot' X o' x' A' F hn h' => ?_⟩
    rw [List.set_cons_succ, List.set_cons_succ, List.append_assoc]
    exact .cons (h.frame F fun a ha z => (hn a ha).1 (List.mem_append_left _ z)) (f H' S S' hot' X o' x' A' F (fun a ha => ⟨fun z => (hn a ha).1 (List.mem_append_right _ z), (hn a ha).2⟩) h')

/-- the state: what stood at the entry stands; one's own lists are new, and no two are one -/
structure Sta (K : PySem.W.Frag) (EX : Addr → Nat → Prop) (H0 : Hp) (S : List Addr) (ts : List Tm) (σ : L2.St) (r : Env) (H : Hp) : Prop where
  ex : Same H0 H
  sd : ∀ a ∈ S, H a ≠ none
  own : ∃ A B, (A ++ B).Nodup ∧ (∀ a ∈ A ++ B, H0 a = none ∧ a ∉ S) ∧ Tms K H S (S ++ (A ++ B)) ts A ∧ Slots K EX H (S ++ (A ++ B)) σ r B

variable {H0 : Hp} {ts t1 t2 : List Tm} {σ σ' : L2.St} {r r' : Env}
theorem Tms.split : ∀ {t1 : List Tm} {A : List Addr}, Tms K H S hot (t1 ++ ts) A → ∃ A1 A2, A = A1 ++ A2 ∧ Tms K H S hot t1 A1 ∧ Tms K H S hot ts A2
  | [], A, h => ⟨[], A, rfl, .nil, h⟩
  | t :: t1, _, .cons (A := A) h hs => by
    obtain ⟨A1, A2, rfl, h1, h2⟩ := Tms.split hs
    exact ⟨A ++ A1, A2, by rw [List.append_assoc], .cons h h1, h2⟩
theorem Tms.join : ∀ {t1 : List Tm} {A1 A2 : List Addr}, Tms K H S hot t1 A1 → Tms K H S hot ts A2 → Tms K H S hot (t1 ++ ts) (A1 ++ A2)
  | _, _, _, .nil, h => h
  | _, _, _, .cons h hs, h2 => by
    rw [List.append_assoc]
    exact .cons h (Tms.join hs h2)
/-- the topmost temporaries are turned into others; the heap may grow -/
theorem Sta.step (st : Sta K EX H0 S (t1 ++ ts) σ r H) (sm : Same H H')
    (f : ∀ (hot A1 : List Addr), A1.Nodup → (∀ a ∈ A1, a ∈ hot ∧ a ∉ S) → (∀ a ∈ hot, H a ≠ none) → (∀ a ∈ S, a ∈ hot) → Tms K H S hot t1 A1 → ∃ A2, A2.Nodup ∧ (∀ a ∈ A2, a ∈ A1 ∨ H a = none) ∧
      ∀ hot', (∀ a ∈ hot', a ∈ hot ∨ a ∈ A2) → (∀ a ∈ A1, a ∈ hot' → a ∈ A2) → (∀ a ∈ A2, a ∈ hot') → (∀ a ∈ S, a ∈ hot') → Tms K H' S hot' t2 A2) : Sta K EX H0 S (t2 ++ ts) σ r H' := by
  obtain ⟨ex, sd, A, B, nd, new, hT, hS⟩ := st
  obtain ⟨A1, A0, rfl, h1, h0⟩ := hT.split
  have dom : ∀ a ∈ S ++ (A1 ++ A0 ++ B), H a ≠ none := fun a ha => by
    rcases List.mem_append.mp ha with ha | ha
    · exact sd a ha
    · rcases List.mem_append.mp ha with ha | ha
      · rcases List.mem_append.mp ha with ha | ha
        · exact (h1.mem a ha).ne
        · exact (h0.mem a ha).ne
      · exact (hS.mem a ha).ne
  rw [List.append_assoc] at nd
  obtain ⟨n1, n0, n10⟩ := List.nodup_append.mp nd
  have in1 : ∀ a ∈ A1, a ∈ A1 ++ A0 ++ B := fun a ha => List.mem_append_left _ (List.mem_append_left _ ha)
  obtain ⟨A2, m1, m2, g⟩ := f (S ++ (A1 ++ A0 ++ B)) A1 n1 (fun a ha => ⟨List.mem_append_right _ (in1 a ha), (new a (in1 a ha)).2⟩) dom (fun a ha => List.mem_append_left _ ha) h1
  have sub : ∀ a, a ∈ S ++ (A2 ++ A0 ++ B) → a ∈ S ++ (A1 ++ A0 ++ B) ∨ a ∈ A2 := fun a ha => by
    simp only [List.mem_append] at ha ⊢
    rcases ha with h | (h | h) | h
    · exact .inl (.inl h)
    · exact .inr h
    · exact .inl (.inr (.inl (.inr h)))
    · exact .inl (.inr (.inr h))
  have F : Fr H H' S S (S ++ (A1 ++ A0 ++ B)) (S ++ (A2 ++ A0 ++ B)) [] :=
    ⟨fun a _ o e => sm a o e, fun _ z => (by simp at z), fun _ z => (by simp at z), fun a ha => by
      rcases sub a ha with z | z
      · exact .inl z
      · rcases m2 a z with z | z
        · exact .inl (List.mem_append_right _ (in1 a z))
        · exact .inr z, fun a ha => List.mem_append_left _ ha, fun a ha => .inl ha⟩
  have disj : ∀ a ∈ A2, a ∉ A0 ++ B := fun a ha hb => by
    rcases m2 a ha with z | z
    · exact n10 a z a hb rfl
    · refine dom a (List.mem_append_right _ ?_) z
      rw [List.append_assoc]
      exact List.mem_append_right _ hb
  refine ⟨ex.trans sm, fun a ha => ?_, A2 ++ A0, B, ?_, fun a ha => ?_, Tms.join (g _ (fun a ha => sub a ha) (fun a ha hm => ?_) (fun a ha => ?_) (fun a ha => List.mem_append_left _ ha)) (h0.frame F (.inl (by simp)) (by simp)), hS.frame F (by simp)⟩
  · cases e : H a with
    | none => exact absurd e (sd a ha)
    | some o => rw [sm a o e]; exact fun z => nomatch z
  · rw [List.append_assoc]
    exact List.nodup_append.mpr ⟨m1, n0, fun a ha b hb e => disj a ha (e ▸ hb)⟩
  · rw [List.append_assoc] at ha
    rcases List.mem_append.mp ha with ha | ha
    · rcases m2 a ha with z | z
      · exact new a (in1 a z)
      · exact ⟨ex.free z, fun hs => sd a hs z⟩
    · rcases List.mem_append.mp ha with ha | ha
      · exact new a (List.mem_append_left _ (List.mem_append_right _ ha))
      · exact new a (List.mem_append_right _ ha)
  · simp only [List.mem_append] at hm
    rcases hm with h | (h | h) | h
    · exact absurd h (new a (in1 a ha)).2
    · exact h
    · exact absurd rfl (n10 a ha a (List.mem_append_left _ h))
    · exact absurd rfl (n10 a ha a (List.mem_append_right _ h))
  · exact List.mem_append_right _ (List.mem_append_left _ (List.mem_append_left _ ha))
/-- the topmost one goes -/
theorem Sta.pop {t : Tm} (st : Sta K EX H0 S (t :: ts) σ r H) : Sta K EX H0 S ts σ r H :=
  Sta.step (t1 := [t]) (t2 := []) st (Same.refl H) fun hot A1 _ _ _ _ _ => ⟨[], .nil, fun _ z => (by simp at z), fun _ _ _ _ _ => .nil⟩
theorem Tms.one {t : Tm} {A : List Addr} (h : Tms K H S hot [t] A) : TmOk K H S hot t A := by
  cases h with
  | cons h hs =>
    cases hs
    rw [List.append_nil]
    exact h
theorem Tms.mk1 {t : Tm} {A : List Addr} (h : TmOk K H S hot t A) : Tms K H S hot [t] A := by
  have := Tms.cons h .nil
  rwa [List.append_nil] at this
theorem Tms.two {t u : Tm} {A : List Addr} (h : Tms K H S hot [t, u] A) : ∃ A1 A2, A = A1 ++ A2 ∧ TmOk K H S hot t A1 ∧ TmOk K H S hot u A2 := by
  cases h with
  | cons h hs => exact ⟨_, _, rfl, h, hs.one⟩
/-- one temporary for one that owns nothing more -/
theorem Sta.swap {t t' : Tm} (st : Sta K EX H0 S (t :: ts) σ r H) (f : ∀ hot A, TmOk K H S hot t A → A.Nodup → (∀ a ∈ A, a ∉ S) → ∃ A', A'.Sublist A ∧ ∀ hot', (∀ a ∈ hot', a ∈ hot) → (∀ a ∈ A, a ∈ hot' → a ∈ A') → (∀ a ∈ S, a ∈ hot') → TmOk K H S hot' t' A') :
    Sta K EX H0 S (t' :: ts) σ r H :=
  Sta.step (t1 := [t]) (t2 := [t']) st (Same.refl H) fun hot A1 nd sub _ _ h => by
    obtain ⟨A', s, g⟩ := f hot A1 h.one nd fun a ha => (sub a ha).2
    exact ⟨A', nd.sublist s, fun a ha => .inl (s.subset ha), fun hot' h1 h2 _ h4 => .mk1 (g hot' (fun a ha => (h1 a ha).elim id fun z => (sub a (s.subset z)).1) h2 h4)⟩
/-- a value of one's own is given up -/
theorem Sta.toBrw {v : V} {l j : Nat} {d : D} (st : Sta K EX H0 S (.own v l d :: ts) σ r H) : Sta K EX H0 S (.brw v j d :: ts) σ r H :=
  st.swap fun hot A h nd ns => by
    cases h with
    | own h =>
      obtain ⟨B', s, g⟩ := h.low (Nat.zero_le l) nd
      refine ⟨[], List.nil_sublist _, fun hot' h1 h2 h4 => ?_⟩
      have q := g hot' h1 (fun a ha hm => absurd (h2 a ha hm) (by simp))
      have e := q.zero
      subst e
      exact .brw (q.toT h4 (by simp) (Nat.zero_le j))
theorem Sta.toBrws {vs : List V} {l j : Nat} {ds : List D} (st : Sta K EX H0 S (.owns vs l ds :: ts) σ r H) : Sta K EX H0 S (.brws vs j ds :: ts) σ r H :=
  st.swap fun hot A h nd ns => by
    cases h with
    | owns h =>
      obtain ⟨B', s, g⟩ := h.low (Nat.zero_le l) nd
      refine ⟨[], List.nil_sublist _, fun hot' h1 h2 h4 => ?_⟩
      have q := g hot' h1 (fun a ha hm => absurd (h2 a ha hm) (by simp))
      have e := q.zero
      subst e
      exact .brws (q.toT h4 (by simp) (Nat.zero_le j))
theorem Sta.lowT {v : V} {l l' : Nat} {d : D} (st : Sta K EX H0 S (.own v l d :: ts) σ r H) (h : l' ≤ l) : Sta K EX H0 S (.own v l' d :: ts) σ r H :=
  st.swap fun hot A q nd ns => by
    cases q with
    | own q =>
      obtain ⟨B', s, g⟩ := q.low h nd
      exact ⟨B', s, fun hot' h1 h2 _ => .own (g hot' h1 h2)⟩
theorem Sta.lowTs {vs : List V} {l l' : Nat} {ds : List D} (st : Sta K EX H0 S (.owns vs l ds :: ts) σ r H) (h : l' ≤ l) : Sta K EX H0 S (.owns vs l' ds :: ts) σ r H :=
  st.swap fun hot A q nd ns => by
    cases q with
    | owns q =>
      obtain ⟨B', s, g⟩ := q.low h nd
      exact ⟨B', s, fun hot' h1 h2 _ => .owns (g hot' h1 h2)⟩
theorem RepT.less {hot hot' S : List Addr} {j : Nat} {v : V} {d : D} (h : RepT K H S hot j v d) (h4 : ∀ a ∈ S, a ∈ hot) (h1 : ∀ a ∈ hot', a ∈ hot) : RepT K H S hot' j v d :=
  h.frame (X := []) (fun a _ o e => e) (fun _ z => (by simp at z)) (fun _ z => (by simp at z)) h4 (fun a ha => .inl (h1 a ha)) (fun a ha => .inl ha)
theorem RepTs.less {hot hot' S : List Addr} {j : Nat} {vs : List V} {ds : List D} (h : RepTs K H S hot j vs ds) (h4 : ∀ a ∈ S, a ∈ hot) (h1 : ∀ a ∈ hot', a ∈ hot) : RepTs K H S hot' j vs ds :=
  h.frame (X := []) (fun a _ o e => e) (fun _ z => (by simp at z)) (fun _ z => (by simp at z)) h4 (fun a ha => .inl (h1 a ha)) (fun a ha => .inl ha)
theorem Sta.upB {v : V} {i j : Nat} {d : D} (st : Sta K EX H0 S (.brw v i d :: ts) σ r H) (h : i ≤ j) : Sta K EX H0 S (.brw v j d :: ts) σ r H :=
  Sta.step (t1 := [.brw v i d]) (t2 := [.brw v j d]) st (Same.refl H) fun hot A1 nd sub dom hS q => by
    have q1 := q.one
    clear q
    cases q1 with
    | brw q' => exact ⟨[], .nil, fun _ z => (by simp at z), fun hot' h1 h2 h3 h4 => .mk1 (.brw ((q'.less hS fun a ha => (h1 a ha).elim id fun z => (by simp at z)).up h4 h))⟩
theorem Sta.brw0 {v : V} {d : D} (st : Sta K EX H0 S (.brw v 0 d :: ts) σ r H) : Sta K EX H0 S (.own v 0 d :: ts) σ r H :=
  Sta.step (t1 := [.brw v 0 d]) (t2 := [.own v 0 d]) st (Same.refl H) fun hot A1 nd sub dom hS q => by
    have q1 := q.one
    clear q
    cases q1 with
    | brw q' => exact ⟨[], .nil, fun _ z => (by simp at z), fun hot' h1 h2 h3 h4 => .mk1 (.own (q'.less hS fun a ha => (h1 a ha).elim id fun z => (by simp at z)).zero)⟩
theorem set_same {α : Type} : ∀ {l : List α} {i : Nat} {x : α}, l[i]? = some x → l.set i x = l
  | [], _, _, h => by simp at h
  | a :: l, 0, x, h => by simp at h; rw [h, List.set_cons_zero]
  | a :: l, i + 1, x, h => by rw [List.set_cons_succ, set_same (by simpa using h)]
theorem getv_some {i l : Nat} {d : D} (h : getv r i = some (l, d)) : r[i]? = some (some (l, d)) := by
  unfold getv at h
  split at h
  · rename_i x e
    cases h
    exact e
  · cases h
/-- any slot may be changed for one that owns less -/
theorem Sta.slot (i : Nat) (st : Sta K EX H0 S ts σ r H) (hi : i < r.length) : ∃ o x, σ[i]? = some o ∧ r[i]? = some x ∧
    ∀ (o' : Option V) (x' : Option (Nat × D)) (t2 : List Tm), (∀ hot A, SlotOk K EX H hot o x A → A.Nodup → (∀ a ∈ A, a ∉ S) → ∃ C A', (C ++ A').Sublist A ∧ ∀ hot', (∀ a ∈ hot', a ∈ hot) → (∀ a ∈ A, a ∈ hot' → a ∈ C ++ A') → (∀ a ∈ S, a ∈ hot') → Tms K H S hot' t2 C ∧ SlotOk K EX H hot' o' x' A') →
      Sta K EX H0 S (t2 ++ ts) (σ.set i o') (r.set i x') H := by
  obtain ⟨ex, sd, A, B, nd, new, hT, hS⟩ := st
  obtain ⟨o, x, B1, A1, B2, e1, e2, rfl, h1, f⟩ := hS.split i hi
  refine ⟨o, x, e1, e2, fun o' x' t2 g => ?_⟩
  obtain ⟨n1, n2, n3⟩ := List.nodup_append.mp nd
  obtain ⟨n4, n5, n6⟩ := List.nodup_append.mp n2
  obtain ⟨n7, n8, n9⟩ := List.nodup_append.mp n5
  obtain ⟨C, A', s, q⟩ := g _ A1 h1 n7 fun a ha => (new a (List.mem_append_right _ (List.mem_append_right _ (List.mem_append_left _ ha)))).2
  have sub : ∀ a, a ∈ S ++ (C ++ A ++ (B1 ++ (A' ++ B2))) → a ∈ S ++ (A ++ (B1 ++ (A1 ++ B2))) := fun a ha => by
    have sC : a ∈ C → a ∈ A1 := fun z => s.subset (List.mem_append_left _ z)
    have sA : a ∈ A' → a ∈ A1 := fun z => s.subset (List.mem_append_right _ z)
    simp only [List.mem_append] at ha ⊢
    rcases ha with h | (h | h) | h | h | h
    · exact .inl h
    · exact .inr (.inr (.inr (.inl (sC h))))
    · exact .inr (.inl h)
    · exact .inr (.inr (.inl h))
    · exact .inr (.inr (.inr (.inl (sA h))))
    · exact .inr (.inr (.inr (.inr h)))
  have F : Fr H H S S (S ++ (A ++ (B1 ++ (A1 ++ B2)))) (S ++ (C ++ A ++ (B1 ++ (A' ++ B2)))) [] := ⟨fun a _ o e => e, fun _ z => (by simp at z), fun _ z => (by simp at z), fun a ha => .inl (sub a ha), fun a ha => List.mem_append_left _ ha, fun a ha => .inl ha⟩
  have inA1 : ∀ a ∈ A1, a ∈ S ++ (C ++ A ++ (B1 ++ (A' ++ B2))) → a ∈ C ++ A' := fun a ha hm => by
    simp only [List.mem_append] at hm ⊢
    rcases hm with h | (h | h) | h | h | h
    · exact absurd h (new a (List.mem_append_right _ (List.mem_append_right _ (List.mem_append_left _ ha)))).2
    · exact .inl h
    · exact absurd rfl (n3 a h a (List.mem_append_right _ (List.mem_append_left _ ha)))
    · exact absurd rfl (n6 a h a (List.mem_append_left _ ha))
    · exact .inr h
    · exact absurd rfl (n9 a ha a h)
  obtain ⟨q1, q2⟩ := q _ sub inA1 fun a ha => List.mem_append_left _ ha
  refine ⟨ex, sd, C ++ A, B1 ++ (A' ++ B2), ?_, fun a ha => ?_, Tms.join q1 (hT.frame F (.inl (by simp)) (by simp)), f _ _ _ _ [] o' x' A' F (by simp) q2⟩
  · obtain ⟨m1, m2, m3⟩ := List.nodup_append.mp (n7.sublist s)
    have sC : ∀ a ∈ C, a ∈ A1 := fun a z => s.subset (List.mem_append_left _ z)
    have sA : ∀ a ∈ A', a ∈ A1 := fun a z => s.subset (List.mem_append_right _ z)
    refine List.nodup_append.mpr ⟨List.nodup_append.mpr ⟨m1, n1, fun a ha b hb e => ?_⟩, List.nodup_append.mpr ⟨n4, List.nodup_append.mpr ⟨m2, n8, fun a ha b hb e => ?_⟩, fun a ha b hb e => ?_⟩, fun a ha b hb e => ?_⟩
    · subst e; exact n3 a hb a (List.mem_append_right _ (List.mem_append_left _ (sC a ha))) rfl
    · subst e; exact n9 a (sA a ha) a hb rfl
    · subst e
      rcases List.mem_append.mp hb with hb | hb
      · exact n6 a ha a (List.mem_append_left _ (sA a hb)) rfl
      · exact n6 a ha a (List.mem_append_right _ hb) rfl
    · subst e
      rcases List.mem_append.mp ha with ha | ha
      · rcases List.mem_append.mp hb with hb | hb
        · exact n6 a hb a (List.mem_append_left _ (sC a ha)) rfl
        · rcases List.mem_append.mp hb with hb | hb
          · exact m3 a ha a hb rfl
          · exact n9 a (sC a ha) a hb rfl
      · rcases List.mem_append.mp hb with hb | hb
        · exact n3 a ha a (List.mem_append_left _ hb) rfl
        · rcases List.mem_append.mp hb with hb | hb
          · exact n3 a ha a (List.mem_append_right _ (List.mem_append_left _ (sA a hb))) rfl
          · exact n3 a ha a (List.mem_append_right _ (List.mem_append_right _ hb)) rfl
  · have sC : a ∈ C → a ∈ A1 := fun z => s.subset (List.mem_append_left _ z)
    have sA : a ∈ A' → a ∈ A1 := fun z => s.subset (List.mem_append_right _ z)
    refine new a ?_
    simp only [List.mem_append] at ha ⊢
    rcases ha with (h | h) | h | h | h
    · exact .inr (.inr (.inl (sC h)))
    · exact .inl h
    · exact .inr (.inl h)
    · exact .inr (.inr (.inl (sA h)))
    · exact .inr (.inr (.inr h))
theorem getv_lt {i l : Nat} {d : D} (h : getv r i = some (l, d)) : i < r.length := (List.getElem?_eq_some_iff.mp (getv_some h)).1
/-- a slot is read in mode j -/
theorem Sta.read {i l j : Nat} {d : D} (st : Sta K EX H0 S ts σ r H) (h : getv r i = some (l, d)) (h100 : l < 100) : ∃ v, σ[i]? = some (some v) ∧ Sta K EX H0 S (.brw v j d :: ts) σ (lower j i r) H := by
  obtain ⟨o, x, e1, e2, f⟩ := st.slot i (getv_lt h)
  have e3 := getv_some h
  rw [e3] at e2
  cases e2
  have hl : lower j i r = r.set i (some (min l j, d)) := by unfold lower; rw [e3]
  cases o with
  | none =>
    obtain ⟨_, _, A, B, _, _, _, hS⟩ := st
    obtain ⟨o, x, _, _, _, e1', e2', _, h1, _⟩ := hS.split i (getv_lt h)
    rw [e1] at e1'; cases e1'
    rw [e3] at e2'; cases e2'
    cases h1
  | some v =>
    refine ⟨v, e1, ?_⟩
    have q := f (some v) (some (min l j, d)) [.brw v j d] fun hot A h nd ns => by
      cases h with
      | exc h => omega
      | sm h =>
        obtain ⟨B', s, g⟩ := h.low (Nat.min_le_left l j) nd
        refine ⟨[], B', s, fun hot' h1 h2 h4 => ?_⟩
        have q := g hot' h1 h2
        exact ⟨.mk1 (.brw (q.toT h4 (fun a ha => ns a (s.subset ha)) (Nat.min_le_right l j))), .sm q⟩
    rw [set_same e1, ← hl] at q
    exact q
/-- a slot's value is moved out -/
theorem Sta.move {i l : Nat} {d : D} (st : Sta K EX H0 S ts σ r H) (h : getv r i = some (l, d)) (h100 : l < 100) : ∃ v, σ[i]? = some (some v) ∧ Sta K EX H0 S (.own v l d :: ts) σ (r.set i none) H := by
  obtain ⟨v, e, _⟩ := st.read (j := 9) h h100
  obtain ⟨o, x, e1, e2, f⟩ := st.slot i (getv_lt h)
  have e3 := getv_some h
  rw [e3] at e2
  cases e2
  rw [e] at e1
  cases e1
  refine ⟨v, e, ?_⟩
  have q := f (some v) none [.own v l d] fun hot A h nd ns => by
    cases h with
    | exc h => omega
    | sm h => exact ⟨A, [], by rw [List.append_nil]; exact List.Sublist.refl _, fun hot' h1 h2 h4 => ⟨.mk1 (.own (h.frame (X := []) (fun a _ o e => e) (fun _ z => (by simp at z)) (fun _ z => (by simp at z)) (fun a ha => .inl (h1 a ha)) (by simp))), .non⟩⟩
  rw [set_same e] at q
  exact q
theorem set_ge {α : Type} {l : List α} {i : Nat} {x : α} (h : l.length ≤ i) : l.set i x = l := List.set_eq_of_length_le h
theorem Sta.len (st : Sta K EX H0 S ts σ r H) : σ.length = r.length := by
  obtain ⟨_, _, _, _, _, _, _, hS⟩ := st
  exact hS.length
/-- a slot is forgotten, whatever the frame puts there -/
theorem Sta.drop (st : Sta K EX H0 S ts σ r H) (i : Nat) (o' : Option V) : Sta K EX H0 S ts (σ.set i o') (r.set i none) H := by
  by_cases hi : i < r.length
  · obtain ⟨o, x, e1, e2, f⟩ := st.slot i hi
    exact f o' none [] fun hot A h nd ns => ⟨[], [], List.nil_sublist _, fun hot' h1 h2 h4 => ⟨.nil, .non⟩⟩
  · rw [set_ge (by rw [st.len]; omega), set_ge (by omega)]
    exact st
theorem Sta.drop' (st : Sta K EX H0 S ts σ r H) (i : Nat) : Sta K EX H0 S ts σ (r.set i none) H := by
  by_cases hi : i < σ.length
  · have q := st.drop i σ[i]
    rwa [set_same (List.getElem?_eq_getElem hi)] at q
  · rw [set_ge (by rw [← st.len]; omega)]
    exact st
/-- a temporary is stored -/
theorem Sta.store {v : V} {l : Nat} {d : D} (st : Sta K EX H0 S (.own v l d :: ts) σ r H) (i : Nat) : Sta K EX H0 S ts (σ.set i (some v)) (r.set i (some (l, d))) H := by
  have st1 := st.drop i (some v)
  obtain ⟨ex, sd, A, B, nd, new, hT, hS⟩ := st1
  by_cases hi : i < r.length
  · obtain ⟨A1, A2, rfl, h1, h2⟩ := Tms.split (t1 := [.own v l d]) hT
    obtain ⟨o, x, B1, C, B2, e1, e2, rfl, h3, f⟩ := hS.split i (by rw [List.length_set]; exact hi)
    rw [List.getElem?_set_self hi] at e2
    cases e2
    cases h3
    rw [List.nil_append] at nd new hS hT h1 h2 f
    have h1' := h1.one
    have perm : (A2 ++ (B1 ++ (A1 ++ B2))).Perm (A1 ++ A2 ++ (B1 ++ B2)) := by
      have p1 : (B1 ++ (A1 ++ B2)).Perm (A1 ++ (B1 ++ B2)) := by
        rw [← List.append_assoc, ← List.append_assoc]
        exact List.Perm.append_right _ List.perm_append_comm
      refine (List.Perm.append_left A2 p1).trans ?_
      rw [← List.append_assoc]
      exact List.Perm.append_right _ List.perm_append_comm
    have F : Fr H H S S (S ++ (A1 ++ A2 ++ (B1 ++ B2))) (S ++ (A2 ++ (B1 ++ (A1 ++ B2)))) [] := ⟨fun a _ o e => e, fun _ z => (by simp at z), fun _ z => (by simp at z), fun a ha => by
      refine .inl ?_
      rcases List.mem_append.mp ha with z | z
      · exact List.mem_append_left _ z
      · exact List.mem_append_right _ (perm.mem_iff.mp z), fun a ha => List.mem_append_left _ ha, fun a ha => .inl ha⟩
    have q := f H _ _ _ [] (some v) (some (l, d)) A1 F (by simp) (by
      cases h1' with
      | own h => exact .sm (h.frame F.c1 F.c2 F.hX F.c4 (by simp)))
    rw [List.set_set, List.set_set] at q
    exact ⟨ex, sd, A2, B1 ++ (A1 ++ B2), perm.nodup_iff.mpr nd, fun a ha => new a (perm.mem_iff.mp ha), h2.frame F (.inl (by simp)) (by simp), q⟩
  · rw [set_ge (by rw [st.len]; omega), set_ge (by omega)]
    exact st.pop
end
end Ly

set_option Elab.async false
set_option linter.all false
set_option maxRecDepth 100000
set_option maxHeartbeats 2000000
/-! Further rules by values. -/
namespace Ly
open PySem PySem.Spec PyProof.Rows L2
section
variable {X : Cx}
/-- list + list, any that may be read -/
def rCatL (K : PySem.W.Frag) : R2 := fun x y H Q => ∃ l b xs zs, x = .ref l ∧ y = .ref b ∧ SqL K H l xs ∧ SqL K H b zs ∧ xs.length + zs.length ≤ sizeLine ∧ ∀ p, H p = none → Q (.ref p) (upd H p (.lst (xs ++ zs)))
theorem op_catL : OpR X (binaryOp .Add) (rCatL X.K) := by
  intro pins s σ H x y v u Q I rx ry h
  obtain ⟨l, b, xs, zs, rfl, rfl, hl, hb, hz, q⟩ := h
  cases rx
  cases ry
  obtain ⟨its, r, ⟨⟨cls, dd, data, sl⟩, n, e, hc, hd0, hd⟩, z1⟩ := I.list hl
  obtain ⟨its2, r2, ⟨⟨cls2, dd2, data2, sl2⟩, n2, e2, hc2, hd02, hd2⟩, z2⟩ := I.list hb
  simp only at hc hd hc2 hd2
  subst hc hd hc2 hd2
  have l1 := r.length
  have l2 := r2.length
  refine concat_meets ⟨_, e, rfl⟩ ⟨_, e2, rfl⟩ noFill_list_add seq_list_add PySem.F.slot_list_add PySem.F.entry_list_add (PySem.F.args_list_add_2 _ _)
    (list_addW l b its.toArray its2.toArray n n2 dd dd2 sl sl2 (by rw [List.size_toArray, List.size_toArray]; omega)) ⟨e, e2, ?_⟩
  have ea : its.toArray ++ its2.toArray = (its ++ its2).toArray := by simp
  rw [ea]
  exact ⟨.ref _, _, I.lnew (t' := s.toks) (r.append r2) (by rw [List.length_append]; omega), rfl, q _ I.fresh⟩

/-- xs.extend(ys), ys a list or a tuple -/
theorem extW_list (l : Addr) (items : Array Value) (n : Nat) (b : Addr) (items2 : Array Value) (n2 : Nat) (dd2 : Option Addr) (sl2 : Array (Option Value)) (hc0 : ¬(!items.isEmpty && Builtin.List.listTooLong (items.size + items2.size)) = true) (hc1 : items.size ≤ sizeLine) (hs2 : items.size + items2.size ≤ sizeLine + 1) :
    Meets (Builtin.«list.extend» ⟨[.ref l, .ref b], []⟩) (fun _ R s => s.heap.get? l = some { cls := .type "list", dict := none, data := .seq items n, slots := #[] } ∧ s.heap.get? b = some { cls := .type "list", dict := dd2, data := .seq items2 n2, slots := sl2 } ∧ R (.ok (.ret Value.none)) { s with heap := s.heap.update l (Obj.mapSeq fun x => x ++ items2), toks := s.toks }) :=
  .of_wp fun prog w A R s h => by
    obtain ⟨hp, g, d, tk, os⟩ := s
    obtain ⟨hl, hb, h⟩ := h
    have f1 := AutoSeq1.idx_int
    have f2 := AutoSeq1.sub_tuple_tuple
    have f3 := AutoSeq1.sub_list_list
    have f4 := AutoSeq1.sub_tuple_list
    have f5 := AutoSeq1.sub_list_tuple
    have hz' : (items ++ items2).size ≤ sizeLine + 1 := by rw [Array.size_append]; exact hs2
    wp_walk using (wpAny_updateSeq hl rfl (hz := hc1) (_hz' := hz')), AutoSeq1.wpAny_loadPart' hl, AutoSeq1.wpAny_loadPart' hb
    exact ⟨_, rfl, h⟩
theorem extW_tuple (l : Addr) (items : Array Value) (n : Nat) (b : Addr) (items2 : Array Value) (n2 : Nat) (dd2 : Option Addr) (sl2 : Array (Option Value)) (hc0 : ¬(!items.isEmpty && Builtin.List.listTooLong (items.size + items2.size)) = true) (hc1 : items.size ≤ sizeLine) (hs2 : items.size + items2.size ≤ sizeLine + 1) :
    Meets (Builtin.«list.extend» ⟨[.ref l, .ref b], []⟩) (fun _ R s => s.heap.get? l = some { cls := .type "list", dict := none, data := .seq items n, slots := #[] } ∧ s.heap.get? b = some { cls := .type "tuple", dict := dd2, data := .seq items2 n2, slots := sl2 } ∧ R (.ok (.ret Value.none)) { s with heap := s.heap.update l (Obj.mapSeq fun x => x ++ items2), toks := s.toks }) :=
  .of_wp fun prog w A R s h => by
    obtain ⟨hp, g, d, tk, os⟩ := s
    obtain ⟨hl, hb, h⟩ := h
    have f1 := AutoSeq1.idx_int
    have f2 := AutoSeq1.sub_tuple_tuple
    have f3 := AutoSeq1.sub_list_list
    have f4 := AutoSeq1.sub_tuple_list
    have f5 := AutoSeq1.sub_list_tuple
    have hz' : (items ++ items2).size ≤ sizeLine + 1 := by rw [Array.size_append]; exact hs2
    wp_walk using (wpAny_updateSeq hl rfl (hz := hc1) (_hz' := hz')), AutoSeq1.wpAny_loadPart' hl, AutoSeq1.wpAny_loadPart' hb
    exact ⟨_, rfl, h⟩
def rExtA (K : PySem.W.Frag) : V → List V → Hp → VK → Prop := fun x vs H Q => ∃ l b xs zs, x = .ref l ∧ vs = [.ref b] ∧ H l = some (.lst xs) ∧ (SqL K H b zs ∨ SqT K H b zs) ∧ xs.length + zs.length ≤ sizeLine ∧ Q .non (upd H l (.lst (xs ++ zs)))
theorem mt_extA : MtR X "list.extend" (rExtA X.K) := by
  intro pins s σ H x vs v us Q I rx rv h
  obtain ⟨l, b, xs, zs, rfl, rfl, hH, hB, hz, q⟩ := h
  cases rx
  obtain ⟨u, rfl, ru⟩ := rv.one
  cases ru
  obtain ⟨z, its, n, r, hl, e⟩ := I.lstM hH
  have fin : ∀ its2 : List Value, Vals zs its2 → EP X pins σ Q Value.none { s with heap := s.heap.update l (Obj.mapSeq fun x => x ++ its2.toArray), toks := s.toks } := fun its2 r2 =>
    ⟨.non, _, I.lset (its' := its ++ its2) hH e (by simp) (r.append r2) (by rw [List.length_append]; omega), rfl, q⟩
  rcases hB with hB | hB
  · obtain ⟨its2, r2, ⟨⟨cls2, dd2, data2, sl2⟩, n2, e2, hc2, hd02, hd2⟩, z2⟩ := I.list hB
    simp only at hc2 hd2
    subst hc2 hd2
    have hl2 := r2.length
    have hsz : its.toArray.size + its2.toArray.size ≤ sizeLine := by rw [List.size_toArray, List.size_toArray]; omega
    have hlong : ¬ (!its.toArray.isEmpty && Builtin.List.listTooLong (its.toArray.size + its2.toArray.size)) = true := by
      rw [notLongL hsz, Bool.and_false]
      exact Bool.false_ne_true
    exact call_meets F.slot_list_extend ⟨_, e, rfl⟩ F.entry_list_extend (F.args_list_extend_2 _ _) (extW_list l its.toArray n b its2.toArray n2 dd2 sl2 hlong (by rw [List.size_toArray]; omega) (by omega)) ⟨e, e2, fin its2 r2⟩
  · obtain ⟨its2, r2, ⟨⟨cls2, dd2, data2, sl2⟩, e2, hc2, n2, hd2⟩, z2⟩ := I.tuple hB
    simp only at hc2 hd2
    subst hc2 hd2
    have hl2 := r2.length
    have hsz : its.toArray.size + its2.toArray.size ≤ sizeLine := by rw [List.size_toArray, List.size_toArray]; omega
    have hlong : ¬ (!its.toArray.isEmpty && Builtin.List.listTooLong (its.toArray.size + its2.toArray.size)) = true := by
      rw [notLongL hsz, Bool.and_false]
      exact Bool.false_ne_true
    exact call_meets F.slot_list_extend ⟨_, e, rfl⟩ F.entry_list_extend (F.args_list_extend_2 _ _) (extW_tuple l its.toArray n b its2.toArray n2 dd2 sl2 hlong (by rw [List.size_toArray]; omega) (by omega)) ⟨e, e2, fin its2 r2⟩

/-- x in t, t a tuple of data -/
def rInDT (K : PySem.W.Frag) : R2 := fun x y H Q => ∃ d ds, Dp K H x d ∧ Dp K H y (.tuple ds) ∧ SeqAt.shaped d = true ∧ SeqAt.shaped (.tuple ds) = true ∧ Q (.bl (ds.any fun z => PyData.eqv z d)) H
def rNotInDT (K : PySem.W.Frag) : R2 := fun x y H Q => ∃ d ds, Dp K H x d ∧ Dp K H y (.tuple ds) ∧ SeqAt.shaped d = true ∧ SeqAt.shaped (.tuple ds) = true ∧ Q (.bl (!ds.any fun z => PyData.eqv z d)) H
theorem op_inDT (hu : X.A.units + 65 < cLine) : OpR X (compareOp .In) (rInDT X.K) := by
  intro pins s σ H x y v u Q I rx ry h
  obtain ⟨d, ds, hd, he, sd, se, q⟩ := h
  obtain ⟨as, r1⟩ := Dp.reads I d x v hd rx
  obtain ⟨bs, r2⟩ := Dp.reads I (.tuple ds) y u he ry
  exact SeqAt.in_tuple_reads r2 r1 (SeqAt.canLay_of_shaped se) (SeqAt.canLay_of_shaped sd) (room_in_shaped sd hu) ⟨.bl _, H, I, rfl, q⟩
theorem op_notInDT (hu : X.A.units + 65 < cLine) : OpR X (compareOp .NotIn) (rNotInDT X.K) := by
  intro pins s σ H x y v u Q I rx ry h
  obtain ⟨d, ds, hd, he, sd, se, q⟩ := h
  obtain ⟨as, r1⟩ := Dp.reads I d x v hd rx
  obtain ⟨bs, r2⟩ := Dp.reads I (.tuple ds) y u he ry
  exact SeqAt.notIn_tuple_reads r2 r1 (SeqAt.canLay_of_shaped se) (SeqAt.canLay_of_shaped sd) (room_in_shaped sd hu) ⟨.bl _, H, I, rfl, q⟩

/-- tuple * 1 is the tuple itself -/
theorem tupmul1 (l : Addr) (items : Array Value) (n : Nat) (dd : Option Addr) (sl : Array (Option Value)) (u : Tok) :
    Meets (Builtin.«tuple.__mul__» ⟨[.ref l, .int 1 u], []⟩) (fun _ R s => s.heap.get? l = some { cls := .type "tuple", dict := dd, data := .seq items n, slots := sl } ∧ R (.ok (.ret (Value.ref l))) { s with heap := s.heap, toks := s.toks }) :=
  .of_wp fun prog w A R s h => by
    obtain ⟨hp, g, d, tk, os⟩ := s
    obtain ⟨hl, h⟩ := h
    have f1 := AutoSeq1.idx_int
    have f2 := AutoSeq1.sub_tuple_tuple
    wp_walk using AutoSeq1.wpAny_loadPart' hl
    exact ⟨_, rfl, h⟩
def rRepT1 (K : PySem.W.Frag) : R2 := fun x y H Q => ∃ l xs, x = .ref l ∧ y = .int 1 ∧ SqT K H l xs ∧ Q (.ref l) H
theorem op_repT1 : OpR X (binaryOp .Mult) (rRepT1 X.K) := by
  intro pins s σ H x y v u Q I rx ry h
  obtain ⟨l, xs, rfl, rfl, hT, q⟩ := h
  cases rx
  obtain ⟨t, rfl⟩ := ry
  obtain ⟨its, r, ⟨⟨cls, dd, data, sl⟩, ho, hc, n, hd⟩, hs⟩ := I.tuple hT
  simp only at hc hd
  subst hc hd
  refine wpAny_binaryOp_repeat_ref (T := "tuple") (U := "int") (by decide) ⟨_, ho, rfl⟩ (fun s' => typeIs_int s' 1 t) noFill_tuple_mul F.fills_int_mul F.slot_int_rmul repeat_tuple F.slot_int_index.lookup
    (call_meets F.slot_int_rmul (typeIs_int s 1 t) F.entry_int_rmul (F.args_int_rmul_2 _ _) (int_rmul_tuple 1 t l its.toArray n dd sl)
      ⟨ho, rfl, ⟨_, ho, rfl⟩, call_meets F.slot_tuple_mul ⟨_, ho, rfl⟩ F.entry_tuple_mul (F.args_tuple_mul_2 _ _) (tupmul1 l its.toArray n dd sl t) ⟨ho, ?_⟩⟩)
  exact ⟨.ref l, H, I, rfl, q⟩

/-- list * int, any list that may be read -/
theorem lmulW (l : Addr) (items : Array Value) (n : Nat) (dd : Option Addr) (sl : Array (Option Value)) (x : Int) (u : Tok) (hc0 : ¬(!Builtin.List.listFitsIndex x) = true) (hc1 : ¬items.size * x.toNat > (2 ^ 63 - 1) / 8) (hc2 : ¬Builtin.List.listTooLong (items.size * x.toNat) = true) :
    Meets (Builtin.«list.__mul__» ⟨[.ref l, .int x u], []⟩) (fun _ R s => s.heap.get? l = some { cls := .type "list", dict := dd, data := .seq items n, slots := sl } ∧
      R (.ok (.ret (Value.ref s.heap.objs.size))) { s with heap := s.heap.push { cls := Value.type "list", data := Data.seq (List.foldl (fun x1 x2 => x1 ++ x2) #[] (List.replicate (if items.isEmpty = true then 0 else x.toNat) items)) }, toks := s.toks }) :=
  .of_wp fun prog w A R s h => by
    obtain ⟨hp, g, d, tk, os⟩ := s
    obtain ⟨hl, h⟩ := h
    have hsz := AutoListH.joined_fits hc2
    have f1 := AutoSeq1.idx_int
    have f3 := AutoSeq1.sub_list_list
    wp_walk using AutoSeq1.wpAny_loadPart' hl
    refine wpAny_ite_false (decide_eq_false (Nat.not_lt.mpr hsz)) ?_
    wp_walk using AutoSeq1.wpAny_loadPart' hl
    exact ⟨_, rfl, h⟩
theorem rmulW (a : Int) (t : Tok) (l : Addr) (items : Array Value) (n : Nat) (dd : Option Addr) (sl : Array (Option Value)) :
    Meets (Builtin.«int.__rmul__» ⟨[.int a t, .ref l], []⟩) (fun _ R s => s.heap.get? l = some { cls := .type "list", dict := dd, data := .seq items n, slots := sl } ∧ R (.ok (.ret Value.notImplemented)) s) :=
  .of_wp fun prog w A R s h => by
    obtain ⟨hp, g, d, tk, os⟩ := s
    obtain ⟨hl, h⟩ := h
    wp_walk using AutoSeq1.wpAny_loadPart' hl
    exact ⟨_, rfl, h⟩
def rRepL (K : PySem.W.Frag) : R2 := fun x y H Q => ∃ l k xs, x = .ref l ∧ y = .int k ∧ SqL K H l xs ∧ -(2 ^ 63) ≤ k ∧ k < 2 ^ 63 ∧ xs.length * k.toNat ≤ sizeLine ∧
  ∀ p, H p = none → Q (.ref p) (upd H p (.lst (List.replicate k.toNat xs).flatten))
theorem op_repL : OpR X (binaryOp .Mult) (rRepL X.K) := by
  intro pins s σ H x y v u Q I rx ry h
  obtain ⟨l, k, xs, rfl, rfl, hS, h1, h2, hz, q⟩ := h
  cases rx
  obtain ⟨t, rfl⟩ := ry
  obtain ⟨its, r, ⟨⟨cls, dd, data, sl⟩, n, e, hc, hd0, hd⟩, z1⟩ := I.list hS
  simp only at hc hd
  subst hc hd
  have hl := r.length
  have hlen : its.toArray.size * k.toNat ≤ sizeLine := by rw [List.size_toArray, ← hl]; exact hz
  have big : (sizeLine : Nat) ≤ (2 ^ 63 - 1) / 8 := by decide
  have hfit : ¬ (!Builtin.List.listFitsIndex k) = true := by simp [fitsIndex_both h1 h2]
  have hlong : ¬ Builtin.List.listTooLong (its.toArray.size * k.toNat) = true := by rw [notLongL hlen]; exact Bool.false_ne_true
  have join : ∀ m : Nat, List.foldl (fun x1 x2 => x1 ++ x2) #[] (List.replicate m its.toArray) = (List.replicate m its).flatten.toArray := fun m => (foldl_rep its m []).trans (by rw [List.nil_append])
  have hnew : List.foldl (fun x1 x2 => x1 ++ x2) #[] (List.replicate (if its.toArray.isEmpty = true then 0 else k.toNat) its.toArray) = (List.replicate k.toNat its).flatten.toArray := by
    rw [join]
    cases its with
    | nil => simp
    | cons a b => rw [if_neg (by simp)]
  refine wpAny_binaryOp_repeat_ref (T := "list") (U := "int") (by decide) ⟨_, e, rfl⟩ (fun s' => typeIs_int s' k t) noFill_list_mul F.fills_int_mul F.slot_int_rmul repeat_list F.slot_int_index.lookup
    (call_meets F.slot_int_rmul (typeIs_int s k t) F.entry_int_rmul (F.args_int_rmul_2 _ _) (rmulW k t l its.toArray n dd sl)
      ⟨e, rfl, ⟨_, e, rfl⟩, call_meets F.slot_list_mul ⟨_, e, rfl⟩ F.entry_list_mul (F.args_list_mul_2 _ _) (lmulW l its.toArray n dd sl k t hfit (by omega) hlong) ⟨e, ?_⟩⟩)
  rw [hnew]
  exact ⟨.ref _, _, I.lnew (t' := s.toks) (r.rep k.toNat) (by rw [PyProof.Rows.lm_len_rep_flat, Nat.mul_comm]; exact hz), rfl, q _ I.fresh⟩

/-- max(list of ints, default = d) -/
def rMaxD (K : PySem.W.Frag) : List V → List V → Hp → VK → Prop := fun xs zs H Q => ∃ (a : Addr) (ns : List Int) (d : Int), xs = [.ref a] ∧ zs = [.int d] ∧ SqL K H a (ns.map V.int) ∧ Q (.int (maxOr d ns)) H
theorem maxOf_int (x : Int) : ∀ xs : List Int, PySem.W.maxOf x xs = xs.foldl (fun a b => if b > a then b else a) x := fun xs => by
  unfold PySem.W.maxOf
  congr 1
  funext a b
  show (if decide (a < b) = true then b else a) = if b > a then b else a
  by_cases h : a < b
  · rw [if_pos (decide_eq_true h), if_pos h]
  · rw [if_neg (by simpa using h), if_neg (by omega)]
theorem call_maxD (hc : X.calm = true) (hu : X.A.units + 65 < cLine) : CallRK X (.builtin "max") ["default"] (rMaxD X.K) := by
  intro pins s σ H xs zs us ws Q I rx rz h
  obtain ⟨a, ns, d, rfl, rfl, hS, q⟩ := h
  obtain ⟨u, rfl, ru⟩ := rx.one
  obtain ⟨w', rfl, rw'⟩ := rz.one
  cases ru
  obtain ⟨t, rfl⟩ := rw'
  obtain ⟨its, r, pl, z⟩ := I.list hS
  have hi : IntsAre its.toArray.toList ns := by simpa using intsAre_of r
  refine PySem.W.max_list_datum_default (I.ok.hd hc) pl.isList (PySem.W.HoldAll.of_ints hi) (by show X.A.units + 1 + 0 < cLine; omega) (fun e h' tk k => ?_) fun y ys i v h' tk e hv hh k => ?_
  · subst e
    exact ⟨.int d, H, I.kept (t' := tk) k, ⟨t, rfl⟩, q⟩
  · subst e
    obtain ⟨as, hr⟩ := hh
    have q' : Q (.int (PySem.W.maxOf y ys)) H := by rw [maxOf_int]; exact q
    have hr' : PySem.Reads h' v (.int (PySem.W.maxOf y ys)) as := hr
    cases hr' with
    | int i t => exact ⟨.int _, H, I.kept (t' := tk) k, ⟨_, rfl⟩, q'⟩

variable {tg : Expr}
/-- what may be walked: a list or a tuple -/
def iSeq (K : PySem.W.Frag) (tl : TE) : TI := fun σ H R => tl σ H fun x H1 => ∃ a, x = .ref a ∧ (((∃ xs, SqL K H1 a xs) ∧ R (Itl K a) H1) ∨ ((∃ xs, SqT K H1 a xs) ∧ R (Itt K a) H1))
theorem pi_seq {l : Expr} {tl : TE} (hl : PE X l tl) : PI X tg l (iSeq X.K tl) := by
  refine ⟨fun pins s σ H R I h => ?_⟩
  refine thn (hl.run pins s σ H _ I h) fun v s1 ⟨x, H1, I1, r1, q1⟩ => ?_
  have hv : PE X l (fun σ' H' Q => ∃ u, v = u ∧ False) := ⟨fun _ _ _ _ _ _ h => by obtain ⟨_, _, z⟩ := h; exact z.elim⟩
  obtain ⟨a, e, q⟩ := q1
  subst e
  cases r1
  rcases q with ⟨⟨xs, hq⟩, q⟩ | ⟨⟨xs, hq⟩, q⟩
  · obtain ⟨its, rv, p, hz⟩ := I1.list hq
    refine wpAny_pyIter_list p.isList ?_
    refine ⟨s1.heap.objs.size, [s1.heap.objs.size], _, _, H1, rfl, I1.kept (t' := s1.toks) fun b o e => Heap.get?_push_of_some _ e, turn_list a _, ⟨_, Heap.get?_push_size _ rfl, rfl, rfl⟩, fun b hb => ?_, q⟩
    obtain rfl : b = s1.heap.objs.size := by simpa using hb
    exact I1.fpOk (Nat.le_refl _) (I1.hok.fresh (Nat.le_refl _))
  · obtain ⟨its, rv, p, hz⟩ := I1.tuple hq
    refine wpAny_pyIter_tuple (show s1.heap.IsTuple a its.toArray from p) ?_
    refine ⟨s1.heap.objs.size, [s1.heap.objs.size], _, _, H1, rfl, I1.kept (t' := s1.toks) fun b o e => Heap.get?_push_of_some _ e, turn_tuple a _, ⟨_, Heap.get?_push_size _ rfl, rfl, rfl⟩, fun b hb => ?_, q⟩
    obtain rfl : b = s1.heap.objs.size := by simpa using hb
    exact I1.fpOk (Nat.le_refl _) (I1.hok.fresh (Nat.le_refl _))
end
end Ly

set_option Elab.async false
set_option linter.all false
set_option maxRecDepth 100000
set_option maxHeartbeats 2000000
/-! zip of lists and tuples mixed; enumerate of a tuple. -/
namespace Ly
open PySem PySem.Spec PyProof.Rows L2

/-- a list or a tuple -/
def SqK (t : Bool) (K : PySem.W.Frag) (H : Hp) (a : Addr) (xs : List V) : Prop := if t = true then SqT K H a xs else SqL K H a xs
/-- its iterator at place i -/
def AtK (t : Bool) (h : Heap) (it a : Addr) (i : Nat) : Prop := if t = true then h.IsTupleIter it a i else h.IsListIter it a i
theorem AtK.ob {t : Bool} {h : Heap} {it a : Addr} {i : Nat} (x : AtK t h it a i) : ∃ o, h.get? it = some o ∧ ∀ v, o.data ≠ .cell v := by
  cases t with
  | true =>
    obtain ⟨o, e, _, d⟩ := (show h.IsTupleIter it a i from x)
    exact ⟨o, e, fun v q => by rw [d] at q; cases q⟩
  | false =>
    obtain ⟨o, e, _, d⟩ := (show h.IsListIter it a i from x)
    exact ⟨o, e, fun v q => by rw [d] at q; cases q⟩
theorem AtK.to {t : Bool} {h h' : Heap} {it a : Addr} {i : Nat} (x : AtK t h it a i) (k : ∀ o, h.get? it = some o → h'.get? it = some o) : AtK t h' it a i := by
  cases t with
  | true => exact (show h.IsTupleIter it a i from x).at k
  | false => exact (show h.IsListIter it a i from x).at k
/-- what such an iterator draws, of what stands there now -/
theorem drawK {X : Cx} {pins : List (Addr × Obj)} {σ : L2.St} {H : Hp} {s : Shared} {a : Addr} {xs : List V} (t : Bool) (hc : X.calm = true) (I : Inv X pins σ H s) (q : SqK t X.K H a xs) :
    ∃ its : List Value, Vals xs its ∧ ∀ it i, a ≠ it → AtK t s.heap it a i → ∃ St : Nat → Heap → Prop, Draws X.prog X.w X.A.in1 it [it, a] its.length (fun i v => its[i]? = some v) St ∧ St i s.heap ∧ ∀ h', St (i + 1) h' → AtK t h' it a (i + 1) := by
  cases t with
  | true =>
    obtain ⟨its, rv, p, _⟩ := I.tuple (show SqT X.K H a xs from q)
    refine ⟨its, rv, fun it i hn hi => ⟨fun i h => h.IsTupleIter it a i ∧ h.IsTuple a its.toArray, by simpa using Draws.tuple (A := X.A.in1) (I.ok.hd hc) it a hn its.toArray, ⟨hi, p⟩, fun h' st => st.1⟩⟩
  | false =>
    obtain ⟨its, rv, p, _⟩ := I.list (show SqL X.K H a xs from q)
    refine ⟨its, rv, fun it i hn hi => ⟨fun i h => h.IsListIter it a i ∧ h.IsList a its.toArray, by simpa using Draws.list (A := X.A.in1) (I.ok.hd hc) it a hn its.toArray, ⟨hi, p.isList⟩, fun h' st => st.1⟩⟩
/-- both at each turn as they stand, the items in new pairs -/
def ItzK (t u : Bool) (K : PySem.W.Frag) (a b : Addr) : It :=
  ⟨fun i H => ∃ (xs ys : List V) (x y : V), SqK t K H a xs ∧ SqK u K H b ys ∧ xs[i]? = some x ∧ ys[i]? = some y,
    fun i H v H' => ∃ T x y, v = .ref T ∧ H T = none ∧ H' = upd H T (.tup [x, y]) ∧ (∀ xs, SqK t K H a xs → xs[i]? = some x) ∧ ∀ ys, SqK u K H b ys → ys[i]? = some y,
    fun i H => ∃ xs ys : List V, SqK t K H a xs ∧ SqK u K H b ys ∧ i ≤ xs.length ∧ i ≤ ys.length ∧ (i = xs.length ∨ i = ys.length)⟩
theorem SqK.inj {X : Cx} {pins : List (Addr × Obj)} {σ : L2.St} {H : Hp} {s : Shared} {a : Addr} {xs ys : List V} {t : Bool} (I : Inv X pins σ H s) (h1 : SqK t X.K H a xs) (h2 : SqK t X.K H a ys) : xs = ys := by
  cases t with
  | true => exact I.tuple_inj h1 h2
  | false => exact I.list_inj h1 h2
theorem SqK.lt {X : Cx} {pins : List (Addr × Obj)} {σ : L2.St} {H : Hp} {s : Shared} {a : Addr} {xs : List V} {t : Bool} (I : Inv X pins σ H s) (h : SqK t X.K H a xs) : a < s.heap.objs.size := by
  cases t with
  | true =>
    obtain ⟨its, _, p, _⟩ := I.tuple (show SqT X.K H a xs from h)
    obtain ⟨o, e, _⟩ := p
    exact Heap.lt_size e
  | false =>
    obtain ⟨its, _, p, _⟩ := I.list (show SqL X.K H a xs from h)
    exact p.lt
theorem turn_zipK {P : Program} {w : World} {K : PySem.W.Frag} {elts : List Expr} {kk : Nat} {tpos : Pos} {t u : Bool} {a b z TI TO i1 i2 : Addr} (S : ZipSep2 z TI TO i1 i2 [i1, a] [i2, b]) (n1 : a ≠ i1) (n2 : b ≠ i2) :
    Turn P w K (.Tuple elts kk tpos) (ItzK t u K a b) [z, TI, TO, i1, i2] z (fun i h => IsZip h z TI TO .none ∧ IsTupOf2 h TI (.ref i1) (.ref i2) ∧ (∃ x y, IsTupOf2 h TO x y) ∧ AtK t h i1 a i ∧ AtK u h i2 b i) where
  mem := by simp
  obj := fun i h st c hc => by
    obtain ⟨hz, hTI, ⟨x, y, hTO⟩, h1, h2⟩ := st
    simp only [List.mem_cons, List.mem_nil_iff, or_false] at hc
    rcases hc with rfl | rfl | rfl | rfl | rfl
    · exact ⟨_, hz, fun v q => nomatch q⟩
    · exact ⟨_, hTI, fun v q => nomatch q⟩
    · exact ⟨_, hTO, fun v q => nomatch q⟩
    · exact h1.ob
    · exact h2.ob
  keep := fun i h h' st k => by
    obtain ⟨hz, hTI, ⟨x, y, hTO⟩, h1, h2⟩ := st
    exact ⟨k z (by simp) _ hz, k TI (by simp) _ hTI, ⟨x, y, k TO (by simp) _ hTO⟩, h1.to fun o q => k i1 (by simp) o q, h2.to fun o q => k i2 (by simp) o q⟩
  item := by
    intro X hP hw hK hc i pins s σ H E I hf st hg
    subst hP hw hK
    obtain ⟨hz, hTI, ⟨x0, y0, hTO⟩, h1, h2⟩ := st
    obtain ⟨xs, ys, x, y, hqx, hqy, hx, hy⟩ := hg
    obtain ⟨its1, rv1, d1⟩ := drawK t hc I hqx
    obtain ⟨its2, rv2, d2⟩ := drawK u hc I hqy
    obtain ⟨St1, D1, st1, k1⟩ := d1 i1 i n1 h1
    obtain ⟨St2, D2, st2, k2⟩ := d2 i2 i n2 h2
    obtain ⟨v1, e1, r1⟩ := rv1.get hx
    obtain ⟨v2, e2, r2⟩ := rv2.get hy
    have hzl : z < s.heap.objs.size := Heap.lt_size hz
    obtain ⟨o1, ho1, _⟩ := h1.ob
    obtain ⟨o2, ho2, _⟩ := h2.ob
    refine wpAny_pyNext_zipD2_item S D1 D2 hz hTI hTO st1 st2 (List.getElem?_eq_some_iff.mp e1).1 (List.getElem?_eq_some_iff.mp e2).1 fun x1 x2 h' tk p1 p2 hz' hTO' s1 s2 hT hsz hk => ?_
    rw [e1] at p1
    cases p1
    rw [e2] at p2
    cases p2
    refine ⟨_, rfl, wpAny_letOwnedTupleGo_zip (s := { s with heap := h', toks := tk }) hz' fun h'' z'' sb => ?_⟩
    have hT2 : h''.get? s.heap.objs.size = some { cls := .type "tuple", data := .seq #[v1, v2] } := (sb.2 _ (Nat.ne_of_gt hzl)).trans hT
    have new : ObjOk X.prog X.w (upd H s.heap.objs.size (.tup [x, y])) h'' s.heap.objs.size (.tup [x, y]) :=
      ⟨by show 2 ≤ sizeLine; decide, [v1, v2], .cons r1 (.cons r2 .nil), ⟨_, hT2, rfl, _, rfl⟩⟩
    have I1 : Inv X pins σ (upd H s.heap.objs.size (.tup [x, y])) { s with heap := h'', toks := tk } :=
      I.turnedNew (t' := tk) (ch := [z, TI, TO, i1, i2]) (fun c o hb q => (sb.2 c (fun q' => hb (by simp [q']))).trans (hk c o (fun q' => hb (by simp [q'])) (fun q' => hb (by simp [q'])) (fun q' => hb (by simp [q'])) (fun q' => hb (by simp [q'])) q)) hf (Nat.le_refl _) new
    refine ⟨.ref s.heap.objs.size, _, I1, rfl, ⟨_, x, y, rfl, I.hok.fresh (Nat.le_refl _), rfl, fun l hl => by rw [hl.inj I hqx]; exact hx, fun l hl => by rw [hl.inj I hqy]; exact hy⟩, ⟨z'', ?_, ⟨v1, v2, ?_⟩, ?_, ?_⟩, fun c hcm => ?_⟩
    · exact (sb.2 _ S.TIz).trans (hk _ _ S.TIz S.TITO S.TIi1 S.TIi2 hTI)
    · exact (sb.2 _ S.TOz).trans hTO'
    · exact (k1 _ s1).to fun o q => (sb.2 _ (Ne.symm S.zi1)).trans q
    · exact (k2 _ s2).to fun o q => (sb.2 _ (Ne.symm S.zi2)).trans q
    · have hlt : c < s.heap.objs.size := by
        simp only [List.mem_cons, List.mem_nil_iff, or_false] at hcm
        rcases hcm with rfl | rfl | rfl | rfl | rfl
        · exact hzl
        · exact Heap.lt_size hTI
        · exact Heap.lt_size hTO
        · exact Heap.lt_size ho1
        · exact Heap.lt_size ho2
      rw [upd_ne (Nat.ne_of_lt hlt)]
      exact (hf c hcm).1
  done := by
    intro X hP hw hK hc i pins s σ H E I hf st hg
    subst hP hw hK
    obtain ⟨hz, hTI, ⟨x0, y0, hTO⟩, h1, h2⟩ := st
    obtain ⟨xs, ys, hqx, hqy, l1, l2, hend⟩ := hg
    obtain ⟨its1, rv1, d1⟩ := drawK t hc I hqx
    obtain ⟨its2, rv2, d2⟩ := drawK u hc I hqy
    obtain ⟨St1, D1, st1, k1⟩ := d1 i1 i n1 h1
    obtain ⟨St2, D2, st2, k2⟩ := d2 i2 i n2 h2
    have e1 := rv1.length
    have e2 := rv2.length
    exact wpAny_pyNext_zipD2_end S D1 D2 hz hTI hTO st1 st2 (by omega) (by omega) (by omega) fun h' tk hk => ⟨rfl, I.turnedL (t' := tk) (ch := [z, TI, TO, i1, i2]) (fun c o hb q =>
      hk c o (fun q' => hb (by simp [q'])) (fun q' => hb (by simp [q'])) (fun q' => hb (by simp [q'])) (fun q' => hb (by simp [q'])) q) hf⟩
  self := fun A i s Q E st h => wpAny_pyIter_zip st.1 h
/-- enumerate over such a thing -/
def IteK (t : Bool) (K : PySem.W.Frag) (a : Addr) : It :=
  ⟨fun i H => ∃ (xs : List V) (x : V), SqK t K H a xs ∧ xs[i]? = some x,
    fun i H v H' => ∃ T x, v = .ref T ∧ H T = none ∧ H' = upd H T (.tup [.int (i : Nat), x]) ∧ ∀ xs, SqK t K H a xs → xs[i]? = some x,
    fun i H => ∃ xs : List V, SqK t K H a xs ∧ i = xs.length⟩
theorem turn_enumK {P : Program} {w : World} {K : PySem.W.Frag} {elts : List Expr} {kk : Nat} {tpos : Pos} {t : Bool} {a e it : Addr} (n1 : a ≠ it) (n2 : e ≠ it) (n3 : e ≠ a) :
    Turn P w K (.Tuple elts kk tpos) (IteK t K a) [e, it] e (fun i h => (∃ old, IsEnum h e it ((i : Nat) : Int) old) ∧ AtK t h it a i) where
  mem := by simp
  obj := fun i h st c hc => by
    obtain ⟨⟨old, he⟩, h1⟩ := st
    simp only [List.mem_cons, List.mem_nil_iff, or_false] at hc
    rcases hc with rfl | rfl
    · exact ⟨_, he, fun v q => nomatch q⟩
    · exact h1.ob
  keep := fun i h h' st k => by
    obtain ⟨⟨old, he⟩, h1⟩ := st
    exact ⟨⟨old, k e (by simp) _ he⟩, h1.to fun o q => k it (by simp) o q⟩
  item := by
    intro X hP hw hK hc i pins s σ H E I hf st hg
    subst hP hw hK
    obtain ⟨⟨old, he⟩, h1⟩ := st
    obtain ⟨xs, x, hq, hx⟩ := hg
    obtain ⟨its, rv, d⟩ := drawK t hc I hq
    obtain ⟨St, D, st1, k1⟩ := d it i n1 h1
    obtain ⟨v, e1, r1⟩ := rv.get hx
    have hel : e < s.heap.objs.size := Heap.lt_size he
    obtain ⟨o1, ho1, _⟩ := h1.ob
    refine wpAny_pyNext_enum_itemD D he st1 (List.getElem?_eq_some_iff.mp e1).1 n2 (by simp [n2, n3]) fun x1 h' tk p1 ho s1 hT hsz hk => ?_
    rw [e1] at p1
    cases p1
    refine ⟨_, rfl, wpAny_letOwnedTupleGo_enum (s := { s with heap := h', toks := tk + 1 }) ho fun h'' he' sb => ?_⟩
    have hT2 : h''.get? s.heap.objs.size = some { cls := .type "tuple", data := .seq #[.int i tk, v] } := (sb.2 _ (Nat.ne_of_gt hel)).trans hT
    have new : ObjOk X.prog X.w (upd H s.heap.objs.size (.tup [.int (i : Nat), x])) h'' s.heap.objs.size (.tup [.int (i : Nat), x]) :=
      ⟨by show 2 ≤ sizeLine; decide, [.int i tk, v], .cons ⟨_, rfl⟩ (.cons r1 .nil), ⟨_, hT2, rfl, _, rfl⟩⟩
    have I1 : Inv X pins σ (upd H s.heap.objs.size (.tup [.int (i : Nat), x])) { s with heap := h'', toks := tk + 1 } :=
      I.turnedNew (ch := [e, it]) (fun b ob hb q => (sb.2 b (fun z => hb (by simp [z]))).trans (hk b ob (fun z => hb (by simp [z])) (fun z => hb (by simp [z])) q)) hf (Nat.le_refl _) new
    refine ⟨.ref s.heap.objs.size, _, I1, rfl, ⟨_, x, rfl, I.hok.fresh (Nat.le_refl _), rfl, fun ys hy => by rw [hy.inj I hq]; exact hx⟩, ⟨⟨v, ?_⟩, (k1 _ s1).to fun o q => (sb.2 it (Ne.symm n2)).trans q⟩, fun b hb => ?_⟩
    · have e2 : ((i + 1 : Nat) : Int) = (i : Int) + 1 := by omega
      rw [e2]; exact he'
    · have hb' : b < s.heap.objs.size := by
        simp only [List.mem_cons, List.mem_nil_iff, or_false] at hb
        rcases hb with rfl | rfl
        · exact hel
        · exact Heap.lt_size ho1
      rw [upd_ne (Nat.ne_of_lt hb')]
      exact (hf b hb).1
  done := by
    intro X hP hw hK hc i pins s σ H E I hf st hg
    subst hP hw hK
    obtain ⟨⟨old, he⟩, h1⟩ := st
    obtain ⟨xs, hq, hx⟩ := hg
    obtain ⟨its, rv, d⟩ := drawK t hc I hq
    obtain ⟨St, D, st1, k1⟩ := d it i n1 h1
    obtain ⟨f0, f1, f2, f3, f4, f5⟩ := hf it (by simp)
    have hl := rv.length
    have hn : i = its.length := by omega
    subst hn
    exact wpAny_pyNext_enum_endD D he st1 fun h' eb => ⟨rfl, I.turned (t' := s.toks) (fun b o hb q => eb b o hb q) f0 f1 f3 f4 f5⟩
  self := fun A i s Q E st h => let ⟨⟨_, he⟩, _⟩ := st; wpAny_pyIter_enum he h
theorem begK {X : Cx} {pins : List (Addr × Obj)} {σ : L2.St} {H : Hp} {s : Shared} {a : Addr} {xs : List V} (t : Bool) (I : Inv X pins σ H s) (q : SqK t X.K H a xs) : ∃ (o : Obj) (Hh : Heap → Prop), Begins (.ref a) o Hh ∧ Hh s.heap ∧ ∀ h it, h.get? it = some o → AtK t h it a 0 := by
  cases t with
  | true =>
    obtain ⟨its, rv, p, _⟩ := I.tuple (show SqT X.K H a xs from q)
    exact ⟨_, _, begins_tuple a its.toArray, p, fun h it e => ⟨_, e, rfl, rfl⟩⟩
  | false =>
    obtain ⟨its, rv, p, _⟩ := I.list (show SqL X.K H a xs from q)
    exact ⟨_, _, begins_list a its.toArray, p.isList, fun h it e => ⟨_, e, rfl, rfl⟩⟩
theorem zsep {n a b : Nat} (la : a < n) (lb : b < n) : ZipSep2 (n + 4) (n + 2) (n + 3) n (n + 1) [n, a] [n + 1, b] := by
  have f : ∀ {x y : Nat}, x ≠ y → ¬ ((x : Addr) = (y : Addr)) := fun h => h
  constructor <;> first
    | (refine f ?_; omega)
    | (simp only [List.mem_cons, List.mem_nil_iff, or_false, true_or]; done)
    | (simp only [List.mem_cons, List.mem_nil_iff, or_false, not_or]; exact ⟨f (by omega), f (by omega)⟩)
def iZipK (K : PySem.W.Frag) (ta : TA) : TI := fun σ H R => ta σ H fun vs H1 => ∃ a b xs ys t u, vs = [.ref a, .ref b] ∧ SqK t K H1 a xs ∧ SqK u K H1 b ys ∧ R (ItzK t u K a b) H1
theorem pi_zipK {X : Cx} {e e2 : Expr} {ta : TA} {p pos tpos : Pos} {elts : List Expr} {kk : Nat} (hg : Gl X "zip") (hm : X.mg "zip" = none) (ha : PA X [e, e2] ta)
    (hs : starEach [e, e2] X.env = (false, eval e X.env) :: starEach [e2] X.env) (hpl : (backTo pos (starEach [e2] X.env)).any (·.1) = false) :
    PI X (.Tuple elts kk tpos) (.Call (.Name "zip" p) [e, e2] [] pos) (iZipK X.K ta) := by
  refine ⟨fun pins s σ H R I h => ?_⟩
  refine Call_ (ld_blt I hg hm PyProof.Rows.boot_zip (PyProof.Rows.callWith_type1 (thn (ha.run pos pins s σ H _ I h) fun us s1 ⟨vs, H1, I1, r1, q1⟩ => ?_) hs hpl))
  obtain ⟨a, b, xs, ys, t, u, ex, hqx, hqy, q⟩ := q1
  subst ex
  obtain ⟨v1, v2, rfl, r, r'⟩ := r1.two
  cases r
  cases r'
  obtain ⟨o1, H1', B1, b1, k1⟩ := begK t I1 hqx
  obtain ⟨o2, H2', B2, b2, k2⟩ := begK u I1 hqy
  have la := hqx.lt I1
  have lb := hqy.lt I1
  refine zip_begins2 B1 B2 b1 b2 fun h' hz hTI hTO h1 h2 hsz hk => wpAny_pyIter_zip hz ?_
  have I2 : Inv X pins σ H1 { s1 with heap := h' } := I1.kept (t' := s1.toks) hk
  have sep : ZipSep2 (s1.heap.objs.size + 4) (s1.heap.objs.size + 2) (s1.heap.objs.size + 3) s1.heap.objs.size (s1.heap.objs.size + 1) [s1.heap.objs.size, a] [s1.heap.objs.size + 1, b] := by
    exact zsep la lb
  refine ⟨s1.heap.objs.size + 4, [s1.heap.objs.size + 4, s1.heap.objs.size + 2, s1.heap.objs.size + 3, s1.heap.objs.size, s1.heap.objs.size + 1], _, _, H1, rfl, I2, turn_zipK sep (Nat.ne_of_lt la) (Nat.ne_of_lt (Nat.lt_succ_of_lt lb)), ⟨hz, hTI, ⟨_, _, hTO⟩, k1 _ _ h1, k2 _ _ h2⟩, fun c hcm => ?_, q⟩
  have hle : s1.heap.objs.size ≤ c := by
    simp only [List.mem_cons, List.mem_nil_iff, or_false] at hcm
    rcases hcm with rfl | rfl | rfl | rfl | rfl
    · exact Nat.le_add_right _ _
    · exact Nat.le_add_right _ _
    · exact Nat.le_add_right _ _
    · exact Nat.le_refl _
    · exact Nat.le_add_right _ _
  exact I1.fpOk hle (I1.hok.fresh hle)
theorem meets_enumK {v : Value} {o : Obj} {H : Heap → Prop} (B : Begins v o H) :
    Meets (Builtin.«enumerate.__new__» ⟨[.type "enumerate", v], []⟩) (fun _ R s => H s.heap ∧
      R (.ok (.ret (.ref (s.heap.push o).objs.size))) { s with heap := (s.heap.push o).push { cls := .type "enumerate", data := .fields #[.none, .bool false, .ref s.heap.objs.size, rawInt 0, .none, .none] } }) :=
  .of_wp fun prog w A R s h => by
    obtain ⟨hp, gn, dr, tk, os⟩ := s
    obtain ⟨h1, h⟩ := h
    have hsub := sub_enumerate
    have start : ∀ {A' : Around} {E : Value → Shared → Prop} {Q : Value → Shared → Prop}, Q (.ref hp.objs.size) ⟨hp.push o, gn, dr, tk, os⟩ → wpAny (model prog w) A' (pyIter v) Q E ⟨hp, gn, dr, tk, os⟩ := fun q => B.iter prog w _ _ _ _ h1 q
    wp_walk using start
    refine wpAny_stack_any fun st => wpAny_pure ?_
    split
    · rename_i c _ _ _ _ _
      cases (c == Value.type "enumerate") <;> (wp_walk using start; exact ⟨_, rfl, h⟩)
    · wp_walk using start
      exact ⟨_, rfl, h⟩
def iEnumK (K : PySem.W.Frag) (ta : TA) : TI := fun σ H R => ta σ H fun vs H1 => ∃ a xs t, vs = [.ref a] ∧ SqK t K H1 a xs ∧ R (IteK t K a) H1
theorem pi_enumK {X : Cx} {e : Expr} {ta : TA} {p pos tpos : Pos} {elts : List Expr} {kk : Nat} (hg : Gl X "enumerate") (hm : X.mg "enumerate" = none) (ha : PA X [e] ta) (hs : starEach [e] X.env = [(false, eval e X.env)]) :
    PI X (.Tuple elts kk tpos) (.Call (.Name "enumerate" p) [e] [] pos) (iEnumK X.K ta) := by
  refine ⟨fun pins s σ H R I h => ?_⟩
  refine Call_ (ld_blt I hg hm boot_enumerate (PyProof.Rows.callWith_type1 (thn (ha.run pos pins s σ H _ I h) fun us s1 ⟨vs, H1, I1, r1, q1⟩ => ?_) hs rfl))
  obtain ⟨a, xs, t, ex, hq, q⟩ := q1
  subst ex
  obtain ⟨v, rfl, r⟩ := r1.one
  cases r
  obtain ⟨o, Hh, B, b1, k1⟩ := begK t I1 hq
  have la := hq.lt I1
  have hz : (s1.heap.push o).objs.size = s1.heap.objs.size + 1 := Heap.size_push ..
  refine callType_new F.called_enumerate (by decide) (F.typeCall_enumerate_1 _) (F.newCall_enumerate_1 _) (fun obj => F.args_object_init_2 obj _) F.entry_enumerate_new (meets_enumK B) ⟨b1, ?_⟩
  have he := Heap.get?_push_size (s1.heap.push o) (o := { cls := .type "enumerate", data := .fields #[.none, .bool false, .ref s1.heap.objs.size, rawInt 0, .none, .none] }) rfl
  have h1 : ((s1.heap.push o).push { cls := .type "enumerate", data := .fields #[.none, .bool false, .ref s1.heap.objs.size, rawInt 0, .none, .none] }).get? s1.heap.objs.size = some o := Heap.get?_push_of_some _ (Heap.get?_push_size _ B.free)
  have hk : ∀ b u, s1.heap.get? b = some u → ((s1.heap.push o).push { cls := .type "enumerate", data := .fields #[.none, .bool false, .ref s1.heap.objs.size, rawInt 0, .none, .none] }).get? b = some u := fun b u e => Heap.get?_push_of_some _ (Heap.get?_push_of_some _ e)
  generalize (s1.heap.push o).push { cls := .type "enumerate", data := .fields #[.none, .bool false, .ref s1.heap.objs.size, rawInt 0, .none, .none] } = h' at he h1 hk
  show _ ∧ _
  rw [hz] at he ⊢
  have he' : IsEnum h' (s1.heap.objs.size + 1) s1.heap.objs.size ((0 : Nat) : Int) .none := he
  refine ⟨⟨_, he, rfl⟩, wpAny_pyIter_enum he' ?_⟩
  have I2 : Inv X pins σ H1 { s1 with heap := h' } := I1.kept (t' := s1.toks) hk
  refine ⟨s1.heap.objs.size + 1, [s1.heap.objs.size + 1, s1.heap.objs.size], _, _, H1, rfl, I2, turn_enumK (Nat.ne_of_lt la) (Nat.succ_ne_self _) (Nat.ne_of_gt (Nat.lt_succ_of_lt la)), ⟨⟨.none, he'⟩, k1 _ _ h1⟩, fun b hb => ?_, q⟩
  have hle : s1.heap.objs.size ≤ b := by
    simp only [List.mem_cons, List.mem_nil_iff, or_false] at hb
    rcases hb with rfl | rfl
    · exact Nat.le_add_right _ _
    · exact Nat.le_refl _
  exact I1.fpOk hle (I1.hok.fresh hle)
end Ly

set_option Elab.async false
set_option linter.all false
set_option maxRecDepth 100000
set_option maxHeartbeats 2000000
/-! New tuples, told to have no dict: displays, t + u, t[i:j], t * k, tuple(list). -/
namespace Ly
open PySem PySem.Spec PyProof.Rows L2
section
variable {X : Cx}
theorem tO_ok {P : Program} {w : World} {H : Hp} {h : Heap} {a : Addr} {b : Bool} {o : Obj} {vs : List V} (h1 : h.get? a = some o) (h2 : ObjOk P w H h a (.tup vs)) : ObjOk P w H h a (tO b o vs) := by
  cases b with
  | false => exact h2
  | true => exact ⟨h1, h2⟩
/-- a display -/
def tTupA (t : TA) : TE := fun σ H Q => t σ H fun xs H1 => ∃ b : Bool, xs.length ≤ sizeLine ∧ ∀ p (o : Obj), H1 p = none → o.dict = none → Q (.ref p) (upd H1 p (tO b o xs))
theorem pe_tupA {es : List Expr} {x1 : Nat} {pos : Pos} {t : TA} (h : PA X es t) : PE X (.Tuple es x1 pos) (tTupA t) := by
  refine ⟨fun pins s σ H Q I hq => ?_⟩
  refine wpAny_Tuple_spliced (thn (h.run pos pins s σ H _ I hq) fun us s1 ⟨xs, H1, I1, r, b, z, q⟩ => ⟨by rw [← r.length]; exact z, ?_⟩)
  have hf : H1 s1.heap.objs.size = none := I1.hok.fresh (Nat.le_refl _)
  refine ⟨.ref s1.heap.objs.size, upd H1 s1.heap.objs.size (tO b _ xs), I1.laid (t' := s1.toks) (fun b u e => Heap.get?_push_of_some _ e) (Nat.le_refl _) (tO_ok (Heap.get?_push_size _ rfl) ?_), rfl, q _ _ hf rfl⟩
  exact ⟨z, us, r, ⟨_, Heap.get?_push_size _ rfl, rfl, _, rfl⟩⟩
/-- t + u -/
def rCatB (K : PySem.W.Frag) : R2 := fun x y H Q => ∃ a b xs ys f, x = .ref a ∧ y = .ref b ∧ SqT K H a xs ∧ SqT K H b ys ∧ xs.length + ys.length ≤ sizeLine ∧
  (xs = [] → Q (.ref b) H) ∧ (xs ≠ [] → ys = [] → Q (.ref a) H) ∧ (xs ≠ [] → ys ≠ [] → ∀ p (o : Obj), H p = none → o.dict = none → Q (.ref p) (upd H p (tO f o (xs ++ ys))))
theorem op_catB : OpR X (binaryOp .Add) (rCatB X.K) := by
  intro pins s σ H x y v u Q I rx ry h
  obtain ⟨a, b, xs, ys, f, rfl, rfl, ha, hb, hz, q0, q1, q2⟩ := h
  cases rx
  cases ry
  obtain ⟨its, r1, p1, _⟩ := I.tuple ha
  obtain ⟨its2, r2, p2, _⟩ := I.tuple hb
  by_cases hx : xs = []
  · subst hx
    cases r1
    exact cat_tup0 p1 p2 ⟨.ref b, H, I, rfl, q0 rfl⟩
  · refine HT.cat_tup p1 p2 (fun z => hx (r1.nil_iff.mp z)) (fun z => ⟨.ref a, H, I, rfl, q1 hx (r2.nil_iff.mp z)⟩) (fun z => ?_) (by rw [← r1.length, ← r2.length]; exact hz)
    refine ⟨.ref s.heap.objs.size, _, I.laid (t' := s.toks) (o := tO f _ (xs ++ ys)) (fun b ob q => Heap.get?_push_of_some _ q) (Nat.le_refl _) (tO_ok (Heap.get?_push_size _ rfl) ?_), rfl, q2 hx (fun w => z (r2.nil_iff.mpr w)) _ _ (I.hok.fresh (Nat.le_refl _)) rfl⟩
    exact ⟨by rw [List.length_append]; exact hz, _, r1.append r2, IsTup.new _ _⟩
/-- t[lo:hi] -/
def rSlB (K : PySem.W.Frag) : V → Option Int → Option Int → Hp → VK → Prop := fun x lo hi H Q => ∃ a xs f, x = .ref a ∧ SqT K H a xs ∧
  (HT.sIx xs.length 0 lo = 0 ∧ HT.sIx xs.length xs.length hi = xs.length → Q (.ref a) H) ∧ (¬ (HT.sIx xs.length 0 lo = 0 ∧ HT.sIx xs.length xs.length hi = xs.length) → ∀ p (o : Obj), H p = none → o.dict = none → Q (.ref p) (upd H p (tO f o (cutV xs lo hi))))
theorem sl_tupB : SlR X (rSlB X.K) := by
  intro pins s σ H x v vl vu lo hi sl Q I rx hs pl pu h
  obtain ⟨a, xs, f, rfl, hx, q1, q2⟩ := h
  cases rx
  obtain ⟨its, r, ht, hz⟩ := I.tuple hx
  have hlen : its.toArray.size = xs.length := by rw [List.size_toArray]; exact r.length.symm
  by_cases hw : HT.sIx xs.length 0 lo = 0 ∧ HT.sIx xs.length xs.length hi = xs.length
  · refine ⟨"tuple", _, PyProof.Rows.slot_tuple_getitem.lookup, ht.typeIs, ?_⟩
    exact getItem_tuple_whole ht hs pl pu (by rw [hlen]; exact hw) ⟨.ref a, H, I, rfl, q1 hw⟩
  · refine ⟨"tuple", _, PyProof.Rows.slot_tuple_getitem.lookup, ht.typeIs, ?_⟩
    refine HT.getItem_tuple_cut ht hs pl pu (by rw [hlen]; exact hw) ?_ (by rw [hlen]; exact hz)
    rw [hlen]
    refine ⟨.ref s.heap.objs.size, _, I.laid (t' := s.toks) (o := tO f _ (cutV xs lo hi)) (fun b ob q => Heap.get?_push_of_some _ q) (Nat.le_refl _) (tO_ok (Heap.get?_push_size _ rfl) ?_), rfl, q2 hw _ _ (I.hok.fresh (Nat.le_refl _)) rfl⟩
    exact ⟨Nat.le_trans (cutV_length xs lo hi) hz, _, (r.drop (HT.sIx xs.length 0 lo)).take (HT.sIx xs.length xs.length hi - HT.sIx xs.length 0 lo), IsTup.new _ _⟩
/-- tuple(list), tuple(tuple) -/
theorem call_tupleB : CallR X (.type "tuple") (fun xs H Q => ∃ p ys f, xs = [.ref p] ∧ ((SqL X.K H p ys ∧ ∀ l (o : Obj), H l = none → o.dict = none → Q (.ref l) (upd H l (tO f o ys))) ∨ (SqT X.K H p ys ∧ Q (.ref p) H))) := by
  intro pins s σ H xs us Q I r h
  obtain ⟨p, ys, f, rfl, h⟩ := h
  obtain ⟨u, rfl, rx⟩ := vals1 r
  cases rx
  rcases h with ⟨hq, q⟩ | ⟨hq, q⟩
  · obtain ⟨its, r', pl, hz⟩ := I.list hq
    have hlen := r'.length
    refine call_tuple_list pl.isList (fun h' kp => ?_) (by simp only [List.size_toArray] <;> omega)
    have I1 : Inv X pins σ H { s with heap := h' } := I.kept (t' := s.toks) kp
    have I2 : Inv X pins σ (upd H h'.objs.size (tO f { cls := .type "tuple", data := .seq its.toArray } ys)) { s with heap := h'.push { cls := .type "tuple", data := .seq its.toArray } } :=
      I1.laid (t' := s.toks) (fun b o e => Heap.get?_push_of_some _ e) (Nat.le_refl _) (tO_ok (Heap.get?_push_size _ rfl) (show ObjOk X.prog X.w _ _ _ (.tup ys) from ⟨hz, its, r', IsTup.new _ _⟩))
    exact ⟨.ref h'.objs.size, _, I2, rfl, q _ _ (I1.hok.fresh (Nat.le_refl _)) rfl⟩
  · obtain ⟨its, r', p1, _⟩ := I.tuple hq
    exact call_tuple_same (items := its.toArray) p1 ⟨.ref p, H, I, rfl, q⟩
/-- t * k -/
def rRepB (K : PySem.W.Frag) : R2 := fun x y H Q => ∃ l k xs f, x = .ref l ∧ y = .int k ∧ SqT K H l xs ∧ xs ≠ [] ∧ 2 ≤ k ∧ k ≤ 1000 ∧ xs.length ≤ 1000 ∧ ∀ p (o : Obj), H p = none → o.dict = none → Q (.ref p) (upd H p (tO f o (List.replicate k.toNat xs).flatten))
theorem op_repB : OpR X (binaryOp .Mult) (rRepB X.K) := by
  intro pins s σ H x y v u Q I rx ry h
  obtain ⟨l, k, xs, f, rfl, rfl, hT, hne, h1, h2, hz, q⟩ := h
  cases rx
  obtain ⟨t, rfl⟩ := ry
  obtain ⟨its, r, ⟨⟨cls, dd, data, sl⟩, ho, hc, n, hd⟩, hs⟩ := I.tuple hT
  simp only at hc hd
  subst hc hd
  have hle : its.length = xs.length := r.length.symm
  have hn : its ≠ [] := fun e => hne (by
    rw [e] at hle
    exact List.eq_nil_of_length_eq_zero hle.symm)
  have hi : its.toArray.isEmpty = false := by
    cases its with
    | nil => exact absurd rfl hn
    | cons a b => rfl
  have hsz0 : its.toArray.size = xs.length := by rw [List.size_toArray, hle]
  have hm : ((its.toArray.size : Nat) : Int) * k ≤ 1000000 := by
    rw [hsz0]
    have a1 : ((xs.length : Nat) : Int) * k ≤ 1000 * k := Int.mul_le_mul_of_nonneg_right (by omega) (by omega)
    omega
  have flen : (List.replicate k.toNat its).flatten.length ≤ sizeLine := by
    rw [PyProof.Rows.lm_len_rep_flat, hle, sizeLine_eq]
    have a1 : k.toNat * xs.length ≤ 1000 * 1000 := Nat.mul_le_mul (by omega) hz
    omega
  have c0 : (decide (k < -(2 ^ 63)) || decide (k ≥ 2 ^ 63)) = false := by
    rw [decide_eq_false (by omega), decide_eq_false (by omega)] <;> rfl
  have c1 : (its.toArray.isEmpty || k == 1) = false := by
    rw [hi, Bool.false_or]
    exact beq_eq_false_iff_ne.mpr (by omega)
  have c2 : (decide (k ≤ 0) || its.toArray.isEmpty) = false := by
    rw [hi, Bool.or_false]
    exact decide_eq_false (by omega)
  have c4 : Builtin.Tuple.tupleTooMany (((its.toArray.size : Nat) : Int) * k) = false := by
    unfold Builtin.Tuple.tupleTooMany
    rw [sizeLine_eq]
    exact decide_eq_false (by omega)
  refine wpAny_binaryOp_repeat_ref (T := "tuple") (U := "int") (by decide) ⟨_, ho, rfl⟩ (fun s' => typeIs_int s' k t) noFill_tuple_mul F.fills_int_mul F.slot_int_rmul repeat_tuple F.slot_int_index.lookup
    (call_meets F.slot_int_rmul (typeIs_int s k t) F.entry_int_rmul (F.args_int_rmul_2 _ _) (int_rmul_tuple k t l its.toArray n dd sl)
      ⟨ho, rfl, ⟨_, ho, rfl⟩, call_meets F.slot_tuple_mul ⟨_, ho, rfl⟩ F.entry_tuple_mul (F.args_tuple_mul_2 _ _) (tuple_mulW l its.toArray n dd sl k t c0 c1 c2 (by omega) c4 (by rw [size_rep, List.size_toArray]; exact flen)) ⟨ho, ?_⟩⟩)
  rw [size_rep]
  refine ⟨.ref s.heap.objs.size, _, I.laid (t' := s.toks) (o := tO f _ (List.replicate k.toNat xs).flatten) (fun b ob q => Heap.get?_push_of_some _ q) (Nat.le_refl _) (tO_ok (Heap.get?_push_size _ rfl) ?_), rfl, q _ _ (I.hok.fresh (Nat.le_refl _)) rfl⟩
  exact ⟨by rw [PyProof.Rows.lm_len_rep_flat, sizeLine_eq]; have a1 : k.toNat * xs.length ≤ 1000 * 1000 := Nat.mul_le_mul (by omega) hz; omega, _, r.rep k.toNat, IsTup.new _ _⟩
end
end Ly

set_option Elab.async false
set_option linter.all false
set_option maxRecDepth 100000
set_option maxHeartbeats 2000000
/-! set(xs), xs a list of whole numbers. -/
namespace Ly
open PySem PySem.Spec PyProof.Rows L2
/-- a set as it is made -/
abbrev newSetO (w : World) : Obj := { cls := .type "set", dict := none, data := .set #[] 0 (.fresh 0 0 (!w.params.followText "set-order")) }
section
variable {P : Program} {w : World} {A : Around} {E : Value → Shared → Prop} {s : Shared}
theorem nodup_le : ∀ (A B : List Int), A.Nodup → (∀ x ∈ A, x ∈ B) → A.length ≤ B.length
  | [], B, _, _ => Nat.zero_le _
  | a :: A, B, hn, h => by
    rw [List.nodup_cons] at hn
    have ha := h a List.mem_cons_self
    have ih := nodup_le A (B.erase a) hn.2 fun x hx => (List.mem_erase_of_ne (fun e : x = a => hn.1 (by rw [← e]; exact hx))).mpr (h x (List.mem_cons_of_mem _ hx))
    rw [List.length_erase_of_mem ha] at ih
    have hp : 0 < B.length := List.length_pos_of_mem ha
    rw [List.length_cons]
    omega
theorem setR_le {w : World} {h : Heap} {a : Addr} {S : Int → Bool} {n : Nat} {B : List Int} (R : SetR w h a S n) (hB : ∀ x, S x = true → x ∈ B) : n ≤ B.length := by
  obtain ⟨o, es, ep, t, ho, hex, hd, g, nd, hm, hb, hf, hn, hr, hl⟩ := R
  have q := nodup_le (es.toList.map keyOf) B nd fun x hx => hB x ((hm x).mpr hx)
  rw [List.length_map, Array.length_toList, hn] at q
  exact q
theorem set_upd_ints2 {I : Addr} {fp wr : List Addr} {G : Array GenState → Array GenState → Prop} {n : Nat} {Pv : Nat → Value → Prop} {St : Nat → Shared → Prop} {R : Result → Shared → Prop}
    (W : WalksS P w A.in1 I fp wr G n Pv St) (S : Addr) (hSf : S ∉ fp) (ns : List Int) (hn : n = ns.length) (B : List Int) (hB : ∀ x ∈ ns, x ∈ B) (hb : B.length + 1 < scanBound) (hval : ∀ i v, Pv i v → ∃ k t, ns[i]? = some k ∧ v = .int k t) :
    ∀ (k i : Nat) (s : Shared), n - i = k → i ≤ n → St i s → (∃ c, c ≤ i ∧ SetR w s.heap S (fun j => decide (j ∈ ns.take i)) c) →
      (∀ s' c, Moved (S :: wr) G s s' → c ≤ n → SetR w s'.heap S (fun j => decide (j ∈ ns)) c → R (.ok (.ret .none)) s') →
      codeAny (model P w) A (.builtin "set.update.loop" ⟨[.ref S, .ref I], []⟩) R s := by
  have hSw : S ∉ wr := fun h => hSf (W.sub _ h)
  have hsub : ∀ b ∈ wr, b ∈ S :: wr := fun b hb => List.mem_cons_of_mem _ hb
  intro k
  induction k with
  | zero =>
    intro i s hk' hi hst ⟨c, hc, hS⟩ hR
    have hin : i = n := by omega
    subst hin
    refine codeAny_builtin F.entry_set_update_loop ?_
    rw [Around.under_plainId F.plain_set_update_loop _]
    show wpAny _ A.in1 (pyNext (.ref I) >>= _) _ _ s
    refine wpAny_bind (W.done s _ _ hst fun s' hm => ?_)
    show wpAny _ A.in1 (ret Value.none) _ _ s'
    have e : ns.take i = ns := List.take_of_length_le (by omega)
    rw [e] at hS
    exact wpAny_pure (hR s' c (hm.mono hsub) hc (hS.at fun o e => hm.heap S o hSw e))
  | succ k ih =>
    intro i s hk' hi hst ⟨c, hc, hS⟩ hR
    have hlt : i < n := by omega
    refine codeAny_builtin F.entry_set_update_loop ?_
    rw [Around.under_plainId F.plain_set_update_loop _]
    show wpAny _ A.in1 (pyNext (.ref I) >>= _) _ _ s
    refine wpAny_bind (W.item i s _ _ hlt hst fun v s' hP hst' hm => ?_)
    obtain ⟨z, t, hz, rfl⟩ := hval i v hP
    have hS' : SetR w s'.heap S (fun j => decide (j ∈ ns.take i)) c := hS.at fun o e => hm.heap S o hSw e
    show wpAny _ A.in1 (holding [Value.int z t] (setAdd S (.int z t)) >>= _) _ _ s'
    refine wpAny_bind (wpAny_holding ?_)
    unfold setAdd
    refine wpAny_holding ?_
    refine wpAny_bind ((intKind P w).pyHash (k := z) (intKind_is _ _ _ _) ?_)
    have hcB : c ≤ B.length := setR_le hS' fun x hx => hB x (List.mem_of_mem_take (of_decide_eq_true hx))
    refine setR_add_hashed (s := { s' with toks := s'.toks + 1 }) hS' (by omega) fun h' hsb hS2 => ?_
    have hS3 : SetR w h' S (fun j => decide (j ∈ ns.take (i + 1))) (if decide (z ∈ ns.take i) = true then c else c + 1) := hS2.congr fun j => by
      rw [List.take_add_one, hz]
      simp [List.mem_append]
    have hc3 : (if decide (z ∈ ns.take i) = true then c else c + 1) ≤ i + 1 := by
      split <;> omega
    refine wpAny_pure ⟨plainId_quiet F.plain_set_update_loop _, ih (i + 1) _ (by omega) hlt (W.frame _ s' _ _ hst' (Nat.le_succ _) fun b hb o e => ?_) ⟨_, hc3, hS3⟩ fun s'' c2 hm'' hc'' hS'' => ?_⟩
    · rw [hsb.2 b (fun h : b = S => hSf (by rw [← h]; exact hb))]; exact e
    · refine hR s'' c2 (Moved.trans W.gtrans ((hm.mono hsub).then_heap (Nat.le_succ _) fun b o hb e => ?_) hm'') hc'' hS''
      rw [hsb.2 b (fun h : b = S => hb (by rw [h]; exact List.mem_cons_self))]; exact e

theorem set_of_list {l : Addr} {items : Array Value} (ns : List Int) {Q : Value → Shared → Prop} (hh : A.handled = none) (hl : s.heap.IsList l items) (hit : IntsAre items.toList ns) (B : List Int) (hB : ∀ x ∈ ns, x ∈ B) (hb : B.length + 1 < scanBound)
    (hq : ∀ (g : Heap) (tk c : Nat), SetR w g s.heap.objs.size (fun j => decide (j ∈ ns)) c → c ≤ ns.length → (∀ b o, s.heap.get? b = some o → g.get? b = some o) → Q (.ref s.heap.objs.size) { s with heap := g, toks := tk }) :
    wpAny (model P w) A (call (.type "set") [.ref l]) Q E s := by
  have size_eq : items.size = ns.length := by
    have z := IntsAre.length hit
    rwa [Array.length_toList] at z
  have at0 : (s.heap.push (newSetO w)).get? s.heap.objs.size = some (newSetO w) := Heap.get?_push_size _ rfl
  have old : ∀ b o, s.heap.get? b = some o → (s.heap.push (newSetO w)).get? b = some o := fun b o e => Heap.get?_push_of_some _ e
  have sz : (s.heap.push (newSetO w)).objs.size = s.heap.objs.size + 1 := Heap.size_push ..
  have atl : (s.heap.push (newSetO w)).IsList l items := hl.push _
  have vals : ∀ (i : Nat) (v : Value), items[i]? = some v → ∃ k t, ns[i]? = some k ∧ v = .int k t := by
    intro i v hv
    have lt : i < ns.length := by
      rw [← size_eq]
      exact (Array.getElem?_eq_some_iff.mp hv).1
    obtain ⟨t, et⟩ := IntsAre.int_at hit i v (by rwa [Array.getElem?_toList])
    refine ⟨ns[i], t, List.getElem?_eq_getElem lt, ?_⟩
    rw [et, List.getD_eq_getElem?_getD, List.getElem?_eq_getElem lt]
    rfl
  obtain ⟨_, _, mro⟩ := F.called_set.mro
  have made := F.called_set.made
  have subT := F.called_set.sub
  have nt := F.called_set.notType
  have cc := F.called_set.canCreate
  have tc := F.typeCall_set_1 (.ref l)
  apply wpAny_call
  apply codeAny_of_tree
  show wpAny _ _ (callAny (.type "set") _) _ _ _
  refine wpAny_pure ⟨Code.quiet_builtin _ (by decide +kernel), ?_⟩
  refine codeAny_builtin F.entry_type_call ?_
  rw [Around.under_plain (weight_type_call_type "set" [.ref l] []) rfl]
  repeat any_goals first | assumption | wp_step
  refine codeAny_mono (code_set_led1 (.ref l) (E := E) (Q₁ := fun obj u => obj = .ref s.heap.objs.size ∧ u = { s with heap := s.heap.push (newSetO w) }) ⟨rfl, rfl⟩) fun r u hr => ?_
  cases r with
  | error e => exact hr
  | ok fl =>
    cases fl with
    | ret obj =>
      obtain ⟨rfl, rfl⟩ := hr
      have ty : Shared.TypeIs { s with heap := s.heap.push (newSetO w) } (.ref s.heap.objs.size) "set" := ⟨_, at0, rfl⟩
      have ilook := F.called_set.init.lookup
      have ibind := F.called_set.init.bind (.ref s.heap.objs.size)
      repeat any_goals first | assumption | wp_step
      refine codeAny_mono (codeAny_call_builtin (R := wants (fun r v => r = .none ∧ ∃ (g : Heap) (tk c : Nat), v = { s with heap := g, toks := tk } ∧ SetR w g s.heap.objs.size (fun j => decide (j ∈ ns)) c ∧ c ≤ ns.length ∧ ∀ b o, s.heap.get? b = some o → g.get? b = some o) E)
        F.called_set.init.plain F.entry_set_init (check_set_init_1 ty ?_)) fun r2 v hr2 => ?_
      · obtain ⟨⟨oc, od, oda, osl⟩, lo, lc, ln, ld⟩ := id atl
        dsimp only at lc ld
        subst lc ld
        have s1 := F.sub_list_set
        have s2 := F.sub_list_frozenset
        have s3 : (Value.type "list" == Value.type "dict") = false := by decide
        unfold Builtin.«set.__init__»
        unfold noKeywords
        unfold Builtin.Frozenset.updateFrom
        generalize hpi : pyIter = pit
        wp_walk
        subst hpi
        refine wpAny_pyIter_list atl ?_
        apply wpAny_bind
        apply wpAny_runValue
        have lt0 : l < s.heap.objs.size := by
          obtain ⟨_, q, _⟩ := hl
          exact Heap.lt_size q
        have ne1 : l ≠ (s.heap.push (newSetO w)).objs.size := fun z => by
          rw [sz] at z
          exact Nat.ne_of_lt (Nat.lt_succ_of_lt lt0) z
        have nin : s.heap.objs.size ∉ [(s.heap.push (newSetO w)).objs.size, l] := by
          intro z
          simp only [List.mem_cons, List.mem_nil_iff, or_false] at z
          rcases z with z | z
          · rw [sz] at z
            exact Nat.ne_of_lt (Nat.lt_succ_self _) z
          · exact Nat.ne_of_lt lt0 z.symm
        have calm : A.in1.in1.in1.handled = none := by simp [hh]
        have at1 : ((s.heap.push (newSetO w)).push { cls := .type "list_iterator", data := .fields #[.ref l, .int 0 0] }).get? s.heap.objs.size = some (newSetO w) := Heap.get?_push_of_some _ at0
        refine set_upd_ints2 (Walks.list calm _ l ne1 items).toS s.heap.objs.size nin ns size_eq B hB hb vals (items.size - 0) 0 _ (by omega) (Nat.zero_le _) ⟨⟨_, Heap.get?_push_size _ rfl, rfl, rfl⟩, atl.push _⟩ ⟨0, Nat.le_refl 0, setR_new_at at1⟩ ?_
        intro v c mv kc ks
        obtain ⟨g, gg, gd, tk, gos⟩ := v
        obtain rfl : gg = s.gens := mv.gens
        obtain rfl : gd = s.drawn := mv.drawn
        obtain rfl : gos = s.os := mv.os
        show wpAny _ _ _ _ _ _
        apply wpAny_pure
        show wpAny _ _ (ret Value.none) _ _ _
        refine wpAny_pure ⟨rfl, g, tk, c, rfl, ks, by omega, fun b o eb => ?_⟩
        have lb := Heap.lt_size eb
        refine mv.heap b o ?_ (Heap.get?_push_of_some _ (old b o eb))
        intro z
        simp only [List.mem_cons, List.mem_nil_iff, or_false] at z
        rcases z with z | z
        · exact Nat.ne_of_lt lb z
        · rw [sz] at z
          exact Nat.ne_of_lt (Nat.lt_succ_of_lt lb) z
      · cases r2 with
        | error e => exact hr2
        | ok fl2 =>
          cases fl2 with
          | ret r =>
            obtain ⟨rfl, g, tk, c, rfl, k1, k2, k3⟩ := hr2
            repeat any_goals first | assumption | wp_step
            exact hq g tk c k1 k2 k3
          | _ => exact hr2.elim
    | _ => exact hr.elim
end
end Ly

set_option Elab.async false
set_option linter.all false
set_option maxRecDepth 100000
set_option maxHeartbeats 2000000
/-! set(xs) as a rule; list(range(i, j, -1)). -/
namespace Ly
open PySem PySem.Spec PyProof.Rows L2
section
variable {X : Cx}
/-- set(xs), xs a list of whole numbers -/
def rSetL (K : PySem.W.Frag) (w : World) : List V → Hp → VK → Prop := fun xs H Q => ∃ (a : Addr) (ns : List Int), xs = [V.ref a] ∧ SqL K H a (ns.map V.int) ∧ (∃ B : List Int, B.length < 4000 ∧ ∀ x ∈ ns, x ∈ B) ∧
  ∀ (p : Addr) (c : Nat), H p = none → (∀ B : List Int, (∀ x ∈ ns, x ∈ B) → c ≤ B.length) → Q (.ref p) (upd H p (SetO w p (fun j => decide (j ∈ ns)) c))
theorem cr_setL (hc : X.calm = true) : CallR X (.type "set") (rSetL X.K X.w) := by
  intro pins s σ H xs us Q I r h
  obtain ⟨a, ns, rfl, ha, ⟨B, hf, hB⟩, q⟩ := h
  rw [Vals.ref1 r]
  obtain ⟨its, rv, pl, _⟩ := I.list ha
  have fresh : H s.heap.objs.size = none := I.hok.fresh (Nat.le_refl _)
  refine set_of_list (P := X.prog) (w := X.w) ns (I.ok.hd hc) pl.isList rv.ints B hB (by unfold scanBound; omega) fun g tk c R hcn old => ?_
  exact ⟨.ref s.heap.objs.size, upd H s.heap.objs.size (SetO X.w s.heap.objs.size (fun j => decide (j ∈ ns)) c), I.laid (t' := tk) old (Nat.le_refl _) (setO_new R), rfl, q _ c fresh fun B hB => setR_le R fun x hx => hB x (of_decide_eq_true hx)⟩
/-- i, i - 1, .., n of them -/
def downV (i : Int) : Nat → List V
  | 0 => []
  | n + 1 => V.int i :: downV (i - 1) n
theorem downV_len : ∀ (n : Nat) (i : Int), (downV i n).length = n
  | 0, _ => rfl
  | n + 1, i => by rw [downV, List.length_cons, downV_len n]
theorem downV_get : ∀ (n : Nat) (i : Int) (j : Nat), j < n → (downV i n)[j]? = some (V.int (i - j))
  | 0, _, _, h => by omega
  | n + 1, i, 0, _ => by simp [downV]
  | n + 1, i, j + 1, h => by
    rw [downV, List.getElem?_cons_succ, downV_get n (i - 1) j (by omega)]
    congr 2
    omega
theorem downV_vals {i : Int} {n : Nat} {acc : Array Value} (h : ItemsOf (fun k v => ∃ t, v = .int (i + k * (-1)) t) acc n) : Vals (downV i n) acc.toList := by
  have hl : acc.toList.length = n := by rw [Array.length_toList]; exact h.1
  have go : ∀ (us : List Value) (k : Int), (∀ (j : Nat) (u : Value), us[j]? = some u → ∃ t, u = .int (k - j) t) → Vals (downV k us.length) us := fun us => by
    induction us with
    | nil => intro k _; exact .nil
    | cons u us ih =>
      intro k hu
      obtain ⟨t, et⟩ := hu 0 u rfl
      refine .cons ⟨t, ?_⟩ (ih (k - 1) fun j v hv => ?_)
      · rw [et]; congr 1; omega
      · obtain ⟨t, ev⟩ := hu (j + 1) v hv
        refine ⟨t, ?_⟩
        rw [ev]
        congr 1
        push_cast
        omega
  have := go acc.toList i fun j u hj => by
    obtain ⟨t, eu⟩ := h.2 j u (by rw [← hj, Array.getElem?_toList])
    refine ⟨t, ?_⟩
    rw [eu]
    congr 1
    omega
  rwa [hl] at this
theorem pe_listDown {a b c : Expr} {ta : TA} {p p2 q q2 : Pos} (hc : X.calm = true) (hg : Gl X "list") (hm : X.mg "list" = none) (hg2 : Gl X "range") (hm2 : X.mg "range" = none) (ha : PA X [a, b, c] ta)
    (hs : starEach [a, b, c] X.env = (false, eval a X.env) :: starEach [b, c] X.env) (hpl : (backTo q2 (starEach [b, c] X.env)).any (·.1) = false) :
    PE X (.Call (.Name "list" p) [.Call (.Name "range" p2) [a, b, c] [] q2] [] q) (fun σ H Q => ta σ H fun vs H1 => ∃ i j : Int, vs = [.int i, .int j, .int (-1)] ∧ i.natAbs ≤ 8000000 ∧ j.natAbs ≤ 8000000 ∧ ∀ d, H1 d = none → Q (.ref d) (upd H1 d (.lst (downV i (i - j).toNat)))) := by
  refine ⟨fun pins s σ H Q I h => ?_⟩
  have na : starEach [Expr.Call (.Name "range" p2) [a, b, c] [] q2] X.env = (false, eval (Expr.Call (.Name "range" p2) [a, b, c] [] q2) X.env) :: starEach [] X.env := rfl
  refine Call_ (ld_blt I hg hm boot_list (PyProof.Rows.callWith_type1 (args_cons ?_ na) na))
  refine Call_ (ld_blt I hg2 hm2 boot_range (PyProof.Rows.callWith_type1 (thn (ha.run q2 pins s σ H _ I h) fun us s1 ⟨vs, H1, I1, r1, q1⟩ => ?_) hs hpl))
  obtain ⟨i, j, rfl, b1, b2, qq⟩ := q1
  cases r1 with
  | cons ra rr =>
    cases rr with
    | cons rb rr =>
      cases rr with
      | cons rc rr =>
        cases rr
        obtain ⟨t, rfl⟩ := ra
        obtain ⟨u, rfl⟩ := rb
        obtain ⟨v, rfl⟩ := rc
        have sm : Builtin.Range.small i j (-1) = true := PySem.W.small_down (by omega) (by omega) (by omega) (by omega)
        refine call_range_3 (by decide) ?_ (.inl (PyProof.noPylong_small (by decide)))
        refine args_nil ?_
        have I2 : Inv X pins σ H1 { s1 with heap := s1.heap.push { cls := .type "range", data := .fields #[.int i t, .int j u, .int (-1) v] } } := I1.kept (t' := s1.toks) fun b o e => Heap.get?_push_of_some _ e
        refine call_list_range (n := (i - j).toNat) (I2.ok.hd hc) (IsRange.new ..) sm (PySem.W.rangeSize_downNat i j) (by omega) fun g tk acc c' old e' hi => ?_
        have fresh := I2.hok.fresh (Nat.le_refl _)
        refine ⟨.ref _, upd H1 _ (.lst (downV i (i - j).toNat)), I2.laid (t' := tk) old (Nat.le_refl _) (show ObjOk X.prog X.w _ _ _ (.lst _) from ⟨?_, acc.toList, c', downV_vals hi, e'⟩), rfl, qq _ fresh⟩
        rw [downV_len, sizeLine_eq]
        omega
end
end Ly

set_option Elab.async false
set_option linter.all false
set_option maxRecDepth 100000
set_option maxHeartbeats 2000000
/-! xs.count(k), texts. -/
namespace Ly
open PySem PySem.Spec PyProof.Rows L2
def isTxt (k : Str) (v : Value) : Bool := match v with
  | .str s _ => s == k
  | _ => false
section
variable {X : Cx}
def rCntS (K : PySem.W.Frag) : V → List V → Hp → VK → Prop := fun x xs H Q => ∃ (p : Addr) (ss : List Str) (k : Str), x = .ref p ∧ xs = [.str k] ∧ SqL K H p (ss.map V.str) ∧ Q (.int (ss.count k : Nat)) H
theorem txt_at {A : Around} {s : Shared} {k : Str} {t : Tok} : ∀ {ss : List Str} {us : List Value}, Vals (ss.map V.str) us → ∀ y ∈ us, SeqAt.EqAt A s y (.str k t) (isTxt k y)
  | [], _, .nil, y, hy => by cases hy
  | s0 :: ss, _, .cons r rs, y, hy => by
    obtain ⟨u, rfl⟩ := r
    rcases List.mem_cons.mp hy with rfl | hy
    · exact SeqAt.EqAt.str_str s0 u k t
    · exact txt_at rs y hy
theorem txt_count {k : Str} : ∀ {ss : List Str} {us : List Value}, Vals (ss.map V.str) us → us.countP (isTxt k) = ss.count k
  | [], _, .nil => rfl
  | s0 :: ss, _, .cons r rs => by
    obtain ⟨u, rfl⟩ := r
    rw [List.countP_cons, List.count_cons, txt_count rs]
    rfl
theorem mt_countS : MtR X "list.count" (rCntS X.K) := by
  intro pins s σ H x xs v us Q I rx rxs h
  obtain ⟨p, ss, k, rfl, rfl, hs, q⟩ := h
  cases rx
  cases rxs with
  | cons ru rn =>
    cases rn
    obtain ⟨t, rfl⟩ := ru
    obtain ⟨its, rv, ⟨⟨oc, od, oda, osl⟩, n, ho, hc, hn, hd⟩, _⟩ := I.list hs
    dsimp only at hc hd
    subst hc hd
    refine call_meets PySem.F.slot_list_count ⟨_, ho, rfl⟩ PySem.F.entry_list_count (PySem.F.args_list_count_2 _ _) (SeqAt.list_countAt p its.toArray n od osl (.str k t) (isTxt k)) ⟨ho, fun y hy => txt_at rv y (by simpa using hy), ?_⟩
    have ec := txt_count (k := k) rv
    refine ⟨.int (ss.count k : Nat), H, I.tok _, ⟨s.toks, ?_⟩, q⟩
    simp only [List.toList_toArray]
    rw [ec]
end
end Ly

set_option Elab.async false
set_option linter.all false
set_option maxRecDepth 100000
set_option maxHeartbeats 2000000
/-! list(zip(xs, ys)), two lists. -/
namespace Ly
open PySem PySem.Spec PyProof.Rows L2
theorem zip_no_len : typeLookup (.type "zip") "__len__" = pure none := by rw [typeLookup_type, builtinLookup_eq_fast]; kernel_rfl
theorem zip_no_hint : typeLookup (.type "zip") "__length_hint__" = pure none := by rw [typeLookup_type, builtinLookup_eq_fast]; kernel_rfl
/-- tuples laid one after the other -/
inductive TupsAt : Hp → List (V × V) → List Addr → Hp → Prop
  | nil {H : Hp} : TupsAt H [] [] H
  | cons {H H' : Hp} {p : Addr} {x y : V} {r : List (V × V)} {ps : List Addr} (h : H p = none) (t : TupsAt (upd H p (.tup [x, y])) r ps H') : TupsAt H ((x, y) :: r) (p :: ps) H'
def zch (z TI TO i1 i2 S : Addr) : List Addr := [z, TI, TO, i1, i2, S]
/-- a zip at turn i whose tuples go to S -/
def ZSt (h : Heap) (z TI TO i1 i2 a b S : Addr) (i : Nat) : Prop :=
  IsPair h TI (.ref i1) (.ref i2) ∧ h.IsListIter i1 a i ∧ h.IsListIter i2 b i ∧ ((IsZip h z TI TO .none ∧ ∃ u v, IsPair h TO u v) ∨ ∃ T f oT, IsZipHeld h z TI TO T f ∧ h.get? T = some oT ∧ T ∉ zch z TI TO i1 i2 S ∧ ∃ oO, h.get? TO = some oO)
theorem ZSt.live {h : Heap} {z TI TO i1 i2 a b S : Addr} {i : Nat} (Z : ZSt h z TI TO i1 i2 a b S i) (hS : ∃ o, h.get? S = some o) : ∀ c ∈ zch z TI TO i1 i2 S, ∃ o, h.get? c = some o := by
  obtain ⟨h1, ⟨o2, h2, _⟩, ⟨o3, h3, _⟩, h4⟩ := Z
  intro c hc
  simp only [zch, List.mem_cons, List.mem_nil_iff, or_false] at hc
  rcases h4 with ⟨h4, u, v, h5⟩ | ⟨T, f, oT, h4, h5, h6, h7⟩ <;> rcases hc with rfl | rfl | rfl | rfl | rfl | rfl
  all_goals first | exact ⟨_, h4⟩ | exact ⟨_, h1⟩ | exact ⟨_, h5⟩ | exact h7 | exact ⟨_, h2⟩ | exact ⟨_, h3⟩ | exact hS
section
variable {prog : Program} {w : World} {A : Around} {E : Value → Shared → Prop} {s : Shared}
theorem zip_turn {z TI TO i1 i2 a b S : Addr} {i : Nat} {xs ys : Array Value} {x y : Value} {Q : Option Value → Shared → Prop} (D : ZipApart z TI TO i1 i2 a b) (Z : ZSt s.heap z TI TO i1 i2 a b S i) (hl1 : s.heap.IsList a xs) (hl2 : s.heap.IsList b ys) (hx : xs[i]? = some x) (hy : ys[i]? = some y) (hS : ∃ o, s.heap.get? S = some o)
    (hQ : ∀ h', IsPair h' s.heap.objs.size x y → ZSt h' z TI TO i1 i2 a b S (i + 1) → (∀ c o, c ≠ z → c ≠ TO → c ≠ i1 → c ≠ i2 → s.heap.get? c = some o → h'.get? c = some o) → Q (some (.ref s.heap.objs.size)) { s with heap := h' }) :
    wpAny (model prog w) A (pyNext (.ref z)) Q E s := by
  have lv := Z.live hS
  obtain ⟨h1, h2, h3, h4⟩ := Z
  rcases h4 with ⟨h4, u, v, h5⟩ | ⟨T, f, oT, h4, h5, h6, h7⟩
  · refine wpAny_pyNext_zip_item D h4 h1 h5 h2 h3 hl1 hl2 hx hy fun h' a1 a2 a3 a4 a5 a6 a7 => hQ h' a5 ⟨a7 _ _ D.TIz D.TITO D.TIi1 D.TIi2 h1, a3, a4, .inr ⟨s.heap.objs.size, false, _, a1, a5, fun hm => ?_, ⟨_, a2⟩⟩⟩ a7
    obtain ⟨o, e⟩ := lv _ hm
    exact Nat.lt_irrefl _ (Heap.lt_size e)
  · refine wpAny_pyNext_zip_item_held D h4 h5 h1 h2 h3 hl1 hl2 hx hy fun h' a1 a3 a4 a5 a6 a7 => hQ h' a5 ⟨a7 _ _ D.TIz D.TIi1 D.TIi2 h1, a3, a4, .inr ⟨T, true, oT, a1, ?_, h6, ?_⟩⟩ fun c o c1 _ c3 c4 e => a7 c o c1 c3 c4 e
    · simp only [zch, List.mem_cons, List.mem_nil_iff, or_false, not_or] at h6
      exact a7 _ _ h6.1 h6.2.2.2.1 h6.2.2.2.2.1 h5
    · obtain ⟨oO, h7⟩ := h7
      exact ⟨oO, a7 _ _ D.TOz D.TOi1 D.TOi2 h7⟩
theorem zip_turn_end {z TI TO i1 i2 a b S : Addr} {i : Nat} {xs ys : Array Value} {Q : Option Value → Shared → Prop} (hh : A.handled = none) (D : ZipApart z TI TO i1 i2 a b) (Z : ZSt s.heap z TI TO i1 i2 a b S i) (hl1 : s.heap.IsList a xs) (hl2 : s.heap.IsList b ys) (hend : xs[i]? = none ∨ ys[i]? = none)
    (hQ : ∀ h', (∀ c o, c ≠ z → c ≠ TO → c ≠ i1 → c ≠ i2 → s.heap.get? c = some o → h'.get? c = some o) → Q none { s with heap := h' }) : wpAny (model prog w) A (pyNext (.ref z)) Q E s := by
  obtain ⟨h1, h2, h3, h4⟩ := Z
  rcases h4 with ⟨h4, u, v, h5⟩ | ⟨T, f, oT, h4, h5, h6, h7⟩
  · exact wpAny_pyNext_zip_end hh D h4 h1 h5 h2 h3 hl1 hl2 hend fun h' a7 => hQ h' a7
  · exact wpAny_pyNext_zip_end_held hh D h4 h5 h1 h2 h3 hl1 hl2 hend fun h' a7 => hQ h' fun c o c1 _ c3 c4 e => a7 c o c1 c3 c4 e
theorem ZSt.keep {h h' : Heap} {z TI TO i1 i2 a b S : Addr} {i : Nat} (Z : ZSt h z TI TO i1 i2 a b S i) (n : ∀ c ∈ [z, TI, TO, i1, i2], c ≠ S) (k : ∀ c o, c ≠ S → h.get? c = some o → h'.get? c = some o) : ZSt h' z TI TO i1 i2 a b S i := by
  obtain ⟨h1, h2, h3, h4⟩ := Z
  refine ⟨k _ _ (n TI (by simp)) h1, h2.at fun o e => k _ _ (n i1 (by simp)) e, h3.at fun o e => k _ _ (n i2 (by simp)) e, ?_⟩
  rcases h4 with ⟨h4, u, v, h5⟩ | ⟨T, f, oT, h4, h5, h6, oO, h7⟩
  · exact .inl ⟨k _ _ (n z (by simp)) h4, u, v, k _ _ (n TO (by simp)) h5⟩
  · refine .inr ⟨T, f, oT, k _ _ (n z (by simp)) h4, k _ _ ?_ h5, h6, oO, k _ _ (n TO (by simp)) h7⟩
    intro e
    exact h6 (by simp [zch, e])
end
theorem SqL.up {K : PySem.W.Frag} {H : Hp} {a p : Addr} {xs : List V} {o : HO} (h : SqL K H a xs) (hp : H p = none) : SqL K (upd H p o) a xs := SqL.ext h (Ext.upd hp)
section
variable {X : Cx} {pins : List (Addr × Obj)} {σ : L2.St}
theorem ext_loop_zip {A : Around} (hh : A.handled = none) {R : Result → Shared → Prop} {z TI TO i1 i2 a b S : Addr} (D : ZipApart z TI TO i1 i2 a b) (hn : ∀ c ∈ [z, TI, TO, i1, i2], c ≠ S) (res : Value) (xs ys : List V) : ∀ (m i : Nat) (s : Shared) (H : Hp) (acc : Array Value) (c : Nat),
    min xs.length ys.length - i = m → i ≤ min xs.length ys.length → Inv X pins σ H s → (∀ d ∈ zch z TI TO i1 i2 S, FpOk X pins H d) → ZSt s.heap z TI TO i1 i2 a b S i → SqL X.K H a xs → SqL X.K H b ys →
    s.heap.get? S = some { cls := .type "list", dict := none, data := .seq acc c, slots := #[] } → acc.size = i →
    (∀ s' H' ps acc' c', TupsAt H ((xs.zip ys).drop i) ps H' → Inv X pins σ H' s' → FpOk X pins H' S → s'.heap.get? S = some { cls := .type "list", dict := none, data := .seq acc' c', slots := #[] } → acc'.toList = acc.toList ++ ps.map Value.ref → R (.ok (.ret res)) s') →
    codeAny (model X.prog X.w) A (.builtin "list.extend.loop" ⟨[.ref S, .ref z, res], []⟩) R s := by
  intro m
  induction m with
  | zero =>
    intro i s H acc c hm hi I fp Z ha hb hS hacc hR
    obtain ⟨us, ru, pu, _⟩ := I.list ha
    obtain ⟨vs, rv, pv, _⟩ := I.list hb
    have e1 := ru.length
    have e2 := rv.length
    refine codeAny_builtin F.entry_extend_loop ?_
    rw [Around.under_plainId F.plain_extend_loop _]
    show wpAny _ A.in1 (pyNext (.ref z) >>= _) _ _ s
    refine wpAny_bind (zip_turn_end (A := A.in1) hh D Z pu.isList pv.isList ?_ fun h' k => ?_)
    · by_cases h : xs.length ≤ i
      · left; simp; omega
      · right; simp; omega
    · have hz : ∀ d ∈ [z, TO, i1, i2], d ∈ zch z TI TO i1 i2 S := fun d hd => by
        simp only [List.mem_cons, List.mem_nil_iff, or_false] at hd
        simp only [zch, List.mem_cons, List.mem_nil_iff, or_false]
        rcases hd with rfl | rfl | rfl | rfl <;> simp
      have hSn : S ≠ z ∧ S ≠ TO ∧ S ≠ i1 ∧ S ≠ i2 := ⟨fun e => hn z (by simp) e.symm, fun e => hn TO (by simp) e.symm, fun e => hn i1 (by simp) e.symm, fun e => hn i2 (by simp) e.symm⟩
      have I1 : Inv X pins σ H { s with heap := h', toks := s.toks } := I.turnedL (ch := [z, TO, i1, i2]) (fun d o hd e => by
        simp only [List.mem_cons, List.mem_nil_iff, or_false, not_or] at hd
        exact k d o hd.1 hd.2.1 hd.2.2.1 hd.2.2.2 e) fun d hd => fp d (hz d hd)
      refine wpAny_pure (hR _ H [] acc c ?_ I1 (fp S (by simp [zch])) (k S _ hSn.1 hSn.2.1 hSn.2.2.1 hSn.2.2.2 hS) (by simp))
      have hd : (xs.zip ys).drop i = [] := List.drop_eq_nil_of_le (by rw [List.length_zip]; omega)
      rw [hd]
      exact .nil
  | succ m ih =>
    intro i s H acc c hm hi I fp Z ha hb hS hacc hR
    obtain ⟨us, ru, pu, lx⟩ := I.list ha
    obtain ⟨vs, rv, pv, ly⟩ := I.list hb
    have e1 := ru.length
    have e2 := rv.length
    have hx : i < xs.length := by omega
    have hy : i < ys.length := by omega
    have hxe : xs[i]? = some xs[i] := List.getElem?_eq_getElem hx
    have hye : ys[i]? = some ys[i] := List.getElem?_eq_getElem hy
    obtain ⟨u, eu, r1⟩ := ru.get hxe
    obtain ⟨v, ev, r2⟩ := rv.get hye
    refine codeAny_builtin F.entry_extend_loop ?_
    rw [Around.under_plainId F.plain_extend_loop _]
    show wpAny _ A.in1 (pyNext (.ref z) >>= _) _ _ s
    refine wpAny_bind (zip_turn D Z pu.isList pv.isList (x := u) (y := v) (by simpa using eu) (by simpa using ev) ⟨_, hS⟩ fun h' hT Z' k => ?_)
    have lv := Z.live ⟨_, hS⟩
    have hSn : S ≠ z ∧ S ≠ TO ∧ S ≠ i1 ∧ S ≠ i2 := ⟨fun e => hn z (by simp) e.symm, fun e => hn TO (by simp) e.symm, fun e => hn i1 (by simp) e.symm, fun e => hn i2 (by simp) e.symm⟩
    have hS' := k S _ hSn.1 hSn.2.1 hSn.2.2.1 hSn.2.2.2 hS
    show wpAny _ A.in1 (updateSeq S (·.push (.ref s.heap.objs.size)) >>= _) _ _ _
    refine wpAny_bind ?_
    have hTS : s.heap.objs.size ≠ S := Nat.ne_of_gt (Heap.lt_size hS)
    have k2 : ∀ d o, d ≠ S → h'.get? d = some o → (h'.update S (Obj.mapSeq (·.push (Value.ref s.heap.objs.size)))).get? d = some o := fun d o hd e => (Heap.get?_update_other _ _ (Ne.symm hd)).trans e
    refine wpAny_updateSeq hS' rfl (wpAny_pure ⟨plainId_quiet F.plain_extend_loop _, ?_⟩) (by rw [hacc]; omega) (by show (acc.push _).size ≤ sizeLine + 1; rw [Array.size_push, hacc]; omega)
    have hT2 := k2 _ _ hTS hT
    have new : ObjOk X.prog X.w (upd H s.heap.objs.size (.tup [xs[i], ys[i]])) (h'.update S (Obj.mapSeq (·.push (Value.ref s.heap.objs.size)))) s.heap.objs.size (.tup [xs[i], ys[i]]) :=
      ⟨by show 2 ≤ sizeLine; decide, [u, v], .cons r1 (.cons r2 .nil), ⟨_, hT2, rfl, _, rfl⟩⟩
    have I1 : Inv X pins σ (upd H s.heap.objs.size (.tup [xs[i], ys[i]])) { s with heap := h'.update S (Obj.mapSeq (·.push (Value.ref s.heap.objs.size))), toks := s.toks } :=
      I.turnedNew (ch := zch z TI TO i1 i2 S) (fun d o hd e => by
        simp only [zch, List.mem_cons, List.mem_nil_iff, or_false, not_or] at hd
        exact k2 d o hd.2.2.2.2.2 (k d o hd.1 hd.2.2.1 hd.2.2.2.1 hd.2.2.2.2.1 e)) fp (Nat.le_refl _) new
    have fresh : H s.heap.objs.size = none := I.hok.fresh (Nat.le_refl _)
    have fp1 : ∀ d ∈ zch z TI TO i1 i2 S, FpOk X pins (upd H s.heap.objs.size (.tup [xs[i], ys[i]])) d := fun d hd => by
      obtain ⟨o, e⟩ := lv d hd
      refine ⟨?_, (fp d hd).2⟩
      rw [upd_ne (Nat.ne_of_lt (Heap.lt_size e))]
      exact (fp d hd).1
    refine ih (i + 1) _ _ (acc.push (Value.ref s.heap.objs.size)) _ (by omega) (by omega) I1 fp1 (Z'.keep hn k2) (SqL.up ha fresh) (SqL.up hb fresh) (Heap.get?_update_self _ hS' rfl) (by rw [Array.size_push, hacc]) fun s' H' ps acc' c' tt I' fS hS2 hac => ?_
    refine hR s' H' (s.heap.objs.size :: ps) acc' c' ?_ I' fS hS2 (by rw [hac]; simp)
    have hd : (xs.zip ys).drop i = (xs[i], ys[i]) :: (xs.zip ys).drop (i + 1) := by
      rw [List.drop_eq_getElem_cons (by rw [List.length_zip]; omega)]
      simp
    rw [hd]
    exact .cons fresh tt
theorem vals_refs : ∀ ps : List Addr, Vals (ps.map V.ref) (ps.map Value.ref)
  | [] => .nil
  | p :: ps => .cons rfl (vals_refs ps)
theorem tups_len {H H' : Hp} {r : List (V × V)} {ps : List Addr} (t : TupsAt H r ps H') : ps.length = r.length := by
  induction t with
  | nil => rfl
  | cons _ _ ih => rw [List.length_cons, List.length_cons, ih]
theorem call_list_zip {A : Around} (hh : A.handled = none) {H : Hp} {s : Shared} {E : Value → Shared → Prop} {Q : Value → Shared → Prop} {z TI TO i1 i2 a b : Addr} {xs ys : List V} (I : Inv X pins σ H s) (D : ZipApart z TI TO i1 i2 a b) (Z : ZSt s.heap z TI TO i1 i2 a b s.heap.objs.size 0) (hz : IsZip s.heap z TI TO .none) (lt : ∀ c ∈ [z, TI, TO, i1, i2], c < s.heap.objs.size)
    (fp : ∀ d ∈ [z, TI, TO, i1, i2], FpOk X pins H d) (ha : SqL X.K H a xs) (hb : SqL X.K H b ys)
    (hQ : ∀ s' H' ps, TupsAt H (xs.zip ys) ps H' → H' s.heap.objs.size = none → Inv X pins σ (upd H' s.heap.objs.size (.lst (ps.map V.ref))) s' → Q (.ref s.heap.objs.size) s') :
    wpAny (model X.prog X.w) A (call (.type "list") [.ref z]) Q E s := by
  have hn : ∀ c ∈ [z, TI, TO, i1, i2], c ≠ s.heap.objs.size := fun c hc => Nat.ne_of_lt (lt c hc)
  refine callType_codes (Q₁ := fun obj s₁ => obj = .ref s.heap.objs.size ∧ s₁ = { s with heap := s.heap.push { cls := .type "list", data := .seq #[] } }) F.called_list (F.typeCall_list_1 _) F.entry_list_init
    (code_list_new _ ⟨rfl, rfl⟩) fun obj s₁ h₁ => ?_
  obtain ⟨rfl, rfl⟩ := h₁
  have hS : (s.heap.push { cls := .type "list", data := .seq #[] }).get? s.heap.objs.size = some { cls := .type "list", data := .seq #[] } := Heap.get?_push_size _ rfl
  refine ⟨⟨_, hS, rfl⟩, F.args_list_init_2 _ _, ?_⟩
  generalize hSd : s.heap.objs.size = S at *
  show wpAny (model X.prog X.w) A.in1.in1 (do let old ← Builtin.List.listItems (.ref S); Builtin.List.listUpdate (.ref S) (fun _ => #[]); letGo old.toList.reverse; Builtin.List.listExtendWith (.ref S) (.ref z) .none) _ _ _
  refine wpAny_bind ?_
  unfold Builtin.List.listItems
  refine wpAny_bind (wpAny_seqItems hS rfl (wpAny_pure ?_))
  show wpAny _ A.in1.in1 (updateSeq S (fun _ => #[]) >>= fun _ => letGo (#[] : Array Value).toList.reverse >>= fun _ => Builtin.List.listExtendWith (.ref S) (.ref z) .none) _ _ _
  refine wpAny_bind (wpAny_updateSeq hS rfl ?_)
  have hS₂ := Heap.get?_update_self (Obj.mapSeq (fun _ => (#[] : Array Value))) hS rfl
  refine wpAny_bind (wpAny_letGo ?_)
  have oth2 : ∀ d o, d ≠ S → s.heap.get? d = some o → ((s.heap.push { cls := .type "list", data := .seq #[] }).update S (Obj.mapSeq (fun _ => (#[] : Array Value)))).get? d = some o :=
    fun d o hd e => (Heap.get?_update_other _ _ (Ne.symm hd)).trans (Heap.get?_push_of_some _ e)
  have Z2 := Z.keep hn oth2
  have hT : ∀ {h : Heap} {i : Nat} {s0 : Shared}, ZSt s0.heap z TI TO i1 i2 a b S i → s0.TypeIs (.ref z) "zip" := fun {h i s0} Z => by
    obtain ⟨_, _, _, ⟨h4, _⟩ | ⟨_, _, _, h4, _⟩⟩ := Z
    · exact ⟨_, h4, rfl⟩
    · exact ⟨_, h4, rfl⟩
  unfold Builtin.List.listExtendWith
  refine wpAny_bind (wpAny_typeOf (hT (h := s.heap) Z2) ?_)
  have h1 : Builtin.List.listSameRef (.ref S) (.ref z) = false := by simp [Builtin.List.listSameRef, Ne.symm (hn z (by simp))]
  have h2 : (Value.type "zip" == Value.type "list") = false := by decide
  have h3 : (Value.type "zip" == Value.type "tuple") = false := by decide
  simp only [h1, h2, h3, Bool.or_false, Bool.false_eq_true, if_false]
  have hz0 := oth2 _ _ (hn z (by simp)) hz
  refine wpAny_bind (wpAny_pyIter_zip hz0 ?_)
  refine wpAny_bind (wpAny_holding ?_)
  unfold Builtin.List.listLengthHint
  refine wpAny_bind (wpAny_specialOf (hT (h := s.heap) Z2) zip_no_len ?_)
  show wpAny _ A.in1.in1 (specialOf (Value.ref z) (Str.ofString "__length_hint__") >>= _) _ _ _
  refine wpAny_bind (wpAny_specialOf (hT (h := s.heap) Z2) zip_no_hint ?_)
  refine wpAny_pure ?_
  show wpAny _ A.in1.in1 (rule "list.extend.makes-room" >>= fun _ => Builtin.List.listTouch (.ref S) >>= fun _ =>
    again (.builtin "list.extend.loop" ⟨[.ref S, .ref z, .none], []⟩)) _ _ _
  refine wpAny_bind (wpAny_rule ?_)
  refine wpAny_bind ?_
  show wpAny _ A.in1.in1 (updateSeq S (·.push .none) >>= fun _ => updateSeq S (·.pop)) _ _ _
  refine wpAny_bind (wpAny_updateSeq hS₂ rfl ?_)
  have hS₃ := Heap.get?_update_self (Obj.mapSeq (·.push Value.none)) hS₂ rfl
  refine wpAny_updateSeq (hz := by seq_fits) hS₃ rfl ?_
  have hS₄ := Heap.get?_update_self (Obj.mapSeq (·.pop)) hS₃ rfl
  generalize hh₄ : ((((s.heap.push { cls := .type "list", data := .seq #[] }).update S (Obj.mapSeq (fun _ => (#[] : Array Value)))).update S (Obj.mapSeq (·.push Value.none))).update S (Obj.mapSeq (·.pop))) = h₄ at *
  have oth4 : ∀ d o, d ≠ S → s.heap.get? d = some o → h₄.get? d = some o := fun d o hd e => by
    rw [← hh₄]
    exact (Heap.get?_update_other _ _ (Ne.symm hd)).trans ((Heap.get?_update_other _ _ (Ne.symm hd)).trans (oth2 d o hd e))
  have old4 : ∀ d o, s.heap.get? d = some o → h₄.get? d = some o := fun d o e => oth4 d o (fun z => by subst z; rw [← hSd] at e; exact absurd (Heap.lt_size e) (Nat.lt_irrefl _)) e
  have I4 : Inv X pins σ H { s with heap := h₄, toks := s.toks } := I.kept (t' := s.toks) old4
  have fS : FpOk X pins H S := I.fpOk (Nat.le_of_eq hSd) (I.hok.fresh (Nat.le_of_eq hSd))
  refine wpAny_pure ⟨plainId_quiet F.plain_extend_loop _, ext_loop_zip (A := A.in1) hh D hn .none xs ys (min xs.length ys.length) 0 _ H _ _ rfl (Nat.zero_le _) I4 (fun d hd => ?_) (Z.keep hn oth4) ha hb hS₄ (by rfl) fun s' H' ps acc' c' tt I' fS' hS' hac => ?_⟩
  · simp only [zch, List.mem_cons, List.mem_nil_iff, or_false] at hd
    rcases hd with rfl | rfl | rfl | rfl | rfl | rfl
    all_goals first | exact fS | exact fp _ (by simp)
  · refine ⟨rfl, hQ s' H' ps tt fS'.1 ?_⟩
    obtain ⟨_, _, _, lx⟩ := I.list ha
    have hl := tups_len tt
    rw [List.drop_zero, List.length_zip] at hl
    have hv : Vals (ps.map V.ref) acc'.toList := by
      rw [hac]
      exact vals_refs ps
    exact I'.take (h' := s'.heap) (t' := s'.toks) (fun _ _ _ e => e) fS' ⟨by rw [List.length_map]; omega, acc'.toList, c', hv, hS'⟩
def rZipL (K : PySem.W.Frag) (Q : VK) (vs : List V) (H1 : Hp) : Prop := ∃ (a b : Addr) (xs ys : List V), vs = [.ref a, .ref b] ∧ SqL K H1 a xs ∧ SqL K H1 b ys ∧ ∀ ps l H', TupsAt H1 (xs.zip ys) ps H' → H' l = none → Q (.ref l) (upd H' l (.lst (ps.map V.ref)))
theorem zapart {n a b : Nat} (la : a < n) (lb : b < n) : ZipApart (n + 4) (n + 2) (n + 3) n (n + 1) a b := by
  have f : ∀ {x y : Nat}, x ≠ y → ¬ ((x : Addr) = (y : Addr)) := fun h => h
  constructor <;> (refine f ?_; omega)
theorem pe_listZip {X : Cx} {a b : Expr} {ta : TA} {p p2 q q2 : Pos} (hc : X.calm = true) (hg : Gl X "list") (hm : X.mg "list" = none) (hg2 : Gl X "zip") (hm2 : X.mg "zip" = none) (ha : PA X [a, b] ta)
    (hs : starEach [a, b] X.env = (false, eval a X.env) :: starEach [b] X.env) (hpl : (backTo q2 (starEach [b] X.env)).any (·.1) = false) :
    PE X (.Call (.Name "list" p) [.Call (.Name "zip" p2) [a, b] [] q2] [] q) (fun σ H Q => ta σ H (rZipL X.K Q)) := by
  refine ⟨fun pins s σ H Q I h => ?_⟩
  have na : starEach [Expr.Call (.Name "zip" p2) [a, b] [] q2] X.env = (false, eval (Expr.Call (.Name "zip" p2) [a, b] [] q2) X.env) :: starEach [] X.env := rfl
  refine Call_ (ld_blt I hg hm boot_list (PyProof.Rows.callWith_type1 (args_cons ?_ na) na))
  refine Call_ (ld_blt I hg2 hm2 PyProof.Rows.boot_zip (PyProof.Rows.callWith_type1 (thn (ha.run q2 pins s σ H _ I h) fun us s1 ⟨vs, H1, I1, r1, q1⟩ => ?_) hs hpl))
  obtain ⟨a, b, xs, ys, ex, hqx, hqy, qq⟩ := q1
  subst ex
  obtain ⟨v1, v2, rfl, r, r'⟩ := r1.two
  cases r
  cases r'
  obtain ⟨o1, H1', B1, b1, k1⟩ := begK false I1 (show SqK false X.K H1 a xs from hqx)
  obtain ⟨o2, H2', B2, b2, k2⟩ := begK false I1 (show SqK false X.K H1 b ys from hqy)
  have la := SqK.lt (t := false) I1 hqx
  have lb := SqK.lt (t := false) I1 hqy
  refine zip_begins2 B1 B2 b1 b2 fun h' hz hTI hTO h1 h2 hsz hk => args_nil ?_
  have I2 : Inv X pins σ H1 { s1 with heap := h', toks := s1.toks } := I1.kept (t' := s1.toks) hk
  refine call_list_zip (I2.ok.hd hc) I2 (zapart la lb) ⟨hTI, k1 _ _ h1, k2 _ _ h2, .inl ⟨hz, _, _, hTO⟩⟩ hz (fun c hcm => ?_) (fun c hcm => ?_) hqx hqy fun s' H' ps tt hl I3 => ⟨.ref _, _, I3, rfl, qq ps _ H' tt hl⟩
  · show c < h'.objs.size
    rw [hsz]
    have e : ∀ x y : Nat, x < y → (x : Addr) < (y : Addr) := fun _ _ h => h
    simp only [List.mem_cons, List.mem_nil_iff, or_false] at hcm
    rcases hcm with rfl | rfl | rfl | rfl | rfl <;> (refine e _ _ ?_; omega)
  · have hle : s1.heap.objs.size ≤ c := by
      simp only [List.mem_cons, List.mem_nil_iff, or_false] at hcm
      rcases hcm with rfl | rfl | rfl | rfl | rfl
      · exact Nat.le_add_right _ _
      · exact Nat.le_add_right _ _
      · exact Nat.le_add_right _ _
      · exact Nat.le_refl _
      · exact Nat.le_add_right _ _
    exact I1.fpOk hle (I1.hok.fresh hle)
end
end Ly

set_option Elab.async false
set_option linter.all false
set_option maxRecDepth 100000
set_option maxHeartbeats 2000000
/-! xs[i::k] of lists. -/
namespace Ly
open PySem PySem.Spec PyProof.Rows L2
theorem paired_get {α β : Type} {R : α → β → Prop} : ∀ {xs : List α} {ys : List β}, Paired R xs ys → ∀ i : Nat, (∃ x y, xs[i]? = some x ∧ ys[i]? = some y ∧ R x y) ∨ (xs[i]? = none ∧ ys[i]? = none)
  | _, _, .nil, i => .inr ⟨by simp, by simp⟩
  | _, _, .cons r t, 0 => .inl ⟨_, _, rfl, rfl, r⟩
  | _, _, .cons r t, i + 1 => by simpa using paired_get t i
theorem paired_pick {α β : Type} {R : α → β → Prop} {xs : List α} {ys : List β} (p : Paired R xs ys) : ∀ is : List Nat, Paired R (is.filterMap (xs[·]?)) (is.filterMap (ys[·]?))
  | [] => .nil
  | i :: is => by
    rw [List.filterMap_cons, List.filterMap_cons]
    rcases paired_get p i with ⟨x, y, e1, e2, r⟩ | ⟨e1, e2⟩
    · rw [e1, e2]; exact .cons r (paired_pick p is)
    · rw [e1, e2]; exact paired_pick p is
theorem pick_len {α : Type} (xs : List α) : ∀ is : List Nat, (is.filterMap (xs[·]?)).length ≤ is.length := fun is => List.length_filterMap_le _ _
theorem stepIx_len (n : Nat) (i k : Int) (hk : 0 < k) : (stepIx n i k).length ≤ n := by
  have h := sliceIndicesBy_le (some i) none k (by omega) n
  have e : Builtin.Str.strSliceIndices (some i) none k n = stepIx n i k := by
    unfold Builtin.Str.strSliceIndices stepIx
    simp only [show k > 0 from hk, if_true]
  rw [e] at h
  exact h
theorem slice_step (items : Array Value) (i k : Int) (hk : 0 < k) : slicePick items (some i) none (some k) = ((stepIx items.size i k).filterMap (items.toList[·]?)).toArray := by
  unfold slicePick sliceBounds stepIx
  simp only [show k > 0 from hk, if_true, Option.getD_some]
  congr 1
  apply congrFun
  apply congrArg
  funext j
  simp
/-- xs[i::k] -/
def tStepL (K : PySem.W.Frag) (te ti tk : TE) : TE := fun σ H Q => te σ H fun x H1 => ti σ H1 fun y H2 => ∃ i, y = .int i ∧ tk σ H2 fun z H3 => ∃ k, z = .int k ∧ ∃ a xs, x = .ref a ∧ 0 < k ∧ SqL K H3 a xs ∧ ∀ p, H3 p = none → Q (.ref p) (upd H3 p (.lst ((stepIx xs.length i k).filterMap (xs[·]?))))
def onInt (f : Int → Prop) : Option Int → Prop
  | some i => f i
  | none => False
section
variable {X : Cx}
theorem pe_stepL {e l t : Expr} {te tl tt : TE} {p3 pos : Pos} (he : PE X e te) (hl : PE X l tl) (ht : PE X t tt) : PE X (.Subscript e (.Slice (some l) none (some t) p3) pos) (tStepL X.K te tl tt) := by
  refine ⟨fun pins s σ H Q I h => ?_⟩
  refine Subscript_ (thn (he.run pins s σ H _ I h) fun v s1 ⟨x, H1, I1, r1, q1⟩ => ?_)
  refine wpAny_Slice (thn ((po_some hl).run pins s1 σ H1 (fun o H2 => onInt (fun i => tt σ H2 fun z H3 => ∃ k, z = .int k ∧ ∃ a xs, x = .ref a ∧ 0 < k ∧ SqL X.K H3 a xs ∧ ∀ p, H3 p = none → Q (.ref p) (upd H3 p (.lst ((stepIx xs.length i k).filterMap (xs[·]?))))) o) I1 q1) fun vl s2 ⟨o1, H2, I2, pl, q2⟩ => ?_)
  cases o1 with
  | none => exact q2.elim
  | some i =>
    refine thn (po_none.run pins s2 σ H2 (fun o H3 => o = none ∧ H3 = H2) I2 ⟨rfl, rfl⟩) fun vu s3 ⟨u, H3, I3, pu, eu, e3⟩ => ?_
    subst eu e3
    refine thn ((po_some ht).run pins s3 σ H3 (fun o H4 => onInt (fun k => ∃ a xs, x = .ref a ∧ 0 < k ∧ SqL X.K H4 a xs ∧ ∀ p, H4 p = none → Q (.ref p) (upd H4 p (.lst ((stepIx xs.length i k).filterMap (xs[·]?))))) o) I3 q2) fun vs s4 ⟨o2, H4, I4, ps, q3⟩ => ?_
    cases o2 with
    | none => exact q3.elim
    | some k =>
      obtain ⟨a, xs, ex, hk, hx, q⟩ := q3
      subst ex
      cases r1
      have I5 : Inv X pins σ H4 { s4 with heap := s4.heap.push { cls := .type "slice", data := .fields #[vl, vu, vs] } } := I4.kept (t' := s4.toks) fun b ob q => Heap.get?_push_of_some _ q
      obtain ⟨its, r, ht, hz⟩ := I5.list hx
      have hlen := r.length
      show wpAny (model X.prog X.w) X.A (subscriptTail e (.Slice (some l) none (some t) p3) (.ref a) (.ref s4.heap.objs.size)) (EP X pins σ Q) X.xe { s4 with heap := s4.heap.push { cls := .type "slice", data := .fields #[vl, vu, vs] } }
      refine tail_any (ops := [.ref a, .ref s4.heap.objs.size]) ht.isList.typeIs (PySem.slot_list_getitem.lookup) ?_ (by with_unfolding_all rfl)
      refine wpAny_getItem_list_slice ht.isList (Heap.IsSliceOf.new _ vl vu vs) pl pu ps (by intro z; cases z; omega) ?_ (by rw [List.size_toArray]; omega)
      rw [slice_step _ _ _ hk]
      have hsz : its.toArray.size = xs.length := by rw [List.size_toArray]; omega
      rw [hsz]
      refine ⟨.ref _, _, I5.laid (t' := s4.toks) (o := .lst ((stepIx xs.length i k).filterMap (xs[·]?))) (fun b ob q => Heap.get?_push_of_some _ q) (Nat.le_refl _) ?_, rfl, q _ (I5.hok.fresh (Nat.le_refl _))⟩
      have l1 := pick_len xs (stepIx xs.length i k)
      have l2 := stepIx_len xs.length i k hk
      exact ⟨by omega, _, 0, paired_pick r _, Heap.get?_push_size _ rfl⟩
end
end Ly

set_option Elab.async false
set_option linter.all false
set_option maxRecDepth 100000
set_option maxHeartbeats 2000000
/-! Dicts: what their objects hold. -/
namespace Ly
open PySem PySem.Spec PyProof.Rows L2
section
variable {κ α β : Type} [DecidableEq κ]
theorem dputK_len (ks : List κ) (xs : List α) (k : κ) (x : α) (h : ks.length = xs.length) : (dputK ks k).length = (dputV ks xs k x).length := by
  unfold dputK dputV
  split
  · rw [List.length_map, List.length_zip, h, Nat.min_self]
  · simp [h]
theorem any_mem (k : κ) : ∀ (ks : List κ) (vs : List V), ks.length = vs.length → ((ks.zip vs).any fun kv => decide (kv.1 = k)) = decide (k ∈ ks)
  | [], vs, _ => by simp
  | q :: ks, [], h => by simp at h
  | q :: ks, v :: vs, h => by
    rw [List.zip_cons_cons, List.any_cons, any_mem k ks vs (by simpa using h)]
    by_cases e : q = k
    · simp [e]
    · have e' : ¬ k = q := fun z => e z.symm
      simp [e, e']
theorem map_zip (k : κ) (v : V) : ∀ (ks : List κ) (vs : List V), (ks.zip vs).map (fun kv => if kv.1 = k then (kv.1, v) else kv) = ks.zip ((ks.zip vs).map fun p => if p.1 = k then v else p.2)
  | [], vs => by simp
  | q :: ks, [] => by simp
  | q :: ks, u :: vs => by
    simp only [List.zip_cons_cons, List.map_cons, map_zip k v ks vs]
    congr 1
    split <;> rfl
theorem putK_zip (ks : List κ) (vs : List V) (k : κ) (v : V) (h : ks.length = vs.length) : putK (ks.zip vs) k v = (dputK ks k).zip (dputV ks vs k v) := by
  unfold putK dputK dputV
  rw [any_mem k ks vs h]
  by_cases e : k ∈ ks
  · rw [if_pos (by simpa using e), if_pos e, if_pos e, map_zip]
  · rw [if_neg (by simpa using e), if_neg e, if_neg e, List.zip_append h]
    rfl
end
theorem k1_one (x : L2.Key) : k1 [x] = x := rfl
theorem k1_mem {ks : List (List L2.Key)} (ok : dOk false ks) (x : L2.Key) : x ∈ ks.map k1 ↔ [x] ∈ ks := by
  rw [List.mem_map]
  constructor
  · rintro ⟨k, hk, e⟩
    obtain ⟨y, rfl⟩ := ok rfl k hk
    rw [k1_one] at e
    subst e
    exact hk
  · exact fun h => ⟨_, h, rfl⟩
theorem dputK_k1 {ks : List (List L2.Key)} (ok : dOk false ks) (x : L2.Key) : dputK (ks.map k1) x = (dputK ks [x]).map k1 := by
  unfold dputK
  by_cases e : [x] ∈ ks
  · rw [if_pos e, if_pos ((k1_mem ok x).mpr e)]
  · rw [if_neg e, if_neg (fun z => e ((k1_mem ok x).mp z)), List.map_append]
    rfl
theorem zip_k1 {α : Type} (x : L2.Key) (v : α) : ∀ {ks : List (List L2.Key)} (vs : List α), dOk false ks → ((ks.map k1).zip vs).map (fun p => if p.1 = x then v else p.2) = (ks.zip vs).map (fun p => if p.1 = [x] then v else p.2)
  | [], vs, _ => by simp
  | q :: ks, [], _ => by simp
  | q :: ks, u :: vs, ok => by
    obtain ⟨y, rfl⟩ := ok rfl q List.mem_cons_self
    simp only [List.map_cons, List.zip_cons_cons, zip_k1 x v vs (fun h k hk => ok h k (List.mem_cons_of_mem _ hk)), k1_one]
    congr 1
    by_cases e : y = x
    · simp [e]
    · simp [e]
theorem dputV_k1 {α : Type} {ks : List (List L2.Key)} (ok : dOk false ks) (vs : List α) (x : L2.Key) (v : α) : dputV (ks.map k1) vs x v = dputV ks vs [x] v := by
  unfold dputV
  by_cases e : [x] ∈ ks
  · rw [if_pos e, if_pos ((k1_mem ok x).mpr e), zip_k1 x v vs ok]
  · rw [if_neg e, if_neg (fun z => e ((k1_mem ok x).mp z))]
theorem val_k1 (x : L2.Key) : ∀ {ks : List (List L2.Key)} (vs : List V), dOk false ks → valV ((ks.map k1).zip vs) x = valV (ks.zip vs) [x]
  | [], vs, _ => by simp [valV]
  | q :: ks, [], _ => by simp [valV]
  | q :: ks, u :: vs, ok => by
    obtain ⟨y, rfl⟩ := ok rfl q List.mem_cons_self
    rw [List.map_cons, List.zip_cons_cons, List.zip_cons_cons, k1_one]
    by_cases e : y = x
    · rw [valV_pos e, valV_pos (by simp [e])]
    · rw [valV_neg e, valV_neg (by simp [e])]
      exact val_k1 x vs (fun h k hk => ok h k (List.mem_cons_of_mem _ hk))
theorem dOk_put {t : Bool} {ks : List (List L2.Key)} {k : List L2.Key} (ok : dOk t ks) (hk : t = false → ∃ x, k = [x]) : dOk t (dputK ks k) := fun ht q hq => by
  unfold dputK at hq
  split at hq
  · exact ok ht q hq
  · rcases List.mem_append.mp hq with hq | hq
    · exact ok ht q hq
    · rw [List.mem_singleton.mp hq]; exact hk ht
/-- y is the key k -/
def KeyIs (H : Hp) (t : Bool) (y : V) (k : List L2.Key) : Prop := (t = false ∧ ∃ x, k = [x] ∧ y = kV x) ∨ (t = true ∧ ∃ b, y = .ref b ∧ H b = some (.tup (k.map kV)))
theorem dget_of {H : Hp} {a : Addr} {t : Bool} {ks : List (List L2.Key)} {vs : List V} {y : V} {k : List L2.Key} (h : Rd H a (dOb t ks vs)) (ok : dOk t ks) (hk : KeyIs H t y k) : DGet H a y (valV (ks.zip vs) k) := by
  rcases hk with ⟨rfl, x, rfl, rfl⟩ | ⟨rfl, b, rfl, hb⟩
  · exact .inl ⟨_, x, h, rfl, (val_k1 x vs ok).symm⟩
  · exact .inr ⟨_, k, b, h, rfl, hb, rfl⟩
theorem dput_of {H : Hp} {a : Addr} {t : Bool} {ks : List (List L2.Key)} {vs : List V} {y v : V} {k : List L2.Key} (h : H a = some (dOb t ks vs)) (ok : dOk t ks) (hl : ks.length = vs.length) (hz : ks.length < sizeLine) (hk : KeyIs H t y k) :
    DPut H a y v (upd H a (dOb t (dputK ks k) (dputV ks vs k v))) := by
  rcases hk with ⟨rfl, x, rfl, rfl⟩ | ⟨rfl, b, rfl, hb⟩
  · refine .inl ⟨(ks.map k1).zip vs, x, h, rfl, ?_, ?_⟩
    · rw [List.length_zip, List.length_map]; omega
    · rw [putK_zip _ _ _ _ (by rw [List.length_map]; exact hl), dputK_k1 ok, dputV_k1 ok]
      rfl
  · refine .inr ⟨ks.zip vs, k, b, h, rfl, hb, ?_, ?_⟩
    · rw [List.length_zip]; omega
    · rw [putK_zip _ _ _ _ hl]
      rfl
theorem keys_of {K : PySem.W.Frag} {H : Hp} {S hot : List Addr} {j : Nat} : ∀ {vs : List V} {ds : List D} {k : List L2.Key}, RepTs K H S hot j vs ds → keysD ds = some k → vs = k.map kV
  | _, _, _, .nil _, e => by simp [keysD] at e; subst e; rfl
  | _, _, k, .cons (d := d) h hs, e => by
    cases h <;> simp only [keysD, reduceCtorEq] at e
    · obtain ⟨q, e1, rfl⟩ := Option.map_eq_some_iff.mp e
      rw [keys_of hs e1]; rfl
    · obtain ⟨q, e1, rfl⟩ := Option.map_eq_some_iff.mp e
      rw [keys_of hs e1]; rfl
theorem key_is {K : PySem.W.Frag} {H : Hp} {S hot : List Addr} {j : Nat} {t : Bool} {y : V} {d : D} {k : List L2.Key} (h : RepT K H S hot j y d) (e : keyD t d = some k) : KeyIs H t y k := by
  cases t with
  | false =>
    cases h <;> simp only [keyD, reduceCtorEq] at e
    · cases e; exact .inl ⟨rfl, _, rfl, rfl⟩
    · cases e; exact .inl ⟨rfl, _, rfl, rfl⟩
  | true =>
    cases h <;> simp only [keyD, reduceCtorEq] at e
    rename_i a vs ds h hs
    have ev := keys_of hs e
    refine .inr ⟨rfl, a, rfl, ?_⟩
    rcases h.1 with h | ⟨_, v, hv, hn⟩
    · rw [← ev]; exact h
    · rw [ev] at hv
      obtain ⟨q, _, rfl⟩ := List.mem_map.mp hv
      exact absurd rfl (hn q)
theorem KeyIs.one {H : Hp} {t : Bool} {y : V} {k : List L2.Key} (h : KeyIs H t y k) : t = false → ∃ x, k = [x] := fun ht => by
  rcases h with ⟨_, x, e, _⟩ | ⟨e, _⟩
  · exact ⟨x, e⟩
  · rw [ht] at e; cases e
/-- what is found at a key -/
theorem rep_val {K : PySem.W.Frag} {H : Hp} {S hot : List Addr} {j : Nat} (k : List L2.Key) : ∀ {ks : List (List L2.Key)} {vs : List V} {ds : List D}, RepTs K H S hot j vs ds → (∃ v d, valV (ks.zip vs) k = some v ∧ dval ks ds k = some d ∧ RepT K H S hot j v d) ∨ (valV (ks.zip vs) k = none ∧ dval ks ds k = none)
  | [], _, _, _ => .inr ⟨by simp [valV], by simp [dval]⟩
  | q :: ks, _, _, .nil _ => .inr ⟨by simp [valV], by simp [dval]⟩
  | q :: ks, _, _, .cons h hs => by
    by_cases e : q = k
    · exact .inl ⟨_, _, by rw [List.zip_cons_cons, valV_pos e], by simp [dval, e], h⟩
    · have ih := rep_val k (ks := ks) hs
      rw [List.zip_cons_cons, valV_neg e]
      have e2 : ∀ (d : D) (ds : List D), dval (q :: ks) (d :: ds) k = dval ks ds k := fun d ds => by simp [dval, e]
      rw [e2]
      exact ih
theorem Reps.map_if {K : PySem.W.Frag} {H : Hp} {hot : List Addr} {v : V} {d : D} (k : List L2.Key) (r : Rep K H hot 0 v d []) : ∀ {ks : List (List L2.Key)} {vs : List V} {ds : List D} {A : List Addr}, Reps K H hot 0 vs ds A → Reps K H hot 0 ((ks.zip vs).map fun p => if p.1 = k then v else p.2) ((ks.zip ds).map fun p => if p.1 = k then d else p.2) []
  | [], _, _, _, _ => .nil 0
  | _ :: _, _, _, _, .nil _ => .nil 0
  | q :: ks, _, _, _, .cons h hs => by
    rw [List.zip_cons_cons, List.zip_cons_cons, List.map_cons, List.map_cons]
    have e := h.zero
    subst e
    refine Reps.cons (A := []) ?_ (Reps.map_if k r hs)
    by_cases e : q = k
    · simp only [e, if_true]; exact r
    · simp only [e, if_false]; exact h
theorem Reps.snoc0 {K : PySem.W.Frag} {H : Hp} {hot : List Addr} {v : V} {d : D} (r : Rep K H hot 0 v d []) : ∀ {vs : List V} {ds : List D} {A : List Addr}, Reps K H hot 0 vs ds A → Reps K H hot 0 (vs ++ [v]) (ds ++ [d]) []
  | _, _, _, .nil _ => Reps.cons (A := []) r (.nil 0)
  | _, _, _, .cons h hs => by
    have e := h.zero
    subst e
    exact Reps.cons (A := []) h (Reps.snoc0 r hs)
theorem Reps.dput {K : PySem.W.Frag} {H : Hp} {hot : List Addr} {v : V} {d : D} {ks : List (List L2.Key)} {vs : List V} {ds : List D} {A : List Addr} (k : List L2.Key) (h : Reps K H hot 0 vs ds A) (r : Rep K H hot 0 v d []) : Reps K H hot 0 (dputV ks vs k v) (dputV ks ds k d) [] := by
  unfold dputV
  split
  · exact Reps.map_if k r h
  · exact Reps.snoc0 r h
end Ly

set_option Elab.async false
set_option linter.all false
set_option maxRecDepth 100000
set_option maxHeartbeats 2000000
/-! sorted(dict), len(set(texts)), dict(tuple of pairs). -/
namespace Ly
open PySem PySem.Spec PyProof.Rows L2
section
variable {X : Cx}
/-- sorted(d) of a dict whose keys are whole numbers, any number of them -/
def rSortedD : List V → Hp → VK → Prop := fun xs H Q => ∃ (a : Addr) (kvs : List (Key × V)) (ks : List Int), xs = [.ref a] ∧ Rd H a (.dK kvs) ∧ kvs.map (·.1) = ks.map Sum.inl ∧
  ∀ (ys : List Int) (p : Addr), ys.Perm ks → ys.Pairwise (· ≤ ·) → H p = none → Q (.ref p) (upd H p (.lst (ys.map V.int)))
theorem cr_sortedD (hcalm : X.calm = true) : CallR X (.builtin "sorted") rSortedD := by
  intro pins s σ H xs us Q I r q
  obtain ⟨a, kvs, ks, ex, hd, hks, q⟩ := q
  subst ex
  obtain ⟨u, eu, rx⟩ := vals1 r
  subst eu
  cases rx
  obtain ⟨z, lo, vs, rel, dd⟩ := dk_rd I.hok hd
  obtain ⟨ep, hat⟩ := dd.dictAt
  have hkeys : vs.map (·.1) = ks.map Sum.inl := rel.keys.symm.trans hks
  have hl : vs.length = ks.length := by
    have e := congrArg List.length hkeys
    rw [List.length_map, List.length_map] at e
    exact e
  have h16 : vs.length ≤ sizeLine := by rw [← rel.length]; exact z
  refine Calls.call_function_entry PyProof.Rows.kind_sorted PyProof.Rows.plain_sorted PyProof.Rows.entry_sorted (PyProof.Rows.args_sorted1 _) ?_
  unfold Builtin.«sorted»
  refine wpAny_bind (m := checkCount "sorted" 1 1 _) (wpAny_pure ?_)
  refine wpAny_bind (PySem.W.kdu_collect (A := X.A.in1) (PySem.W.kdl_dict (knd := mixKind X.prog X.w) (kvs := vs) (ep := ep) lo) (I.ok.hd hcalm) hat h16 fun h' tk acc hk hacc => ?_)
  have hal : acc.toList.length = ks.length := by rw [Array.length_toList, hacc.1, hl]
  have hS : IntsAre acc.toList ks := ints_each hal fun j v e => by
    obtain ⟨k, x, e1, e2⟩ := hacc.2 j v (by rw [← Array.getElem?_toList]; exact e)
    have e3 : (vs.map (·.1))[j]? = some k := by rw [List.getElem?_map, e1]; rfl
    rw [hkeys, List.getElem?_map] at e3
    cases e4 : ks[j]? with
    | none => rw [e4] at e3; cases e3
    | some y =>
      rw [e4] at e3
      have e5 : Sum.inl y = k := Option.some.inj e3
      subst e5
      rcases keyIs_shape (show keyIs (Sum.inl y) v = true from e2) with ⟨i, t, ek, ev⟩ | ⟨z, t, ek, ev⟩
      · cases ek
        exact ⟨y, t, rfl, ev⟩
      · cases ek
  have I1 : Inv X pins σ H { s with heap := h', toks := tk } := I.kept hk
  have hsz : acc.toList.length ≤ sizeLine := by rw [hal, ← hl]; exact h16
  refine wpAny_bind (wpAny_newList ?_ (by omega))
  have hoL : (h'.push (seqObj "list" acc.toList.toArray 0)).get? h'.objs.size = some (seqObj "list" acc.toList.toArray 0) := Heap.get?_push_size _ rfl
  show wpAny _ _ _ _ _ { s with heap := h'.push (seqObj "list" acc.toList.toArray 0), toks := tk }
  refine wpAny_bind (wpAny_holding (wpAny_call_entry PyProof.Rows.slot_list_sort ⟨_, hoL, rfl⟩ PyProof.Rows.entry_list_sort
    (SrtO.list_sort_ord (s := { s with heap := h'.push (seqObj "list" acc.toList.toArray 0), toks := tk }) SrtO.swo_int hoL hsz (fun h2 => SrtO.ints_sortable hS h2) fun out h1 h2 => ⟨_, rfl, ?_⟩) (PyProof.Rows.args_list_sort _)))
  obtain ⟨g1, g2, g3⟩ := SrtO.ints_out hS h1 h2
  obtain ⟨e', he'⟩ := PyProof.Rows.sortedHeap_at (vs := acc.toList) (out := out.toArray) hoL
  have hlen : ((out.map SrtO.iv).map V.int).length ≤ sizeLine := by
    rw [List.length_map, g2.length_eq, ← hal]
    exact hsz
  refine wpAny_pure ⟨_, rfl, .ref h'.objs.size, upd H h'.objs.size (.lst ((out.map SrtO.iv).map V.int)), I1.laid (t' := tk) (fun b u e => ?_) (Nat.le_refl _)
    (show ObjOk X.prog X.w _ _ _ (.lst ((out.map SrtO.iv).map V.int)) from ⟨hlen, out, e', vals_of_ints g1, he'⟩), rfl, q _ _ g2 g3 (I1.hok.fresh (Nat.le_refl _))⟩
  have hb : b < h'.objs.size := Heap.lt_size e
  rw [PyProof.Rows.sortedHeap_old (Nat.ne_of_lt hb) (by rw [size_push']; exact Nat.lt_succ_of_lt hb)]
  exact Heap.get?_push_of_some _ e
end

/-! ### sets of texts -/
section
variable {P : Program} {w : World} {A : Around} {E : Value → Shared → Prop} {s : Shared}
def inS (ss : List Str) : L2.Key → Bool
  | .inl _ => false
  | .inr s => decide (s ∈ ss)
theorem SetOf_at {h h' : Heap} {a : Addr} {S : L2.Key → Bool} {n : Nat} (x : h.SetOf (mixKind P w) a S n) (e : ∀ o, h.get? a = some o → h'.get? a = some o) : h'.SetOf (mixKind P w) a S n := by
  obtain ⟨o, es, ep, t, ho, r⟩ := x
  exact ⟨o, es, ep, t, e _ ho, r⟩
theorem SetOf_congr {h : Heap} {a : Addr} {S S' : L2.Key → Bool} {n : Nat} (x : h.SetOf (mixKind P w) a S n) (e : ∀ k, S k = S' k) : h.SetOf (mixKind P w) a S' n := by
  have : S = S' := funext e
  rw [← this]
  exact x
theorem set_update_strs {I : Addr} {fp wr : List Addr} {G : Array GenState → Array GenState → Prop} {n : Nat} {Pv : Nat → Value → Prop} {St : Nat → Shared → Prop} {R : Result → Shared → Prop}
    (W : WalksS P w A.in1 I fp wr G n Pv St) (S : Addr) (hSf : S ∉ fp) (ns : List Str) (hn : n = ns.length) (hb : ns.length + 1 < scanBound) (hval : ∀ i v, Pv i v → ∃ k t, ns[i]? = some k ∧ v = .str k t) :
    ∀ (k i : Nat) (s : Shared), n - i = k → i ≤ n → St i s → s.heap.SetOf (mixKind P w) S (inS (ns.take i)) (uniqN ns i) →
      (∀ s', Moved (S :: wr) G s s' → s'.heap.SetOf (mixKind P w) S (inS ns) (uniqN ns n) → R (.ok (.ret .none)) s') →
      codeAny (model P w) A (.builtin "set.update.loop" ⟨[.ref S, .ref I], []⟩) R s := by
  have hSw : S ∉ wr := fun h => hSf (W.sub _ h)
  have hsub : ∀ b ∈ wr, b ∈ S :: wr := fun b hb => List.mem_cons_of_mem _ hb
  have hu : ∀ i, uniqN ns i ≤ i := fun i => by
    induction i with
    | zero => exact Nat.le_refl _
    | succ i ih => rw [uniqN]; split <;> omega
  intro k
  induction k with
  | zero =>
    intro i s hk' hi hst hS hR
    have hin : i = n := by omega
    subst hin
    refine codeAny_builtin F.entry_set_update_loop ?_
    rw [Around.under_plainId F.plain_set_update_loop _]
    show wpAny _ A.in1 (pyNext (.ref I) >>= _) _ _ s
    refine wpAny_bind (W.done s _ _ hst fun s' hm => ?_)
    show wpAny _ A.in1 (ret Value.none) _ _ s'
    have e : ns.take i = ns := List.take_of_length_le (by omega)
    rw [e] at hS
    exact wpAny_pure (hR s' (hm.mono hsub) (SetOf_at hS fun o e => hm.heap S o hSw e))
  | succ k ih =>
    intro i s hk' hi hst hS hR
    have hlt : i < n := by omega
    refine codeAny_builtin F.entry_set_update_loop ?_
    rw [Around.under_plainId F.plain_set_update_loop _]
    show wpAny _ A.in1 (pyNext (.ref I) >>= _) _ _ s
    refine wpAny_bind (W.item i s _ _ hlt hst fun v s' hP hst' hm => ?_)
    obtain ⟨z, t, hz, rfl⟩ := hval i v hP
    have hS' := SetOf_at (h' := s'.heap) hS fun o e => hm.heap S o hSw e
    have hkey : (mixKind P w).is (Sum.inr z) (.str z t) = true := kV_is (P := P) (w := w) (k := Sum.inr z) (u := .str z t) ⟨t, rfl⟩
    show wpAny _ A.in1 (holding [Value.str z t] (setAdd S (.str z t)) >>= _) _ _ s'
    refine wpAny_bind (wpAny_holding ?_)
    unfold setAdd
    refine wpAny_holding ?_
    refine wpAny_bind ((mixKind P w).pyHash (k := Sum.inr z) hkey ?_)
    have hui := hu i
    refine wpAny_setAddHashed_of (s := { s' with toks := s'.toks + 1 }) hkey (key_scan (k := Sum.inr z) ⟨t, rfl⟩) hS' (by omega) fun h' hsb hS2 => ?_
    have hget : ns.getD i "" = z := by rw [List.getD_eq_getElem?_getD, hz]; rfl
    have hS3 : h'.SetOf (mixKind P w) S (inS (ns.take (i + 1))) (uniqN ns (i + 1)) := by
      have e2 : uniqN ns (i + 1) = if inS (ns.take i) (Sum.inr z) = true then uniqN ns i else uniqN ns i + 1 := by
        rw [uniqN, hget]
        by_cases hm : z ∈ ns.take i
        · rw [if_pos hm, if_pos (by simp [inS, hm])]
        · rw [if_neg hm, if_neg (by simp [inS, hm])]
      rw [e2]
      refine SetOf_congr hS2 fun j => ?_
      rw [List.take_add_one, hz]
      cases j with
      | inl q => simp [inS]
      | inr q => simp [inS, List.mem_append]
    refine wpAny_pure ⟨plainId_quiet F.plain_set_update_loop _, ih (i + 1) _ (by omega) hlt (W.frame _ s' _ _ hst' (Nat.le_succ _) fun b hb o e => ?_) hS3 fun s'' hm'' hS'' => ?_⟩
    · rw [hsb.2 b (fun h : b = S => hSf (by rw [← h]; exact hb))]; exact e
    · refine hR s'' (Moved.trans W.gtrans ((hm.mono hsub).then_heap (Nat.le_succ _) fun b o hb e => ?_) hm'') hS''
      rw [hsb.2 b (fun h : b = S => hb (by rw [h]; exact List.mem_cons_self))]; exact e
theorem set_of_strs {l : Addr} {items : Array Value} (ns : List Str) {Q : Value → Shared → Prop} (hh : A.handled = none) (hl : s.heap.IsList l items) (hit : Vals (ns.map V.str) items.toList) (hb : ns.length + 1 < scanBound)
    (hq : ∀ (g : Heap) (tk : Nat), g.SetOf (mixKind P w) s.heap.objs.size (inS ns) (uniqN ns ns.length) → (∀ b o, s.heap.get? b = some o → g.get? b = some o) → Q (.ref s.heap.objs.size) { s with heap := g, toks := tk }) :
    wpAny (model P w) A (call (.type "set") [.ref l]) Q E s := by
  have size_eq : items.size = ns.length := by
    have z := hit.length
    rw [List.length_map, Array.length_toList] at z
    exact z.symm
  have at0 : (s.heap.push (newSetO w)).get? s.heap.objs.size = some (newSetO w) := Heap.get?_push_size _ rfl
  have old : ∀ b o, s.heap.get? b = some o → (s.heap.push (newSetO w)).get? b = some o := fun b o e => Heap.get?_push_of_some _ e
  have sz : (s.heap.push (newSetO w)).objs.size = s.heap.objs.size + 1 := Heap.size_push ..
  have atl : (s.heap.push (newSetO w)).IsList l items := hl.push _
  have vals : ∀ (i : Nat) (v : Value), items[i]? = some v → ∃ k t, ns[i]? = some k ∧ v = .str k t := by
    intro i v hv
    have lt : i < ns.length := by
      rw [← size_eq]
      exact (Array.getElem?_eq_some_iff.mp hv).1
    obtain ⟨u, e1, e2⟩ := hit.get (i := i) (x := V.str ns[i]) (by rw [List.getElem?_map, List.getElem?_eq_getElem lt]; rfl)
    rw [Array.getElem?_toList, hv] at e1
    cases e1
    obtain ⟨t, rfl⟩ := e2
    exact ⟨ns[i], t, List.getElem?_eq_getElem lt, rfl⟩
  obtain ⟨_, _, mro⟩ := F.called_set.mro
  have made := F.called_set.made
  have subT := F.called_set.sub
  have nt := F.called_set.notType
  have cc := F.called_set.canCreate
  have tc := F.typeCall_set_1 (.ref l)
  apply wpAny_call
  apply codeAny_of_tree
  show wpAny _ _ (callAny (.type "set") _) _ _ _
  refine wpAny_pure ⟨Code.quiet_builtin _ (by decide +kernel), ?_⟩
  refine codeAny_builtin F.entry_type_call ?_
  rw [Around.under_plain (weight_type_call_type "set" [.ref l] []) rfl]
  repeat any_goals first | assumption | wp_step
  refine codeAny_mono (code_set_led1 (.ref l) (E := E) (Q₁ := fun obj u => obj = .ref s.heap.objs.size ∧ u = { s with heap := s.heap.push (newSetO w) }) ⟨rfl, rfl⟩) fun r u hr => ?_
  cases r with
  | error e => exact hr
  | ok fl =>
    cases fl with
    | ret obj =>
      obtain ⟨rfl, rfl⟩ := hr
      have ty : Shared.TypeIs { s with heap := s.heap.push (newSetO w) } (.ref s.heap.objs.size) "set" := ⟨_, at0, rfl⟩
      have ilook := F.called_set.init.lookup
      have ibind := F.called_set.init.bind (.ref s.heap.objs.size)
      repeat any_goals first | assumption | wp_step
      refine codeAny_mono (codeAny_call_builtin (R := wants (fun r v => r = .none ∧ ∃ (g : Heap) (tk : Nat), v = { s with heap := g, toks := tk } ∧ g.SetOf (mixKind P w) s.heap.objs.size (inS ns) (uniqN ns ns.length) ∧ ∀ b o, s.heap.get? b = some o → g.get? b = some o) E)
        F.called_set.init.plain F.entry_set_init (check_set_init_1 ty ?_)) fun r2 v hr2 => ?_
      · obtain ⟨⟨oc, od, oda, osl⟩, lo, lc, ln, ld⟩ := id atl
        dsimp only at lc ld
        subst lc ld
        have s1 := F.sub_list_set
        have s2 := F.sub_list_frozenset
        have s3 : (Value.type "list" == Value.type "dict") = false := by decide
        unfold Builtin.«set.__init__»
        unfold noKeywords
        unfold Builtin.Frozenset.updateFrom
        generalize hpi : pyIter = pit
        wp_walk
        subst hpi
        refine wpAny_pyIter_list atl ?_
        apply wpAny_bind
        apply wpAny_runValue
        have lt0 : l < s.heap.objs.size := by
          obtain ⟨_, q, _⟩ := hl
          exact Heap.lt_size q
        have ne1 : l ≠ (s.heap.push (newSetO w)).objs.size := fun z => by
          rw [sz] at z
          exact Nat.ne_of_lt (Nat.lt_succ_of_lt lt0) z
        have nin : s.heap.objs.size ∉ [(s.heap.push (newSetO w)).objs.size, l] := by
          intro z
          simp only [List.mem_cons, List.mem_nil_iff, or_false] at z
          rcases z with z | z
          · rw [sz] at z
            exact Nat.ne_of_lt (Nat.lt_succ_self _) z
          · exact Nat.ne_of_lt lt0 z.symm
        have calm : A.in1.in1.in1.handled = none := by simp [hh]
        have at1 : ((s.heap.push (newSetO w)).push { cls := .type "list_iterator", data := .fields #[.ref l, .int 0 0] }).get? s.heap.objs.size = some (newSetO w) := Heap.get?_push_of_some _ at0
        have new1 : ((s.heap.push (newSetO w)).push { cls := .type "list_iterator", data := .fields #[.ref l, .int 0 0] }).SetOf (mixKind P w) s.heap.objs.size (inS (ns.take 0)) (uniqN ns 0) :=
          ⟨_, #[], 0, _, at1, ⟨rfl, rfl, rfl⟩, rfl, (fun e he => by simp at he), (fun k => by cases k <;> simp [inS]), (by decide), (by rfl), rfl⟩
        refine set_update_strs (Walks.list calm _ l ne1 items).toS s.heap.objs.size nin ns size_eq hb vals (items.size - 0) 0 _ (by omega) (Nat.zero_le _) ⟨⟨_, Heap.get?_push_size _ rfl, rfl, rfl⟩, atl.push _⟩ new1 ?_
        intro v mv ks
        obtain ⟨g, gg, gd, tk, gos⟩ := v
        obtain rfl : gg = s.gens := mv.gens
        obtain rfl : gd = s.drawn := mv.drawn
        obtain rfl : gos = s.os := mv.os
        show wpAny _ _ _ _ _ _
        apply wpAny_pure
        show wpAny _ _ (ret Value.none) _ _ _
        rw [size_eq] at ks
        refine wpAny_pure ⟨rfl, g, tk, rfl, ks, fun b o eb => ?_⟩
        have lb := Heap.lt_size eb
        refine mv.heap b o ?_ (Heap.get?_push_of_some _ (old b o eb))
        intro z
        simp only [List.mem_cons, List.mem_nil_iff, or_false] at z
        rcases z with z | z
        · exact Nat.ne_of_lt lb z
        · rw [sz] at z
          exact Nat.ne_of_lt (Nat.lt_succ_of_lt lb) z
      · cases r2 with
        | error e => exact hr2
        | ok fl2 =>
          cases fl2 with
          | ret r =>
            obtain ⟨rfl, g, tk, rfl, k1, k3⟩ := hr2
            repeat any_goals first | assumption | wp_step
            exact hq g tk k1 k3
          | _ => exact hr2.elim
    | _ => exact hr.elim
end
section
variable {X : Cx}
/-- len(set(xs)), xs a list of texts -/
def tLenSetS (K : PySem.W.Frag) (ta : TE) : TE := fun σ H Q => ta σ H fun x H1 => ∃ (l : Addr) (ns : List Str), x = V.ref l ∧ SqL K H1 l (ns.map V.str) ∧ ns.length < 60 ∧ Q (.int (uniqN ns ns.length : Nat)) H1
theorem pe_lenSetS {a : Expr} {ta : TE} {p p2 q pos : Pos} (hc : X.calm = true) (hg : Gl X "len") (hm : X.mg "len" = none) (hg2 : Gl X "set") (hm2 : X.mg "set" = none) (ha : PE X a ta)
    (na : starEach [a] X.env = (false, eval a X.env) :: starEach [] X.env := by rfl) : PE X (.Call (.Name "len" p) [.Call (.Name "set" p2) [a] [] q] [] pos) (tLenSetS X.K ta) := by
  refine ⟨fun pins s σ H Q I h => ?_⟩
  refine Call_ (ld_blt I hg hm PySem.boot_len ?_)
  refine PyProof.Rows.callWith_builtin1 (PyProof.Rows.args_cons ?_ rfl) rfl rfl
  refine Call_ (ld_blt I hg2 hm2 PyProof.Rows.boot_set ?_)
  refine PyProof.Rows.callWith_type1 (PyProof.Rows.args_cons (thn (ha.run pins s σ H _ I h) fun v s1 ⟨x, H1, I1, r1, q1⟩ => PyProof.Rows.args_nil ?_) na) na rfl
  obtain ⟨l, ns, rfl, hq, h1, q1⟩ := q1
  cases r1
  obtain ⟨its, r, pl, hz⟩ := I1.list hq
  refine set_of_strs ns (I1.ok.hd hc) pl.isList (by simpa using r) (by unfold scanBound; omega) fun h' tk hS hk => ?_
  refine PyProof.Rows.args_nil ?_
  obtain ⟨o, es, ep, t, ho, hex, hd, _, _, hb, hf, hn⟩ := hS
  have I2 : Inv X pins σ H1 { s1 with heap := h', toks := tk } := I1.kept fun b o e => hk b o e
  refine call_len_set ho hex hd hf (by unfold scanBound at hb; omega) ⟨.int (uniqN ns ns.length : Nat), H1, I2.tok _, ⟨_, by rw [hn]⟩, q1⟩
end

/-! ### dict(t) of a tuple of pairs -/
section
variable {X : Cx}
theorem pairs_of2 {pins : List (Addr × Obj)} {σ : L2.St} {H : Hp} {s : Shared} (I : Inv X pins σ H s) : ∀ {ps : List Addr} {kvs : List (Key × V)}, Paired (fun p kv => SqT X.K H p [kV kv.1, kv.2]) ps kvs →
    ∃ (prs : List (Key × Value)) (qs : List (Value × Value)), KV kvs prs ∧ prs.length = ps.length ∧ qs.length = ps.length ∧ ∀ (j : Nat) (k v : Value), qs[j]? = some (k, v) → ∃ (b : Addr) (key : Key), ps[j]? = some b ∧ IsTup s.heap b #[k, v] ∧ prs[j]? = some (key, v) ∧ keyIs key k = true
  | _, _, .nil => ⟨[], [], .nil, rfl, rfl, fun j k v e => by simp at e⟩
  | _, _, .cons (a := p) (b := kv) h t => by
    obtain ⟨prs, qs, r, hl, hl2, hp⟩ := pairs_of2 I t
    obtain ⟨its, rv, ht, _⟩ := I.tuple h
    obtain ⟨u, y, ei, ru, ry⟩ := vals2 rv
    subst ei
    refine ⟨(kv.1, y) :: prs, (u, y) :: qs, .cons ⟨rfl, ry⟩ r, by rw [List.length_cons, List.length_cons, hl], by rw [List.length_cons, List.length_cons, hl2], fun j k v e => ?_⟩
    cases j with
    | zero =>
      have e' : (u, y) = (k, v) := Option.some.inj e
      cases e'
      exact ⟨p, kv.1, rfl, ht, rfl, kV_is (P := X.prog) (w := X.w) ru⟩
    | succ j =>
      obtain ⟨b, key, e1, e2, e3, e4⟩ := hp j k v (by simpa using e)
      exact ⟨b, key, by simpa using e1, e2, by simpa using e3, e4⟩
def rDictT (K : PySem.W.Frag) : List V → Hp → VK → Prop := fun xs H Q => ∃ (a : Addr) (o : Obj) (ps : List Addr) (kvs : List (Key × V)), xs = [.ref a] ∧ H a = some (.frz o (.tup (ps.map V.ref))) ∧ o.dict = none ∧ Paired (fun p kv => SqT K H p [kV kv.1, kv.2]) ps kvs ∧
  ∀ p, H p = none → Q (.ref p) (upd H p (.dK (mergeK [] kvs)))
theorem cr_dictT (hcalm : X.calm = true) : CallR X (.type "dict") (rDictT X.K) := by
  intro pins s σ H xs us Q I r q
  obtain ⟨a, o, ps, kvs, ex, ha, hod, hp, q⟩ := q
  subst ex
  obtain ⟨u, eu, rx⟩ := vals1 r
  subst eu
  cases rx
  obtain ⟨ho, hz, its, rv, o', ho', hc, n, hdat⟩ := I.hok a _ ha
  rw [ho] at ho'
  cases ho'
  have ei := refs_at rv
  subst ei
  rw [List.length_map] at hz
  obtain ⟨prs, qs, rel, hl, hl2, hpr⟩ := pairs_of2 I hp
  refine PySem.call_dict_pairs (knd := mixKind X.prog X.w) (kvs := prs) (PairArg.tuple a (ps.map Value.ref).toArray (fun j => ps.getD j 0) qs) (I.ok.hd hcalm) ⟨⟨o, n, ho, hc, hod, hdat⟩, by simp [hl2], fun j k v e => ?_⟩ ⟨by rw [hl, hl2], fun i key v e => ?_⟩ (by rw [hl2]; exact hz) fun h' tk hd' k => ?_
  · obtain ⟨b, key, e1, e2, e3, e4⟩ := hpr j k v e
    have eb : ps.getD j 0 = b := by simp [e1]
    refine ⟨by simp [e1], .inl ?_⟩
    show s.heap.IsTuple (ps.getD j 0) #[k, v]
    rw [eb]
    exact e2
  · obtain ⟨b, key', e1, e2, e3, e4⟩ := hpr i key v e
    exact ⟨key', e3, e4⟩
  · have hm : (s.heap.objs.size == sysModules) = false := beq_eq_false_iff_ne.mpr (Nat.ne_of_gt I.big)
    have hlen : (mergeK [] kvs).length ≤ sizeLine := by
      refine Nat.le_trans (length_mergeK kvs []) ?_
      rw [List.length_nil, Nat.zero_add, rel.length, hl]
      exact hz
    exact ⟨.ref s.heap.objs.size, upd H s.heap.objs.size (.dK (mergeK [] kvs)), I.laid (t' := tk) (fun b o e => k b o (by simp) e) (Nat.le_refl _) (show ObjOk X.prog X.w _ _ _ (.dK (mergeK [] kvs)) from ⟨hlen, hm, merged [] prs, KV.merge rel .nil, hd'⟩), rfl, q _ (I.hok.fresh (Nat.le_refl _))⟩
theorem dprs_keys {α β : Type} : ∀ (ss : List Str) (xs : List α) (ys : List β) (ks : List (List L2.Key)) (vs : List α) (ws : List β), xs.length = ys.length → (dprsK ss xs ks vs).1 = (dprsK ss ys ks ws).1
  | [], _, _, _, _, _, _ => by simp [dprsK]
  | _ :: _, [], [], _, _, _, _ => rfl
  | _ :: _, [], _ :: _, _, _, _, h => by simp at h
  | _ :: _, _ :: _, [], _, _, _, h => by simp at h
  | s :: ss, x :: xs, y :: ys, ks, vs, ws, h => by
    rw [dprsK, dprsK]
    exact dprs_keys ss xs ys _ _ _ (by simpa using h)
theorem dprs_ok {α : Type} : ∀ (ss : List Str) (xs : List α) (ks : List (List L2.Key)) (vs : List α), dOk false ks → ks.length = vs.length → dOk false (dprsK ss xs ks vs).1 ∧ (dprsK ss xs ks vs).1.length = (dprsK ss xs ks vs).2.length
  | [], _, _, _, h1, h2 => by simpa [dprsK] using ⟨h1, h2⟩
  | _ :: _, [], _, _, h1, h2 => ⟨h1, h2⟩
  | s :: ss, x :: xs, ks, vs, h1, h2 => by
    rw [dprsK]
    exact dprs_ok ss xs _ _ (dOk_put h1 fun _ => ⟨.inr s, rfl⟩) (dputK_len ks vs _ x h2)
theorem dprs_merge : ∀ (ss : List Str) (xs : List V) (ks : List (List L2.Key)) (vs : List V), dOk false ks → ks.length = vs.length → mergeK ((ks.map k1).zip vs) ((ss.map Sum.inr).zip xs) = ((dprsK ss xs ks vs).1.map k1).zip (dprsK ss xs ks vs).2
  | [], _, _, _, _, _ => by simp [dprsK, mergeK]
  | _ :: _, [], _, _, _, _ => by simp [dprsK, mergeK]
  | s :: ss, x :: xs, ks, vs, h1, h2 => by
    rw [dprsK, ← dprs_merge ss xs _ _ (dOk_put h1 fun _ => ⟨.inr s, rfl⟩) (dputK_len ks vs _ x h2)]
    rw [List.map_cons, List.zip_cons_cons]
    show mergeK (putK _ _ _) _ = _
    rw [putK_zip _ _ _ _ (by rw [List.length_map]; exact h2), dputK_k1 h1, dputV_k1 h1]
theorem Reps.dprs {K : PySem.W.Frag} {H : Hp} {hot : List Addr} : ∀ (ss : List Str) {xs : List V} {es : List D} {A : List Addr} {ks : List (List L2.Key)} {vs : List V} {ds : List D} {B : List Addr}, Reps K H hot 0 xs es A → Reps K H hot 0 vs ds B → Reps K H hot 0 (dprsK ss xs ks vs).2 (dprsK ss es ks ds).2 []
  | [], _, _, _, _, _, _, _, _, h => by
    have e := h.zero
    subst e
    simpa [dprsK] using h
  | _ :: _, _, _, _, _, _, _, _, .nil _, h => by
    have e := h.zero
    subst e
    exact h
  | s :: ss, _, _, _, ks, _, _, _, .cons hx hxs, h => by
    rw [dprsK, dprsK]
    have e := hx.zero
    subst e
    exact Reps.dprs ss hxs (Reps.dput _ h hx)
end
end Ly

set_option Elab.async false
set_option linter.all false
set_option maxRecDepth 100000
set_option maxHeartbeats 2000000
/-! sorted(a set of ints), more of them. -/
namespace L2
open PySem PySem.Spec PyProof.Rows
section
variable {prog : Program} {w : World} {A : Around} {E : Value → Shared → Prop} {s : Shared} {a : Addr}
theorem sorted_set2 {S : Int → Bool} {n : Nat} {Q : Value → Shared → Prop} (R : SetR w s.heap a S n) (hh : A.handled = none) (h64 : n < 4096)
    (hQ : ∀ s' p (out : Array Value) (c : Nat) (ns : List Int), (∀ b o, s.heap.get? b = some o → s'.heap.get? b = some o) → s'.gens = s.gens → s'.os = s.os → s.heap.objs.size ≤ p →
      s'.heap.get? p = some (seqObj "list" out c) → IntsAre out.toList ns → ns.Pairwise (· < ·) → (∀ k, k ∈ ns ↔ S k = true) → ns.length = n → Q (.ref p) s') :
    wpAny (model prog w) A (call (.builtin "sorted") [.ref a]) Q E s := by
  obtain ⟨o, es, ep, t, ho, hex, hd, g, nd, hm, hb, hf, hn, hr, hl⟩ := R
  refine Calls.call_function_entry kind_sorted plain_sorted entry_sorted (args_sorted1 _) ?_
  unfold Builtin.«sorted»
  refine wpAny_bind (m := checkCount "sorted" 1 1 _) (wpAny_pure ?_)
  refine wpAny_bind (collect_set (A := A.in1) hh ⟨o, ho, hex.1, hd⟩ hf hb hr hl fun s1 vs k1 hz g1 o1 pm => ?_)
  have hvl : vs.length = n := by rw [pm.length_eq, List.length_map, Array.length_toList]; exact hn
  have hI : IntsAre vs (vs.map Builtin.Re.reRawOf) := ints_of vs fun v hv => by
    obtain ⟨e, he, q⟩ := List.mem_map.mp (pm.mem_iff.mp hv)
    obtain ⟨k, tk, h1, _⟩ := g e he
    exact ⟨k, tk, by rw [← q]; exact h1⟩
  have pk : (vs.map Builtin.Re.reRawOf).Perm (es.toList.map keyOf) := by
    have q := pm.map Builtin.Re.reRawOf
    rw [List.map_map] at q
    exact q
  refine wpAny_bind (wpAny_newList ?_ (by rw [hvl, sizeLine_eq]; omega))
  have hoL : (s1.heap.push (seqObj "list" vs.toArray 0)).get? s1.heap.objs.size = some (seqObj "list" vs.toArray 0) := Heap.get?_push_size _ rfl
  refine wpAny_bind (wpAny_holding (wpAny_call_entry slot_list_sort ⟨_, hoL, rfl⟩ entry_list_sort (SrtO.list_sort_ord SrtO.swo_int hoL (by rw [hvl, sizeLine_eq]; omega) (fun h2 => SrtO.ints_sortable hI h2) fun out h1 h2 => ⟨_, rfl, ?_⟩) (args_list_sort _)))
  obtain ⟨a1, a2, a3⟩ := SrtO.ints_out hI h1 h2
  obtain ⟨c, hc⟩ := sortedHeap_at (vs := vs) (out := out.toArray) hoL
  have pn : (out.map SrtO.iv).Perm (es.toList.map keyOf) := a2.trans pk
  refine wpAny_pure ⟨_, rfl, hQ _ s1.heap.objs.size out.toArray c (out.map SrtO.iv) (fun b u e => ?_) g1 o1 hz hc a1 (lt_of_le_nodup (out.map SrtO.iv) a3 (pn.nodup_iff.mpr nd)) (fun k => by rw [pn.mem_iff, ← hm k]) ?_⟩
  · have q := k1 b u e
    have hlt := Heap.lt_size q
    show (sortedHeap (s1.heap.push (seqObj "list" vs.toArray 0)) s1.heap.objs.size vs out.toArray).get? b = some u
    rw [sortedHeap_old (Nat.ne_of_lt hlt) (by rw [size_push']; exact Nat.lt_succ_of_lt hlt)]
    exact Heap.get?_push_of_some _ q
  · rw [pn.length_eq, List.length_map, Array.length_toList]; exact hn
end
section
variable {X : Cx}
/-- sorted(found), fewer than 4,096 members -/
def rSortedSet2 (w : World) : List V → Hp → VK → Prop := fun vs H Q => ∃ (a : Addr) (S : Int → Bool) (n : Nat), vs = [V.ref a] ∧ H a = some (SetO w a S n) ∧ n < 4096 ∧
  ∀ (ns : List Int) (p : Addr), ns.Pairwise (· < ·) → (∀ k : Int, k ∈ ns ↔ S k = true) → ns.length = n → H p = none → Q (.ref p) (upd H p (.lst (ns.map V.int)))
theorem cr_sortedSet2 (hc : X.calm = true) : CallR X (.builtin "sorted") (rSortedSet2 X.w) := by
  intro pins s σ H vs us Q I r h
  obtain ⟨a, S, n, rfl, ha, h64, q⟩ := h
  have R := setO_get I ha
  rw [Vals.ref1 r]
  refine sorted_set2 R (I.ok.hd hc) h64 fun s' p out c ns k g o hp hg hi hs hm hl => ?_
  have hlen : (ns.map V.int).length ≤ sizeLine := by rw [List.length_map, hl, sizeLine_eq]; omega
  have hn : H p = none := I.hok.fresh hp
  have J : Inv X pins σ (upd H p (.lst (ns.map V.int))) { s with heap := s'.heap, gens := s'.gens, drawn := s'.drawn, toks := s'.toks } :=
    I.call (ch := []) (Un.laid k hp hn) (I.hok.laid k hp ⟨hlen, out.toList, c, vals_of_ints hi, hg⟩) (by rw [g]; exact I.bare) (fun _ z => nomatch z)
  have e : s' = { s with heap := s'.heap, gens := s'.gens, drawn := s'.drawn, toks := s'.toks } := by
    cases s'
    cases s
    cases o
    rfl
  rw [e]
  exact ⟨.ref p, _, J, rfl, q ns p hs hm hl hn⟩
end
end L2

set_option Elab.async false
set_option linter.all false
set_option maxRecDepth 100000
set_option maxHeartbeats 2000000
/-! Operators, calls of built-ins, subscripts: what they give, over states. -/
namespace Ly
open PySem PySem.Spec PyProof.Rows L2
section
variable {K : PySem.W.Frag} {EX : Addr → Nat → Prop} {H0 H : Hp} {S : List Addr} {ts t1 : List Tm} {σ : L2.St} {r : Env}

theorem RepT.int_eq {S hot : List Addr} {j : Nat} {v : V} {i : Int} (h : RepT K H S hot j v (.int i)) : v = .int i := by cases h; rfl
theorem RepT.str_eq {S hot : List Addr} {j : Nat} {v : V} {i : Str} (h : RepT K H S hot j v (.str i)) : v = .str i := by cases h; rfl
theorem RepT.bl_eq {S hot : List Addr} {j : Nat} {v : V} {i : Bool} (h : RepT K H S hot j v (.bl i)) : v = .bl i := by cases h; rfl
theorem RepT.non_eq {S hot : List Addr} {j : Nat} {v : V} (h : RepT K H S hot j v .non) : v = .non := by cases h; rfl
theorem RepT.tup_ex {S hot : List Addr} {j : Nat} {v : V} {ds : List D} (h : RepT K H S hot j v (.tup ds)) : ∃ a vs, v = .ref a ∧ SqT K H a vs ∧ RepTs K H S hot (j - 1) vs ds := by
  cases h with
  | tup h hs => exact ⟨_, _, rfl, h.sq, hs⟩
theorem RepT.tup_exF {S hot : List Addr} {j : Nat} {v : V} {ds : List D} (h : RepT K H S hot j v (.tup ds)) : ∃ a vs, v = .ref a ∧ TupF K H a vs ds ∧ RepTs K H S hot (j - 1) vs ds := by
  cases h with
  | tup h hs => exact ⟨_, _, rfl, h, hs⟩
theorem RepT.lst_ex {S hot : List Addr} {j : Nat} {v : V} {ds : List D} (h : RepT K H S hot j v (.lst ds)) : ∃ a vs, v = .ref a ∧ SqL K H a vs ∧ RepTs K H S hot (j - 1) vs ds := by
  cases h with
  | lst0 h hs => exact ⟨_, _, rfl, h.seq, hs⟩
  | lstS h hs => exact ⟨_, _, rfl, h.seq, hs⟩
theorem RepTs.length {S hot : List Addr} {j : Nat} : ∀ {vs : List V} {ds : List D}, RepTs K H S hot j vs ds → vs.length = ds.length
  | _, _, .nil _ => rfl
  | _, _, .cons _ hs => by rw [List.length_cons, List.length_cons, RepTs.length hs]
theorem RepTs.append {S hot : List Addr} {j : Nat} : ∀ {vs ws : List V} {ds es : List D}, RepTs K H S hot j vs ds → RepTs K H S hot j ws es → RepTs K H S hot j (vs ++ ws) (ds ++ es)
  | _, _, _, _, .nil _, h => h
  | _, _, _, _, .cons h hs, h2 => .cons h (RepTs.append hs h2)
theorem RepTs.take {S hot : List Addr} {j : Nat} : ∀ {vs : List V} {ds : List D} (n : Nat), RepTs K H S hot j vs ds → RepTs K H S hot j (vs.take n) (ds.take n)
  | _, _, 0, _ => .nil j
  | _, _, _ + 1, .nil _ => .nil j
  | _, _, n + 1, .cons h hs => .cons h (RepTs.take n hs)
theorem RepTs.drop {S hot : List Addr} {j : Nat} : ∀ {vs : List V} {ds : List D} (n : Nat), RepTs K H S hot j vs ds → RepTs K H S hot j (vs.drop n) (ds.drop n)
  | _, _, 0, h => h
  | _, _, _ + 1, .nil _ => .nil j
  | _, _, n + 1, .cons h hs => RepTs.drop n hs
theorem RepTs.get {S hot : List Addr} {j : Nat} : ∀ {vs : List V} {ds : List D} {n : Nat} {d : D}, RepTs K H S hot j vs ds → ds[n]? = some d → ∃ v, vs[n]? = some v ∧ RepT K H S hot j v d
  | _, _, _, _, .nil _, e => by simp at e
  | _, _, 0, _, .cons h _, e => by simp at e; subst e; exact ⟨_, rfl, h⟩
  | _, _, n + 1, _, .cons _ hs, e => by
    obtain ⟨v, e1, h⟩ := RepTs.get (n := n) hs (by simpa using e)
    exact ⟨v, by simpa using e1, h⟩
theorem lmulB_ok {k : Int} {n : Nat} (h : lmulB k n = true) : -(2 ^ 63) ≤ k ∧ k < 2 ^ 63 ∧ n * k.toNat ≤ LN := by
  unfold lmulB at h
  rw [Bool.and_eq_true] at h
  have h1 := of_decide_eq_true h.1
  have h2 := of_decide_eq_true h.2
  refine ⟨by omega, by omega, Nat.le_trans (Nat.mul_le_mul_left n (by omega)) h2⟩
theorem RepTs.rep {S hot : List Addr} {j : Nat} {vs : List V} {ds : List D} (h : RepTs K H S hot j vs ds) : ∀ k : Nat, RepTs K H S hot j (List.replicate k vs).flatten (List.replicate k ds).flatten
  | 0 => .nil j
  | k + 1 => by
    rw [List.replicate_succ, List.replicate_succ, List.flatten_cons, List.flatten_cons]
    exact RepTs.append h (RepTs.rep h k)
theorem RepTs.cut {S hot : List Addr} {j : Nat} {vs : List V} {ds : List D} (h : RepTs K H S hot j vs ds) (lo hi : Option Int) : RepTs K H S hot j (cutV vs lo hi) (cutD ds lo hi) := by
  unfold cutV cutD
  rw [h.length]
  exact (h.drop _).take _
theorem RepTs.ints {S hot : List Addr} {j : Nat} : ∀ {vs : List V} {ds : List D} {is : List Int}, RepTs K H S hot j vs ds → asInts ds = some is → vs = is.map V.int
  | _, _, is, .nil _, e => by simp [asInts] at e; subst e; rfl
  | _, _, is, .cons (d := d) h hs, e => by
    cases d with
    | int i =>
      simp only [asInts, Option.map_eq_some_iff] at e
      obtain ⟨js, e1, rfl⟩ := e
      rw [h.int_eq, RepTs.ints hs e1]
      rfl
    | _ => simp [asInts] at e
theorem RepTs.bls {S hot : List Addr} {j : Nat} : ∀ {vs : List V} {ds : List D} {is : List Bool}, RepTs K H S hot j vs ds → asBls ds = some is → vs = is.map V.bl
  | _, _, is, .nil _, e => by simp [asBls] at e; subst e; rfl
  | _, _, is, .cons (d := d) h hs, e => by
    cases d with
    | bl i =>
      simp only [asBls, Option.map_eq_some_iff] at e
      obtain ⟨js, e1, rfl⟩ := e
      rw [h.bl_eq, RepTs.bls hs e1]
      rfl
    | _ => simp [asBls] at e

theorem Sta.peek {v : V} {j : Nat} {d : D} (st : Sta K EX H0 S (.brw v j d :: ts) σ r H) : ∃ hot, RepT K H S hot j v d := by
  obtain ⟨_, _, A, B, _, _, hT, _⟩ := st
  cases hT with
  | cons h hs =>
    cases h with
    | brw h => exact ⟨_, h⟩
theorem Sta.peek2 {v w : V} {i j : Nat} {d e : D} (st : Sta K EX H0 S (.brw w j e :: .brw v i d :: ts) σ r H) : ∃ hot, RepT K H S hot i v d ∧ RepT K H S hot j w e := by
  obtain ⟨_, _, A, B, _, _, hT, _⟩ := st
  cases hT with
  | cons h hs =>
    cases h with
    | brw h =>
      cases hs with
      | cons h2 hs2 =>
        cases h2 with
        | brw h2 => exact ⟨_, h2, h⟩
theorem Sta.peeks {vs : List V} {j : Nat} {ds : List D} (st : Sta K EX H0 S (.brws vs j ds :: ts) σ r H) : ∃ hot, RepTs K H S hot j vs ds := by
  obtain ⟨_, _, A, B, _, _, hT, _⟩ := st
  cases hT with
  | cons h hs =>
    cases h with
    | brws h => exact ⟨_, h⟩
/-- what hangs on no list of one's own is put on top -/
theorem Sta.push0 {v : V} {d : D} (st : Sta K EX H0 S ts σ r H) (h : ∀ hot, Rep K H hot 0 v d []) : Sta K EX H0 S (.own v 0 d :: ts) σ r H :=
  Sta.step (t1 := []) (t2 := [.own v 0 d]) st (Same.refl H) fun hot A1 nd sub dom hS q => ⟨[], .nil, fun _ z => (by simp at z), fun hot' h1 h2 h3 h4 => .mk1 (.own (h hot'))⟩
theorem same_upd {p : Addr} {o : HO} (h : H p = none) : Same H (upd H p o) := fun b x e => by
  rw [upd_ne (ne_of_none e h)]
  exact e
/-- a new list of what is nobody's own -/
theorem Sta.newL {p : Addr} {vs : List V} {ds : List D} (st : Sta K EX H0 S (t1 ++ ts) σ r H) (hp : H p = none) (f : ∀ hot A1, Tms K H S hot t1 A1 → RepTs K H S hot 0 vs ds) :
    Sta K EX H0 S (.own (.ref p) 1 (.lst ds) :: ts) σ r (upd H p (.lst vs)) :=
  Sta.step (t1 := t1) (t2 := [.own (.ref p) 1 (.lst ds)]) st (same_upd hp) fun hot A1 nd sub dom hS q => by
    refine ⟨[p], by simp, fun a ha => .inr (by simp at ha; subst ha; exact hp), fun hot' h1 h2 h3 h4 => .mk1 (.own ?_)⟩
    have e := (f hot A1 q).frame (H' := upd H p (.lst vs)) (X := []) (S' := S) (hot' := hot') (fun a _ o e => same_upd hp a o e) (fun _ z => (by simp at z)) (fun _ z => (by simp at z)) hS
      (fun a ha => (h1 a ha).imp id fun z => by simp at z; subst z; exact hp) (fun a ha => .inl ha)
    have e2 := e.zero
    exact .lstS upd_same e2
theorem isPrs_head {d : D} {ds : List D} (h : isPrs (d :: ds) = true) : ∃ es, d = .tup es := by
  simp only [isPrs, Bool.and_eq_true] at h
  cases d <;> first | exact ⟨_, rfl⟩ | (simp [isPr] at h)
theorem Reps.nokey {hot : List Addr} {l : Nat} {vs : List V} {ds : List D} {A : List Addr} (h : Reps K H hot l vs ds A) (hp : isPrs ds = true) : ∃ v ∈ vs, ∀ k : L2.Key, v ≠ L2.kV k := by
  cases h with
  | nil => simp [isPrs] at hp
  | cons h hs =>
    obtain ⟨es, rfl⟩ := isPrs_head hp
    cases h
    exact ⟨_, List.mem_cons_self, fun k z => by cases k <;> cases z⟩
theorem tupF_new {hot : List Addr} {l : Nat} {p : Addr} {o : Obj} {vs : List V} {ds : List D} {A : List Addr} (hd : o.dict = none) (h : Reps K H hot l vs ds A) : TupF K (upd H0 p (tO (isPrs ds) o vs)) p vs ds := by
  cases e : isPrs ds with
  | false => exact ⟨.inl upd_same, fun z => by rw [e] at z; cases z⟩
  | true => exact ⟨.inr ⟨.inl (.inr ⟨o, upd_same⟩), h.nokey e⟩, fun _ => ⟨o, upd_same, hd⟩⟩
theorem tupF_new0 {p : Addr} {vs : List V} {ds : List D} (h : isPrs ds = false) : TupF K (upd H0 p (.tup vs)) p vs ds := ⟨.inl upd_same, fun z => by rw [h] at z; cases z⟩
theorem Sta.newT {p : Addr} {o : Obj} {vs : List V} {ds : List D} (st : Sta K EX H0 S (t1 ++ ts) σ r H) (hp : H p = none) (hd : o.dict = none) (f : ∀ hot A1, Tms K H S hot t1 A1 → RepTs K H S hot 0 vs ds) :
    Sta K EX H0 S (.own (.ref p) 0 (.tup ds) :: ts) σ r (upd H p (tO (isPrs ds) o vs)) :=
  Sta.step (t1 := t1) (t2 := [.own (.ref p) 0 (.tup ds)]) st (same_upd hp) fun hot A1 nd sub dom hS q => by
    refine ⟨[], by simp, fun a ha => (by simp at ha), fun hot' h1 h2 h3 h4 => .mk1 (.own ?_)⟩
    have e := (f hot A1 q).frame (H' := upd H p (tO (isPrs ds) o vs)) (X := []) (S' := S) (hot' := hot') (fun a _ o e => same_upd hp a o e) (fun _ z => (by simp at z)) (fun _ z => (by simp at z)) hS
      (fun a ha => (h1 a ha).imp id fun z => by simp at z) (fun a ha => .inl ha)
    exact .tup (tupF_new hd e.zero) e.zero
/-- what is read is read on -/
theorem Sta.same0 {v : V} {d : D} (st : Sta K EX H0 S (t1 ++ ts) σ r H) (f : ∀ hot A1, Tms K H S hot t1 A1 → RepT K H S hot 0 v d) : Sta K EX H0 S (.own v 0 d :: ts) σ r H :=
  Sta.step (t1 := t1) (t2 := [.own v 0 d]) st (Same.refl H) fun hot A1 nd sub dom hS q => by
    refine ⟨[], by simp, fun a ha => (by simp at ha), fun hot' h1 h2 h3 h4 => .mk1 (.own ?_)⟩
    exact ((f hot A1 q).less hS fun a ha => (h1 a ha).elim id fun z => by simp at z).zero
theorem Tms.brw2 {S hot : List Addr} {v w : V} {i j : Nat} {d e : D} {A : List Addr} (q : Tms K H S hot [.brw w j e, .brw v i d] A) : RepT K H S hot i v d ∧ RepT K H S hot j w e := by
  obtain ⟨A1, A2, _, h1, h2⟩ := q.two
  cases h1 with
  | brw h1 =>
    cases h2 with
    | brw h2 => exact ⟨h2, h1⟩
theorem Tms.brw1 {S hot : List Addr} {v : V} {i : Nat} {d : D} {A : List Addr} (q : Tms K H S hot [.brw v i d] A) : RepT K H S hot i v d := by
  have h := q.one
  cases h with
  | brw h => exact h
theorem Tms.brws1 {S hot : List Addr} {vs : List V} {i : Nat} {ds : List D} {A : List Addr} (q : Tms K H S hot [.brws vs i ds] A) : RepTs K H S hot i vs ds := by
  have h := q.one
  cases h with
  | brws h => exact h
theorem sqL_inj0 {a : Addr} {xs ys : List V} (h1 : SqL K H a xs) (h2 : SqL K H a ys) (I : ∀ {xs ys}, SqL K H a xs → SqL K H a ys → xs = ys) : xs = ys := I h1 h2
end

section
variable {X : Cx} {EX : Addr → Nat → Prop}
theorem repS_len (a : Array Nat) : ∀ (n : Nat) (z : Array Nat), ((List.replicate n a).foldl (· ++ ·) z).size = z.size + n * a.size
  | 0, z => by simp
  | n + 1, z => by
    rw [List.replicate_succ, List.foldl_cons, repS_len a n, Array.size_append, Nat.succ_mul]
    omega
/-- a text times a number -/
theorem op_rep_str : OpR X (binaryOp .Mult) (fun x y H Q => ∃ (a : Str) (k : Int), x = .str a ∧ y = .int k ∧ 2 ≤ k ∧ k ≤ 1000 ∧ 1 ≤ a.length ∧ a.length ≤ 1000 ∧ Q (.str ⟨(List.replicate k.toNat a.cps).foldl (· ++ ·) #[]⟩) H) := by
  intro pins s σ H x y v u Q I rx ry h
  obtain ⟨a, k, rfl, rfl, k2, k3, a1, a2, q⟩ := h
  obtain ⟨t, rfl⟩ := rx
  obtain ⟨t', rfl⟩ := ry
  have hn1 : ¬ k < 1 := by omega
  have hc : (k == 1 || a.length == 0) = false := by
    rw [Bool.or_eq_false_iff, beq_eq_false_iff_ne, beq_eq_false_iff_ne]
    omega
  have hmul : a.length * k.toNat ≤ 1000 * 1000 := Nat.mul_le_mul a2 (by omega)
  have hlen : (⟨(List.replicate k.toNat a.cps).foldl (· ++ ·) #[]⟩ : Str).length = a.length * k.toNat := by
    show ((List.replicate k.toNat a.cps).foldl (· ++ ·) #[]).size = _
    rw [repS_len, Nat.mul_comm]
    simp [Str.length]
  refine PySem.P.mul_str ?_ (fun _ _ => ?_) (fun _ _ => ?_) ?_
  · rw [decide_eq_false (by omega), decide_eq_false (by omega)]; rfl
  · intro hgt
    have hk : (a.length : Int) * k ≤ 2 ^ 63 - 1 := by
      have e : (a.length : Int) * k = ((a.length * k.toNat : Nat) : Int) := by
        rw [Int.natCast_mul, Int.toNat_of_nonneg (by omega)]
      rw [e]
      omega
    have := Int.le_ediv_of_mul_le (show (0 : Int) < k by omega) hk
    omega
  · unfold PySem.Builtin.Str.tooLong
    rw [decide_eq_false]
    rw [sizeLine_eq]
    omega
  · rw [if_neg hn1, if_neg (by rw [hc]; simp)]
    exact ⟨by rw [hlen, sizeLine_eq]; omega, ⟨.str _, H, I.tok _, ⟨_, rfl⟩, q⟩⟩
def rSBin (K : PySem.W.Frag) (EX : Addr → Nat → Prop) (o : Bo) : R2 := fun x y H Q => ∃ H0 S ts σ r dx dy l z, Sta K EX H0 S (.brw y 1 dy :: .brw x 1 dx :: ts) σ r H ∧ binop o dx dy = some (l, z) ∧ ∀ v H', Sta K EX H0 S (.own v l z :: ts) σ r H' → Q v H'
def opOf : Bo → Operator
  | .add => .Add
  | .sub => .Sub
  | .mul => .Mult
  | .div => .FloorDiv
  | .mod => .Mod
  | .pow => .Pow
theorem ln_eq : (LN : Nat) = sizeLine := by rw [sizeLine_eq]
theorem pow_bound {i : Int} (h : i.natAbs < 2 ^ 64) : -(2 ^ 64) < i ∧ i < 2 ^ 64 := by omega
theorem op_bin (o : Bo) : OpR X (binaryOp (opOf o)) (rSBin X.K EX o) := by
  intro pins s σ H x y v u Q I rx ry h
  obtain ⟨H0, S, ts, σ', r, dx, dy, l, z, st, e, q⟩ := h
  obtain ⟨hot, h1, h2⟩ := st.peek2
  have scal : ∀ w d, (∀ hot, Rep X.K H hot 0 w d []) → l = 0 → z = d → Q w H := fun w d f e1 e2 => by
    subst e1; subst e2
    exact q w H (st.pop.pop.push0 f)
  cases o with
  | add =>
    cases dx <;> cases dy <;> simp only [binop, reduceCtorEq] at e
    · rename_i i j
      cases e
      rw [h1.int_eq] at rx
      rw [h2.int_eq] at ry
      exact op_add pins s σ H _ _ v u Q I rx ry ⟨i, j, rfl, rfl, scal _ _ (fun _ => .int 0 _) rfl rfl⟩
    · rename_i i j
      split at e
      · rename_i hz
        cases e
        rw [h1.str_eq] at rx
        rw [h2.str_eq] at ry
        exact op_add_str pins s σ H _ _ v u Q I rx ry ⟨i, j, rfl, rfl, by rw [← ln_eq]; exact hz, scal _ _ (fun _ => .str 0 _) rfl rfl⟩
      · cases e
    · rename_i as bs
      split at e
      · rename_i hz
        cases e
        obtain ⟨a, vs, rfl, ha, hs⟩ := h1.tup_ex
        obtain ⟨b, ws, rfl, hb, ks⟩ := h2.tup_ex
        have e1 := hs.length
        have e2 := ks.length
        refine op_catB pins s σ H _ _ v u Q I rx ry ⟨a, b, vs, ws, isPrs (as ++ bs), rfl, rfl, ha, hb, by rw [e1, e2, ← ln_eq]; exact hz, fun ev => ?_, fun _ ew => ?_, fun _ _ p o hp hod => ?_⟩
        · subst ev
          have : as = [] := List.eq_nil_of_length_eq_zero (by rw [← e1]; rfl)
          subst this
          exact q _ H (Sta.same0 (t1 := [_, _]) st fun hot A q => by rw [List.nil_append]; exact (by
            obtain ⟨_, g2⟩ := q.brw2
            obtain ⟨b', ws', eb, hb', ks'⟩ := g2.tup_exF
            cases eb
            exact .tup hb' ks'))
        · subst ew
          have : bs = [] := List.eq_nil_of_length_eq_zero (by rw [← e2]; rfl)
          subst this
          exact q _ H (Sta.same0 (t1 := [_, _]) st fun hot A q => by rw [List.append_nil]; exact (by
            obtain ⟨g1, _⟩ := q.brw2
            obtain ⟨b', ws', eb, hb', ks'⟩ := g1.tup_exF
            cases eb
            exact .tup hb' ks'))
        · refine q _ _ (Sta.newT (t1 := [_, _]) st hp hod fun hot A q => ?_)
          obtain ⟨g1, g2⟩ := q.brw2
          obtain ⟨_, _, e3, k1, k2⟩ := g1.tup_ex
          obtain ⟨_, _, e4, k3, k4⟩ := g2.tup_ex
          cases e3
          cases e4
          rw [I.tuple_inj ha k1, I.tuple_inj hb k3]
          exact k2.append k4
      · cases e
    · rename_i as bs
      split at e
      · rename_i hz
        cases e
        obtain ⟨a, vs, rfl, ha, hs⟩ := h1.lst_ex
        obtain ⟨b, ws, rfl, hb, ks⟩ := h2.lst_ex
        have e1 := hs.length
        have e2 := ks.length
        refine op_catL pins s σ H _ _ v u Q I rx ry ⟨a, b, vs, ws, rfl, rfl, ha, hb, by rw [e1, e2, ← ln_eq]; exact hz, fun p hp => ?_⟩
        refine q _ _ (Sta.newL (t1 := [_, _]) st hp fun hot A q => ?_)
        obtain ⟨g1, g2⟩ := q.brw2
        obtain ⟨_, _, e3, k1, k2⟩ := g1.lst_ex
        obtain ⟨_, _, e4, k3, k4⟩ := g2.lst_ex
        cases e3
        cases e4
        rw [I.list_inj ha k1, I.list_inj hb k3]
        exact k2.append k4
      · cases e
  | sub =>
    cases dx <;> cases dy <;> simp only [binop, reduceCtorEq] at e
    rename_i i j
    cases e
    rw [h1.int_eq] at rx
    rw [h2.int_eq] at ry
    exact op_sub pins s σ H _ _ v u Q I rx ry ⟨i, j, rfl, rfl, scal _ _ (fun _ => .int 0 _) rfl rfl⟩
  | mul =>
    cases dx <;> cases dy <;> simp only [binop, reduceCtorEq] at e
    · rename_i i j
      split at e
      · rename_i hz
        cases e
        rw [h1.int_eq] at rx
        rw [h2.int_eq] at ry
        have fin := scal (.int (i * j)) (.int (i * j)) (fun _ => .int 0 _) rfl rfl
        rcases hz with hz | hz | ⟨hz1, hz2⟩
        · exact op_mul pins s σ H _ _ v u Q I rx ry ⟨i, j, rfl, rfl, .inl (pow_bound hz), fin⟩
        · exact op_mul pins s σ H _ _ v u Q I rx ry ⟨i, j, rfl, rfl, .inr (pow_bound hz), fin⟩
        · exact op_mulW pins s σ H _ _ v u Q I rx ry ⟨i, j, rfl, rfl, wide_mul hz1 hz2 (by decide) (by decide) (by decide), fin⟩
      · cases e
    · rename_i a k
      split at e
      · rename_i hz
        cases e
        rw [h1.str_eq] at rx
        rw [h2.int_eq] at ry
        exact op_rep_str pins s σ H _ _ v u Q I rx ry ⟨a, k, rfl, rfl, hz.1, hz.2.1, hz.2.2.1, hz.2.2.2, scal _ _ (fun _ => .str 0 _) rfl rfl⟩
      · cases e
    · rename_i as k
      split at e
      · rename_i hz
        cases e
        obtain ⟨a, vs, rfl, ha, hs⟩ := h1.tup_ex
        rw [h2.int_eq] at ry
        have e1 := hs.length
        refine op_repB pins s σ H _ _ v u Q I rx ry ⟨a, k, vs, isPrs (List.replicate k.toNat as).flatten, rfl, rfl, ha, fun ev => hz.1 (List.eq_nil_of_length_eq_zero (by rw [← e1, ev]; rfl)), hz.2.1, hz.2.2.1, by rw [e1]; exact hz.2.2.2, fun p o hp hod => ?_⟩
        refine q _ _ (Sta.newT (t1 := [_, _]) st hp hod fun hot A q => ?_)
        obtain ⟨g1, g2⟩ := q.brw2
        obtain ⟨_, _, e3, k1, k2⟩ := g1.tup_ex
        cases e3
        rw [I.tuple_inj ha k1]
        exact k2.rep _
      · split at e
        · rename_i hk
          cases e
          obtain ⟨a, vs, rfl, ha, hs⟩ := h1.tup_ex
          rw [h2.int_eq, hk] at ry
          exact op_repT1 pins s σ H _ _ v u Q I rx ry ⟨a, vs, rfl, rfl, ha, q _ H (Sta.same0 (t1 := [_, _]) st fun hot A q => (by
            obtain ⟨g1, _⟩ := q.brw2
            obtain ⟨_, _, e3, k1, k2⟩ := g1.tup_exF
            cases e3
            exact .tup k1 k2))⟩
        · cases e
    · rename_i as k
      split at e
      · rename_i hz
        cases e
        obtain ⟨a, vs, rfl, ha, hs⟩ := h1.lst_ex
        rw [h2.int_eq] at ry
        refine op_repL pins s σ H _ _ v u Q I rx ry ⟨a, k, vs, rfl, rfl, ha, (lmulB_ok hz).1, (lmulB_ok hz).2.1, by rw [hs.length, ← ln_eq]; exact (lmulB_ok hz).2.2, fun p hp => ?_⟩
        refine q _ _ (Sta.newL (t1 := [_, _]) st hp fun hot A q => ?_)
        obtain ⟨g1, g2⟩ := q.brw2
        obtain ⟨_, _, e3, k1, k2⟩ := g1.lst_ex
        cases e3
        rw [I.list_inj ha k1]
        exact k2.rep _
      · cases e
  | div =>
    cases dx <;> cases dy <;> simp only [binop, reduceCtorEq] at e
    rename_i i j
    split at e
    · rename_i hz
      cases e
      rw [h1.int_eq] at rx
      rw [h2.int_eq] at ry
      exact op_fdivW pins s σ H _ _ v u Q I rx ry ⟨i, j, rfl, rfl, wide_div hz.1 hz.2 (by decide) (by decide), scal _ _ (fun _ => .int 0 _) rfl rfl⟩
    · cases e
  | mod =>
    cases dx <;> cases dy <;> simp only [binop, reduceCtorEq] at e
    rename_i i j
    split at e
    · rename_i hz
      cases e
      rw [h1.int_eq] at rx
      rw [h2.int_eq] at ry
      exact op_mod pins s σ H _ _ v u Q I rx ry ⟨i, j, rfl, rfl, hz, scal _ _ (fun _ => .int 0 _) rfl rfl⟩
    · cases e
  | pow =>
    cases dx <;> cases dy <;> simp only [binop, reduceCtorEq] at e
    rename_i i j
    split at e
    · rename_i hz
      cases e
      rw [h1.int_eq] at rx
      rw [h2.int_eq] at ry
      exact op_pow pins s σ H _ _ v u Q I rx ry ⟨i, j, rfl, rfl, hz, scal _ _ (fun _ => .int 0 _) rfl rfl⟩
    · cases e

def cmpOf : Co → CmpOp
  | .eq => .Eq
  | .ne => .NotEq
  | .lt => .Lt
  | .le => .LtE
  | .gt => .Gt
  | .ge => .GtE
  | .isn => .Is
  | .nisn => .IsNot
  | .inn => .In
  | .nin => .NotIn
def rSCmp (K : PySem.W.Frag) (c : Co) : R2 := fun x y H Q => ∃ S hot dx dy z, RepT K H S hot 9 x dx ∧ RepT K H S hot 9 y dy ∧ cmpop c dx dy = some z ∧ Q (.bl z) H
theorem shaped_of {d e : D} (h : (okd d && okd e) = true) : SeqAt.shaped d.pd = true ∧ SeqAt.shaped e.pd = true := by
  rw [Bool.and_eq_true] at h
  exact ⟨okd_shaped h.1, okd_shaped h.2⟩
theorem any_pds (x : D) : ∀ ds : List D, (pds ds).any (fun z => PyData.eqv z x.pd) = ds.any fun z => eqd z x
  | [] => rfl
  | d :: ds => by
    show (PyData.eqv d.pd x.pd || (pds ds).any _) = _
    rw [any_pds x ds]
    rfl
theorem nilC_ex {x y : D} (h : nilC x y = true) : ∃ d ds, x = .lst (d :: ds) ∧ y = .lst [] := by
  unfold nilC at h
  split at h
  · exact ⟨_, _, rfl, rfl⟩
  · cases h
theorem nil_lists {pins : List (Addr × Obj)} {s : Shared} {σ : L2.St} {H : Hp} {K : PySem.W.Frag} (I : Inv X pins σ H s) {S hot : List Addr} {x y : V} {v u : Value} {d : D} {ds : List D} (h1 : RepT X.K H S hot 9 x (.lst (d :: ds))) (h2 : RepT X.K H S hot 9 y (.lst [])) (rx : RelV x v) (ry : RelV y u) :
    ∃ (l b : Addr) (i1 i2 : Array Value), v = .ref l ∧ u = .ref b ∧ s.heap.IsList l i1 ∧ s.heap.IsList b i2 ∧ (i1.size != i2.size) = true := by
  have g : ∀ {z : V} {es : List D}, RepT X.K H S hot 9 z (.lst es) → ∃ a vs, z = .ref a ∧ SqL X.K H a vs ∧ vs.length = es.length := by
    intro z es h
    cases h with
    | lstS h hs => exact ⟨_, _, rfl, h.seq, RepTs.length hs⟩
  obtain ⟨a, vs, rfl, q1, e1⟩ := g h1
  obtain ⟨b, ws, rfl, q2, e2⟩ := g h2
  cases (show v = Value.ref a from rx)
  cases (show u = Value.ref b from ry)
  obtain ⟨i1, r1, p1, _⟩ := I.list q1
  obtain ⟨i2, r2, p2, _⟩ := I.list q2
  refine ⟨a, b, _, _, rfl, rfl, p1.isList, p2.isList, ?_⟩
  have l1 := r1.length
  have l2 := r2.length
  simp only [List.length_cons, List.length_nil] at e1 e2
  simp only [List.size_toArray, bne_iff_ne, ne_eq]
  omega
theorem op_cmp (hu : X.A.units + 65 < cLine) (c : Co) : OpR X (compareOp (cmpOf c)) (rSCmp X.K c) := by
  intro pins s σ H x y v u Q I rx ry h
  obtain ⟨S, hot, dx, dy, z, h1, h2, e, q⟩ := h
  cases c with
  | eq =>
    simp only [cmpop] at e
    split at e
    · rename_i hk
      cases e
      obtain ⟨s1, s2⟩ := shaped_of hk
      rw [Bool.and_eq_true] at hk
      exact op_eqD (by omega) pins s σ H x y v u Q I rx ry ⟨dx.pd, dy.pd, h1.dp hk.1, h2.dp hk.2, s1, s2, q⟩
    · split at e
      · rename_i hk
        cases e
        obtain ⟨d, ds, rfl, rfl⟩ := nilC_ex hk
        obtain ⟨l, b, i1, i2, rfl, rfl, p1, p2, p3⟩ := nil_lists (K := X.K) I h1 h2 rx ry
        exact SeqAt.RcAt.lists_lengths p1 p2 p3 (by omega) X.prog X.w _ _ ⟨.bl false, H, I, rfl, q⟩
      · cases e
  | ne =>
    simp only [cmpop] at e
    split at e
    · rename_i hk
      cases e
      obtain ⟨s1, s2⟩ := shaped_of hk
      rw [Bool.and_eq_true] at hk
      exact op_neD (by omega) pins s σ H x y v u Q I rx ry ⟨dx.pd, dy.pd, h1.dp hk.1, h2.dp hk.2, s1, s2, q⟩
    · split at e
      · rename_i hk
        cases e
        obtain ⟨d, ds, rfl, rfl⟩ := nilC_ex hk
        obtain ⟨l, b, i1, i2, rfl, rfl, p1, p2, p3⟩ := nil_lists (K := X.K) I h1 h2 rx ry
        exact SeqAt.RcNeAt.lists_lengths p1 p2 p3 (by omega) X.prog X.w _ _ ⟨.bl true, H, I, rfl, q⟩
      · cases e
  | lt =>
    cases dx <;> cases dy <;> simp only [cmpop, reduceCtorEq] at e
    cases e
    rw [h1.int_eq] at rx
    rw [h2.int_eq] at ry
    exact op_lt pins s σ H _ _ v u Q I rx ry ⟨_, _, rfl, rfl, q⟩
  | le =>
    cases dx <;> cases dy <;> simp only [cmpop, reduceCtorEq] at e
    cases e
    rw [h1.int_eq] at rx
    rw [h2.int_eq] at ry
    exact op_le pins s σ H _ _ v u Q I rx ry ⟨_, _, rfl, rfl, q⟩
  | gt =>
    cases dx <;> cases dy <;> simp only [cmpop, reduceCtorEq] at e
    cases e
    rw [h1.int_eq] at rx
    rw [h2.int_eq] at ry
    exact op_gt pins s σ H _ _ v u Q I rx ry ⟨_, _, rfl, rfl, q⟩
  | ge =>
    cases dx <;> cases dy <;> simp only [cmpop, reduceCtorEq] at e
    cases e
    rw [h1.int_eq] at rx
    rw [h2.int_eq] at ry
    exact op_ge pins s σ H _ _ v u Q I rx ry ⟨_, _, rfl, rfl, q⟩
  | isn =>
    cases dy with
    | non =>
      simp only [cmpop, reduceCtorEq] at e
      cases e
      rw [h2.non_eq] at ry
      refine op_isN pins s σ H _ _ v u Q I rx ry ⟨rfl, ?_⟩
      cases h1 <;> exact q
    | bl b =>
      cases dx <;> simp only [cmpop, reduceCtorEq] at e
      cases e
      rw [h1.bl_eq] at rx
      rw [h2.bl_eq] at ry
      exact op_isBl pins s σ H _ _ v u Q I rx ry ⟨_, _, rfl, rfl, q⟩
    | _ => simp only [cmpop, reduceCtorEq] at e
  | nisn =>
    cases dy with
    | non =>
      simp only [cmpop, reduceCtorEq] at e
      cases e
      rw [h2.non_eq] at ry
      refine op_notN pins s σ H _ _ v u Q I rx ry ⟨rfl, ?_⟩
      cases h1 <;> exact q
    | bl b =>
      cases dx <;> simp only [cmpop, reduceCtorEq] at e
      cases e
      rw [h1.bl_eq] at rx
      rw [h2.bl_eq] at ry
      exact op_notBl pins s σ H _ _ v u Q I rx ry ⟨_, _, rfl, rfl, q⟩
    | _ => simp only [cmpop, reduceCtorEq] at e
  | inn =>
    cases dy <;> simp only [cmpop, reduceCtorEq] at e
    · rename_i b
      cases dx <;> simp only [reduceCtorEq] at e
      cases e
      rw [h1.str_eq] at rx
      rw [h2.str_eq] at ry
      exact op_in_str pins s σ H _ _ v u Q I rx ry ⟨_, _, rfl, rfl, q⟩
    · rename_i ds
      split at e
      · rename_i hk
        cases e
        obtain ⟨s1, s2⟩ := shaped_of hk
        rw [Bool.and_eq_true] at hk
        exact op_inDT hu pins s σ H x y v u Q I rx ry ⟨dx.pd, pds ds, h1.dp hk.1, h2.dp hk.2, s1, s2, by rw [any_pds]; exact q⟩
      · cases e
    · rename_i ds
      split at e
      · rename_i hk
        cases e
        obtain ⟨s1, s2⟩ := shaped_of hk
        rw [Bool.and_eq_true] at hk
        exact op_inD hu pins s σ H x y v u Q I rx ry ⟨dx.pd, pds ds, h1.dp hk.1, h2.dp hk.2, s1, s2, by rw [any_pds]; exact q⟩
      · cases e
  | nin =>
    cases dy <;> simp only [cmpop, reduceCtorEq] at e
    · rename_i b
      cases dx <;> simp only [reduceCtorEq] at e
      cases e
      rw [h1.str_eq] at rx
      rw [h2.str_eq] at ry
      exact op_notIn_str pins s σ H _ _ v u Q I rx ry ⟨_, _, rfl, rfl, q⟩
    · rename_i ds
      split at e
      · rename_i hk
        cases e
        obtain ⟨s1, s2⟩ := shaped_of hk
        rw [Bool.and_eq_true] at hk
        exact op_notInDT hu pins s σ H x y v u Q I rx ry ⟨dx.pd, pds ds, h1.dp hk.1, h2.dp hk.2, s1, s2, by rw [any_pds]; exact q⟩
      · cases e
    · rename_i ds
      split at e
      · rename_i hk
        cases e
        obtain ⟨s1, s2⟩ := shaped_of hk
        rw [Bool.and_eq_true] at hk
        exact op_notInD hu pins s σ H x y v u Q I rx ry ⟨dx.pd, pds ds, h1.dp hk.1, h2.dp hk.2, s1, s2, by rw [any_pds]; exact q⟩
      · cases e

/-- a subscript: the item stands for the item -/
def rSIx (K : PySem.W.Frag) (j : Nat) : R2 := fun x y H Q => ∃ S hot dx dy z, RepT K H S hot (j + 1) x dx ∧ RepT K H S hot 9 y dy ∧ ixop dx dy = some z ∧ ∀ v, (∀ hot, RepT K H S hot (j + 1) x dx → RepT K H S hot j v z) → Q v H
theorem atI_rep {K : PySem.W.Frag} {H : Hp} {S hot : List Addr} {j : Nat} {vs : List V} {ds : List D} {i : Int} {z : D} (hs : RepTs K H S hot j vs ds) (e : atD ds i = some z) : ∃ v, atI vs i = some v ∧ RepT K H S hot j v z := by
  unfold atD atI at e
  unfold atI
  rw [hs.length]
  cases hi : ixN ds.length i with
  | none => rw [hi] at e; cases e
  | some n =>
    rw [hi] at e
    exact hs.get e
theorem ix_sem (j : Nat) : IxR X (rSIx X.K j) := by
  intro value slice pins s σ H x y v u Q I rx ry h hs
  obtain ⟨S, hot, dx, dy, z, h1, h2, e, q⟩ := h
  cases dy <;> cases dx <;> simp only [ixop, reduceCtorEq] at e
  · rename_i i a
    split at e
    · rename_i hz
      rw [Option.map_eq_some_iff] at e
      obtain ⟨c, e1, rfl⟩ := e
      rw [h1.str_eq] at rx
      rw [h2.int_eq] at ry
      exact ix_str value slice pins s σ H _ _ v u Q I rx ry ⟨a, i, c, rfl, rfl, by rw [← ln_eq]; exact hz, e1, q _ fun _ _ => .str j _⟩ hs
    · cases e
  · rename_i i ds
    obtain ⟨a, vs, rfl, ha, ks⟩ := h1.tup_ex
    rw [h2.int_eq] at ry
    obtain ⟨w, e1, _⟩ := atI_rep ks e
    refine ix_tup value slice pins s σ H _ _ v u Q I rx ry ⟨a, vs, i, w, rfl, rfl, ha, e1, q w fun hot g => ?_⟩ hs
    obtain ⟨_, vs', e3, k1, k2⟩ := g.tup_ex
    cases e3
    rw [I.tuple_inj ha k1] at e1
    obtain ⟨w', e4, k3⟩ := atI_rep k2 e
    rw [e1] at e4
    cases e4
    exact k3
  · rename_i i ds
    obtain ⟨a, vs, rfl, ha, ks⟩ := h1.lst_ex
    rw [h2.int_eq] at ry
    obtain ⟨w, e1, _⟩ := atI_rep ks e
    refine ix_list value slice pins s σ H _ _ v u Q I rx ry ⟨a, vs, i, w, rfl, rfl, ha, e1, q w fun hot g => ?_⟩ hs
    obtain ⟨_, vs', e3, k1, k2⟩ := g.lst_ex
    cases e3
    rw [I.list_inj ha k1] at e1
    obtain ⟨w', e4, k3⟩ := atI_rep k2 e
    rw [e1] at e4
    cases e4
    exact k3
end
end Ly

set_option Elab.async false
set_option linter.all false
set_option maxRecDepth 100000
set_option maxHeartbeats 2000000
/-! Built-ins, slices, isinstance. -/
namespace Ly
open PySem PySem.Spec PyProof.Rows L2
section
variable {X : Cx} {EX : Addr → Nat → Prop}
def rSSl (K : PySem.W.Frag) (EX : Addr → Nat → Prop) : V → Option Int → Option Int → Hp → VK → Prop := fun x lo hi H Q => ∃ H0 S ts σ r dx l z, Sta K EX H0 S (.brw x 1 dx :: ts) σ r H ∧ slop dx lo hi = some (l, z) ∧ ∀ v H', Sta K EX H0 S (.own v l z :: ts) σ r H' → Q v H'
theorem cutD_all {α : Type} {xs : List α} {lo hi : Option Int} (h : HT.sIx xs.length 0 lo = 0 ∧ HT.sIx xs.length xs.length hi = xs.length) : cutD xs lo hi = xs := by
  unfold cutD
  rw [h.1, h.2]
  simp
theorem sl_sem : SlR X (rSSl X.K EX) := by
  intro pins s σ H x v vl vu lo hi sl Q I rx hs pl pu h
  obtain ⟨H0, S, ts, σ', r, dx, l, z, st, e, q⟩ := h
  obtain ⟨hot, h1⟩ := st.peek
  cases dx <;> simp only [slop, reduceCtorEq] at e
  · rename_i a
    split at e
    · rename_i hz
      cases e
      rw [h1.str_eq] at rx
      exact sl_str pins s σ H _ v vl vu lo hi sl Q I rx hs pl pu ⟨a, rfl, by rw [← ln_eq]; exact hz, q _ H (st.pop.push0 fun _ => .str 0 _)⟩
    · cases e
  · rename_i ds
    cases e
    obtain ⟨a, vs, rfl, ha, ks⟩ := h1.tup_ex
    refine sl_tupB pins s σ H _ v vl vu lo hi sl Q I rx hs pl pu ⟨a, vs, isPrs (cutD ds lo hi), rfl, ha, fun hw => ?_, fun hw p o hp hod => ?_⟩
    · rw [ks.length] at hw
      rw [cutD_all hw] at q
      exact q _ H (Sta.same0 (t1 := [_]) st fun hot A q => q.brw1.tup_exF.elim fun _ ⟨_, e3, k1, k2⟩ => by cases e3; exact .tup k1 k2)
    · refine q _ _ (Sta.newT (t1 := [_]) st hp hod fun hot A q => ?_)
      obtain ⟨_, _, e3, k1, k2⟩ := q.brw1.tup_ex
      cases e3
      rw [I.tuple_inj ha k1]
      exact k2.cut lo hi
  · rename_i ds
    cases e
    obtain ⟨a, vs, rfl, ha, ks⟩ := h1.lst_ex
    refine sl_list pins s σ H _ v vl vu lo hi sl Q I rx hs pl pu ⟨a, vs, rfl, ha, fun p hp => ?_⟩
    refine q _ _ (Sta.newL (t1 := [_]) st hp fun hot A q => ?_)
    obtain ⟨_, _, e3, k1, k2⟩ := q.brw1.lst_ex
    cases e3
    rw [I.list_inj ha k1]
    exact k2.cut lo hi

def Bi.name : Bi → Str
  | .len => "len"
  | .tuple => "tuple"
  | .list => "list"
  | .int => "int"
  | .bool => "bool"
  | .max2 => "max"
  | .min2 => "min"
  | .max1 => "max"
  | .min1 => "min"
  | .maxd => "max"
  | .sum => "sum"
  | .all => "all"
  | .any => "any"
  | .sorted => "sorted"
  | .str => "str"
def Bi.val : Bi → Value
  | .len => .builtin "len"
  | .tuple => .type "tuple"
  | .list => .type "list"
  | .int => .type "int"
  | .bool => .type "bool"
  | .max2 => .builtin "max"
  | .min2 => .builtin "min"
  | .max1 => .builtin "max"
  | .min1 => .builtin "min"
  | .maxd => .builtin "max"
  | .sum => .builtin "sum"
  | .all => .builtin "all"
  | .any => .builtin "any"
  | .sorted => .builtin "sorted"
  | .str => .type "str"
/-- may be asked within an except suite -/
def Bi.cold : Bi → Bool
  | .len => true
  | .tuple => true
  | .list => true
  | .int => true
  | .bool => true
  | .str => true
  | _ => false
theorem Bi.boot (f : Bi) : bootBuiltins f.name = some f.val := by
  cases f <;> first
    | exact PySem.boot_len
    | exact PyProof.Rows.boot_max
    | exact PyProof.Rows.boot_min
    | exact PyProof.Rows.boot_sum
    | exact PyProof.Rows.boot_all
    | exact PyProof.Rows.boot_any
    | exact PyProof.Rows.boot_sorted
    | exact PyProof.Rows.boot_tuple
    | exact PyProof.Rows.boot_list
    | exact PyProof.Rows.boot_int
    | exact PyProof.Rows.boot_bool
    | exact PyProof.Rows.boot_str
    | decide +kernel
theorem fold_max : ∀ (xs : List Int) (x : Int), (xs.foldl (fun a b => if b > a then b else a) x = x ∨ xs.foldl (fun a b => if b > a then b else a) x ∈ xs) ∧ x ≤ xs.foldl (fun a b => if b > a then b else a) x ∧ ∀ y ∈ xs, y ≤ xs.foldl (fun a b => if b > a then b else a) x
  | [], x => ⟨.inl rfl, Int.le_refl _, by simp⟩
  | y :: xs, x => by
    rw [List.foldl_cons]
    obtain ⟨h1, h2, h3⟩ := fold_max xs (if y > x then y else x)
    have e1 : y ≤ (if y > x then y else x) := by split <;> omega
    have e2 : x ≤ (if y > x then y else x) := by split <;> omega
    refine ⟨?_, Int.le_trans e2 h2, fun z hz => ?_⟩
    · rcases h1 with h1 | h1
      · rw [h1]
        split
        · exact .inr List.mem_cons_self
        · exact .inl rfl
      · exact .inr (List.mem_cons_of_mem _ h1)
    · rcases List.mem_cons.mp hz with rfl | hz
      · exact Int.le_trans e1 h2
      · exact h3 z hz
theorem fold_min : ∀ (xs : List Int) (x : Int), (xs.foldl (fun a b => if b < a then b else a) x = x ∨ xs.foldl (fun a b => if b < a then b else a) x ∈ xs) ∧ xs.foldl (fun a b => if b < a then b else a) x ≤ x ∧ ∀ y ∈ xs, xs.foldl (fun a b => if b < a then b else a) x ≤ y
  | [], x => ⟨.inl rfl, Int.le_refl _, by simp⟩
  | y :: xs, x => by
    rw [List.foldl_cons]
    obtain ⟨h1, h2, h3⟩ := fold_min xs (if y < x then y else x)
    have e1 : (if y < x then y else x) ≤ y := by split <;> omega
    have e2 : (if y < x then y else x) ≤ x := by split <;> omega
    refine ⟨?_, Int.le_trans h2 e2, fun z hz => ?_⟩
    · rcases h1 with h1 | h1
      · rw [h1]
        split
        · exact .inr List.mem_cons_self
        · exact .inl rfl
      · exact .inr (List.mem_cons_of_mem _ h1)
    · rcases List.mem_cons.mp hz with rfl | hz
      · exact Int.le_trans h2 e1
      · exact h3 z hz
theorem maxOr_spec {d : Int} {is : List Int} (h : is ≠ []) : maxOr d is ∈ is ∧ ∀ y ∈ is, y ≤ maxOr d is := by
  cases is with
  | nil => exact absurd rfl h
  | cons x xs =>
    obtain ⟨h1, h2, h3⟩ := fold_max xs x
    refine ⟨?_, fun y hy => ?_⟩
    · rcases h1 with h1 | h1
      · exact List.mem_cons.mpr (.inl h1)
      · exact List.mem_cons_of_mem _ h1
    · rcases List.mem_cons.mp hy with rfl | hy
      · exact h2
      · exact h3 y hy
theorem minOr_spec {d : Int} {is : List Int} (h : is ≠ []) : minOr d is ∈ is ∧ ∀ y ∈ is, minOr d is ≤ y := by
  cases is with
  | nil => exact absurd rfl h
  | cons x xs =>
    obtain ⟨h1, h2, h3⟩ := fold_min xs x
    refine ⟨?_, fun y hy => ?_⟩
    · rcases h1 with h1 | h1
      · exact List.mem_cons.mpr (.inl h1)
      · exact List.mem_cons_of_mem _ h1
    · rcases List.mem_cons.mp hy with rfl | hy
      · exact h2
      · exact h3 y hy
def rSBlt (K : PySem.W.Frag) (EX : Addr → Nat → Prop) (f : Bi) : List V → Hp → VK → Prop := fun vs H Q => ∃ H0 S ts σ r ds l z, Sta K EX H0 S (.brws vs 1 ds :: ts) σ r H ∧ bltop f ds = some (l, z) ∧ ∀ v H', Sta K EX H0 S (.own v l z :: ts) σ r H' → Q v H'
theorem RepTs.one_ex {K : PySem.W.Frag} {H : Hp} {S hot : List Addr} {j : Nat} {vs : List V} {d : D} (h : RepTs K H S hot j vs [d]) : ∃ v, vs = [v] ∧ RepT K H S hot j v d := by
  cases h with
  | cons h hs =>
    cases hs
    exact ⟨_, rfl, h⟩
theorem RepTs.two_ex {K : PySem.W.Frag} {H : Hp} {S hot : List Addr} {j : Nat} {vs : List V} {d e : D} (h : RepTs K H S hot j vs [d, e]) : ∃ v w, vs = [v, w] ∧ RepT K H S hot j v d ∧ RepT K H S hot j w e := by
  cases h with
  | cons h hs =>
    obtain ⟨w, rfl, h2⟩ := hs.one_ex
    exact ⟨_, _, rfl, h, h2⟩
theorem insI_perm (x : Int) : ∀ l : List Int, (insI x l).Perm (x :: l)
  | [] => .refl _
  | y :: ys => by
    rw [insI]
    split
    · exact .refl _
    · exact ((insI_perm x ys).cons y).trans (.swap x y ys)
theorem sortI_perm : ∀ l : List Int, (sortI l).Perm l
  | [] => .refl _
  | x :: l => (insI_perm x (sortI l)).trans ((sortI_perm l).cons x)
theorem insI_pw (x : Int) : ∀ l : List Int, l.Pairwise (· ≤ ·) → (insI x l).Pairwise (· ≤ ·)
  | [], _ => by simp [insI]
  | y :: ys, h => by
    rw [insI]
    have h1 := List.pairwise_cons.mp h
    split
    · rename_i hxy
      refine List.pairwise_cons.mpr ⟨fun z hz => ?_, h⟩
      rcases List.mem_cons.mp hz with rfl | hz
      · exact hxy
      · exact Int.le_trans hxy (h1.1 z hz)
    · rename_i hxy
      refine List.pairwise_cons.mpr ⟨fun z hz => ?_, insI_pw x ys h1.2⟩
      rcases List.mem_cons.mp ((insI_perm x ys).mem_iff.mp hz) with rfl | hz
      · omega
      · exact h1.1 z hz
theorem sortI_pw : ∀ l : List Int, (sortI l).Pairwise (· ≤ ·)
  | [] => .nil
  | x :: l => insI_pw x _ (sortI_pw l)
theorem sort_uniq : ∀ a b : List Int, a.Perm b → a.Pairwise (· ≤ ·) → b.Pairwise (· ≤ ·) → a = b
  | [], b, h, _, _ => (List.nil_perm.mp h).symm
  | x :: a, [], h, _, _ => absurd h.length_eq (by simp)
  | x :: a, y :: b, h, p, q => by
    have hp := List.pairwise_cons.mp p
    have hq := List.pairwise_cons.mp q
    have e : x = y := by
      have h1 : y ≤ x := by
        rcases List.mem_cons.mp (h.mem_iff.mp (List.mem_cons_self (a := x))) with e | hm
        · omega
        · exact hq.1 x hm
      have h2 : x ≤ y := by
        rcases List.mem_cons.mp (h.mem_iff.mpr (List.mem_cons_self (a := y))) with e | hm
        · omega
        · exact hp.1 y hm
      omega
    subst e
    rw [sort_uniq a b (List.Perm.cons_inv h) hp.2 hq.2]
theorem ints_rep {K : PySem.W.Frag} {H : Hp} {S hot : List Addr} {j : Nat} : ∀ is : List Int, RepTs K H S hot j (is.map V.int) (is.map D.int)
  | [] => .nil j
  | i :: is => .cons (.int j i) (ints_rep is)
/-- int(text) -/
theorem call_int_text : CallR X (.type "int") (fun xs H Q => ∃ (a : Str) (n : Int), xs = [.str a] ∧ a.length ≤ 640 ∧ PySem.intText? a = some n ∧ Q (.int n) H) := by
  intro pins s σ H xs us Q I r h
  obtain ⟨a, n, rfl, hz, hn, q⟩ := h
  obtain ⟨u, rfl, t, rfl⟩ := vals1 r
  exact PySem.W.KIN.call_text hn hz ⟨.int n, H, I.tok _, ⟨_, rfl⟩, q⟩
theorem call_blt (f : Bi) (hm : f ≠ .maxd) (hc : f.cold = true ∨ X.calm = true) : CallR X f.val (rSBlt X.K EX f) := by
  intro pins s σ H vs us Q I rv h
  obtain ⟨H0, S, ts, σ', r, ds, l, z, st, e, q⟩ := h
  obtain ⟨hot, h1⟩ := st.peeks
  have scal : ∀ w d, (∀ hot, Rep X.K H hot 0 w d []) → l = 0 → z = d → Q w H := fun w d g e1 e2 => by
    subst e1; subst e2
    exact q w H (st.pop.push0 g)
  have one : ∀ d, ds = [d] → ∃ v, vs = [v] ∧ RepT X.K H S hot 1 v d := fun d e => by subst e; exact h1.one_ex
  have two : ∀ d d', ds = [d, d'] → ∃ v w, vs = [v, w] ∧ RepT X.K H S hot 1 v d ∧ RepT X.K H S hot 1 w d' := fun d d' e => by subst e; exact h1.two_ex
  unfold bltop at e
  split at e
  · rename_i ds'
    cases e
    obtain ⟨v, rfl, g⟩ := one _ rfl
    obtain ⟨a, ws, rfl, ha, ks⟩ := g.lst_ex
    exact call_len_seq pins s σ H _ us Q I rv ⟨a, ws, rfl, .inl ha, scal _ _ (fun _ => .int 0 _) rfl (by rw [ks.length])⟩
  · rename_i ds'
    cases e
    obtain ⟨v, rfl, g⟩ := one _ rfl
    obtain ⟨a, ws, rfl, ha, ks⟩ := g.tup_ex
    exact call_len_seq pins s σ H _ us Q I rv ⟨a, ws, rfl, .inr ha, scal _ _ (fun _ => .int 0 _) rfl (by rw [ks.length])⟩
  · split at e
    · rename_i hz
      cases e
      obtain ⟨v, rfl, g⟩ := one _ rfl
      rw [g.str_eq] at rv
      exact call_len_str pins s σ H _ us Q I rv ⟨_, rfl, by rw [← ln_eq]; exact hz, scal _ _ (fun _ => .int 0 _) rfl rfl⟩
    · cases e
  · rename_i ds'
    cases e
    obtain ⟨v, rfl, g⟩ := one _ rfl
    obtain ⟨a, ws, rfl, ha, ks⟩ := g.lst_ex
    refine call_tupleB pins s σ H _ us Q I rv ⟨a, ws, isPrs ds', rfl, .inl ⟨ha, fun p o hp hod => q _ _ (Sta.newT (t1 := [_]) st hp hod fun hot A q => ?_)⟩⟩
    obtain ⟨v', e1, g'⟩ := q.brws1.one_ex
    cases e1
    obtain ⟨_, _, e3, k1, k2⟩ := g'.lst_ex
    cases e3
    rw [I.list_inj ha k1]
    exact k2
  · rename_i ds'
    cases e
    obtain ⟨v, rfl, g⟩ := one _ rfl
    obtain ⟨a, ws, rfl, ha, ks⟩ := g.tup_ex
    refine call_tupleB pins s σ H _ us Q I rv ⟨a, ws, false, rfl, .inr ⟨ha, q _ _ (Sta.same0 (t1 := [_]) st fun hot A q => ?_)⟩⟩
    obtain ⟨v', e1, g'⟩ := q.brws1.one_ex
    cases e1
    obtain ⟨_, _, e3, k1, k2⟩ := g'.tup_exF
    cases e3
    exact .tup k1 k2
  · rename_i ds'
    cases e
    obtain ⟨v, rfl, g⟩ := one _ rfl
    obtain ⟨a, ws, rfl, ha, ks⟩ := g.lst_ex
    refine call_list_of pins s σ H _ us Q I rv ⟨a, ws, rfl, .inl ha, fun p hp => q _ _ (Sta.newL (t1 := [_]) st hp fun hot A q => ?_)⟩
    obtain ⟨v', e1, g'⟩ := q.brws1.one_ex
    cases e1
    obtain ⟨_, _, e3, k1, k2⟩ := g'.lst_ex
    cases e3
    rw [I.list_inj ha k1]
    exact k2
  · rename_i ds'
    cases e
    obtain ⟨v, rfl, g⟩ := one _ rfl
    obtain ⟨a, ws, rfl, ha, ks⟩ := g.tup_ex
    refine call_list_of pins s σ H _ us Q I rv ⟨a, ws, rfl, .inr ha, fun p hp => q _ _ (Sta.newL (t1 := [_]) st hp fun hot A q => ?_)⟩
    obtain ⟨v', e1, g'⟩ := q.brws1.one_ex
    cases e1
    obtain ⟨_, _, e3, k1, k2⟩ := g'.tup_ex
    cases e3
    rw [I.tuple_inj ha k1]
    exact k2
  · cases e
    obtain ⟨v, rfl, g⟩ := one _ rfl
    rw [g.int_eq] at rv
    exact call_int1 pins s σ H _ us Q I rv (.inl ⟨_, rfl, scal _ _ (fun _ => .int 0 _) rfl rfl⟩)
  · split at e
    · rename_i hz
      rw [Option.map_eq_some_iff] at e
      obtain ⟨n, e1, e2⟩ := e
      cases e2
      obtain ⟨v, rfl, g⟩ := one _ rfl
      rw [g.str_eq] at rv
      exact call_int_text pins s σ H _ us Q I rv ⟨_, n, rfl, hz, e1, scal _ _ (fun _ => .int 0 _) rfl rfl⟩
    · cases e
  · cases e
    obtain ⟨v, rfl, g⟩ := one _ rfl
    rw [g.bl_eq] at rv
    exact call_int1 pins s σ H _ us Q I rv (.inr ⟨_, rfl, scal _ _ (fun _ => .int 0 _) rfl rfl⟩)
  · cases e
    obtain ⟨v, rfl, g⟩ := one _ rfl
    rw [g.int_eq] at rv
    exact call_bool1 pins s σ H _ us Q I rv (.inl ⟨_, rfl, scal _ _ (fun _ => .bl 0 _) rfl rfl⟩)
  · cases e
    obtain ⟨v, rfl, g⟩ := one _ rfl
    rw [g.bl_eq] at rv
    exact call_bool1 pins s σ H _ us Q I rv (.inr ⟨_, rfl, scal _ _ (fun _ => .bl 0 _) rfl rfl⟩)
  · cases e
    obtain ⟨v, w, rfl, g, g'⟩ := two _ _ rfl
    rw [g.int_eq, g'.int_eq] at rv
    exact call_max2 (hc.resolve_left (by simp [Bi.cold])) pins s σ H _ us Q I rv ⟨_, _, rfl, scal _ _ (fun _ => .int 0 _) rfl rfl⟩
  · cases e
    obtain ⟨v, w, rfl, g, g'⟩ := two _ _ rfl
    rw [g.int_eq, g'.int_eq] at rv
    exact call_min2 (hc.resolve_left (by simp [Bi.cold])) pins s σ H _ us Q I rv ⟨_, _, rfl, scal _ _ (fun _ => .int 0 _) rfl rfl⟩
  · rw [Option.bind_eq_some_iff] at e
    obtain ⟨is, e1, e2⟩ := e
    split at e2
    · cases e2
    · rename_i hne
      cases e2
      obtain ⟨v, rfl, g⟩ := one _ rfl
      obtain ⟨a, ws, rfl, ha, ks⟩ := g.lst_ex
      rw [ks.ints e1] at ha
      have hn : is ≠ [] := fun z => hne (by rw [z]; rfl)
      refine cr_max (hc.resolve_left (by simp [Bi.cold])) pins s σ H _ us Q I rv ⟨a, is, rfl, ha, List.length_pos_iff.mpr hn, fun m hm1 hm2 => ?_⟩
      obtain ⟨k1, k2⟩ := maxOr_spec (d := 0) hn
      have em : m = maxOr 0 is := by have := hm2 _ k1; have := k2 m hm1; omega
      rw [em]
      exact scal _ _ (fun _ => .int 0 _) rfl rfl
  · rw [Option.bind_eq_some_iff] at e
    obtain ⟨is, e1, e2⟩ := e
    split at e2
    · cases e2
    · rename_i hne
      cases e2
      obtain ⟨v, rfl, g⟩ := one _ rfl
      obtain ⟨a, ws, rfl, ha, ks⟩ := g.lst_ex
      rw [ks.ints e1] at ha
      have hn : is ≠ [] := fun z => hne (by rw [z]; rfl)
      refine cr_min (hc.resolve_left (by simp [Bi.cold])) pins s σ H _ us Q I rv ⟨a, is, rfl, ha, List.length_pos_iff.mpr hn, fun m hm1 hm2 => ?_⟩
      obtain ⟨k1, k2⟩ := minOr_spec (d := 0) hn
      have em : m = minOr 0 is := by have := hm2 _ k1; have := k2 m hm1; omega
      rw [em]
      exact scal _ _ (fun _ => .int 0 _) rfl rfl
  · exact absurd rfl hm
  · rw [Option.map_eq_some_iff] at e
    obtain ⟨is, e1, e2⟩ := e
    cases e2
    obtain ⟨v, rfl, g⟩ := one _ rfl
    obtain ⟨a, ws, rfl, ha, ks⟩ := g.lst_ex
    rw [ks.ints e1] at ha
    exact cr_sum (hc.resolve_left (by simp [Bi.cold])) pins s σ H _ us Q I rv ⟨a, is, rfl, ha, scal _ _ (fun _ => .int 0 _) rfl rfl⟩
  · rw [Option.map_eq_some_iff] at e
    obtain ⟨is, e1, e2⟩ := e
    cases e2
    obtain ⟨v, rfl, g⟩ := one _ rfl
    obtain ⟨a, ws, rfl, ha, ks⟩ := g.lst_ex
    rw [ks.bls e1] at ha
    exact cr_all (hc.resolve_left (by simp [Bi.cold])) pins s σ H _ us Q I rv ⟨a, is, rfl, ha, scal _ _ (fun _ => .bl 0 _) rfl rfl⟩
  · rw [Option.map_eq_some_iff] at e
    obtain ⟨is, e1, e2⟩ := e
    cases e2
    obtain ⟨v, rfl, g⟩ := one _ rfl
    obtain ⟨a, ws, rfl, ha, ks⟩ := g.lst_ex
    rw [ks.bls e1] at ha
    exact cr_any (hc.resolve_left (by simp [Bi.cold])) pins s σ H _ us Q I rv ⟨a, is, rfl, ha, scal _ _ (fun _ => .bl 0 _) rfl rfl⟩
  · rw [Option.map_eq_some_iff] at e
    obtain ⟨is, e1, e2⟩ := e
    cases e2
    obtain ⟨v, rfl, g⟩ := one _ rfl
    obtain ⟨a, ws, rfl, ha, ks⟩ := g.lst_ex
    rw [ks.ints e1] at ha
    refine cr_sortedI pins s σ H _ us Q I rv ⟨a, is, rfl, ha, fun ns' p h1 h2 hp => ?_⟩
    obtain rfl : ns' = sortI is := sort_uniq _ _ (h1.trans (sortI_perm is).symm) h2 (sortI_pw is)
    exact q _ _ (Sta.newL (t1 := [_]) st hp fun hot A q => ints_rep _)
  · split at e
    · rename_i hz
      cases e
      obtain ⟨v, rfl, g⟩ := one _ rfl
      rw [g.int_eq] at rv
      exact call_str_int pins s σ H _ us Q I rv ⟨_, rfl, hz, scal _ _ (fun _ => .str 0 _) rfl rfl⟩
    · cases e
  · cases e
    obtain ⟨v, rfl, g⟩ := one _ rfl
    rw [g.str_eq] at rv
    exact SkE.call_str_str pins s σ H _ us Q I rv ⟨_, rfl, scal _ _ (fun _ => .str 0 _) rfl rfl⟩
  · cases e

def tyD : D → Option String
  | .non => some "NoneType"
  | .bl _ => some "bool"
  | .int _ => some "int"
  | .str _ => some "str"
  | .tup _ => some "tuple"
  | .lst _ => some "list"
  | _ => none
def Ty.name : Ty → String
  | .tuple => "tuple"
  | .int => "int"
  | .bool => "bool"
  | .str => "str"
  | .list => "list"
theorem isaop_kit {d : D} {t : Ty} {b : Bool} (h : isaop d t = some b) : ∃ n, tyD d = some n ∧ kitB n t.name = some b := by
  cases d <;> cases t <;> simp only [isaop, reduceCtorEq, Option.some.injEq] at h <;> subst h <;> exact ⟨_, rfl, by decide +kernel⟩
theorem RepT.tyX {K : PySem.W.Frag} {H : Hp} {S hot : List Addr} {j : Nat} {v : V} {d : D} {n : String} (h : RepT K H S hot j v d) (e : tyD d = some n) : TyX K H v (.type n) := by
  have lst : ∀ {a : Addr} {vs : List V}, SqL K H a vs → TyX K H (.ref a) (.type "list") := fun {a vs} h => by
    rcases h with (h | ⟨o, h⟩) | ⟨o, its, m, h1, h2, _⟩
    · exact .base (.lst h)
    · exact .base (.frz h)
    · exact .kList h1 h2
  cases h with
  | non => cases e; exact .base .non
  | bl => cases e; exact .base (.bl _)
  | int => cases e; exact .base (.int _)
  | str => cases e; exact .base (.str _)
  | tup h hs =>
    cases e
    rcases h.sq with (h | ⟨o, h⟩) | ⟨o, its, m, h1, h2, _⟩
    · exact .base (.tup h)
    · exact .fTuple h
    · exact .kTuple h1 h2
  | lst0 h hs => cases e; exact lst h.seq
  | lstS h hs => cases e; exact lst h.seq
  | dic0 => simp [tyD] at e
  | dicS => simp [tyD] at e
end
end Ly

set_option Elab.async false
set_option linter.all false
set_option maxRecDepth 100000
set_option maxHeartbeats 2000000
/-! The program's own syntax tree against ours. -/
namespace Ly
open PySem PySem.Spec PyProof.Rows L2

/-- the names of the defs, of the error classes (and which stands under which), the constants of the top -/
structure Cfg where
  fns : List Str
  exs : List Str
  gls : List (Str × D)
  sub : Nat → Nat → Bool
  nown : Nat
  /-- which defs may be called with fewer arguments, and what fills up -/
  dfl : List (Nat × List Str)
def Cfg.G (C : Cfg) (g : Nat) : Option D := (C.gls[g]?).map (·.2)

/-! ### taking syntax apart -/
def dName : Expr → Option Str
  | .Name x _ => some x
  | _ => none
theorem dName_eq {e : Expr} {x : Str} (h : dName e = some x) : ∃ p, e = .Name x p := by
  unfold dName at h; split at h <;> first | (cases h; exact ⟨_, rfl⟩) | cases h
def dConst : Expr → Option Const
  | .Constant c _ _ => some c
  | _ => none
theorem dConst_eq {e : Expr} {x : Const} (h : dConst e = some x) : ∃ k p, e = .Constant x k p := by
  unfold dConst at h; split at h <;> first | (cases h; exact ⟨_, _, rfl⟩) | cases h
def dBin : Expr → Option (Expr × Operator × Expr)
  | .BinOp a o b _ => some (a, o, b)
  | _ => none
theorem dBin_eq {e a b : Expr} {o : Operator} (h : dBin e = some (a, o, b)) : ∃ p, e = .BinOp a o b p := by
  unfold dBin at h; split at h <;> first | (cases h; exact ⟨_, rfl⟩) | cases h
def dUn : Expr → Option (UnaryOp × Expr)
  | .UnaryOp o a _ => some (o, a)
  | _ => none
theorem dUn_eq {e a : Expr} {o : UnaryOp} (h : dUn e = some (o, a)) : ∃ p, e = .UnaryOp o a p := by
  unfold dUn at h; split at h <;> first | (cases h; exact ⟨_, rfl⟩) | cases h
def dCmp : Expr → Option (Expr × CmpOp × Expr)
  | .Compare a [o] [b] _ => some (a, o, b)
  | _ => none
theorem dCmp_eq {e a b : Expr} {o : CmpOp} (h : dCmp e = some (a, o, b)) : ∃ p, e = .Compare a [o] [b] p := by
  unfold dCmp at h; split at h <;> first | (cases h; exact ⟨_, rfl⟩) | cases h
def dCmp2 : Expr → Option (Expr × CmpOp × Expr × CmpOp × Expr)
  | .Compare a [o, o'] [b, c] _ => some (a, o, b, o', c)
  | _ => none
theorem dCmp2_eq {e a b c : Expr} {o o' : CmpOp} (h : dCmp2 e = some (a, o, b, o', c)) : ∃ p, e = .Compare a [o, o'] [b, c] p := by
  unfold dCmp2 at h; split at h <;> first | (cases h; exact ⟨_, rfl⟩) | cases h
def dBool : Expr → Option (BoolOp × List Expr)
  | .BoolOp o xs _ => some (o, xs)
  | _ => none
theorem dBool_eq {e : Expr} {o : BoolOp} {xs : List Expr} (h : dBool e = some (o, xs)) : ∃ p, e = .BoolOp o xs p := by
  unfold dBool at h; split at h <;> first | (cases h; exact ⟨_, rfl⟩) | cases h
def dIf : Expr → Option (Expr × Expr × Expr)
  | .IfExp a b c _ => some (a, b, c)
  | _ => none
theorem dIf_eq {e a b c : Expr} (h : dIf e = some (a, b, c)) : ∃ p, e = .IfExp a b c p := by
  unfold dIf at h; split at h <;> first | (cases h; exact ⟨_, rfl⟩) | cases h
def dTup : Expr → Option (List Expr)
  | .Tuple xs _ _ => some xs
  | _ => none
theorem dTup_eq {e : Expr} {xs : List Expr} (h : dTup e = some xs) : ∃ k p, e = .Tuple xs k p := by
  unfold dTup at h; split at h <;> first | (cases h; exact ⟨_, _, rfl⟩) | cases h
def dLst : Expr → Option (List Expr)
  | .List xs _ => some xs
  | _ => none
theorem dLst_eq {e : Expr} {xs : List Expr} (h : dLst e = some xs) : ∃ p, e = .List xs p := by
  unfold dLst at h; split at h <;> first | (cases h; exact ⟨_, rfl⟩) | cases h
def dSub : Expr → Option (Expr × Expr)
  | .Subscript a b _ => some (a, b)
  | _ => none
theorem dSub_eq {e a b : Expr} (h : dSub e = some (a, b)) : ∃ p, e = .Subscript a b p := by
  unfold dSub at h; split at h <;> first | (cases h; exact ⟨_, rfl⟩) | cases h
def dSlice : Expr → Option (Option Expr × Option Expr)
  | .Slice a b none _ => some (a, b)
  | _ => none
theorem dSlice_eq {e : Expr} {a b : Option Expr} (h : dSlice e = some (a, b)) : ∃ p, e = .Slice a b none p := by
  unfold dSlice at h; split at h <;> first | (cases h; exact ⟨_, rfl⟩) | cases h
/-- e[::-1] -/
def dRev : Expr → Option Expr
  | .Subscript e (.Slice none none (some (.UnaryOp .USub (.Constant (.int 1) _ _) _)) _) _ => some e
  | _ => none
theorem dRev_eq {e x : Expr} (h : dRev e = some x) : ∃ k p1 p2 p3 p, e = .Subscript x (.Slice none none (some (.UnaryOp .USub (.Constant (.int 1) k p1) p2)) p3) p := by
  unfold dRev at h; split at h <;> first | (cases h; exact ⟨_, _, _, _, _, rfl⟩) | cases h
/-- {} -/
def isD0 : Expr → Bool
  | .Dict [] [] _ => true
  | _ => false
theorem isD0_eq {e : Expr} (h : isD0 e = true) : ∃ p, e = .Dict [] [] p := by
  unfold isD0 at h; split at h <;> first | exact ⟨_, rfl⟩ | cases h
/-- {z: b} -/
def dD1 : Expr → Option (Int × Bool)
  | .Dict [some (.Constant (.int z) _ _)] [.Constant (.bool b) _ _] _ => some (z, b)
  | _ => none
theorem dD1_eq {e : Expr} {z : Int} {b : Bool} (h : dD1 e = some (z, b)) : ∃ k p1 k2 p2 p, e = .Dict [some (.Constant (.int z) k p1)] [.Constant (.bool b) k2 p2] p := by
  unfold dD1 at h; split at h <;> first | (cases h; exact ⟨_, _, _, _, _, rfl⟩) | cases h
/-- e[a::b] -/
def dStep : Expr → Option (Expr × Expr × Expr)
  | .Subscript e (.Slice (some a) none (some b) _) _ => some (e, a, b)
  | _ => none
theorem dStep_eq {e x a b : Expr} (h : dStep e = some (x, a, b)) : ∃ p3 p, e = .Subscript x (.Slice (some a) none (some b) p3) p := by
  unfold dStep at h; split at h <;> first | (cases h; exact ⟨_, _, rfl⟩) | cases h
/-- a call of a name with one argument at least, no keywords -/
def dCall : Expr → Option (Str × Expr × List Expr)
  | .Call (.Name x _) (a :: as) [] _ => some (x, a, as)
  | _ => none
theorem dCall_eq {e a : Expr} {x : Str} {as : List Expr} (h : dCall e = some (x, a, as)) : ∃ p q, e = .Call (.Name x p) (a :: as) [] q := by
  unfold dCall at h; split at h <;> first | (cases h; exact ⟨_, _, rfl⟩) | cases h
/-- f(a, k = b) -/
def dCallK : Expr → Option (Str × Expr × Str × Expr)
  | .Call (.Name x _) [a] [⟨some k, b, _⟩] _ => some (x, a, k, b)
  | _ => none
theorem dCallK_eq {e a b : Expr} {x k : Str} (h : dCallK e = some (x, a, k, b)) : ∃ p q u, e = .Call (.Name x p) [a] [⟨some k, b, u⟩] q := by
  unfold dCallK at h; split at h <;> first | (cases h; exact ⟨_, _, _, rfl⟩) | cases h
/-- y.m(x) -/
def dMeth : Expr → Option (Str × Str × Expr)
  | .Call (.Attribute (.Name y _) m p2) [x] [] p3 => if p2.endLine == p3.line then some (y, m, x) else none
  | _ => none
theorem dMeth_eq {e x : Expr} {y m : Str} (h : dMeth e = some (y, m, x)) : ∃ p1 p2 p3, e = .Call (.Attribute (.Name y p1) m p2) [x] [] p3 ∧ (p2.endLine == p3.line) = true := by
  unfold dMeth at h
  split at h
  · split at h
    · cases h; exact ⟨_, _, _, rfl, by assumption⟩
    · cases h
  · cases h
/-- x.m(..), x no bare call -/
def noCall0 : Expr → Bool
  | .Call (.Name _ _) [] [] _ => false
  | _ => true
def dMethE : Expr → Option (Expr × Str × List Expr)
  | .Call (.Attribute x m p2) args [] p3 => if (p2.endLine == p3.line) = true ∧ noCall0 x = true ∧ args.length < 20 then some (x, m, args) else none
  | _ => none
theorem dMethE_eq {e x : Expr} {m : Str} {args : List Expr} (h : dMethE e = some (x, m, args)) : ∃ p2 p3, e = .Call (.Attribute x m p2) args [] p3 ∧ (p2.endLine == p3.line) = true ∧ noCall0 x = true ∧ args.length < 20 := by
  unfold dMethE at h
  split at h
  · split at h
    · cases h; exact ⟨_, _, rfl, by assumption⟩
    · cases h
  · cases h
def Me.word : Me → Str
  | .isdigit => "isdigit"
  | .join => "join"
  | .find3 => "find"
  | .partition => "partition"
  | .split => "split"
  | .endswith => "endswith"
  | .lcount => "count"
/-- [elt for t in it if ..] -/
def dComp : Expr → Option (Expr × Expr × Expr × List Expr × Scope)
  | .ListComp e [⟨t, i, f, 0⟩] s _ => some (e, t, i, f, s)
  | _ => none
theorem dComp_eq {e x t i : Expr} {f : List Expr} {s : Scope} (h : dComp e = some (x, t, i, f, s)) : ∃ p, e = .ListComp x [⟨t, i, f, 0⟩] s p := by
  unfold dComp at h; split at h <;> first | (cases h; exact ⟨_, rfl⟩) | cases h

def visB (sc : Scope) (x : Str) : Bool := match sc.names.lookup x with
  | some .local => true
  | some .cell => true
  | some .free => true
  | _ => false
def locB (sc : Scope) (x : Str) : Bool := match sc.names.lookup x with
  | some .local => true
  | some .cell => true
  | _ => false
def glB (sc : Scope) (x : Str) : Bool := match sc.names.lookup x with
  | some .globalImplicit => true
  | _ => false
def dbg (x : Str) : Bool := !(x == ("__debug__" : Str))
def mVar (N : List Str) (sc : Scope) (i : Nat) (x : Str) : Bool := decide (N[i]? = some x) && visB sc x && dbg x && !(x == ("__classdict__" : Str))
def mK : D → Const → Bool
  | .non, .none => true
  | .bl a, .bool b => a == b
  | .int a, .int b => decide (a = b)
  | .str a, .str b => decide (a = b)
  | _, _ => false
def mLoc (N : List Str) (sc : Scope) (i : Nat) (e : Expr) : Bool := match dName e with
  | some x => decide (N[i]? = some x) && locB sc x
  | none => false
def mLocs (N : List Str) (sc : Scope) : List Nat → List Expr → Bool
  | [], [] => true
  | i :: js, e :: es => mLoc N sc i e && mLocs N sc js es
  | _, _ => false
def mTg (N : List Str) (sc : Scope) : Tg → Expr → Bool
  | .name i, e => mLoc N sc i e
  | .tup js, e => match dTup e with
    | some es => mLocs N sc js es
    | none => false
def isTupE : Expr → Bool
  | .Tuple _ _ _ => true
  | _ => false
def Ty.word : Ty → Str
  | .tuple => "tuple"
  | .int => "int"
  | .bool => "bool"
  | .str => "str"
  | .list => "list"
def ownOf (N : List Str) (js : List Nat) : List (Str × Nat) := js.map fun i => (N.getD i "", i)

/-- -1 -/
def isM1 : Expr → Bool
  | .UnaryOp .USub (.Constant (.int 1) _ _) _ => true
  | _ => false
theorem isM1_eq {e : Expr} (h : isM1 e = true) : ∃ k p q, e = .UnaryOp .USub (.Constant (.int 1) k p) q := by
  unfold isM1 at h; split at h <;> first | exact ⟨_, _, _, rfl⟩ | cases h
/-- names of error classes -/
def mCls (C : Cfg) (sc : Scope) : List Nat → List Expr → Bool
  | [], [] => true
  | k :: ks, t :: ts => (match dName t with
    | some T => decide (C.exs[k]? = some T) && glB sc T && dbg T
    | none => false) && mCls C sc ks ts
  | _, _ => false
section
variable (C : Cfg) (cal : Bool) (N : List Str)
mutual
def mE (sc : Scope) : E → Expr → Bool
  | .var i, e => match dName e with
    | some x => mVar N sc i x
    | none => false
  | .mv i, e => match dName e with
    | some x => mVar N sc i x
    | none => false
  | .cst d, e => match dConst e with
    | some c => mK d c
    | none => false
  | .glb g, e => match dName e, C.gls[g]? with
    | some x, some p => decide (p.1 = x) && glB sc x && dbg x
    | _, _ => false
  | .bin o a b, e => match dBin e with
    | some (x, op, y) => decide (op = opOf o) && mE sc a x && mE sc b y
    | none => false
  | .neg a, e => match dUn e with
    | some (op, x) => decide (op = .USub) && mE sc a x
    | none => false
  | .not a, e => match dUn e with
    | some (op, x) => decide (op = .Not) && mE sc a x
    | none => false
  | .cmp c a b, e => match dCmp e with
    | some (x, op, y) => decide (op = cmpOf c) && mE sc a x && mE sc b y
    | none => false
  | .chain c c' a b u, e => match dCmp2 e with
    | some (x, op, y, op', z) => decide (op = cmpOf c) && decide (op' = cmpOf c') && mE sc a x && mE sc b y && mE sc u z
    | none => false
  | .bop isAnd es, e => match dBool e with
    | some (op, xs) => decide (op = if isAnd then .And else .Or) && mEs sc es xs
    | none => false
  | .ife c a b, e => match dIf e with
    | some (x, y, z) => mE sc c x && mE sc a y && mE sc b z
    | none => false
  | .tup _ es, e => match dTup e with
    | some xs => mEs sc es xs && decide (es.len ≤ 1000)
    | none => false
  | .lst _ es, e => match dLst e with
    | some xs => mEs sc es xs && decide (es.len ≤ 1000)
    | none => false
  | .ix a k, e => match dSub e with
    | some (x, y) => mE sc a x && mE sc k y
    | none => false
  | .sl a lo hi, e => match dSub e with
    | some (x, y) => (match dSlice y with
      | some (l, u) => mE sc a x && mEo sc lo l && mEo sc hi u
      | none => false)
    | none => false
  | .rev a, e => match dRev e with
    | some x => mE sc a x
    | none => false
  | .stp a b c, e => match dStep e with
    | some (x, y, z) => mE sc a x && mE sc b y && mE sc c z
    | none => false
  | .dnew _, e => isD0 e
  | .dnw2 _, e => isD0 e
  | .dn1 z b, e => decide (dD1 e = some (z, b))
  | .din neg k a, e => match dCmp e with
    | some (x, op, y) => decide (op = if neg then .NotIn else .In) && mE sc k x && mE sc a y
    | none => false
  | .dix a k, e => match dSub e with
    | some (x, y) => mE sc a x && mE sc k y
    | none => false
  | .dgt a k, e => match dMeth e with
    | some (y, m, x) => decide (m = "get") && (match a with
      | .var i => mVar N sc i y
      | _ => false) && mE sc k x
    | none => false
  | .sset a, e => match dCall e with
    | some (x, y, []) => cal && decide (x = "sorted") && glB sc x && (match dCall y with
      | some (u, z, []) => decide (u = "set") && glB sc u && mE sc a z
      | _ => false)
    | _ => false
  | .lrg a, e => match dCall e with
    | some (x, y, []) => cal && decide (x = "list") && glB sc x && (match dCall y with
      | some (u, z, []) => decide (u = "range") && glB sc u && mE sc a z
      | _ => false)
    | _ => false
  | .lrgd a b, e => match dCall e with
    | some (x, y, []) => cal && decide (x = "list") && glB sc x && (match dCall y with
      | some (u, z, [z2, z3]) => decide (u = "range") && glB sc u && mE sc a z && mE sc b z2 && isM1 z3
      | _ => false)
    | _ => false
  | .lzip a b, e => match dCall e with
    | some (x, y, []) => cal && decide (x = "list") && glB sc x && (match dCall y with
      | some (u, z, [z2]) => decide (u = "zip") && glB sc u && mE sc a z && mE sc b z2
      | _ => false)
    | _ => false
  | .lidx i a, e => match dMeth e with
    | some (y, m, x) => decide (m = "index") && mVar N sc i y && mE sc a x
    | none => false
  | .lcnt i a, e => match dMeth e with
    | some (y, m, x) => decide (m = "count") && mVar N sc i y && mE sc a x
    | none => false
  | .meth m a es, e => match dMethE e with
    | some (x, w, xs) => decide (w = m.word) && mE sc a x && mEs sc es xs
    | none => false
  | .sdic a, e => match dCall e with
    | some (x, y, []) => cal && decide (x = "sorted") && glB sc x && mE sc a y
    | _ => false
  | .lset a, e => match dCall e with
    | some (x, y, []) => cal && decide (x = "len") && glB sc x && (match dCall y with
      | some (u, z, []) => decide (u = "set") && glB sc u && mE sc a z
      | _ => false)
    | _ => false
  | .dlen i, e => match dCall e with
    | some (x, y, []) => decide (x = "len") && glB sc x && (match dName y with
      | some v => mVar N sc i v
      | none => false)
    | _ => false
  | .dkeys a, e => match dCall e with
    | some (x, y, []) => cal && decide (x = "list") && glB sc x && mE sc a y
    | _ => false
  | .dprs a, e => match dCall e with
    | some (x, y, []) => cal && decide (x = "dict") && glB sc x && mE sc a y
    | _ => false
  | .call _ f es, e => match dCall e with
    | some (x, a, as) => cal && decide (C.fns[f]? = some x) && glB sc x && dbg x && mEs sc es (a :: as)
    | none => false
  | .callD f es ss, e => match dCall e with
    | some (x, a, as) => cal && decide (C.fns[f]? = some x) && decide ((f, ss) ∈ C.dfl) && glB sc x && dbg x && mEs sc es (a :: as)
    | none => false
  | .blt .maxd es, e => match dCallK e with
    | some (x, a, k, b) => cal && decide (x = "max") && decide (k = "default") && glB sc x && mEs sc es [a, b]
    | none => false
  | .blt f es, e => match dCall e with
    | some (x, a, as) => (cal || f.cold) && decide (x = f.name) && glB sc x && mEs sc es (a :: as)
    | none => false
  | .isi a t, e => match dCall e with
    | some (x, y, [z]) => decide (x = "isinstance") && glB sc x && mE sc a y && (match dName z with
      | some T => decide (T = t.word) && glB sc T
      | none => false)
    | _ => false
  | .isx i k, e => match dCall e with
    | some (x, y, [z]) => !cal && decide (x = "isinstance") && glB sc x && (match dName y, dName z with
      | some v, some T => mVar N sc i v && decide (C.exs[k]? = some T) && glB sc T && dbg T
      | _, _ => false)
    | _ => false
  | .isxs i ks, e => match dCall e with
    | some (x, y, [z]) => !cal && decide (x = "isinstance") && glB sc x && (match dName y, dTup z with
      | some v, some ts => mVar N sc i v && mCls C sc ks ts && decide (ts.length ≤ 1000)
      | _, _ => false)
    | _ => false
  | .comp _ elt t src cond, e => match dComp e with
    | some (x, tg, it, ifs, sc') => cal && mSr sc src tg it && blkC N sc sc' (ownOf N t.ids) && mTg N sc' t tg && mE sc' elt x && mIf sc' cond ifs
    | none => false
def mEs (sc : Scope) : Es → List Expr → Bool
  | .nil, [] => true
  | .cons e es, x :: xs => mE sc e x && mEs sc es xs
  | _, _ => false
def mEo (sc : Scope) : Eo → Option Expr → Bool
  | .no, none => true
  | .yes e, some x => mE sc e x
  | _, _ => false
def mIf (sc : Scope) : Eo → List Expr → Bool
  | .no, [] => true
  | .yes e, [x] => mE sc e x
  | _, _ => false
def mSr (sc : Scope) : Sr → Expr → Expr → Bool
  | .seq a, _, e => mE sc a e
  | .seqB a, _, e => mE sc a e
  | .range es, _, e => match dCall e with
    | some (x, a, as) => decide (x = "range") && glB sc x && decide (as.length ≤ 1) && mEs sc es (a :: as)
    | none => false
  | .keys i, _, e => match dName e with
    | some x => mVar N sc i x
    | none => false
  | .revS a, _, e => match dCall e with
    | some (x, y, []) => decide (x = "reversed") && glB sc x && mE sc a y
    | _ => false
  | .enum a, tg, e => match dCall e with
    | some (x, y, []) => isTupE tg && decide (x = "enumerate") && glB sc x && mE sc a y
    | _ => false
  | .zip a b, tg, e => match dCall e with
    | some (x, y, [z]) => isTupE tg && decide (x = "zip") && glB sc x && mE sc a y && mE sc b z
    | _ => false
end
end

/-- forms that no rule treats apart -/
def plainX : Expr → Bool
  | .Starred _ _ => false
  | .Set _ _ _ => false
  | .Slice _ _ _ _ => false
  | .NamedExpr _ _ _ => false
  | .SetComp _ _ _ _ => false
  | .DictComp _ _ _ _ _ => false
  | .Yield _ _ => false
  | _ => true
theorem mE_plain {C : Cfg} {cal : Bool} {N : List Str} {sc : Scope} : ∀ (e : E) (x : Expr), mE C cal N sc e x = true → plainX x = true := by
  intro e x h
  cases x <;> first | rfl | (exfalso; revert h; cases e <;> (try rename_i f _; try cases f) <;> simp [mE, dName, dConst, dBin, dUn, dCmp, dCmp2, dBool, dIf, dTup, dLst, dSub, dCall, dCallK, dComp, dRev, dStep, isD0, dD1, dMeth, dMethE])
theorem mEs_plain {C : Cfg} {cal : Bool} {N : List Str} {sc : Scope} : ∀ (es : Es) (xs : List Expr), mEs C cal N sc es xs = true → ∀ x ∈ xs, plainX x = true
  | .nil, [], _ => fun _ z => nomatch z
  | .nil, _ :: _, h => by simp [mEs] at h
  | .cons _ _, [], h => by simp [mEs] at h
  | .cons e es, x :: xs, h => by
    simp only [mEs, Bool.and_eq_true] at h
    intro y hy
    rcases List.mem_cons.mp hy with rfl | hy
    · exact mE_plain e y h.1
    · exact mEs_plain es xs h.2 y hy
theorem star_cons {env : PySem.Env} {x : Expr} {xs : List Expr} (h : plainX x = true) : starEach (x :: xs) env = (false, eval x env) :: starEach xs env := by
  cases x <;> first | rfl | cases h
theorem star_none {env : PySem.Env} {pos : Pos} : ∀ {xs : List Expr}, (∀ x ∈ xs, plainX x = true) → (backTo pos (starEach xs env)).any (·.1) = false
  | [], _ => rfl
  | x :: xs, h => by
    have ih := star_none (env := env) (pos := pos) (xs := xs) fun y hy => h y (List.mem_cons_of_mem _ hy)
    rw [star_cons (h x List.mem_cons_self)]
    simpa [backTo] using ih
theorem plain_ix {y : Expr} (h : plainX y = true) : PlainIx y := by
  intro o i
  cases y <;> first | rfl | cases h
theorem plain_fold {y : Expr} {env : PySem.Env} (h : plainX y = true) : ∀ x, foldedSetIterable y env x = pure x := by
  intro x
  cases y <;> first | rfl | cases h
theorem plain_marks {y : Expr} {op : CmpOp} (h : plainX y = true) : behindInMarks op y = false := by
  cases y <;> first | rfl | cases h
end Ly

set_option Elab.async false
set_option linter.all false
set_option maxRecDepth 100000
set_option maxHeartbeats 2000000
/-! What an expression of ours gives is what the program's own expression gives: the cases. -/
namespace Ly
open PySem PySem.Spec PyProof.Rows L2

/-- isinstance(e, (C, ..)), e the exception that the suite holds -/
def rIsT (K : PySem.W.Frag) (D a : Addr) : List V → Hp → VK → Prop := fun xs H Q => ∃ (tp : Addr) (cs : List V) (cvs : List Value) (b : Bool), xs = [.ref a, .ref tp] ∧ H tp = some (.tup cs) ∧ (∀ us, Vals cs us → us = cvs) ∧ PySem.W.kitAny K (.ref D) cvs = some b ∧ Q (.bl b) H
def rIsX (K : PySem.W.Frag) (D a : Addr) : List V → Hp → VK → Prop := fun xs H Q => rIsE K D a xs H Q ∨ rIsT K D a xs H Q
theorem call_isX {X : Cx} {a D : Addr} {oe : Obj} {pn : List (Addr × Obj)} (C : ExcC X.K D) (hz : Zc (.ref D) none oe) (hf : ∃ vs, oe.data = .fields vs) : CallR (X.suite a ((a, oe) :: pn)) (.builtin "isinstance") (rIsX X.K D a) := by
  intro pins s σ H xs us Q I r h
  rcases h with h | h
  · exact call_isE C hz hf pins s σ H xs us Q I r h
  · obtain ⟨tp, cs, cvs, b, rfl, ht, hcv, e, q⟩ := h
    cases r with
    | cons rx rr =>
      cases rr with
      | cons rt rr =>
        cases rr
        cases rx
        cases rt
        obtain ⟨its, rv, ⟨o, ho, hc, n, hd⟩, _⟩ := I.tuple (SqT.of ht)
        have ec := hcv _ rv
        subst ec
        obtain ⟨oc, od, oda, osl⟩ := o
        dsimp only at hc hd
        subst hc hd
        obtain ⟨hget, _⟩ := I.pin (a, oe) (List.mem_append.mpr (.inl List.mem_cons_self))
        obtain ⟨vs, hv⟩ := hf
        have J : PySem.W.InstAt s.heap a oe D none := by
          obtain ⟨oc, od, oda, osl⟩ := oe
          obtain ⟨h1, h2⟩ := hz
          dsimp only at h1 h2 hv
          subst h1 h2 hv
          exact ⟨hget, rfl, rfl, trivial⟩
        exact PySem.W.kia_tup (PySem.W.handS_kitx_exc C.hg C.hk C.hs C.hd C.ha C.hn C.ht C.hm) I.kIn J ho e (fun z => nomatch z) fun tk => ⟨.bl b, H, I.kept (t' := tk) fun _ _ z => z, rfl, q⟩
/-- what a def of ours promises -/
def spF (K : PySem.W.Frag) (ca : Nat → Addr) (cf : Nat → List D → CR) (f : Nat) : Sp := fun vs H Q E => ∃ (S : List Addr) (ds : List D), (∀ a ∈ S, H a ≠ none) ∧ RepTs K H S S 0 vs ds ∧ match cf f ds with
  | .ok l d => ∀ v H' A, Same H H' → A.Nodup → (∀ a ∈ A, H a = none) → Rep K H' (S ++ A) l v d A → Q v H'
  | .exc c => ∀ H', Same H H' → E (.ref (ca c)) none H'
  | .bad => False

def bNames : List Str := ["len", "tuple", "list", "int", "bool", "max", "min", "sum", "all", "any", "sorted", "str", "isinstance", "range", "enumerate", "zip", "set", "dict", "reversed"]
/-- names of sc, in the scope that runs -/
def ScRel (sc sc' : Scope) : Prop := sc'.kind = .function ∧ ∀ x k, sc.names.lookup x = some k → ∃ k', sc'.names.lookup x = some k' ∧ (k' = k ∨ (k = .free ∧ k' = .cell))

structure Good (C : Cfg) (cal : Bool) (N : List Str) (sc : Scope) (cf : Nat → List D → CR) (ca : Nat → Addr) (EX : Addr → Nat → Prop) (W : WX) (X : Cx) : Prop where
  hN : X.N = N
  nd : N.Nodup
  sr : ScRel sc X.env.scope
  fo : ∀ x, sc.names.lookup x = some .cell → X.fn x = true
  calm : cal = true → X.calm = true
  un : X.A.units + 70 < cLine
  tk : Takes X W
  fns : cal = true → ∀ (f : Nat) (x : Str), C.fns[f]? = some x → ∃ (fa : Addr) (fd : FuncData) (ps : List Str) (k : Nat), X.mg x = some (.ref fa) ∧ PySem.W.keepIn X.K (.ref fa) = true ∧ Binds X.K fd ps [] ∧ FnOk X.prog X.w X.K X.mg X.base (L2.CX X.prog X.w) k fa fd ps (spF X.K ca cf f) ∧ Room k X.A
  dfl : cal = true → ∀ (f : Nat) (ss : List Str), (f, ss) ∈ C.dfl → ∀ x, C.fns[f]? = some x → ∃ (fa : Addr) (fd : FuncData) (ps : List Str) (k : Nat) (dsv : List Value), X.mg x = some (.ref fa) ∧ PySem.W.keepIn X.K (.ref fa) = true ∧ Binds X.K fd ps dsv ∧ Vals (ss.map V.str) dsv ∧ FnOk X.prog X.w X.K X.mg X.base (L2.CX X.prog X.w) k fa fd ps (spF X.K ca cf f) ∧ Room k X.A
  bl : ∀ x ∈ bNames, X.mg x = none
  gls : ∀ (g : Nat) (p : Str × D), C.gls[g]? = some p → ∃ u v, X.mg p.1 = some u ∧ RelV v u ∧ ∀ H hot, Rep X.K H hot 0 v p.2 []
  exN : ∀ (k : Nat) (T : Str), C.exs[k]? = some T → ∃ cv vv, RelV vv cv ∧ (∀ u, RelV vv u → u = cv) ∧ (X.mg T = some cv ∨ (X.mg T = none ∧ bootBuiltins T = some cv ∧ T ≠ "__name__")) ∧ (cal = false → ∀ a c, EX a c → PySem.W.kitOne X.K (.ref (ca c)) cv = some (C.sub c k))
  exI : cal = false → ∀ a c, EX a c → CallR X (.builtin "isinstance") (rIsX X.K (ca c) a)

section
variable {C : Cfg} {cal : Bool} {N : List Str} {sc : Scope} {cf : Nat → List D → CR} {ca : Nat → Addr} {K : PySem.W.Frag} {EX : Addr → Nat → Prop} {W : WX} {X : Cx}

def Post (K : PySem.W.Frag) (ca : Nat → Addr) (EX : Addr → Nat → Prop) (W : WX) (H0 : Hp) (S : List Addr) (ts : List Tm) (σ : L2.St) {α : Type} (x : R α) (k : α → Prop) : Prop :=
  match x with
  | .ok a => k a
  | .exc r c => ∀ H', Sta K EX H0 S ts σ r H' → W (.ref (ca c)) none σ H'
  | .bad => False
def tm : Nat → V → Nat → D → Tm
  | 0, v, l, d => .own v l d
  | j + 1, v, _, d => .brw v (j + 1) d
def tms : Nat → List V → Nat → List D → Tm
  | 0, vs, h, ds => .owns vs h ds
  | j + 1, vs, _, ds => .brws vs (j + 1) ds
variable (C cf ca K EX W)
def tE (j : Nat) (e : E) : TE := fun σ H Q => ∃ H0 S ts r, Sta K EX H0 S ts σ r H ∧ Post K ca EX W H0 S ts σ (ev C.G C.sub cf j e r) fun p => ∀ v H', Sta K EX H0 S (tm j v p.2.1 p.2.2 :: ts) σ p.1 H' → Q v H'
def tT (e : E) : TT := fun σ H Q => ∃ H0 S ts r, Sta K EX H0 S ts σ r H ∧ Post K ca EX W H0 S ts σ (ev C.G C.sub cf 9 e r) fun p => ∃ b, p.2.2 = .bl b ∧ ∀ H', Sta K EX H0 S ts σ p.1 H' → Q b H'
def tEs (j h : Nat) (es : Es) : TA := fun σ H Q => ∃ H0 S ts r, Sta K EX H0 S ts σ r H ∧ Post K ca EX W H0 S ts σ (evs C.G C.sub cf j h es r) fun p => ∀ vs H', vs.length = es.len → Sta K EX H0 S (tms j vs h p.2 :: ts) σ p.1 H' → Q vs H'
def tEo (e : Eo) : TO := fun σ H Q => ∃ H0 S ts r, Sta K EX H0 S ts σ r H ∧ Post K ca EX W H0 S ts σ (evo C.G C.sub cf e r) fun p => ∀ H', Sta K EX H0 S ts σ p.1 H' → Q p.2 H'
def tIf (e : Eo) : TT := fun σ H Q => ∃ H0 S ts r, Sta K EX H0 S ts σ r H ∧ Post K ca EX W H0 S ts σ (evc C.G C.sub cf e r) fun p => ∀ H', Sta K EX H0 S ts σ p.1 H' → Q p.2 H'
variable {C cf ca K EX W}

theorem PEimp {x : Expr} {t t' : TE} (h : PE X x t) (i : ∀ σ H Q, t' σ H Q → t σ H Q) : PE X x t' := ⟨fun pins s σ H Q I q => h.run pins s σ H Q I (i σ H Q q)⟩
theorem PTimp {x : Expr} {t t' : TT} (h : PT X x t) (i : ∀ σ H Q, t' σ H Q → t σ H Q) : PT X x t' := ⟨fun pins s σ H Q I q => h.run pins s σ H Q I (i σ H Q q)⟩
theorem PAimp {x : List Expr} {t t' : TA} (h : PA X x t) (i : ∀ σ H Q, t' σ H Q → t σ H Q) : PA X x t' := ⟨fun pos pins s σ H Q I q => h.run pos pins s σ H Q I (i σ H Q q)⟩
theorem POimp {x : Option Expr} {t t' : TO} (h : PO X x t) (i : ∀ σ H Q, t' σ H Q → t σ H Q) : PO X x t' := ⟨fun pins s σ H Q I q => h.run pins s σ H Q I (i σ H Q q)⟩

section
variable {H0 H H' : Hp} {S : List Addr} {ts : List Tm} {σ : L2.St} {r : Env} {α β : Type}
/-- a step behind a step -/
theorem Post.bind {x : R α} {f : α → R β} {k : β → Prop} (h : Post K ca EX W H0 S ts σ (x.bind f) k) : Post K ca EX W H0 S ts σ x fun a => Post K ca EX W H0 S ts σ (f a) k := by
  cases x <;> exact h
theorem Post.imp {x : R α} {k k' : α → Prop} (h : Post K ca EX W H0 S ts σ x k) (i : ∀ a, k a → k' a) : Post K ca EX W H0 S ts σ x k' := by
  cases x with
  | ok a => exact i a h
  | exc r c => exact h
  | bad => exact h
/-- the same with a temporary more -/
theorem Post.deep {t : Tm} {x : R α} {k : α → Prop} (h : Post K ca EX W H0 S ts σ x k) : Post K ca EX W H0 S (t :: ts) σ x k := by
  cases x with
  | ok a => exact h
  | exc r c => exact fun H' st => h H' st.pop
  | bad => exact h
theorem Post.of {x : Option α} {k : α → Prop} (h : Post K ca EX W H0 S ts σ (R.of x) k) : ∃ a, x = some a ∧ k a := by
  cases x with
  | none => exact h.elim
  | some a => exact ⟨a, rfl, h⟩
theorem plain_last {op op' : CmpOp} {y z : Expr} (h : plainX z = true) : lastMarks [op, op'] [y, z] = false := by
  cases z <;> first | rfl | cases h
theorem tm9 {v : V} {l : Nat} {d : D} : tm 9 v l d = .brw v 9 d := rfl
theorem tm1 {v : V} {l : Nat} {d : D} : tm 1 v l d = .brw v 1 d := rfl

theorem Sta.noArgs {h : Nat} (st : Sta K EX H0 S ts σ r H) : Sta K EX H0 S (.owns [] h [] :: ts) σ r H :=
  Sta.step (t1 := []) (t2 := [.owns [] h []]) st (Same.refl H) fun hot A1 nd sub dom hS q => ⟨[], .nil, fun _ z => (by simp at z), fun hot' h1 h2 h3 h4 => .mk1 (.owns (.nil h))⟩
theorem Sta.noArgsB {h : Nat} (st : Sta K EX H0 S ts σ r H) : Sta K EX H0 S (.brws [] h [] :: ts) σ r H :=
  Sta.step (t1 := []) (t2 := [.brws [] h []]) st (Same.refl H) fun hot A1 nd sub dom hS q => ⟨[], .nil, fun _ z => (by simp at z), fun hot' h1 h2 h3 h4 => .mk1 (.brws (.nil h))⟩
theorem Rep.hot {hot hot' A : List Addr} {l : Nat} {v : V} {d : D} (h : Rep K H hot l v d A) (h1 : ∀ a ∈ hot', a ∈ hot) : Rep K H hot' l v d A :=
  h.frame (X := []) (fun a _ o e => e) (fun _ z => (by simp at z)) (fun _ z => (by simp at z)) (fun a ha => .inl (h1 a ha)) (by simp)
theorem Reps.hot {hot hot' A : List Addr} {l : Nat} {vs : List V} {ds : List D} (h : Reps K H hot l vs ds A) (h1 : ∀ a ∈ hot', a ∈ hot) : Reps K H hot' l vs ds A :=
  h.frame (X := []) (fun a _ o e => e) (fun _ z => (by simp at z)) (fun _ z => (by simp at z)) (fun a ha => .inl (h1 a ha)) (by simp)
theorem Sta.consArgs {v : V} {l h : Nat} {d : D} {vs : List V} {ds : List D} (st : Sta K EX H0 S (.owns vs h ds :: .own v l d :: ts) σ r H) (hl : h ≤ l) : Sta K EX H0 S (.owns (v :: vs) h (d :: ds) :: ts) σ r H :=
  Sta.step (t1 := [.owns vs h ds, .own v l d]) (t2 := [.owns (v :: vs) h (d :: ds)]) st (Same.refl H) fun hot A1 nd sub dom hS q => by
    obtain ⟨B1, B2, rfl, h1, h2⟩ := q.two
    cases h1 with
    | owns h1 =>
      cases h2 with
      | own h2 =>
        obtain ⟨n1, n2, n3⟩ := List.nodup_append.mp nd
        obtain ⟨B', sb, f⟩ := h2.low hl n2
        have hsub : ∀ a ∈ B' ++ B1, a ∈ B1 ++ B2 := fun a ha => by
          rcases List.mem_append.mp ha with z | z
          · exact List.mem_append_right _ (sb.subset z)
          · exact List.mem_append_left _ z
        refine ⟨B' ++ B1, List.nodup_append.mpr ⟨n2.sublist sb, n1, fun a ha b hb e => n3 b hb a (sb.subset ha) e.symm⟩, fun a ha => .inl (hsub a ha), fun hot' g1 g2 g3 g4 => .mk1 (.owns ?_)⟩
        have g1' : ∀ a ∈ hot', a ∈ hot := fun a ha => (g1 a ha).elim id fun z => (sub a (hsub a z)).1
        refine .cons (f hot' g1' fun a ha hm => ?_) (h1.hot g1')
        rcases List.mem_append.mp (g2 a (List.mem_append_right _ ha) hm) with z | z
        · exact z
        · exact absurd rfl (n3 a z a ha)
theorem Sta.consArgsB {v : V} {j : Nat} {d : D} {vs : List V} {ds : List D} (st : Sta K EX H0 S (.brws vs j ds :: .brw v j d :: ts) σ r H) : Sta K EX H0 S (.brws (v :: vs) j (d :: ds) :: ts) σ r H :=
  Sta.step (t1 := [.brws vs j ds, .brw v j d]) (t2 := [.brws (v :: vs) j (d :: ds)]) st (Same.refl H) fun hot A1 nd sub dom hS q => by
    obtain ⟨B1, B2, rfl, h1, h2⟩ := q.two
    cases h1 with
    | brws h1 =>
      cases h2 with
      | brw h2 =>
        refine ⟨[], .nil, fun a ha => by simp at ha, fun hot' g1 g2 g3 g4 => .mk1 (.brws ?_)⟩
        have g1' : ∀ a ∈ hot', a ∈ hot := fun a ha => (g1 a ha).elim id fun z => by simp at z
        exact .cons (h2.less hS g1') (h1.less hS g1')
theorem Reps.append {hot : List Addr} {l : Nat} : ∀ {vs ws : List V} {ds es : List D} {A B : List Addr}, Reps K H hot l vs ds A → Reps K H hot l ws es B → Reps K H hot l (vs ++ ws) (ds ++ es) (A ++ B)
  | _, _, _, _, _, _, .nil _, h => h
  | _, _, _, _, _, _, .cons h hs, h2 => by
    rw [List.append_assoc]
    exact .cons h (Reps.append hs h2)
theorem Sta.snoc {v : V} {l h : Nat} {d : D} {vs : List V} {ds : List D} (st : Sta K EX H0 S (.own v l d :: .owns vs h ds :: ts) σ r H) (hl : h ≤ l) : Sta K EX H0 S (.owns (vs ++ [v]) h (ds ++ [d]) :: ts) σ r H :=
  Sta.step (t1 := [.own v l d, .owns vs h ds]) (t2 := [.owns (vs ++ [v]) h (ds ++ [d])]) st (Same.refl H) fun hot A1 nd sub dom hS q => by
    obtain ⟨B1, B2, rfl, h1, h2⟩ := q.two
    cases h1 with
    | own h1 =>
      cases h2 with
      | owns h2 =>
        obtain ⟨n1, n2, n3⟩ := List.nodup_append.mp nd
        obtain ⟨B', sb, f⟩ := h1.low hl n1
        have hsub : ∀ a ∈ B2 ++ B', a ∈ B1 ++ B2 := fun a ha => by
          rcases List.mem_append.mp ha with z | z
          · exact List.mem_append_right _ z
          · exact List.mem_append_left _ (sb.subset z)
        refine ⟨B2 ++ B', List.nodup_append.mpr ⟨n2, n1.sublist sb, fun a ha b hb e => n3 b (sb.subset hb) a ha e.symm⟩, fun a ha => .inl (hsub a ha), fun hot' g1 g2 g3 g4 => .mk1 (.owns ?_)⟩
        have g1' : ∀ a ∈ hot', a ∈ hot := fun a ha => (g1 a ha).elim id fun z => (sub a (hsub a z)).1
        have q1 : Rep K H hot' h v d B' := f hot' g1' fun a ha hm => by
          rcases List.mem_append.mp (g2 a (List.mem_append_left _ ha) hm) with z | z
          · exact absurd rfl (n3 a ha a z)
          · exact z
        have q2 := (h2.hot g1').append (.cons q1 (.nil h))
        rwa [List.append_nil] at q2
/-- a new list, a new tuple of one's own things -/
theorem Sta.mkL {p : Addr} {k : Nat} {vs : List V} {ds : List D} (st : Sta K EX H0 S (.owns vs k ds :: ts) σ r H) (hp : H p = none) : Sta K EX H0 S (.own (.ref p) (k + 1) (.lst ds) :: ts) σ r (upd H p (.lst vs)) :=
  Sta.step (t1 := [.owns vs k ds]) (t2 := [.own (.ref p) (k + 1) (.lst ds)]) st (same_upd hp) fun hot A1 nd sub dom hS q => by
    have q1 := q.one
    clear q
    cases q1 with
    | owns q1 =>
      refine ⟨p :: A1, List.nodup_cons.mpr ⟨fun hm => dom p (sub p hm).1 hp, nd⟩, fun a ha => ?_, fun hot' g1 g2 g3 g4 => .mk1 (.own (.lstS upd_same ?_))⟩
      · rcases List.mem_cons.mp ha with e | z
        · subst e; exact .inr hp
        · exact .inl z
      · refine q1.frame (X := []) (fun a _ o e => same_upd hp a o e) (fun _ z => (by simp at z)) (fun _ z => (by simp at z)) (fun a ha => ?_) (by simp)
        rcases g1 a ha with z | z
        · exact .inl z
        · rcases List.mem_cons.mp z with e | z
          · subst e; exact .inr hp
          · exact .inl (sub a z).1
theorem Sta.flatUp {v : V} {l l' : Nat} {d : D} (st : Sta K EX H0 S (.own v l d :: ts) σ r H) (hf : flatD d = true) : Sta K EX H0 S (.own v l' d :: ts) σ r H :=
  st.swap fun hot A q nd ns => by
    cases q with
    | own q =>
      cases q <;> first | exact ⟨[], .slnil, fun hot' h1 h2 _ => .own (by constructor)⟩ | (simp [flatD] at hf)
theorem Sta.mkT {p : Addr} {k : Nat} {o : Obj} {vs : List V} {ds : List D} (st : Sta K EX H0 S (.owns vs k ds :: ts) σ r H) (hp : H p = none) (hd : o.dict = none) : Sta K EX H0 S (.own (.ref p) (k + 1) (.tup ds) :: ts) σ r (upd H p (tO (isPrs ds) o vs)) :=
  Sta.step (t1 := [.owns vs k ds]) (t2 := [.own (.ref p) (k + 1) (.tup ds)]) st (same_upd hp) fun hot A1 nd sub dom hS q => by
    have q1 := q.one
    clear q
    cases q1 with
    | owns q1 =>
      refine ⟨A1, nd, fun a ha => .inl ha, fun hot' g1 g2 g3 g4 => .mk1 (.own (.tup (tupF_new hd q1) ?_))⟩
      refine q1.frame (X := []) (fun a _ o e => same_upd hp a o e) (fun _ z => (by simp at z)) (fun _ z => (by simp at z)) (fun a ha => ?_) (by simp)
      exact .inl ((g1 a ha).elim id fun z => (sub a z).1)
theorem Sta.same (st : Sta K EX H0 S ts σ r H) (sm : Same H H') : Sta K EX H0 S ts σ r H' :=
  Sta.step (t1 := []) (t2 := []) st sm fun hot A1 nd sub dom hS q => ⟨[], .nil, fun _ z => (by simp at z), fun hot' h1 h2 h3 h4 => .nil⟩
theorem Sta.fresh {v : V} {l : Nat} {d : D} {A : List Addr} (st : Sta K EX H0 S ts σ r H) (sm : Same H H') (nd : A.Nodup) (nw : ∀ a ∈ A, H a = none) (rp : ∀ hot, Rep K H' hot l v d A) : Sta K EX H0 S (.own v l d :: ts) σ r H' :=
  Sta.step (t1 := []) (t2 := [.own v l d]) st sm fun hot A1 _ sub dom hS q => ⟨A, nd, fun a ha => .inr (nw a ha), fun hot' h1 h2 h3 h4 => .mk1 (.own (rp hot'))⟩
theorem Sta.dom {A B : List Addr} (sd : ∀ a ∈ S, H a ≠ none) (hT : Tms K H S (S ++ (A ++ B)) ts A) (hS : Slots K EX H (S ++ (A ++ B)) σ r B) : ∀ a ∈ S ++ (A ++ B), H a ≠ none := fun a ha => by
  rcases List.mem_append.mp ha with ha | ha
  · exact sd a ha
  · rcases List.mem_append.mp ha with ha | ha
    · exact (hT.mem a ha).ne
    · exact (hS.mem a ha).ne
theorem Sta.call {vs : List V} {ds : List D} (st : Sta K EX H0 S (.owns vs 0 ds :: ts) σ r H) : ∃ S', (∀ a ∈ S', H a ≠ none) ∧ RepTs K H S' S' 0 vs ds ∧
    ∀ v l d H' A, Same H H' → A.Nodup → (∀ a ∈ A, H a = none) → Rep K H' (S' ++ A) l v d A → Sta K EX H0 S (.own v l d :: ts) σ r H' := by
  obtain ⟨ex, sd, A0, B, nd, new, hT, hS⟩ := st
  have dom := Sta.dom sd hT hS
  obtain ⟨A1, A2, rfl, h1, h2⟩ := Tms.split (t1 := [_]) hT
  have h1' := h1.one
  clear h1
  cases h1' with
  | owns h1 =>
    have e0 := h1.zero
    subst e0
    rw [List.nil_append] at nd new hT hS h1 h2 dom
    refine ⟨S ++ (A2 ++ B), dom, h1.toT (fun a ha => ha) (by simp) (Nat.le_refl 0), fun v l d H' A sm na nw rp => ?_⟩
    have F : Fr H H' S S (S ++ (A2 ++ B)) (S ++ (A ++ A2 ++ B)) [] := ⟨fun a _ o e => sm a o e, fun _ z => (by simp at z), fun _ z => (by simp at z), fun a ha => by
      simp only [List.mem_append] at ha ⊢
      rcases ha with z | (z | z) | z
      · exact .inl (.inl z)
      · exact .inr (nw a z)
      · exact .inl (.inr (.inl z))
      · exact .inl (.inr (.inr z)), fun a ha => List.mem_append_left _ ha, fun a ha => .inl ha⟩
    refine ⟨ex.trans sm, fun a ha => ?_, A ++ A2, B, ?_, fun a ha => ?_, .cons (.own (rp.hot fun a ha => ?_)) (h2.frame F (.inl (by simp)) (by simp)), hS.frame F (by simp)⟩
    · cases e : H a with
      | none => exact absurd e (sd a ha)
      | some o => rw [sm a o e]; exact fun z => nomatch z
    · rw [List.append_assoc]
      exact List.nodup_append.mpr ⟨na, nd, fun a ha b hb e => dom b (List.mem_append_right _ hb) (e ▸ nw a ha)⟩
    · rw [List.append_assoc] at ha
      rcases List.mem_append.mp ha with z | z
      · exact ⟨ex.free (nw a z), fun hs => sd a hs (nw a z)⟩
      · exact new a z
    · simp only [List.mem_append] at ha ⊢
      rcases ha with z | (z | z) | z
      · exact .inl (.inl z)
      · exact .inr z
      · exact .inl (.inr (.inl z))
      · exact .inl (.inr (.inr z))
theorem Sta.excAt {i l : Nat} (st : Sta K EX H0 S ts σ r H) (e : getv r i = some (l, .exn)) (h : 100 ≤ l) : ∃ a, σ[i]? = some (some (.ref a)) ∧ EX a (l - 100) := by
  obtain ⟨_, _, A, B, _, _, _, hS⟩ := st
  obtain ⟨o, x, _, A1, _, e1, e2, _, h1, _⟩ := hS.split i (getv_lt e)
  rw [getv_some e] at e2
  cases o with
  | none => cases e2; cases h1
  | some v =>
    cases e2
    generalize hd : D.exn = d at h1
    cases h1 with
    | exc h1 => exact ⟨_, by assumption, by rw [Nat.add_sub_cancel_left]; exact h1⟩
    | sm h1 => subst hd; cases h1
/-- forms that give a value of their own: in any mode -/
theorem modes {x : Expr} {e : E} (h : PE X x (tE C cf ca K EX W 0 e)) (he : ∀ j r, ev C.G C.sub cf j e r = ev C.G C.sub cf 0 e r) (j : Nat) : PE X x (tE C cf ca K EX W j e) := by
  cases j with
  | zero => exact h
  | succ j =>
    refine PEimp h fun σ H Q q => ?_
    obtain ⟨H0, S, ts, r, st, p⟩ := q
    rw [he] at p
    exact ⟨H0, S, ts, r, st, p.imp fun a k v H' st' => k v H' st'.toBrw⟩

variable (g : Good C cal N sc cf ca EX W X)
include g
theorem Good.vis {x : Str} (h : visB sc x = true) : Vis X.env.scope x := by
  unfold visB at h
  split at h
  · rename_i e
    obtain ⟨k', e', z | ⟨z, _⟩⟩ := g.sr.2 x _ e
    · subst z; exact .inl e'
    · cases z
  · rename_i e
    obtain ⟨k', e', z | ⟨z, _⟩⟩ := g.sr.2 x _ e
    · subst z; exact .inr (.inl e')
    · cases z
  · rename_i e
    obtain ⟨k', e', z | ⟨_, z⟩⟩ := g.sr.2 x _ e
    · subst z; exact .inr (.inr e')
    · subst z; exact .inr (.inl e')
  · cases h
theorem Good.gl {x : Str} (h : glB sc x = true) : Gl X x := by
  unfold glB at h
  split at h
  · rename_i e
    obtain ⟨k', e', z | ⟨z, _⟩⟩ := g.sr.2 x _ e
    · subst z; exact e'
    · cases z
  · cases h
theorem Good.loc {x : Str} (h : locB sc x = true) : Loc X.env.scope x ∧ (X.fn x = true ∨ X.env.scope.names.lookup x = some .local) := by
  unfold locB at h
  split at h
  · rename_i e
    obtain ⟨k', e', z | ⟨z, _⟩⟩ := g.sr.2 x _ e
    · subst z; exact ⟨.inl e', .inr e'⟩
    · cases z
  · rename_i e
    obtain ⟨k', e', z | ⟨z, _⟩⟩ := g.sr.2 x _ e
    · subst z; exact ⟨.inr e', .inl (g.fo x e)⟩
    · cases z
  · cases h

theorem mVar_ok {i : Nat} {x : Str} (h : mVar N sc i x = true) (p : Pos) : PE X (.Name x p) (tVar i) := by
  simp only [mVar, Bool.and_eq_true, decide_eq_true_eq, dbg, Bool.not_eq_true'] at h
  obtain ⟨⟨⟨h1, h2⟩, h3⟩, h4⟩ := h
  exact pe_var (by rw [g.hN]; exact h1) (g.vis h2) h3 h4
theorem c_var {i : Nat} {x : Str} {p : Pos} (h : mVar N sc i x = true) (j : Nat) : PE X (.Name x p) (tE C cf ca X.K EX W j (.var i)) := by
  refine PEimp (mVar_ok g h p) fun σ H Q q => ?_
  obtain ⟨H0, S, ts, r, st, q⟩ := q
  simp only [ev] at q
  cases e : getv r i with
  | none => rw [e] at q; exact q.elim
  | some a =>
    obtain ⟨l, d⟩ := a
    rw [e] at q
    by_cases hl : l < 100
    · simp only [if_pos hl] at q
      obtain ⟨v, e1, st1⟩ := st.read (j := j) e hl
      refine ⟨v, e1, q v H ?_⟩
      cases j with
      | zero => exact st1.brw0
      | succ j => exact st1
    · simp only [if_neg hl] at q
      exact q.elim
theorem c_mv {i : Nat} {x : Str} {p : Pos} (h : mVar N sc i x = true) : PE X (.Name x p) (tE C cf ca X.K EX W 0 (.mv i)) := by
  refine PEimp (mVar_ok g h p) fun σ H Q q => ?_
  obtain ⟨H0, S, ts, r, st, q⟩ := q
  simp only [ev] at q
  cases e : getv r i with
  | none => rw [e] at q; exact q.elim
  | some a =>
    obtain ⟨l, d⟩ := a
    rw [e] at q
    by_cases hl : l < 100
    · simp only [if_pos hl] at q
      obtain ⟨v, e1, st1⟩ := st.move e hl
      exact ⟨v, e1, q v H st1⟩
    · simp only [if_neg hl] at q
      exact q.elim
theorem c_cst {d : D} {c : Const} {k : Nat} {p : Pos} (h : mK d c = true) : PE X (.Constant c k p) (tE C cf ca X.K EX W 0 (.cst d)) := by
  have fin : ∀ v, (∀ H hot, Rep X.K H hot 0 v d []) → ∀ σ H Q, tE C cf ca X.K EX W 0 (.cst d) σ H Q → tC v σ H Q := fun v f σ H Q q => by
    obtain ⟨H0, S, ts, r, st, q⟩ := q
    exact q v H (st.push0 (f H))
  cases d <;> cases c <;> simp only [mK, Bool.false_eq_true] at h
  · exact PEimp pe_non (fin _ fun _ _ => .non 0)
  · rw [beq_iff_eq] at h; subst h; exact PEimp pe_bl (fin _ fun _ _ => .bl 0 _)
  · rw [decide_eq_true_eq] at h; subst h; exact PEimp pe_int (fin _ fun _ _ => .int 0 _)
  · rw [decide_eq_true_eq] at h; subst h; exact PEimp pe_str (fin _ fun _ _ => .str 0 _)
theorem c_glb {i : Nat} {q : Str × D} {p : Pos} (e : C.gls[i]? = some q) (hg : glB sc q.1 = true) (hd : dbg q.1 = true) : PE X (.Name q.1 p) (tE C cf ca X.K EX W 0 (.glb i)) := by
  obtain ⟨u, v, h1, h2, h3⟩ := g.gls i q e
  simp only [dbg, Bool.not_eq_true'] at hd
  refine PEimp (pe_glob (g.gl hg) h1 h2 hd) fun σ H Q z => ?_
  obtain ⟨H0, S, ts, r, st, z⟩ := z
  simp only [ev, Cfg.G, e, Option.map_some, R.of, R.bind] at z
  exact z v H (st.push0 fun hot => h3 H hot)
theorem c_bin {a b : E} {x y : Expr} {o : Bo} {p : Pos} (ha : PE X x (tE C cf ca X.K EX W 1 a)) (hb : PE X y (tE C cf ca X.K EX W 1 b)) : PE X (.BinOp x (opOf o) y p) (tE C cf ca X.K EX W 0 (.bin o a b)) := by
  refine PEimp (pe_op (op_bin (EX := EX) o) ha hb) fun σ H Q z => ?_
  obtain ⟨H0, S, ts, r, st, z⟩ := z
  simp only [ev] at z
  refine ⟨H0, S, ts, r, st, z.bind.imp fun a1 k v H1 st1 => ?_⟩
  refine ⟨H0, S, _, _, st1, k.bind.deep.imp fun a2 k w H2 st2 => ?_⟩
  obtain ⟨⟨l, d⟩, e, k⟩ := k.bind.of
  exact ⟨H0, S, ts, σ, a2.1, a1.2.2, a2.2.2, l, d, st2, e, k⟩
theorem c_neg {a : E} {x : Expr} {p : Pos} (ha : PE X x (tE C cf ca X.K EX W 9 a)) : PE X (.UnaryOp .USub x p) (tE C cf ca X.K EX W 0 (.neg a)) := by
  refine PEimp (pe_un un_neg ha) fun σ H Q z => ?_
  obtain ⟨H0, S, ts, r, st, z⟩ := z
  simp only [ev] at z
  refine ⟨H0, S, ts, r, st, z.bind.imp fun a1 k v H1 st1 => ?_⟩
  obtain ⟨r1, l1, d1⟩ := a1
  obtain ⟨hot, rp⟩ := Sta.peek st1
  cases d1 <;> first | exact k.elim | skip
  rename_i i
  exact ⟨i, rp.int_eq, k _ _ (st1.pop.push0 fun _ => .int 0 _)⟩
theorem c_not {a : E} {x : Expr} {p : Pos} (ha : PE X x (tE C cf ca X.K EX W 9 a)) : PE X (.UnaryOp .Not x p) (tE C cf ca X.K EX W 0 (.not a)) := by
  refine PEimp (pe_not ha) fun σ H Q z => ?_
  obtain ⟨H0, S, ts, r, st, z⟩ := z
  simp only [ev] at z
  refine ⟨H0, S, ts, r, st, z.bind.imp fun a1 k v H1 st1 => ?_⟩
  obtain ⟨r1, l1, d1⟩ := a1
  obtain ⟨hot, rp⟩ := Sta.peek st1
  cases d1 <;> first | exact k.elim | skip
  rename_i i
  exact ⟨i, rp.bl_eq, k _ _ (st1.pop.push0 fun _ => .bl 0 _)⟩
theorem t_not {a : E} {x : Expr} {p : Pos} (ha : PT X x (tT C cf ca X.K EX W a)) : PT X (.UnaryOp .Not x p) (tT C cf ca X.K EX W (.not a)) := by
  refine PTimp (pt_not ha) fun σ H Q z => ?_
  obtain ⟨H0, S, ts, r, st, z⟩ := z
  simp only [ev] at z
  refine ⟨H0, S, ts, r, st, z.bind.imp fun a1 k => ?_⟩
  obtain ⟨r1, l1, d1⟩ := a1
  cases d1 <;> first | exact k.elim | skip
  rename_i i
  obtain ⟨b, e, k⟩ := k
  cases e
  exact ⟨i, rfl, k⟩
theorem c_cmp {a b : E} {x y : Expr} {c : Co} {p : Pos} (hy : plainX y = true) (ha : PE X x (tE C cf ca X.K EX W 9 a)) (hb : PE X y (tE C cf ca X.K EX W 9 b)) : PE X (.Compare x [cmpOf c] [y] p) (tE C cf ca X.K EX W 0 (.cmp c a b)) := by
  refine PEimp (pe_cmpR (op_cmp (by have := g.un; omega) c) ha hb (plain_marks hy)) fun σ H Q z => ?_
  obtain ⟨H0, S, ts, r, st, z⟩ := z
  simp only [ev] at z
  refine ⟨H0, S, ts, r, st, z.bind.imp fun a1 k v H1 st1 => ?_⟩
  refine ⟨H0, S, _, _, st1, k.bind.deep.imp fun a2 k w H2 st2 => ?_⟩
  obtain ⟨d, e, k⟩ := k.bind.of
  obtain ⟨hot, h1, h2⟩ := Sta.peek2 st2
  exact ⟨S, hot, a1.2.2, a2.2.2, d, h1, h2, e, k _ H2 ((Sta.pop (Sta.pop st2)).push0 fun _ => .bl 0 _)⟩
theorem t_cmp {a b : E} {x y : Expr} {c : Co} {p : Pos} (hy : plainX y = true) (ha : PE X x (tE C cf ca X.K EX W 9 a)) (hb : PE X y (tE C cf ca X.K EX W 9 b)) : PT X (.Compare x [cmpOf c] [y] p) (tT C cf ca X.K EX W (.cmp c a b)) := by
  refine PTimp (pt_cmpR (op_cmp (by have := g.un; omega) c) ha hb (plain_marks hy)) fun σ H Q z => ?_
  obtain ⟨H0, S, ts, r, st, z⟩ := z
  simp only [ev] at z
  refine ⟨H0, S, ts, r, st, z.bind.imp fun a1 k v H1 st1 => ?_⟩
  refine ⟨H0, S, _, _, st1, k.bind.deep.imp fun a2 k w H2 st2 => ?_⟩
  obtain ⟨d, e, b, e', k⟩ := k.bind.of
  cases e'
  obtain ⟨hot, h1, h2⟩ := Sta.peek2 st2
  exact ⟨S, hot, a1.2.2, a2.2.2, _, h1, h2, e, _, rfl, k H2 (Sta.pop (Sta.pop st2))⟩
theorem c_chain {a b u : E} {x y z : Expr} {c c' : Co} {p : Pos} (hy : plainX z = true) (ha : PE X x (tE C cf ca X.K EX W 9 a)) (hb : PE X y (tE C cf ca X.K EX W 9 b)) (hc : PE X z (tE C cf ca X.K EX W 9 u)) : PE X (.Compare x [cmpOf c, cmpOf c'] [y, z] p) (tE C cf ca X.K EX W 0 (.chain c c' a b u)) := by
  have hu : X.A.units + 65 < cLine := by have := g.un; omega
  refine PEimp (pe_chain (op_cmp hu c) (op_cmp hu c') ha hb hc (plain_last hy)) fun σ H Q z => ?_
  obtain ⟨H0, S, ts, r, st, z⟩ := z
  simp only [ev] at z
  refine ⟨H0, S, ts, r, st, z.bind.imp fun a1 k v H1 st1 => ?_⟩
  refine ⟨H0, S, _, _, st1, k.bind.deep.imp fun a2 k w H2 st2 => ?_⟩
  obtain ⟨d, e, k⟩ := k.bind.of
  obtain ⟨hot, h1, h2⟩ := Sta.peek2 st2
  refine ⟨S, hot, a1.2.2, a2.2.2, d, h1, h2, e, d, rfl, ?_⟩
  cases d with
  | false => exact k _ H2 ((Sta.pop (Sta.pop st2)).push0 fun _ => .bl 0 _)
  | true =>
    refine ⟨H0, S, _, _, st2, (Post.bind k).deep.deep.imp fun a3 k u H3 st3 => ?_⟩
    obtain ⟨d', e', k⟩ := k.bind.of
    obtain ⟨hot', g1, g2⟩ := Sta.peek2 st3
    exact ⟨S, hot', a2.2.2, a3.2.2, d', g1, g2, e', k _ H3 ((Sta.pop (Sta.pop (Sta.pop st3))).push0 fun _ => .bl 0 _)⟩
theorem t_chain {a b u : E} {x y z : Expr} {c c' : Co} {p : Pos} (hy : plainX z = true) (ha : PE X x (tE C cf ca X.K EX W 9 a)) (hb : PE X y (tE C cf ca X.K EX W 9 b)) (hc : PE X z (tE C cf ca X.K EX W 9 u)) : PT X (.Compare x [cmpOf c, cmpOf c'] [y, z] p) (tT C cf ca X.K EX W (.chain c c' a b u)) := by
  have hu : X.A.units + 65 < cLine := by have := g.un; omega
  refine PTimp (pt_chain (op_cmp hu c) (op_cmp hu c') ha hb hc (plain_last hy)) fun σ H Q z => ?_
  obtain ⟨H0, S, ts, r, st, z⟩ := z
  simp only [ev] at z
  refine ⟨H0, S, ts, r, st, z.bind.imp fun a1 k v H1 st1 => ?_⟩
  refine ⟨H0, S, _, _, st1, k.bind.deep.imp fun a2 k w H2 st2 => ?_⟩
  obtain ⟨d, e, k⟩ := k.bind.of
  obtain ⟨hot, h1, h2⟩ := Sta.peek2 st2
  refine ⟨S, hot, a1.2.2, a2.2.2, d, h1, h2, e, d, rfl, ?_⟩
  cases d with
  | false =>
    obtain ⟨b, e', k⟩ := k
    cases e'
    exact ⟨false, rfl, k H2 (Sta.pop (Sta.pop st2))⟩
  | true =>
    refine ⟨H0, S, _, _, st2, (Post.bind k).deep.deep.imp fun a3 k u H3 st3 => ?_⟩
    obtain ⟨d', e', b, e2, k⟩ := k.bind.of
    cases e2
    obtain ⟨hot', g1, g2⟩ := Sta.peek2 st3
    exact ⟨S, hot', a2.2.2, a3.2.2, _, g1, g2, e', _, rfl, k H3 (Sta.pop (Sta.pop (Sta.pop st3)))⟩
/-- a value that is a truth, as a test -/
theorem t_val {a : E} {x : Expr} (h : PE X x (tE C cf ca X.K EX W 9 a)) (he : ∀ whole, isTrue x X.env whole = (do let v ← whole; standAt x.pos; holding [v] (truthy v))) : PT X x (tT C cf ca X.K EX W a) := by
  refine PTimp (pt_val h he) fun σ H Q z => ?_
  obtain ⟨H0, S, ts, r, st, z⟩ := z
  refine ⟨H0, S, ts, r, st, z.imp fun a1 k v H1 st1 => ?_⟩
  obtain ⟨b, e, k⟩ := k
  obtain ⟨r1, l1, d1⟩ := a1
  cases e
  obtain ⟨hot, rp⟩ := Sta.peek st1
  exact ⟨b, rp.bl_eq, k _ (Sta.pop st1)⟩
def tBo (C : Cfg) (cf : Nat → List D → CR) (ca : Nat → Addr) (K : PySem.W.Frag) (EX : Addr → Nat → Prop) (W : WX) (b : Bool) (es : Es) : TE := fun σ H Q => ∃ H0 S ts r, Sta K EX H0 S ts σ r H ∧ Post K ca EX W H0 S ts σ (evBop C.G C.sub cf b es r) fun p => ∀ v H', Sta K EX H0 S (tm 0 v p.2.1 p.2.2 :: ts) σ p.1 H' → Q v H'
def tBoT (C : Cfg) (cf : Nat → List D → CR) (ca : Nat → Addr) (K : PySem.W.Frag) (EX : Addr → Nat → Prop) (W : WX) (b : Bool) (es : Es) : TT := fun σ H Q => ∃ H0 S ts r, Sta K EX H0 S ts σ r H ∧ Post K ca EX W H0 S ts σ (evBop C.G C.sub cf b es r) fun p => ∃ b, p.2.2 = .bl b ∧ ∀ H', Sta K EX H0 S ts σ p.1 H' → Q b H'
theorem bo_one {b : Bool} {e : E} {x : Expr} {p : Pos} {o : BoolOp} (h : PE X x (tE C cf ca X.K EX W 9 e)) : PE X (.BoolOp o [x] p) (tBo C cf ca X.K EX W b (.cons e .nil)) := by
  refine PEimp (pe_one h) fun σ H Q z => ?_
  obtain ⟨H0, S, ts, r, st, z⟩ := z
  simp only [evBop] at z
  refine ⟨H0, S, ts, r, st, z.bind.imp fun a1 k v H1 st1 => ?_⟩
  obtain ⟨r1, l1, d1⟩ := a1
  obtain ⟨hot, rp⟩ := Sta.peek st1
  cases d1 <;> first | exact k.elim | skip
  rw [rp.bl_eq]
  exact k _ _ (st1.pop.push0 fun _ => .bl 0 _)
theorem bo_and {e e' : E} {es : Es} {x y : Expr} {xs : List Expr} {p : Pos} (h : PE X x (tE C cf ca X.K EX W 9 e)) (h2 : PE X (.BoolOp .And (y :: xs) p) (tBo C cf ca X.K EX W true (.cons e' es))) : PE X (.BoolOp .And (x :: y :: xs) p) (tBo C cf ca X.K EX W true (.cons e (.cons e' es))) := by
  refine PEimp (pe_and h h2) fun σ H Q z => ?_
  obtain ⟨H0, S, ts, r, st, z⟩ := z
  rw [evBop] at z
  refine ⟨H0, S, ts, r, st, z.bind.imp fun a1 k v H1 st1 => ?_⟩
  obtain ⟨r1, l1, d1⟩ := a1
  obtain ⟨hot, rp⟩ := Sta.peek st1
  cases d1 <;> first | exact k.elim | skip
  rename_i b
  refine ⟨b, rp.bl_eq, ?_⟩
  cases b with
  | true => exact ⟨H0, S, ts, r1, st1.pop, k⟩
  | false => exact k _ _ (st1.pop.push0 fun _ => .bl 0 _)
theorem bo_or {e e' : E} {es : Es} {x y : Expr} {xs : List Expr} {p : Pos} (h : PE X x (tE C cf ca X.K EX W 9 e)) (h2 : PE X (.BoolOp .Or (y :: xs) p) (tBo C cf ca X.K EX W false (.cons e' es))) : PE X (.BoolOp .Or (x :: y :: xs) p) (tBo C cf ca X.K EX W false (.cons e (.cons e' es))) := by
  refine PEimp (pe_or h h2) fun σ H Q z => ?_
  obtain ⟨H0, S, ts, r, st, z⟩ := z
  rw [evBop] at z
  refine ⟨H0, S, ts, r, st, z.bind.imp fun a1 k v H1 st1 => ?_⟩
  obtain ⟨r1, l1, d1⟩ := a1
  obtain ⟨hot, rp⟩ := Sta.peek st1
  cases d1 <;> first | exact k.elim | skip
  rename_i b
  refine ⟨b, rp.bl_eq, ?_⟩
  cases b with
  | false => exact ⟨H0, S, ts, r1, st1.pop, k⟩
  | true => exact k _ _ (st1.pop.push0 fun _ => .bl 0 _)
theorem bt_one {b : Bool} {e : E} {x : Expr} {p : Pos} (h : PT X x (tT C cf ca X.K EX W e)) : PW X (.BoolOp (if b then .And else .Or) [x] p) (tBoT C cf ca X.K EX W b (.cons e .nil)) := by
  have f : ∀ σ H Q, tBoT C cf ca X.K EX W b (.cons e .nil) σ H Q → tT C cf ca X.K EX W e σ H Q := fun σ H Q z => by
    obtain ⟨H0, S, ts, r, st, z⟩ := z
    simp only [evBop] at z
    refine ⟨H0, S, ts, r, st, z.bind.imp fun a1 k => ?_⟩
    obtain ⟨r1, l1, d1⟩ := a1
    cases d1 <;> first | exact k.elim | exact k
  cases b with
  | true => exact ⟨fun wh pins s σ H Q I z => (pw_and1 h).run wh pins s σ H Q I (f σ H Q z)⟩
  | false => exact ⟨fun wh pins s σ H Q I z => (pw_or1 h).run wh pins s σ H Q I (f σ H Q z)⟩
theorem bt_cons {b : Bool} {e e' : E} {es : Es} {x y : Expr} {xs : List Expr} {p : Pos} (h : PT X x (tT C cf ca X.K EX W e)) (h2 : PW X (.BoolOp (if b then .And else .Or) (y :: xs) p) (tBoT C cf ca X.K EX W b (.cons e' es))) : PW X (.BoolOp (if b then .And else .Or) (x :: y :: xs) p) (tBoT C cf ca X.K EX W b (.cons e (.cons e' es))) := by
  cases b with
  | true =>
    refine ⟨fun wh pins s σ H Q I z => (pw_and h h2).run wh pins s σ H Q I ?_⟩
    obtain ⟨H0, S, ts, r, st, z⟩ := z
    rw [evBop] at z
    refine ⟨H0, S, ts, r, st, z.bind.imp fun a1 k => ?_⟩
    obtain ⟨r1, l1, d1⟩ := a1
    cases d1 <;> first | exact k.elim | skip
    rename_i b
    refine ⟨b, rfl, fun H1 st1 => ?_⟩
    cases b with
    | true => exact ⟨H0, S, ts, r1, st1, k⟩
    | false =>
      obtain ⟨b', e2, k⟩ := k
      cases e2
      exact k H1 st1
  | false =>
    refine ⟨fun wh pins s σ H Q I z => (pw_or h h2).run wh pins s σ H Q I ?_⟩
    obtain ⟨H0, S, ts, r, st, z⟩ := z
    rw [evBop] at z
    refine ⟨H0, S, ts, r, st, z.bind.imp fun a1 k => ?_⟩
    obtain ⟨r1, l1, d1⟩ := a1
    cases d1 <;> first | exact k.elim | skip
    rename_i b
    refine ⟨b, rfl, fun H1 st1 => ?_⟩
    cases b with
    | false => exact ⟨H0, S, ts, r1, st1, k⟩
    | true =>
      obtain ⟨b', e2, k⟩ := k
      cases e2
      exact k H1 st1
theorem c_ife {c a b : E} {x y z : Expr} {p : Pos} {j : Nat} (hc : PT X x (tT C cf ca X.K EX W c)) (ha : PE X y (tE C cf ca X.K EX W j a)) (hb : PE X z (tE C cf ca X.K EX W j b)) : PE X (.IfExp x y z p) (tE C cf ca X.K EX W j (.ife c a b)) := by
  refine PEimp (pe_ifExp hc ha hb) fun σ H Q z => ?_
  obtain ⟨H0, S, ts, r, st, z⟩ := z
  simp only [ev] at z
  refine ⟨H0, S, ts, r, st, z.bind.imp fun a1 k => ?_⟩
  obtain ⟨r1, l1, d1⟩ := a1
  cases d1 <;> first | exact k.elim | skip
  rename_i b
  refine ⟨b, rfl, fun H1 st1 => ?_⟩
  cases b with
  | true => exact ⟨H0, S, ts, r1, st1, k⟩
  | false => exact ⟨H0, S, ts, r1, st1, k⟩
/-! displays, arguments -/
theorem a_nil {j h : Nat} : PA X [] (tEs C cf ca X.K EX W j h .nil) := by
  refine PAimp pa_nil fun σ H Q z => ?_
  obtain ⟨H0, S, ts, r, st, z⟩ := z
  simp only [evs] at z
  refine z [] H rfl ?_
  cases j with
  | zero => exact st.noArgs
  | succ j => exact st.noArgsB
theorem a_cons {j h : Nat} {e : E} {es : Es} {x : Expr} {xs : List Expr} (hx : plainX x = true) (he : PE X x (tE C cf ca X.K EX W j e)) (hs : PA X xs (tEs C cf ca X.K EX W j h es)) : PA X (x :: xs) (tEs C cf ca X.K EX W j h (.cons e es)) := by
  refine PAimp (pa_cons he hs (star_cons hx)) fun σ H Q z => ?_
  obtain ⟨H0, S, ts, r, st, z⟩ := z
  simp only [evs] at z
  refine ⟨H0, S, ts, r, st, z.bind.imp fun a1 k v H1 st1 => ?_⟩
  obtain ⟨r1, l1, d1⟩ := a1
  by_cases hl : h ≤ l1
  · rw [if_pos (.inl hl)] at k
    refine ⟨H0, S, _, r1, st1, k.bind.deep.imp fun a2 k vs H2 hn st2 => ?_⟩
    refine k (v :: vs) H2 (by rw [List.length_cons, hn]; rfl) ?_
    cases j with
    | zero => exact st2.consArgs hl
    | succ j => exact st2.consArgsB
  · by_cases hf : flatD d1 = true
    · rw [if_pos (.inr hf)] at k
      cases j with
      | zero =>
        refine ⟨H0, S, _, r1, Sta.flatUp (l' := h) st1 hf, k.bind.deep.imp fun a2 k vs H2 hn st2 => ?_⟩
        exact k (v :: vs) H2 (by rw [List.length_cons, hn]; rfl) (st2.consArgs (Nat.le_refl h))
      | succ j =>
        refine ⟨H0, S, _, r1, st1, k.bind.deep.imp fun a2 k vs H2 hn st2 => ?_⟩
        exact k (v :: vs) H2 (by rw [List.length_cons, hn]; rfl) st2.consArgsB
    · rw [if_neg (by simp [hl, hf])] at k
      exact k.elim
theorem c_tup {h : Nat} {es : Es} {xs : List Expr} {k : Nat} {p : Pos} (hl : es.len ≤ 1000) (he : PA X xs (tEs C cf ca X.K EX W 0 h es)) : PE X (.Tuple xs k p) (tE C cf ca X.K EX W 0 (.tup h es)) := by
  refine PEimp (pe_tupA he) fun σ H Q z => ?_
  obtain ⟨H0, S, ts, r, st, z⟩ := z
  simp only [ev] at z
  exact ⟨H0, S, ts, r, st, z.bind.imp fun a1 k vs H1 hn st1 => ⟨isPrs a1.2, by rw [hn, sizeLine_eq]; omega, fun p o hp hd => k _ _ (Sta.mkT st1 hp hd)⟩⟩
theorem c_lst {h : Nat} {es : Es} {xs : List Expr} {p : Pos} (hl : es.len ≤ 1000) (he : PA X xs (tEs C cf ca X.K EX W 0 (h - 1) es)) : PE X (.List xs p) (tE C cf ca X.K EX W 0 (.lst h es)) := by
  refine PEimp (pe_lst he) fun σ H Q z => ?_
  obtain ⟨H0, S, ts, r, st, z⟩ := z
  simp only [ev] at z
  exact ⟨H0, S, ts, r, st, z.bind.imp fun a1 k vs H1 hn st1 => ⟨by rw [hn, sizeLine_eq]; omega, fun p hp => k _ _ ((Sta.mkL st1 hp).lowT (by show h ≤ h - 1 + 1; omega))⟩⟩
theorem c_ix {a k : E} {x y : Expr} {p : Pos} {j : Nat} (hy : plainX y = true) (ha : PE X x (tE C cf ca X.K EX W (j + 1) a)) (hk : PE X y (tE C cf ca X.K EX W 9 k)) : PE X (.Subscript x y p) (tE C cf ca X.K EX W j (.ix a k)) := by
  refine PEimp (pe_ix (ix_sem j) ha hk (plain_ix hy)) fun σ H Q z => ?_
  obtain ⟨H0, S, ts, r, st, z⟩ := z
  simp only [ev] at z
  refine ⟨H0, S, ts, r, st, z.bind.imp fun a1 k v H1 st1 => ?_⟩
  refine ⟨H0, S, _, _, st1, k.bind.deep.imp fun a2 k w H2 st2 => ?_⟩
  obtain ⟨d, e, k⟩ := k.bind.of
  obtain ⟨hot, h1, h2⟩ := Sta.peek2 st2
  refine ⟨S, hot, a1.2.2, a2.2.2, d, h1, h2, e, fun u hu => ?_⟩
  have st3 : Sta X.K EX H0 S (.brw u j d :: ts) σ a2.1 H2 := Sta.step (t1 := [.brw v (j + 1) a1.2.2]) (t2 := [.brw u j d]) (Sta.pop st2) (Same.refl H2) fun hot A1 nd sub dom hS q => ⟨[], .nil, fun _ z => (by simp at z), fun hot' h1 h2 h3 h4 => .mk1 (.brw ((hu hot q.brw1).less hS fun a ha => (h1 a ha).elim id fun z => by simp at z))⟩
  cases j with
  | zero => exact k u H2 (Sta.brw0 st3)
  | succ j => exact k u H2 st3
theorem o_no : PO X none (tEo C cf ca X.K EX W .no) := by
  refine POimp po_none fun σ H Q z => ?_
  obtain ⟨H0, S, ts, r, st, z⟩ := z
  exact z H st
theorem o_yes {e : E} {x : Expr} (h : PE X x (tE C cf ca X.K EX W 9 e)) : PO X (some x) (tEo C cf ca X.K EX W (.yes e)) := by
  refine POimp (po_some h) fun σ H Q z => ?_
  obtain ⟨H0, S, ts, r, st, z⟩ := z
  simp only [evo] at z
  refine ⟨H0, S, ts, r, st, z.bind.imp fun a1 k v H1 st1 => ?_⟩
  obtain ⟨r1, l1, d1⟩ := a1
  obtain ⟨hot, rp⟩ := Sta.peek st1
  cases d1 <;> first | exact k.elim | skip
  exact ⟨_, rp.int_eq, k _ (Sta.pop st1)⟩
theorem c_sl {a : E} {lo hi : Eo} {x : Expr} {l u : Option Expr} {p p2 : Pos} (ha : PE X x (tE C cf ca X.K EX W 1 a)) (hl : PO X l (tEo C cf ca X.K EX W lo)) (hu : PO X u (tEo C cf ca X.K EX W hi)) : PE X (.Subscript x (.Slice l u none p2) p) (tE C cf ca X.K EX W 0 (.sl a lo hi)) := by
  refine PEimp (pe_slice (sl_sem (EX := EX)) ha hl hu) fun σ H Q z => ?_
  obtain ⟨H0, S, ts, r, st, z⟩ := z
  simp only [ev] at z
  refine ⟨H0, S, ts, r, st, z.bind.imp fun a1 k v H1 st1 => ?_⟩
  refine ⟨H0, S, _, _, st1, k.bind.deep.imp fun a2 k H2 st2 => ?_⟩
  refine ⟨H0, S, _, _, st2, k.bind.deep.imp fun a3 k H3 st3 => ?_⟩
  obtain ⟨⟨l, d⟩, e, k⟩ := k.bind.of
  exact ⟨H0, S, ts, σ, _, a1.2.2, l, d, st3, e, k⟩
omit g in
theorem RepTs.rev {K : PySem.W.Frag} {H : Hp} {S hot : List Addr} {j : Nat} : ∀ {vs : List V} {ds : List D}, RepTs K H S hot j vs ds → RepTs K H S hot j vs.reverse ds.reverse
  | _, _, .nil _ => .nil j
  | _, _, .cons h hs => by
    rw [List.reverse_cons, List.reverse_cons]
    exact (RepTs.rev hs).append (.cons h (.nil j))
/-- .. what a list holds is one -/
def tU (K : PySem.W.Frag) (te : TE) : TE := fun σ H Q => te σ H fun x H1 => (∀ a xs ys, SqL K H1 a xs → SqL K H1 a ys → xs = ys) → Q x H1
omit g in
theorem pe_uniq {e : Expr} {te : TE} (he : PE X e te) : PE X e (tU X.K te) :=
  ⟨fun pins s σ H Q I h => thn (he.run pins s σ H _ I h) fun v s1 ⟨x, H1, I1, r1, q1⟩ => ⟨x, H1, I1, r1, q1 fun a xs ys h1 h2 => I1.list_inj h1 h2⟩⟩
theorem c_rev {a : E} {x : Expr} {k : Nat} {p1 p2 p3 p : Pos} (ha : PE X x (tE C cf ca X.K EX W 1 a)) : PE X (.Subscript x (.Slice none none (some (.UnaryOp .USub (.Constant (.int 1) k p1) p2)) p3) p) (tE C cf ca X.K EX W 0 (.rev a)) := by
  refine PEimp (pe_revL (pe_uniq ha)) fun σ H Q z => ?_
  obtain ⟨H0, S, ts, r, st, z⟩ := z
  simp only [ev] at z
  refine ⟨H0, S, ts, r, st, z.bind.imp fun a1 k v H1 st1 => fun uq => ?_⟩
  obtain ⟨r1, l1, d1⟩ := a1
  obtain ⟨hot, g1⟩ := Sta.peek st1
  cases d1 <;> first | exact k.elim | skip
  obtain ⟨b, vs, rfl, hb, hs⟩ := g1.lst_ex
  refine ⟨b, vs, rfl, hb, fun q hq => ?_⟩
  refine k _ _ (Sta.newL (t1 := [_]) st1 hq fun hot A q => ?_)
  obtain ⟨_, _, e3, k1, k2⟩ := q.brw1.lst_ex
  cases e3
  rw [uq _ _ _ hb k1]
  exact k2.rev
theorem c_call {b : Bool} {f : Nat} {es : Es} {x : Str} {a : Expr} {as : List Expr} {p q : Pos} (hc : cal = true) (e : C.fns[f]? = some x) (hg : glB sc x = true) (hd : dbg x = true) (hp : ∀ y ∈ a :: as, plainX y = true)
    (ha : PA X (a :: as) (tEs C cf ca X.K EX W (if b then 9 else 0) 0 es)) : PE X (.Call (.Name x p) (a :: as) [] q) (tE C cf ca X.K EX W 0 (.call b f es)) := by
  obtain ⟨fa, fd, ps, k, h1, h2, h3, h4, h5⟩ := g.fns hc f x e
  simp only [dbg, Bool.not_eq_true'] at hd
  refine PEimp (pe_callS h4 h5 (g.gl hg) h1 h2 h3 (E := WE W) (fun σ => passAt g.tk σ) ha hd (star_cons (hp a List.mem_cons_self)) (star_none fun y hy => hp y (List.mem_cons_of_mem _ hy))) fun σ H Q z => ?_
  obtain ⟨H0, S, ts, r, st, z⟩ := z
  simp only [ev] at z
  refine ⟨H0, S, ts, r, st, z.bind.imp fun a1 k vs H1 _ st1 => ?_⟩
  obtain ⟨r1, ds⟩ := a1
  cases b with
  | false =>
    obtain ⟨S', s1, s2, s3⟩ := Sta.call st1
    refine ⟨S', ds, s1, s2, ?_⟩
    simp only at k
    cases hcf : cf f ds with
    | bad => rw [hcf] at k; exact k.elim
    | ok l d =>
      rw [hcf] at k
      simp only [Bool.false_and, Bool.false_eq_true, if_false] at k
      exact fun v H' A sm nd nw rp => k v H' (s3 v l d H' A sm nd nw rp)
    | exc c =>
      rw [hcf] at k
      exact fun H' sm => k H' (Sta.same (Sta.pop st1) sm)
  | true =>
    obtain ⟨hot, s2⟩ := Sta.peeks st1
    refine ⟨[], ds, by simp, s2.cold, ?_⟩
    simp only at k
    cases hcf : cf f ds with
    | bad => rw [hcf] at k; exact k.elim
    | ok l d =>
      rw [hcf] at k
      by_cases hcl : d.clean l = true
      · simp only [hcl, Bool.not_true, Bool.and_false, Bool.false_eq_true, if_false] at k
        refine fun v H' A sm nd nw rp => k v H' (Sta.fresh (Sta.pop st1) sm nd nw fun hot' => rp.of_clean hcl)
      · simp only [hcl, Bool.not_false, Bool.and_true, if_true] at k
        exact k.elim
    | exc c =>
      rw [hcf] at k
      exact fun H' sm => k H' (Sta.same (Sta.pop st1) sm)
omit g in
theorem strs_rep {K : PySem.W.Frag} {H : Hp} {S hot : List Addr} {j : Nat} : ∀ ss : List Str, RepTs K H S hot j (ss.map V.str) (ss.map D.str)
  | [] => .nil j
  | s :: ss => .cons (.str j s) (strs_rep ss)
/-- f(e, ..), the last arguments left out -/
theorem c_callD {f : Nat} {es : Es} {ss : List Str} {x : Str} {a : Expr} {as : List Expr} {p q : Pos} (hc : cal = true) (e : C.fns[f]? = some x) (hs : (f, ss) ∈ C.dfl) (hg : glB sc x = true) (hd : dbg x = true) (hp : ∀ y ∈ a :: as, plainX y = true)
    (ha : PA X (a :: as) (tEs C cf ca X.K EX W 0 0 es)) : PE X (.Call (.Name x p) (a :: as) [] q) (tE C cf ca X.K EX W 0 (.callD f es ss)) := by
  obtain ⟨fa, fd, ps, k, dsv, h1, h2, h3, hv, h4, h5⟩ := g.dfl hc f ss hs x e
  simp only [dbg, Bool.not_eq_true'] at hd
  refine PEimp (pe_callSD h4 h5 (g.gl hg) h1 h2 h3 hv (E := WE W) (fun σ => passAt g.tk σ) ha hd (star_cons (hp a List.mem_cons_self)) (star_none fun y hy => hp y (List.mem_cons_of_mem _ hy))) fun σ H Q z => ?_
  obtain ⟨H0, S, ts, r, st, z⟩ := z
  simp only [ev] at z
  refine ⟨H0, S, ts, r, st, z.bind.imp fun a1 k vs H1 _ st1 => ?_⟩
  obtain ⟨r1, ds⟩ := a1
  obtain ⟨S', s1, s2, s3⟩ := Sta.call st1
  refine ⟨S', ds ++ ss.map D.str, s1, s2.append (strs_rep ss), ?_⟩
  simp only at k
  cases hcf : cf f (ds ++ ss.map D.str) with
  | bad => rw [hcf] at k; exact k.elim
  | ok l d =>
    rw [hcf] at k
    exact fun v H' A sm nd nw rp => k v H' (s3 v l d H' A sm nd nw rp)
  | exc c =>
    rw [hcf] at k
    exact fun H' sm => k H' (Sta.same (Sta.pop st1) sm)
end
end
end Ly

set_option Elab.async false
set_option linter.all false
set_option maxRecDepth 100000
set_option maxHeartbeats 2000000
/-! Built-in calls, comprehensions, and all expressions together. -/
namespace Ly
open PySem PySem.Spec PyProof.Rows L2
section
variable {C : Cfg} {cal : Bool} {N : List Str} {sc : Scope} {cf : Nat → List D → CR} {ca : Nat → Addr} {EX : Addr → Nat → Prop} {W : WX} {X : Cx}
section
variable (g : Good C cal N sc cf ca EX W X)
include g
theorem c_blt {f : Bi} {es : Es} {a : Expr} {as : List Expr} {p q : Pos} (hm : f ≠ .maxd) (hc : f.cold = true ∨ cal = true) (hg : glB sc f.name = true) (hp : ∀ y ∈ a :: as, plainX y = true)
    (ha : PA X (a :: as) (tEs C cf ca X.K EX W 1 0 es)) : PE X (.Call (.Name f.name p) (a :: as) [] q) (tE C cf ca X.K EX W 0 (.blt f es)) := by
  have cr := call_blt (X := X) (EX := EX) f hm (hc.imp id g.calm)
  have hn : X.mg f.name = none := g.bl _ (by cases f <;> decide)
  have n1 : f.name ≠ "__name__" := by cases f <;> decide
  have n2 : (f.name == ("__debug__" : Str)) = false := by cases f <;> decide
  have bo := f.boot
  have h1 := star_cons (env := X.env) (xs := as) (hp a List.mem_cons_self)
  have h2 := star_none (env := X.env) (pos := q) fun y hy => hp y (List.mem_cons_of_mem _ hy)
  have main : PE X (.Call (.Name f.name p) (a :: as) [] q) (tCB (rSBlt X.K EX f) (tEs C cf ca X.K EX W 1 0 es)) := by
    cases f <;> first
      | exact pe_callB cr (g.gl hg) hn bo ha n1 n2 h1 h2
      | exact pe_callTy cr (g.gl hg) hn bo ha n1 n2 h1 h2
  refine PEimp main fun σ H Q z => ?_
  obtain ⟨H0, S, ts, r, st, z⟩ := z
  simp only [ev] at z
  refine ⟨H0, S, ts, r, st, z.bind.imp fun a1 k vs H1 _ st1 => ?_⟩
  obtain ⟨⟨l, d⟩, e, k⟩ := k.bind.of
  exact ⟨H0, S, ts, σ, _, a1.2, l, d, st1, e, k⟩
theorem c_maxd {a b : E} {x y : Expr} {p q u : Pos} (hc : cal = true) (hg : glB sc "max" = true) (hp : plainX x = true)
    (ha : PE X x (tE C cf ca X.K EX W 1 a)) (hb : PE X y (tE C cf ca X.K EX W 1 b)) : PE X (.Call (.Name "max" p) [x] [⟨some "default", y, u⟩] q) (tE C cf ca X.K EX W 0 (.blt .maxd (.cons a (.cons b .nil)))) := by
  have cr := call_maxD (X := X) (g.calm hc) (by have := g.un; omega)
  have hn : X.mg "max" = none := g.bl _ (by decide)
  have h1 := star_cons (env := X.env) (xs := []) hp
  have h2 : backTo q (starEach [x] X.env) = (false, eval x X.env) :: backTo q (starEach [] X.env) := by rw [h1]; rfl
  refine PEimp (pe_callBK cr (g.gl hg) hn PyProof.Rows.boot_max (pa_cons ha pa_nil h1) (pk_cons hb pk_nil) (he := h2) (hpl := by rw [h2]; rfl)) fun σ H Q z => ?_
  obtain ⟨H0, S, ts, r, st, z⟩ := z
  simp only [ev, evs] at z
  refine ⟨H0, S, ts, r, st, z.bind.bind.imp fun a1 k v H1 st1 => ?_⟩
  rw [if_pos (.inl (Nat.zero_le _))] at k
  refine ⟨H0, S, _, _, st1, (k.bind.bind.deep).imp fun a2 k w H2 st2 => ?_⟩
  rw [if_pos (.inl (Nat.zero_le _))] at k
  obtain ⟨⟨l, d⟩, e, k⟩ := (Post.bind (show Post X.K ca EX W H0 S ts σ ((R.of (bltop .maxd [a1.2.2, a2.2.2])).bind fun x => R.ok (a2.1, x.1, x.2)) _ from k)).of
  obtain ⟨r1, l1, d1⟩ := a1
  obtain ⟨r2, l2, d2⟩ := a2
  obtain ⟨hot, g1, g2⟩ := Sta.peek2 st2
  cases d1 <;> cases d2 <;> simp only [bltop, reduceCtorEq, Option.map_eq_some_iff] at e
  obtain ⟨is, e1, e2⟩ := e
  cases e2
  obtain ⟨p, ws, e3, h4, h5⟩ := g1.lst_ex
  have h6 := h5.ints e1
  subst h6
  exact ⟨p, is, _, by rw [e3], by rw [g2.int_eq], h4, k _ _ ((Sta.pop (Sta.pop st2)).push0 fun _ => .int 0 _)⟩
theorem c_isi {a : E} {t : Ty} {y : Expr} {p p2 q : Pos} (hg : glB sc "isinstance" = true) (ht : glB sc t.word = true) (hp : plainX y = true)
    (ha : PE X y (tE C cf ca X.K EX W 9 a)) : PE X (.Call (.Name "isinstance" p) [y, .Name t.word p2] [] q) (tE C cf ca X.K EX W 0 (.isi a t)) := by
  have hn : X.mg "isinstance" = none := g.bl _ (by decide)
  have ht2 : X.mg t.word = none := g.bl _ (by cases t <;> decide)
  have hw : PE X (.Name t.word p2) (tC (.ty t.name)) := by
    cases t <;> exact pe_bltn (g.gl ht) ht2 (by first | exact PyProof.Rows.boot_tuple | exact PyProof.Rows.boot_int | exact PyProof.Rows.boot_bool | exact PyProof.Rows.boot_str | exact PyProof.Rows.boot_list) rfl
  have h1 := star_cons (env := X.env) (xs := [.Name t.word p2]) hp
  refine PEimp (pe_callB call_isi (g.gl hg) hn PyProof.Rows.boot_isinstance (pa_cons ha (pa_cons hw pa_nil) h1) (he := h1)) fun σ H Q z => ?_
  obtain ⟨H0, S, ts, r, st, z⟩ := z
  simp only [ev] at z
  refine ⟨H0, S, ts, r, st, z.bind.imp fun a1 k v H1 st1 => ?_⟩
  obtain ⟨d, e, k⟩ := k.bind.of
  obtain ⟨hot, rp⟩ := Sta.peek st1
  obtain ⟨n, e1, e2⟩ := isaop_kit e
  exact ⟨v, .ty t.name, .type n, .type t.name, d, rfl, .ty _, rp.tyX e1, kit_ty e2, k _ _ (st1.pop.push0 fun _ => .bl 0 _)⟩
theorem c_isx {i k : Nat} {x T : Str} {p p1 p2 q : Pos} (hcal : cal = false) (hg : glB sc "isinstance" = true) (hx : mVar N sc i x = true) (hT : C.exs[k]? = some T) (hgT : glB sc T = true) (hd : dbg T = true) :
    PE X (.Call (.Name "isinstance" p) [.Name x p1, .Name T p2] [] q) (tE C cf ca X.K EX W 0 (.isx i k)) := by
  have hn : X.mg "isinstance" = none := g.bl _ (by decide)
  obtain ⟨cv, vv, r1, r2, r3, r4⟩ := g.exN k T hT
  simp only [dbg, Bool.not_eq_true'] at hd
  have hw : PE X (.Name T p2) (tC vv) := by
    rcases r3 with r3 | ⟨r3, r5, r6⟩
    · exact pe_glob (g.gl hgT) r3 r1 hd
    · exact pe_bltn (g.gl hgT) r3 r5 r1 r6 hd
  have cr : CallR X (.builtin "isinstance") (fun xs H Q => ∃ a c, EX a c ∧ rIsE X.K (ca c) a xs H Q) := fun pins s σ H xs us Q I r h => by
    obtain ⟨a, c, h1, h2⟩ := h
    exact g.exI hcal a c h1 pins s σ H xs us Q I r (.inl h2)
  refine PEimp (pe_callB cr (g.gl hg) hn PyProof.Rows.boot_isinstance (pa_cons (mVar_ok g hx p1) (pa_cons hw pa_nil))) fun σ H Q z => ?_
  obtain ⟨H0, S, ts, r, st, z⟩ := z
  simp only [ev] at z
  cases e : getv r i with
  | none => rw [e] at z; exact z.elim
  | some a =>
    obtain ⟨l, d⟩ := a
    rw [e] at z
    cases d <;> first | exact z.elim | skip
    by_cases hl : 100 ≤ l
    · simp only [if_pos hl] at z
      obtain ⟨a, e1, e2⟩ := Sta.excAt st e hl
      refine ⟨.ref a, e1, ?_⟩
      exact ⟨a, l - 100, e2, vv, cv, _, rfl, r2, r4 hcal a _ e2, z _ H (st.push0 fun _ => .bl 0 _)⟩
    · simp only [if_neg hl] at z
      exact z.elim
theorem mCls_ok (hcal : cal = false) : ∀ (ks : List Nat) (ts : List Expr), mCls C sc ks ts = true → ∃ (vvs : List V) (cvs : List Value), PA X ts (fun _ H Q => Q vvs H) ∧ vvs.length = ts.length ∧ (∀ us, Vals vvs us → us = cvs) ∧ ∀ a c, EX a c → PySem.W.kitAny X.K (.ref (ca c)) cvs = some (ks.any fun k => C.sub c k)
  | [], [], _ => ⟨[], [], pa_nil, rfl, fun us r => (by cases r; rfl), fun a c _ => rfl⟩
  | [], _ :: _, h => by simp [mCls] at h
  | _ :: _, [], h => by simp [mCls] at h
  | k :: ks, t :: ts, h => by
    simp only [mCls, Bool.and_eq_true] at h
    obtain ⟨h, h'⟩ := h
    obtain ⟨vvs, cvs, i1, i2, i3, i4⟩ := mCls_ok hcal ks ts h'
    split at h
    · rename_i T e
      obtain ⟨p2, rfl⟩ := dName_eq e
      simp only [Bool.and_eq_true, decide_eq_true_eq, dbg, Bool.not_eq_true'] at h
      obtain ⟨⟨hT, hgT⟩, hd⟩ := h
      obtain ⟨cv, vv, r1, r2, r3, r4⟩ := g.exN k T hT
      have hw : PE X (.Name T p2) (tC vv) := by
        rcases r3 with r3 | ⟨r3, r5, r6⟩
        · exact pe_glob (g.gl hgT) r3 r1 hd
        · exact pe_bltn (g.gl hgT) r3 r5 r1 r6 hd
      refine ⟨vv :: vvs, cv :: cvs, (pa_cons hw i1 : PA X (.Name T p2 :: ts) (tCons (tC vv) (fun _ H Q => Q vvs H))), by simp [i2], fun us r => ?_, fun a c ha => ?_⟩
      · cases r with
        | cons ra rb => rw [r2 _ ra, i3 _ rb]
      · have e1 := r4 hcal a c ha
        have e2 := i4 a c ha
        unfold PySem.W.kitAny
        rw [e1, List.any_cons]
        cases C.sub c k
        · simpa using e2
        · rfl
    · cases h
theorem c_isxs {i : Nat} {ks : List Nat} {x : Str} {ts : List Expr} {kk : Nat} {p p1 p2 q : Pos} (hcal : cal = false) (hg : glB sc "isinstance" = true) (hx : mVar N sc i x = true) (hT : mCls C sc ks ts = true) (hl : ts.length ≤ 1000) :
    PE X (.Call (.Name "isinstance" p) [.Name x p1, .Tuple ts kk p2] [] q) (tE C cf ca X.K EX W 0 (.isxs i ks)) := by
  have hn : X.mg "isinstance" = none := g.bl _ (by decide)
  obtain ⟨vvs, cvs, i1, i2, i3, i4⟩ := mCls_ok g hcal ks ts hT
  have cr : CallR X (.builtin "isinstance") (fun xs H Q => ∃ a c, EX a c ∧ rIsT X.K (ca c) a xs H Q) := fun pins s σ H xs us Q I r h => by
    obtain ⟨a, c, h1, h2⟩ := h
    exact g.exI hcal a c h1 pins s σ H xs us Q I r (.inr h2)
  refine PEimp (pe_callB cr (g.gl hg) hn PyProof.Rows.boot_isinstance (pa_cons (mVar_ok g hx p1) (pa_cons (pe_tup i1) pa_nil))) fun σ H Q z => ?_
  obtain ⟨H0, S, ts', r, st, z⟩ := z
  simp only [ev] at z
  cases e : getv r i with
  | none => rw [e] at z; exact z.elim
  | some a =>
    obtain ⟨l, d⟩ := a
    rw [e] at z
    cases d <;> first | exact z.elim | skip
    by_cases hl' : 100 ≤ l
    · simp only [if_pos hl'] at z
      obtain ⟨a, e1, e2⟩ := Sta.excAt st e hl'
      refine ⟨.ref a, e1, ?_⟩
      refine ⟨by rw [i2, sizeLine_eq]; omega, fun p hp => ?_⟩
      refine ⟨a, l - 100, e2, p, vvs, cvs, _, rfl, upd_same, i3, i4 a _ e2, z _ _ ?_⟩
      exact Sta.step (t1 := []) (t2 := [.own (.bl _) 0 (.bl _)]) st (same_upd hp) fun hot A1 nd sub dom hS q => ⟨[], .nil, fun _ z => (by simp at z), fun hot' h1 h2 h3 h4 => .mk1 (.own (.bl 0 _))⟩
    · simp only [if_neg hl'] at z
      exact z.elim
omit g in
theorem insU_mem {x z : Int} : ∀ {l : List Int}, z ∈ insU x l ↔ z = x ∨ z ∈ l
  | [] => by simp [insU]
  | y :: ys => by
    rw [insU]
    split
    · simp
    · split
      · rename_i h; subst h; simp
      · rw [List.mem_cons, insU_mem (l := ys), List.mem_cons]
        constructor
        · rintro (h | h | h)
          · exact .inr (.inl h)
          · exact .inl h
          · exact .inr (.inr h)
        · rintro (h | h | h)
          · exact .inr (.inl h)
          · exact .inl h
          · exact .inr (.inr h)
omit g in
theorem insU_pw (x : Int) : ∀ {l : List Int}, l.Pairwise (· < ·) → (insU x l).Pairwise (· < ·)
  | [], _ => by simp [insU]
  | y :: ys, h => by
    have h1 := List.pairwise_cons.mp h
    rw [insU]
    split
    · rename_i hxy
      refine List.pairwise_cons.mpr ⟨fun z hz => ?_, h⟩
      rcases List.mem_cons.mp hz with rfl | hz
      · exact hxy
      · exact Int.lt_trans hxy (h1.1 z hz)
    · split
      · exact h
      · refine List.pairwise_cons.mpr ⟨fun z hz => ?_, insU_pw x h1.2⟩
        rcases insU_mem.mp hz with rfl | hz
        · omega
        · exact h1.1 z hz
omit g in
theorem usort_mem {z : Int} : ∀ {l : List Int}, z ∈ usortI l ↔ z ∈ l
  | [] => by simp [usortI]
  | x :: l => by rw [usortI, insU_mem, usort_mem (l := l), List.mem_cons]
omit g in
theorem usort_pw : ∀ l : List Int, (usortI l).Pairwise (· < ·)
  | [] => .nil
  | x :: l => insU_pw x (usort_pw l)
omit g in
theorem strict_uniq {a b : List Int} (ha : a.Pairwise (· < ·)) (hb : b.Pairwise (· < ·)) (h : ∀ k, k ∈ a ↔ k ∈ b) : a = b := by
  have na : a.Nodup := ha.imp fun h => Int.ne_of_lt h
  have nb : b.Nodup := hb.imp fun h => Int.ne_of_lt h
  exact sort_uniq a b ((List.perm_ext_iff_of_nodup na nb).mpr h) (ha.imp fun h => Int.le_of_lt h) (hb.imp fun h => Int.le_of_lt h)
/-- sorted(set([..])) -/
theorem c_sset {a : E} {z : Expr} {p p2 q q2 : Pos} (hc : cal = true) (hg : glB sc "sorted" = true) (hg2 : glB sc "set" = true) (hp : plainX z = true) (ha : PE X z (tE C cf ca X.K EX W 1 a)) :
    PE X (.Call (.Name "sorted" p) [.Call (.Name "set" p2) [z] [] q2] [] q) (tE C cf ca X.K EX W 0 (.sset a)) := by
  have m1 : X.mg "sorted" = none := g.bl _ (by decide)
  have m2 : X.mg "set" = none := g.bl _ (by decide)
  have b2 : bootBuiltins "set" = some (.type "set") := by decide +kernel
  have s1 := star_cons (env := X.env) (xs := []) hp
  have inner : PE X (.Call (.Name "set" p2) [z] [] q2) (tCB (rSetL X.K X.w) (tCons (tE C cf ca X.K EX W 1 a) tNil)) := pe_callTy (cr_setL (g.calm hc)) (g.gl hg2) m2 b2 (pa_cons ha pa_nil s1) (by decide) (by decide) s1 rfl
  have outer : PE X (.Call (.Name "sorted" p) [.Call (.Name "set" p2) [z] [] q2] [] q) (tCB (rSortedSet2 X.w) (tCons (tCB (rSetL X.K X.w) (tCons (tE C cf ca X.K EX W 1 a) tNil)) tNil)) := pe_callB (cr_sortedSet2 (g.calm hc)) (g.gl hg) m1 PyProof.Rows.boot_sorted (pa_cons inner pa_nil)
  refine PEimp outer fun σ H Q z => ?_
  obtain ⟨H0, S, ts, r, st, z⟩ := z
  simp only [ev] at z
  refine ⟨H0, S, ts, r, st, z.bind.imp fun a1 k v H1 st1 => ?_⟩
  obtain ⟨r1, l1, d1⟩ := a1
  obtain ⟨hot, g1⟩ := Sta.peek st1
  cases d1 <;> first | exact k.elim | skip
  rename_i ds
  obtain ⟨is, e1, k⟩ := (Post.bind k).of
  obtain ⟨b, vs, rfl, hb, hs⟩ := g1.lst_ex
  rw [hs.ints e1] at hb
  by_cases hl : is.length < 60 ∨ (usortI is).length < 4000
  · rw [if_pos hl] at k
    have hl2 : ∃ B : List Int, B.length < 4000 ∧ ∀ x ∈ is, x ∈ B := by
      rcases hl with hl | hl
      · exact ⟨is, by omega, fun _ h => h⟩
      · exact ⟨usortI is, hl, fun x h => usort_mem.mpr h⟩
    refine ⟨b, is, rfl, hb, hl2, fun t c ht hct => ?_⟩
    obtain ⟨B2, hB2, hB3⟩ := hl2
    have hct := hct B2 hB3
    refine ⟨t, _, c, rfl, upd_same, by omega, fun ns u h1 h2 _ hu => ?_⟩
    have en : ns = usortI is := strict_uniq h1 (usort_pw is) fun k => by rw [h2 k, usort_mem]; simp
    subst en
    refine k _ _ (Sta.newL (t1 := [_]) (Sta.same st1 (same_upd ht)) hu fun hot A q => ints_rep _)
  · rw [if_neg hl] at k
    exact k.elim
omit g in
theorem rgV_rep {K : PySem.W.Frag} {H : Hp} {S hot : List Addr} {j : Nat} : ∀ (n : Nat) (lo : Int), RepTs K H S hot j ((List.range n).map fun i : Nat => V.int (lo + i)) (rangeD lo n)
  | 0, lo => .nil j
  | n + 1, lo => by
    rw [List.range_succ_eq_map, List.map_cons, List.map_map, rangeD]
    refine .cons ?_ ?_
    · have e : lo + ((0 : Nat) : Int) = lo := by omega
      rw [e]
      exact .int j lo
    · have q := rgV_rep (K := K) (H := H) (S := S) (hot := hot) (j := j) n (lo + 1)
      have e : ((fun i : Nat => V.int (lo + i)) ∘ Nat.succ) = fun i : Nat => V.int (lo + 1 + i) := by
        funext i
        show V.int (lo + ((i + 1 : Nat) : Int)) = _
        congr 1
        omega
      rw [e]
      exact q
omit g in
theorem downV_rep {K : PySem.W.Frag} {H : Hp} {S hot : List Addr} {j : Nat} : ∀ (n : Nat) (hi : Int), RepTs K H S hot j (downV hi n) (downD hi n)
  | 0, hi => .nil j
  | n + 1, hi => .cons (.int j hi) (downV_rep n (hi - 1))
/-- list(range(n)) -/
theorem c_lrg {a : E} {z : Expr} {p p2 q q2 : Pos} (hc : cal = true) (hg : glB sc "list" = true) (hg2 : glB sc "range" = true) (hp : plainX z = true) (ha : PE X z (tE C cf ca X.K EX W 9 a)) :
    PE X (.Call (.Name "list" p) [.Call (.Name "range" p2) [z] [] q2] [] q) (tE C cf ca X.K EX W 0 (.lrg a)) := by
  have m1 : X.mg "list" = none := g.bl _ (by decide)
  have m2 : X.mg "range" = none := g.bl _ (by decide)
  have s1 := star_cons (env := X.env) (xs := []) hp
  refine PEimp (pe_listRg (g.calm hc) (g.gl hg) m1 (prg_1 (g.gl hg2) m2 ha s1)) fun σ H Q z => ?_
  obtain ⟨H0, S, ts, r, st, z⟩ := z
  simp only [ev] at z
  refine ⟨H0, S, ts, r, st, z.bind.imp fun a1 k v H1 st1 => ?_⟩
  obtain ⟨r1, l1, d1⟩ := a1
  obtain ⟨hot, g1⟩ := Sta.peek st1
  cases d1 <;> first | exact k.elim | skip
  rename_i n
  simp only at k
  by_cases hr : rng62 n = true
  · rw [if_pos hr] at k
    have hr' : n.natAbs ≤ 8000000 := of_decide_eq_true hr
    refine ⟨n, g1.int_eq, ⟨by omega, by omega, by omega, by omega, by omega⟩, fun u hu => ?_⟩
    refine k _ _ (Sta.newL (t1 := [_]) st1 hu fun hot A q => ?_)
    have := rgV_rep (K := X.K) (H := H1) (S := S) (hot := hot) (j := 0) n.toNat 0
    unfold rgV
    rw [Int.sub_zero]
    exact this
  · rw [if_neg hr] at k
    exact k.elim
/-- list(range(i, j, -1)) -/
theorem c_lrgd {a b : E} {x y : Expr} {kk : Nat} {p p2 q q2 p3 p4 : Pos} (hc : cal = true) (hg : glB sc "list" = true) (hg2 : glB sc "range" = true) (hx : plainX x = true) (hy : plainX y = true) (ha : PE X x (tE C cf ca X.K EX W 9 a)) (hb : PE X y (tE C cf ca X.K EX W 9 b)) :
    PE X (.Call (.Name "list" p) [.Call (.Name "range" p2) [x, y, .UnaryOp .USub (.Constant (.int 1) kk p3) p4] [] q2] [] q) (tE C cf ca X.K EX W 0 (.lrgd a b)) := by
  have m1 : X.mg "list" = none := g.bl _ (by decide)
  have m2 : X.mg "range" = none := g.bl _ (by decide)
  have s3 := star_cons (env := X.env) (x := .UnaryOp .USub (.Constant (.int 1) kk p3) p4) (xs := []) rfl
  have s2 := star_cons (env := X.env) (xs := [.UnaryOp .USub (.Constant (.int 1) kk p3) p4]) hy
  have s1 := star_cons (env := X.env) (xs := [y, .UnaryOp .USub (.Constant (.int 1) kk p3) p4]) hx
  have hm1 : PE X (.UnaryOp .USub (.Constant (.int 1) kk p3) p4) (tUn (rU fun i => .int (-i)) (tC (.int 1))) := pe_un un_neg pe_int
  have hpl : (backTo q2 (starEach [y, .UnaryOp .USub (.Constant (.int 1) kk p3) p4] X.env)).any (·.1) = false := star_none fun z hz => by
    simp only [List.mem_cons, List.mem_nil_iff, or_false] at hz
    rcases hz with rfl | rfl
    · exact hy
    · rfl
  refine PEimp (pe_listDown (g.calm hc) (g.gl hg) m1 (g.gl hg2) m2 (pa_cons ha (pa_cons hb (pa_cons hm1 pa_nil s3) s2) s1) s1 hpl) fun σ H Q z => ?_
  obtain ⟨H0, S, ts, r, st, z⟩ := z
  simp only [ev] at z
  refine ⟨H0, S, ts, r, st, z.bind.imp fun a1 k v H1 st1 => ?_⟩
  refine ⟨H0, S, _, _, st1, (k.bind.deep).imp fun a2 k w H2 st2 => ?_⟩
  obtain ⟨r1, l1, d1⟩ := a1
  obtain ⟨r2, l2, d2⟩ := a2
  obtain ⟨hot, g1, g2⟩ := Sta.peek2 st2
  refine ⟨1, rfl, ?_⟩
  cases d1 <;> cases d2 <;> first | exact k.elim | skip
  rename_i i k0 j
  simp only at k
  by_cases hr : (rng62 i && rng62 j) = true
  · rw [if_pos hr] at k
    rw [Bool.and_eq_true] at hr
    refine ⟨i, j, by rw [g1.int_eq, g2.int_eq], of_decide_eq_true hr.1, of_decide_eq_true hr.2, fun u hu => ?_⟩
    exact k _ _ (Sta.newL (t1 := [_, _]) st2 hu fun hot A q => downV_rep _ _)
  · rw [if_neg hr] at k
    exact k.elim
omit g in
theorem Sta.lstAt {i m : Nat} {ds : List D} {H0 H : Hp} {S : List Addr} {ts : List Tm} {σ : L2.St} {r : Env} {K : PySem.W.Frag} (st : Sta K EX H0 S ts σ r H) (e : getv r i = some (m + 1, .lst ds)) : ∃ a vs hot A, σ[i]? = some (some (.ref a)) ∧ H a = some (.lst vs) ∧ Reps K H hot m vs ds A := by
  obtain ⟨_, _, A, B, _, _, _, hS⟩ := st
  obtain ⟨o, x, _, A1, _, e1, e2, _, h1, _⟩ := hS.split i (getv_lt e)
  rw [getv_some e] at e2
  have e2' := Option.some.inj e2
  clear e2
  cases h1 with
  | non => cases e2'
  | exc h1 =>
    have z := congrArg Prod.snd (Option.some.inj e2')
    cases z
  | sm h1 =>
    cases e2'
    cases h1 with
    | lstS h hs => exact ⟨_, _, _, _, e1, h, hs⟩
omit g in
theorem few1 {x : Expr} {env : PySem.Env} {p : Pos} (h : plainX x = true) : ((backTo p (starEach [x] env)).all (fun x => !x.1) && (backToKw p (keywordEach [] env)).all (fun x => x.1.isSome) && decide (([x] : List Expr).length + ([] : List Keyword).length + (if ([] : List Keyword).isEmpty then 0 else 1) < 30)) = true := by
  rw [star_cons h]; rfl
omit g in
theorem idxD_sem : ∀ {ds : List D} {d : D} {j : Nat}, idxD ds d = some j → ∃ z, (pds ds)[j]? = some z ∧ PyData.eqv z d.pd = true ∧ ∀ (m : Nat) (z' : PyData), m < j → (pds ds)[m]? = some z' → PyData.eqv z' d.pd = false := by
  intro ds d j h
  unfold idxD at h
  rw [List.findIdx?_eq_some_iff_getElem] at h
  obtain ⟨h1, h2, h3⟩ := h
  rw [pds_map]
  refine ⟨ds[j].pd, by simp [h1], h2, fun m z' hm hz => ?_⟩
  have hml : m < ds.length := by omega
  rw [List.getElem?_map, List.getElem?_eq_getElem hml] at hz
  cases hz
  have := h3 m hm
  simpa [eqd] using this
omit g in
theorem Reps.strs {H : Hp} {hot : List Addr} {K : PySem.W.Frag} : ∀ {m : Nat} {vs : List V} {ds : List D} {A : List Addr} {ss : List Str}, Reps K H hot m vs ds A → asStrs ds = some ss → vs = ss.map V.str
  | _, _, _, _, _, .nil _, h => by cases h; rfl
  | _, _, _, _, _, .cons (d := d) h hs, e => by
    cases d <;> simp only [asStrs, reduceCtorEq, Option.map_eq_some_iff] at e
    obtain ⟨ss, e1, e2⟩ := e
    subst e2
    rw [Reps.strs hs e1]
    cases h
    rfl
theorem c_lidx {i : Nat} {e : E} {x : Expr} {y : Str} {p1 p2 p3 : Pos} (hy : mVar N sc i y = true) (hl : (p2.endLine == p3.line) = true) (hx : plainX x = true) (he : PE X x (tE C cf ca X.K EX W 9 e)) :
    PE X (.Call (.Attribute (.Name y p1) "index" p2) [x] [] p3) (tE C cf ca X.K EX W 0 (.lidx i e)) := by
  have hs := star_cons (env := X.env) (xs := []) hx
  refine PEimp (pe_bm F.plainAttrs_list F.slot_list_index (by with_unfolding_all rfl) (mt_indexD (by have := g.un; omega)) (mVar_ok g hy p1) (pa_cons he pa_nil hs) rfl (few1 hx) hl hs) fun σ H Q z => ?_
  obtain ⟨H0, S, ts, r, st, z⟩ := z
  simp only [ev] at z
  split at z
  · rename_i m0 ds0 e0
    split at z
    · rename_i hm0
      obtain ⟨v0, h1, st0⟩ := st.read (j := 9) e0 hm0
      obtain ⟨hot0, g0⟩ := Sta.peek st0
      obtain ⟨a, vs0, ea, h2, _⟩ := g0.lst_ex
      subst ea
      refine ⟨.ref a, h1, .inl ⟨rfl, vs0, h2⟩, H0, S, ts, r, st, z.bind.imp fun a1 k v H1 st1 => ?_⟩
      obtain ⟨r1, l1, d1⟩ := a1
      obtain ⟨hot1, g1⟩ := Sta.peek st1
      simp only at k g1
      split at k
      · rename_i m ds e1
        split at k
        · rename_i hk
          have hk2 := hk.2
          rw [Bool.and_eq_true] at hk2
          obtain ⟨j, e2, k⟩ := (Post.bind k).of
          obtain ⟨v1, q1, st2⟩ := st1.read (j := 9) e1 hk.1
          rw [h1] at q1
          cases q1
          obtain ⟨hot2, g2⟩ := Sta.peek st2
          obtain ⟨b, vs, eb, q2, q3⟩ := g2.lst_ex
          cases eb
          obtain ⟨z, k1, k2, k3⟩ := idxD_sem e2
          have hdp : DpAll X.K H1 vs (pds ds) := RepTs.dp q3 (by
            have := hk2.1
            unfold okd D.okd at this
            exact this)
          refine ⟨a, v, d1.pd, pds ds, j, z, rfl, rfl, .lst q2 hdp, RepT.dp g1 hk2.2, okd_shaped hk2.1, okd_shaped hk2.2, k1, k2, k3, ?_⟩
          exact k _ _ (st1.pop.push0 fun _ => .int 0 _)
        · exact k.elim
      · exact k.elim
    · exact z.elim
  · exact z.elim
theorem c_lcnt {i : Nat} {e : E} {x : Expr} {y : Str} {p1 p2 p3 : Pos} (hy : mVar N sc i y = true) (hl : (p2.endLine == p3.line) = true) (hx : plainX x = true) (he : PE X x (tE C cf ca X.K EX W 9 e)) :
    PE X (.Call (.Attribute (.Name y p1) "count" p2) [x] [] p3) (tE C cf ca X.K EX W 0 (.lcnt i e)) := by
  have hs := star_cons (env := X.env) (xs := []) hx
  refine PEimp (pe_bm F.plainAttrs_list F.slot_list_count (by with_unfolding_all rfl) mt_countS (mVar_ok g hy p1) (pa_cons he pa_nil hs) rfl (few1 hx) hl hs) fun σ H Q z => ?_
  obtain ⟨H0, S, ts, r, st, z⟩ := z
  simp only [ev] at z
  split at z
  · rename_i m0 ds0 e0
    obtain ⟨a, vs0, hot0, A0, h1, h2, h3⟩ := st.lstAt e0
    refine ⟨.ref a, h1, .inl ⟨rfl, vs0, SqL.of h2⟩, H0, S, ts, r, st, z.bind.imp fun a1 k v H1 st1 => ?_⟩
    obtain ⟨r1, l1, d1⟩ := a1
    obtain ⟨hot1, g1⟩ := Sta.peek st1
    simp only at k g1
    split at k
    · rename_i m ds s e1
      obtain ⟨ss, e2, k⟩ := (Post.bind k).of
      obtain ⟨b, vs, hot, A, q1, q2, q3⟩ := st1.lstAt e1
      rw [h1] at q1
      cases q1
      have e3 := Reps.strs q3 e2
      subst e3
      refine ⟨a, ss, s, rfl, by cases g1; rfl, SqL.of q2, ?_⟩
      exact k _ _ (st1.pop.push0 fun _ => .int 0 _)
    · exact k.elim
  · exact z.elim
end
end
end Ly

set_option Elab.async false
set_option linter.all false
set_option maxRecDepth 100000
set_option maxHeartbeats 2000000
/-! What is walked; comprehensions. -/
namespace Ly
open PySem PySem.Spec PyProof.Rows L2
section
variable {C : Cfg} {cal : Bool} {N : List Str} {sc : Scope} {cf : Nat → List D → CR} {ca : Nat → Addr} {EX : Addr → Nat → Prop} {W : WX} {X : Cx} {K : PySem.W.Frag}
variable {H0 H H' : Hp} {S : List Addr} {ts : List Tm} {σ : L2.St} {r : Env}

/-! ### more of states -/
theorem Tms.perm {hot : List Addr} {t1 t2 : List Tm} (p : t1.Perm t2) : ∀ {A : List Addr}, Tms K H S hot t1 A → ∃ A', A.Perm A' ∧ Tms K H S hot t2 A' := by
  induction p with
  | nil => exact fun {A} h => ⟨A, .refl _, h⟩
  | cons t p ih =>
    intro A h
    cases h with
    | cons h hs =>
      obtain ⟨A', q, h'⟩ := ih hs
      exact ⟨_, List.Perm.append_left _ q, .cons h h'⟩
  | swap t u l =>
    intro A h
    cases h with
    | cons h hs =>
      cases hs with
      | cons h2 hs =>
        refine ⟨_, ?_, .cons h2 (.cons h hs)⟩
        rw [← List.append_assoc, ← List.append_assoc]
        exact List.Perm.append_right _ List.perm_append_comm
  | trans p q ih1 ih2 =>
    intro A h
    obtain ⟨A', q1, h1⟩ := ih1 h
    obtain ⟨A2, q2, h2⟩ := ih2 h1
    exact ⟨A2, q1.trans q2, h2⟩
theorem Sta.perm {t1 : List Tm} (st : Sta K EX H0 S t1 σ r H) (p : t1.Perm ts) : Sta K EX H0 S ts σ r H := by
  obtain ⟨ex, sd, A, B, nd, new, hT, hS⟩ := st
  obtain ⟨A', q, h⟩ := hT.perm p
  have pq : (A ++ B).Perm (A' ++ B) := List.Perm.append_right _ q
  have F : Fr H H S S (S ++ (A ++ B)) (S ++ (A' ++ B)) [] := ⟨fun a _ o e => e, fun _ z => (by simp at z), fun _ z => (by simp at z), fun a ha => by
    refine .inl ?_
    rcases List.mem_append.mp ha with z | z
    · exact List.mem_append_left _ z
    · exact List.mem_append_right _ (pq.mem_iff.mpr z), fun a ha => List.mem_append_left _ ha, fun a ha => .inl ha⟩
  exact ⟨ex, sd, A', B, pq.nodup_iff.mp nd, fun a ha => new a (pq.mem_iff.mpr ha), h.frame F (.inl (by simp)) (by simp), hS.frame F (by simp)⟩
theorem Slots.swap {hot : List Addr} : ∀ {σ σ' : L2.St} {r : Env} {A : List Addr}, Slots K EX H hot σ r A → σ'.length = σ.length → (∀ i : Nat, r[i]? = some none ∨ σ'[i]? = σ[i]?) → Slots K EX H hot σ' r A
  | _, σ', _, _, .nil, hl, _ => by
    have : σ' = [] := List.eq_nil_of_length_eq_zero hl
    subst this
    exact .nil
  | _, [], _, _, .cons _ _, hl, _ => by simp at hl
  | _, o' :: σ', _, _, .cons h hs, hl, e => by
    refine .cons ?_ (Slots.swap hs (by simpa using hl) fun i => by simpa using e (i + 1))
    rcases e 0 with z | z
    · simp at z
      subst z
      cases h
      exact .non
    · simp at z
      subst z
      exact h
theorem Sta.swapSt {σ' : L2.St} (st : Sta K EX H0 S ts σ r H) (hl : σ'.length = σ.length) (e : ∀ i : Nat, r[i]? = some none ∨ σ'[i]? = σ[i]?) : Sta K EX H0 S ts σ' r H := by
  obtain ⟨ex, sd, A, B, nd, new, hT, hS⟩ := st
  exact ⟨ex, sd, A, B, nd, new, hT, hS.swap hl e⟩
theorem wipeE_get {k : Nat} : ∀ {js : List Nat} {r : Env}, (wipeE js r)[k]? = if k ∈ js then (r[k]?).map (fun _ => none) else r[k]?
  | [], r => by simp [wipeE]
  | i :: js, r => by
    rw [wipeE, List.getElem?_set]
    by_cases hi : i = k
    · subst hi
      simp only [if_true, List.mem_cons, true_or]
      have hl : (wipeE js r).length = r.length := wipeE_len
      by_cases h : i < r.length
      · rw [if_pos (by omega)]
        simp [h]
      · rw [if_neg (by omega)]
        simp [List.getElem?_eq_none (Nat.le_of_not_lt h)]
    · rw [if_neg hi, wipeE_get]
      have : k ∈ i :: js ↔ k ∈ js := by simp [Ne.symm hi]
      simp only [this]
where
  wipeE_len : ∀ {js : List Nat} {r : Env}, (wipeE js r).length = r.length
  | [], _ => rfl
  | i :: js, r => by rw [wipeE, List.length_set, wipeE_len]
theorem wipe_get {k : Nat} : ∀ {js : List Nat} {r : L2.St}, (wipe r js)[k]? = if k ∈ js then (r[k]?).map (fun _ => none) else r[k]?
  | [], r => by simp [wipe]
  | i :: js, r => by
    rw [wipe, List.getElem?_set]
    by_cases hi : i = k
    · subst hi
      simp only [if_true, List.mem_cons, true_or]
      have hl : (wipe r js).length = r.length := wipe_length r js
      by_cases h : i < r.length
      · rw [if_pos (by omega)]
        simp [h]
      · rw [if_neg (by omega)]
        simp [List.getElem?_eq_none (Nat.le_of_not_lt h)]
    · rw [if_neg hi, wipe_get]
      have : k ∈ i :: js ↔ k ∈ js := by simp [Ne.symm hi]
      simp only [this]
theorem wipe_agree {σ σ' : L2.St} {js : List Nat} (hl : σ'.length = σ.length) (h : ∀ k, k ∉ js → σ'[k]? = σ[k]?) : wipe σ' js = wipe σ js := by
  refine List.ext_getElem? fun k => ?_
  rw [wipe_get, wipe_get]
  by_cases hk : k ∈ js
  · rw [if_pos hk, if_pos hk]
    by_cases hlt : k < σ.length
    · rw [List.getElem?_eq_getElem hlt, List.getElem?_eq_getElem (hl ▸ hlt)]; rfl
    · rw [List.getElem?_eq_none (Nat.le_of_not_lt hlt), List.getElem?_eq_none (by omega)]
  · rw [if_neg hk, if_neg hk]
    exact h k hk
theorem Sta.wiped (st : Sta K EX H0 S ts σ r H) : ∀ js : List Nat, Sta K EX H0 S ts (wipe σ js) (wipeE js r) H
  | [] => st
  | i :: js => by rw [wipe, wipeE]; exact (Sta.wiped st js).drop i none
theorem Sta.unwiped {js : List Nat} (st : Sta K EX H0 S ts (wipe σ js) r H) : Sta K EX H0 S ts σ (wipeE js r) H := by
  have h : ∀ js' : List Nat, Sta K EX H0 S ts (wipe σ js) (wipeE js' r) H := fun js' => by
    induction js' with
    | nil => exact st
    | cons i js' ih => rw [wipeE]; exact ih.drop' i
  refine (h js).swapSt (wipe_length σ js).symm fun i => ?_
  rw [wipeE_get, wipe_get]
  by_cases hi : i ∈ js
  · rw [if_pos hi, if_pos hi]
    by_cases hlt : i < r.length
    · left; rw [List.getElem?_eq_getElem hlt]; rfl
    · right
      have e := st.len
      rw [wipe_length] at e
      rw [List.getElem?_eq_none (by omega)]; rfl
  · rw [if_neg hi, if_neg hi]
    exact .inr rfl
theorem Sta.peekOwn {v : V} {l : Nat} {d : D} (st : Sta K EX H0 S (.own v l d :: ts) σ r H) : ∃ hot A, Rep K H hot l v d A := by
  obtain ⟨_, _, A, B, _, _, hT, _⟩ := st
  cases hT with
  | cons h hs =>
    cases h with
    | own h => exact ⟨_, _, h⟩
theorem Rep.lst_ex {hot A : List Addr} {v : V} {ds : List D} (h : Rep K H hot 0 v (.lst ds) A) : ∃ a vs, v = .ref a ∧ SqL K H a vs ∧ Reps K H hot 0 vs ds A := by
  cases h with
  | lst0 h hs => exact ⟨_, _, rfl, h.seq, hs⟩
theorem Rep.tup_ex {hot A : List Addr} {l : Nat} {v : V} {ds : List D} (h : Rep K H hot l v (.tup ds) A) : ∃ a vs, v = .ref a ∧ SqT K H a vs ∧ Reps K H hot (l - 1) vs ds A := by
  cases h with
  | tup h hs => exact ⟨_, _, rfl, h.sq, hs⟩
theorem Reps.length {hot : List Addr} {l : Nat} : ∀ {vs : List V} {ds : List D} {A : List Addr}, Reps K H hot l vs ds A → vs.length = ds.length
  | _, _, _, .nil _ => rfl
  | _, _, _, .cons _ hs => by rw [List.length_cons, List.length_cons, Reps.length hs]
theorem Reps.get {hot : List Addr} : ∀ {vs : List V} {ds : List D} {A : List Addr} {i : Nat} {d : D}, Reps K H hot 0 vs ds A → ds[i]? = some d → ∃ v, vs[i]? = some v ∧ Rep K H hot 0 v d []
  | _, _, _, _, _, .nil _, e => by simp at e
  | _, _, _, 0, _, .cons h _, e => by
    simp at e
    subst e
    have := h.zero
    subst this
    exact ⟨_, rfl, h⟩
  | _, _, _, i + 1, _, .cons _ hs, e => by
    obtain ⟨v, e1, h⟩ := Reps.get (i := i) hs (by simpa using e)
    exact ⟨v, by simpa using e1, h⟩

/-! ### what is walked -/
structure Src (K : PySem.W.Frag) (EX : Addr → Nat → Prop) (J : It) (xs : List D) (tt : List Tm) (bw : Bool) : Prop where
  mine : bw = false → ∀ t ∈ tt, t.mine = true
  turn : ∀ (i : Nat) (H0 : Hp) (S : List Addr) (ts : List Tm) (σ : L2.St) (r : Env) (H : Hp), Sta K EX H0 S (tt ++ ts) σ r H → (i = xs.length → J.stop i H) ∧
    ∀ d, xs[i]? = some d → J.go i H ∧ ∀ x H', J.yld i H x H' → Sta K EX H0 S (.own x 0 d :: (tt ++ ts)) σ r H'
def tSr (C : Cfg) (cf : Nat → List D → CR) (ca : Nat → Addr) (K : PySem.W.Frag) (EX : Addr → Nat → Prop) (W : WX) (src : Sr) : TI := fun σ H R => ∃ H0 S ts r, Sta K EX H0 S ts σ r H ∧
  Post K ca EX W H0 S ts σ (evSr C.G C.sub cf src r) fun p => ∀ J tt H1, Src K EX J p.2 tt src.bw → Sta K EX H0 S (tt ++ ts) σ p.1 H1 → R J H1
theorem PIimp {tg x : Expr} {t t' : TI} (h : PI X tg x t) (i : ∀ σ H Q, t' σ H Q → t σ H Q) : PI X tg x t' := ⟨fun pins s σ H Q I q => h.run pins s σ H Q I (i σ H Q q)⟩
/-- an item beside what it comes from -/
theorem Sta.item {tt : List Tm} {v : V} {d : D} (st : Sta K EX H0 S (tt ++ ts) σ r H) (h : ∀ hot A, Tms K H S hot tt A → Rep K H hot 0 v d []) : Sta K EX H0 S (.own v 0 d :: (tt ++ ts)) σ r H :=
  Sta.step (t1 := tt) (t2 := .own v 0 d :: tt) st (Same.refl H) fun hot A1 nd sub dom hS q => ⟨A1, nd, fun a ha => .inl ha, fun hot' h1 h2 h3 h4 => by
    have hh : ∀ a ∈ hot', a ∈ hot := fun a ha => (h1 a ha).elim id fun z => (sub a z).1
    have F : Fr H H S S hot hot' [] := ⟨fun a _ o e => e, fun _ z => (by simp at z), fun _ z => (by simp at z), fun a ha => .inl (hh a ha), hS, fun a ha => .inl ha⟩
    have q2 := Tms.cons (TmOk.own (S := S) ((h hot A1 q).hot hh)) (q.frame F (.inl (by simp)) (by simp))
    exact q2⟩
theorem Sta.itemN {tt : List Tm} {p : Addr} {vs : List V} {ds : List D} (st : Sta K EX H0 S (tt ++ ts) σ r H) (hp : H p = none) (hn : isPrs ds = false) (h : ∀ hot A, Tms K H S hot tt A → Reps K H hot 0 vs ds []) : Sta K EX H0 S (.own (.ref p) 0 (.tup ds) :: (tt ++ ts)) σ r (upd H p (.tup vs)) :=
  Sta.step (t1 := tt) (t2 := .own (.ref p) 0 (.tup ds) :: tt) st (same_upd hp) fun hot A1 nd sub dom hS q => ⟨A1, nd, fun a ha => .inl ha, fun hot' h1 h2 h3 h4 => by
    have hh : ∀ a ∈ hot', a ∈ hot := fun a ha => (h1 a ha).elim id fun z => (sub a z).1
    have F : Fr H (upd H p (.tup vs)) S S hot hot' [] := ⟨fun a _ o e => same_upd hp a o e, fun _ z => (by simp at z), fun _ z => (by simp at z), fun a ha => .inl (hh a ha), hS, fun a ha => .inl ha⟩
    have q1 : Reps K (upd H p (.tup vs)) hot' 0 vs ds [] := (h hot A1 q).frame F.c1 F.c2 F.hX F.c4 (by simp)
    exact Tms.cons (TmOk.own (S := S) (Rep.tup (l := 0) (tupF_new0 hn) q1)) (q.frame F (.inl (by simp)) (by simp))⟩
theorem Tms.own1 {hot A : List Addr} {v : V} {l : Nat} {d : D} (q : Tms K H S hot [.own v l d] A) : Rep K H hot l v d A := by
  have h := q.one
  cases h with
  | own h => exact h
theorem Tms.own2 {hot A : List Addr} {v w : V} {d e : D} (q : Tms K H S hot [.own w 0 e, .own v 0 d] A) : Rep K H hot 0 v d [] ∧ Rep K H hot 0 w e [] := by
  obtain ⟨A1, A2, _, h1, h2⟩ := q.two
  cases h1 with
  | own h1 =>
    cases h2 with
    | own h2 =>
      have e1 := h1.zero
      have e2 := h2.zero
      subst e1 e2
      exact ⟨h2, h1⟩
theorem src_list {a : Addr} {ds : List D} {bw : Bool} : Src K EX (Itl K a) ds [.own (.ref a) 0 (.lst ds)] bw where
  mine := fun _ => by simp [Tm.mine]
  turn := fun i H0 S ts σ r H st => by
    obtain ⟨hot, A, rp⟩ := Sta.peekOwn st
    obtain ⟨_, vs, e1, h1, h2⟩ := rp.lst_ex
    cases e1
    refine ⟨fun e => ⟨vs, h1, by rw [h2.length, e]; exact Nat.le_refl _⟩, fun d e => ?_⟩
    obtain ⟨v, e2, _⟩ := h2.get e
    refine ⟨⟨vs, v, h1, e2⟩, fun x H' y => ?_⟩
    obtain ⟨rfl, y⟩ := y
    refine Sta.item (tt := [_]) st fun hot A q => ?_
    obtain ⟨_, ws, e3, k1, k2⟩ := q.own1.lst_ex
    cases e3
    obtain ⟨u, e4, k3⟩ := k2.get e
    rw [y ws k1] at e4
    cases e4
    exact k3
theorem src_tup {a : Addr} {ds : List D} {bw : Bool} : Src K EX (Itt K a) ds [.own (.ref a) 0 (.tup ds)] bw where
  mine := fun _ => by simp [Tm.mine]
  turn := fun i H0 S ts σ r H st => by
    obtain ⟨hot, A, rp⟩ := Sta.peekOwn st
    obtain ⟨_, vs, e1, h1, h2⟩ := rp.tup_ex
    cases e1
    refine ⟨fun e => ⟨vs, h1, by rw [h2.length, e]; exact Nat.le_refl _⟩, fun d e => ?_⟩
    obtain ⟨v, e2, _⟩ := h2.get e
    refine ⟨⟨vs, v, h1, e2⟩, fun x H' y => ?_⟩
    obtain ⟨rfl, y⟩ := y
    refine Sta.item (tt := [_]) st fun hot A q => ?_
    obtain ⟨_, ws, e3, k1, k2⟩ := q.own1.tup_ex
    cases e3
    obtain ⟨u, e4, k3⟩ := k2.get e
    rw [y ws k1] at e4
    cases e4
    exact k3
theorem rangeD_len : ∀ (n : Nat) (lo : Int), (rangeD lo n).length = n
  | 0, _ => rfl
  | n + 1, lo => by rw [rangeD, List.length_cons, rangeD_len]
theorem rangeD_get : ∀ {n : Nat} {lo : Int} {i : Nat} {d : D}, (rangeD lo n)[i]? = some d → i < n ∧ d = .int (lo + i)
  | 0, _, _, _, e => by simp [rangeD] at e
  | n + 1, lo, 0, d, e => by simp [rangeD] at e; subst e; exact ⟨by omega, by simp⟩
  | n + 1, lo, i + 1, d, e => by
    rw [rangeD, List.getElem?_cons_succ] at e
    obtain ⟨h1, h2⟩ := rangeD_get e
    refine ⟨by omega, ?_⟩
    rw [h2]
    congr 1
    omega
theorem src_range {lo : Int} {n : Nat} {bw : Bool} : Src K EX (Itr lo n) (rangeD lo n) [] bw where
  mine := fun _ => by simp
  turn := fun i H0 S ts σ r H st => by
    refine ⟨fun e => ?_, fun d e => ?_⟩
    · rw [rangeD_len] at e
      exact Nat.le_of_eq e.symm
    · obtain ⟨h1, rfl⟩ := rangeD_get e
      refine ⟨h1, fun x H' y => ?_⟩
      obtain ⟨rfl, rfl⟩ := y
      exact Sta.push0 st fun _ => .int 0 _
theorem enumD_len : ∀ (ds : List D) (n : Nat), (enumD n ds).length = ds.length
  | [], _ => rfl
  | d :: ds, n => by rw [enumD, List.length_cons, List.length_cons, enumD_len]
theorem enumD_get : ∀ {ds : List D} {n i : Nat} {e : D}, (enumD n ds)[i]? = some e → ∃ d, ds[i]? = some d ∧ e = .tup [.int ((n + i : Nat) : Int), d]
  | [], _, _, _, h => by simp [enumD] at h
  | d :: ds, n, 0, e, h => by simp [enumD] at h; subst h; exact ⟨d, rfl, rfl⟩
  | d :: ds, n, i + 1, e, h => by
    rw [enumD, List.getElem?_cons_succ] at h
    obtain ⟨d', h1, rfl⟩ := enumD_get h
    refine ⟨d', by simpa using h1, ?_⟩
    congr 4
    omega
def dK (t : Bool) (ds : List D) : D := if t = true then .tup ds else .lst ds
theorem items_dK {d : D} {ds : List D} (h : itemsOf d = some ds) : ∃ t, d = dK t ds := by
  cases d <;> simp only [itemsOf, reduceCtorEq] at h
  · cases h; exact ⟨true, rfl⟩
  · cases h; exact ⟨false, rfl⟩
theorem Rep.seq_ex {hot A : List Addr} {v : V} {ds : List D} {t : Bool} (h : Rep K H hot 0 v (dK t ds) A) : ∃ a vs, v = .ref a ∧ SqK t K H a vs ∧ Reps K H hot 0 vs ds A := by
  cases t with
  | true => exact Rep.tup_ex (l := 0) h
  | false => exact Rep.lst_ex h
theorem src_enum {t : Bool} {a : Addr} {ds : List D} {bw : Bool} : Src K EX (IteK t K a) (enumD 0 ds) [.own (.ref a) 0 (dK t ds)] bw where
  mine := fun _ => by simp [Tm.mine]
  turn := fun i H0 S ts σ r H st => by
    obtain ⟨hot, A, rp⟩ := Sta.peekOwn st
    obtain ⟨_, vs, e1, h1, h2⟩ := rp.seq_ex
    cases e1
    refine ⟨fun e => ⟨vs, h1, by rw [h2.length, e, enumD_len]⟩, fun d e => ?_⟩
    obtain ⟨d', e', rfl⟩ := enumD_get e
    obtain ⟨v, e2, _⟩ := h2.get e'
    refine ⟨⟨vs, v, h1, e2⟩, fun x H' y => ?_⟩
    obtain ⟨T, x', rfl, hT, rfl, y⟩ := y
    refine Sta.itemN (tt := [_]) st hT rfl fun hot A q => ?_
    obtain ⟨_, ws, e3, k1, k2⟩ := q.own1.seq_ex
    cases e3
    obtain ⟨u, e4, k3⟩ := k2.get e'
    rw [y ws k1] at e4
    cases e4
    rw [Nat.zero_add]
    exact Reps.cons (A := []) (.int 0 _) (Reps.cons (A := []) k3 (.nil 0))
theorem zipD_get : ∀ {as bs : List D} {i : Nat} {e : D}, (zipD as bs)[i]? = some e → ∃ x y, as[i]? = some x ∧ bs[i]? = some y ∧ e = .tup [x, y]
  | [], _, _, _, h => by simp [zipD] at h
  | _ :: _, [], _, _, h => by simp [zipD] at h
  | a :: as, b :: bs, 0, e, h => by simp [zipD] at h; subst h; exact ⟨a, b, rfl, rfl, rfl⟩
  | a :: as, b :: bs, i + 1, e, h => by
    rw [zipD, List.getElem?_cons_succ] at h
    obtain ⟨x, y, h1, h2, rfl⟩ := zipD_get h
    exact ⟨x, y, by simpa using h1, by simpa using h2, rfl⟩
theorem zipD_len : ∀ {as bs : List D}, (zipD as bs).length = min as.length bs.length
  | [], _ => by simp [zipD]
  | _ :: _, [] => by simp [zipD]
  | a :: as, b :: bs => by rw [zipD, List.length_cons, List.length_cons, List.length_cons, zipD_len]; omega
theorem zipOk_get : ∀ {as bs : List D} {i : Nat} {x y : D}, zipOk as bs = true → as[i]? = some x → bs[i]? = some y → isPrs [x, y] = false
  | [], _, _, _, _, _, h, _ => by simp at h
  | _ :: _, [], _, _, _, _, _, h => by simp at h
  | a :: as, b :: bs, 0, x, y, h, h1, h2 => by
    simp only [List.getElem?_cons_zero, Option.some.injEq] at h1 h2
    subst h1 h2
    simp only [zipOk, Bool.and_eq_true, Bool.not_eq_true'] at h
    simpa [isPrs] using h.1
  | a :: as, b :: bs, i + 1, x, y, h, h1, h2 => by
    simp only [zipOk, Bool.and_eq_true] at h
    exact zipOk_get h.2 (by simpa using h1) (by simpa using h2)
theorem src_zip {t u : Bool} {a b : Addr} {ds es : List D} {bw : Bool} (hz : zipOk ds es = true) : Src K EX (ItzK t u K a b) (zipD ds es) [.own (.ref b) 0 (dK u es), .own (.ref a) 0 (dK t ds)] bw where
  mine := fun _ => by simp [Tm.mine]
  turn := fun i H0 S ts σ r H st => by
    obtain ⟨hot, A, rp⟩ := Sta.peekOwn st
    obtain ⟨hot', A', rp'⟩ := Sta.peekOwn (Sta.pop st)
    obtain ⟨_, ws, e1, h1, h2⟩ := rp.seq_ex
    cases e1
    obtain ⟨_, vs, e1, g1, g2⟩ := rp'.seq_ex
    cases e1
    have l1 := h2.length
    have l2 := g2.length
    refine ⟨fun e => ⟨vs, ws, g1, h1, ?_⟩, fun d e => ?_⟩
    · rw [zipD_len] at e
      omega
    · obtain ⟨x, y, e1, e2, rfl⟩ := zipD_get e
      obtain ⟨v, e3, _⟩ := g2.get e1
      obtain ⟨w, e4, _⟩ := h2.get e2
      refine ⟨⟨vs, ws, v, w, g1, h1, e3, e4⟩, fun x H' yy => ?_⟩
      obtain ⟨T, x', y', rfl, hT, rfl, y1, y2⟩ := yy
      refine Sta.itemN (tt := [_, _]) st hT (zipOk_get hz e1 e2) fun hot A q => ?_
      obtain ⟨q1, q2⟩ := q.own2
      obtain ⟨_, _, e5, k1, k2⟩ := q1.seq_ex
      cases e5
      obtain ⟨_, _, e5, m1, m2⟩ := q2.seq_ex
      cases e5
      obtain ⟨u, e6, k3⟩ := k2.get e1
      rw [y1 _ k1] at e6
      cases e6
      obtain ⟨u, e6, m3⟩ := m2.get e2
      rw [y2 _ m1] at e6
      cases e6
      exact Reps.cons (A := []) k3 (Reps.cons (A := []) m3 (.nil 0))
section
variable (g : Good C cal N sc cf ca EX W X)
include g
omit g in
theorem Sta.open2 {v w : V} {as bs : List D} (st : Sta K EX H0 S (.brw w 1 (.lst bs) :: .brw v 1 (.lst as) :: ts) σ r H) : ∃ a b xs ys, v = .ref a ∧ w = .ref b ∧ SqL K H a xs ∧ SqL K H b ys ∧ xs.length = as.length ∧ ys.length = bs.length ∧ Sta K EX H0 S (.owns [] 0 [] :: .brws ys 0 bs :: .brws xs 0 as :: ts) σ r H := by
  obtain ⟨ex, sd, A, B, nd, new, hT, hS⟩ := st
  cases hT with
  | cons h hs =>
    cases h with
    | brw h =>
      cases hs with
      | cons h' hs =>
        cases h' with
        | brw h' =>
          obtain ⟨b, ys, rfl, h1, h2⟩ := h.lst_ex
          obtain ⟨a, xs, rfl, g1, g2⟩ := h'.lst_ex
          exact ⟨a, b, xs, ys, rfl, rfl, g1, h1, g2.length, h2.length, ex, sd, _, B, nd, new, Tms.cons (A := []) (.owns (.nil 0)) (Tms.cons (A := []) (.brws h2) (Tms.cons (A := []) (.brws g2) hs)), hS⟩
omit g in
theorem zip_step {p : Addr} {x y : V} {d e : D} {vs xs ys : List V} {ds as bs : List D} (st : Sta K EX H0 S (.owns vs 0 ds :: .brws (y :: ys) 0 (e :: bs) :: .brws (x :: xs) 0 (d :: as) :: ts) σ r H) (hp : H p = none) (hn : isPrs [d, e] = false) :
    Sta K EX H0 S (.owns (vs ++ [V.ref p]) 0 (ds ++ [D.tup [d, e]]) :: .brws ys 0 bs :: .brws xs 0 as :: ts) σ r (upd H p (HO.tup [x, y])) :=
  Sta.step (t1 := [.owns vs 0 ds, .brws (y :: ys) 0 (e :: bs), .brws (x :: xs) 0 (d :: as)]) (t2 := [.owns (vs ++ [V.ref p]) 0 (ds ++ [D.tup [d, e]]), .brws ys 0 bs, .brws xs 0 as]) st (same_upd hp) fun hot A1 nd sub dom hS q => ⟨[], .nil, by simp, fun hot' h1 h2 h3 h4 => by
    have hh : ∀ a ∈ hot', a ∈ hot := fun a ha => (h1 a ha).elim id fun z => by simp at z
    have F : Fr H (upd H p (.tup [x, y])) S S hot hot' [] := ⟨fun a _ o e => same_upd hp a o e, fun _ z => (by simp at z), fun _ z => (by simp at z), fun a ha => .inl (hh a ha), hS, fun a ha => .inl ha⟩
    have q2 := q.frame F (.inl (by simp)) (by simp)
    cases q2 with
    | cons k1 ks =>
      cases k1 with
      | owns k1 =>
        cases ks with
        | cons k2 ks =>
          cases k2 with
          | brws k2 =>
            cases ks with
            | cons k3 ks =>
              cases k3 with
              | brws k3 =>
                cases ks
                cases k2 with
                | cons ry rys =>
                  cases k3 with
                  | cons rx rxs =>
                    have e1 := k1.zero
                    subst e1
                    have tp : Rep K (upd H p (.tup [x, y])) hot' 0 (.ref p) (.tup [d, e]) [] := Rep.tup (l := 0) (tupF_new0 hn) (Reps.cons (A := []) rx.zero (Reps.cons (A := []) ry.zero (.nil 0)))
                    have ap := k1.append (Reps.cons (A := []) tp (.nil 0))
                    exact Tms.cons (A := []) (.owns ap) (Tms.cons (A := []) (.brws rys) (Tms.cons (A := []) (.brws rxs) .nil))⟩
omit g in
theorem zip_all : ∀ {as bs : List D} {xs ys vs : List V} {ds : List D} {ps : List Addr} {H H' : Hp}, Sta K EX H0 S (.owns vs 0 ds :: .brws ys 0 bs :: .brws xs 0 as :: ts) σ r H → xs.length = as.length → ys.length = bs.length → zipOk as bs = true → TupsAt H (xs.zip ys) ps H' → Sta K EX H0 S (.owns (vs ++ ps.map V.ref) 0 (ds ++ zipD as bs) :: ts) σ r H'
  | [], bs, [], ys, vs, ds, ps, H, H', st, _, _, _, t => by
    rw [List.zip_nil_left] at t
    cases t
    simp only [List.map_nil, List.append_nil, zipD]
    exact Sta.step (t1 := [_, _, _]) (t2 := [.owns vs 0 ds]) st (Same.refl H) fun hot A1 nd sub dom hS q => by
      cases q with
      | cons k1 ks =>
        cases k1 with
        | owns k1 =>
          have e1 := k1.zero
          subst e1
          exact ⟨[], .nil, by simp, fun hot' h1 h2 h3 h4 => Tms.mk1 (.owns (k1.hot fun a ha => (h1 a ha).elim id fun z => by simp at z))⟩
  | d :: as, [], x :: xs, [], vs, ds, ps, H, H', st, _, _, _, t => by
    rw [List.zip_nil_right] at t
    cases t
    simp only [List.map_nil, List.append_nil, zipD]
    exact Sta.step (t1 := [_, _, _]) (t2 := [.owns vs 0 ds]) st (Same.refl H) fun hot A1 nd sub dom hS q => by
      cases q with
      | cons k1 ks =>
        cases k1 with
        | owns k1 =>
          have e1 := k1.zero
          subst e1
          exact ⟨[], .nil, by simp, fun hot' h1 h2 h3 h4 => Tms.mk1 (.owns (k1.hot fun a ha => (h1 a ha).elim id fun z => by simp at z))⟩
  | d :: as, e :: bs, x :: xs, y :: ys, vs, ds, ps, H, H', st, l1, l2, hz, t => by
    rw [List.zip_cons_cons] at t
    cases t with
    | cons h t =>
      have st2 := zip_all (zip_step st h (zipOk_get (i := 0) hz rfl rfl)) (by simpa using l1) (by simpa using l2) (by simp only [zipOk, Bool.and_eq_true] at hz; exact hz.2) t
      simpa [zipD] using st2
  | _ :: _, _, [], _, _, _, _, _, _, _, l1, _, _, _ => by simp at l1
  | [], _, _ :: _, _, _, _, _, _, _, _, l1, _, _, _ => by simp at l1
  | _, _ :: _, _, [], _, _, _, _, _, _, _, l2, _, _ => by simp at l2
  | _, [], _, _ :: _, _, _, _, _, _, _, _, l2, _, _ => by simp at l2
omit g in
theorem RepTs.pick {K : PySem.W.Frag} {H : Hp} {S hot : List Addr} {j : Nat} {vs : List V} {ds : List D} (h : RepTs K H S hot j vs ds) : ∀ is : List Nat, RepTs K H S hot j (is.filterMap (vs[·]?)) (is.filterMap (ds[·]?))
  | [] => .nil j
  | i :: is => by
    rw [List.filterMap_cons, List.filterMap_cons]
    have q : (∃ v d, vs[i]? = some v ∧ ds[i]? = some d ∧ RepT K H S hot j v d) ∨ (vs[i]? = none ∧ ds[i]? = none) := by
      clear is
      induction i generalizing vs ds with
      | zero => cases h with
        | nil => exact .inr ⟨by simp, by simp⟩
        | cons h hs => exact .inl ⟨_, _, rfl, rfl, h⟩
      | succ i ih => cases h with
        | nil => exact .inr ⟨by simp, by simp⟩
        | cons h hs => simpa using ih hs
    rcases q with ⟨v, d, e1, e2, r⟩ | ⟨e1, e2⟩
    · rw [e1, e2]; exact .cons r (RepTs.pick h is)
    · rw [e1, e2]; exact RepTs.pick h is
/-- xs[i::k] -/
theorem c_stp {a b c : E} {x y z : Expr} {p3 p : Pos} (ha : PE X x (tE C cf ca X.K EX W 1 a)) (hb : PE X y (tE C cf ca X.K EX W 9 b)) (hc : PE X z (tE C cf ca X.K EX W 9 c)) :
    PE X (.Subscript x (.Slice (some y) none (some z) p3) p) (tE C cf ca X.K EX W 0 (.stp a b c)) := by
  refine PEimp (pe_stepL ha hb (pe_uniq hc)) fun σ H Q z => ?_
  obtain ⟨H0, S, ts, r, st, z⟩ := z
  simp only [ev] at z
  refine ⟨H0, S, ts, r, st, z.bind.imp fun a1 k v H1 st1 => ?_⟩
  refine ⟨H0, S, _, _, st1, (k.bind.deep).imp fun a2 k w H2 st2 => ?_⟩
  obtain ⟨r1, l1, d1⟩ := a1
  obtain ⟨r2, l2, d2⟩ := a2
  obtain ⟨hot, rp⟩ := Sta.peek st2
  simp only at k rp st2
  cases d2 <;> first | exact k.elim | skip
  rename_i i
  refine ⟨i, rp.int_eq, H0, S, _, _, Sta.pop st2, (k.bind.deep).imp fun a3 k u H3 st3 => fun uq => ?_⟩
  obtain ⟨r3, l3, d3⟩ := a3
  obtain ⟨hot, rp⟩ := Sta.peek st3
  simp only at k rp st3
  cases d1 <;> cases d3 <;> simp only at k <;> first | exact k.elim | skip
  rename_i ds j
  split at k
  · rename_i hj
    have st4 := Sta.pop st3
    obtain ⟨hot, g1⟩ := Sta.peek st4
    obtain ⟨b', vs, rfl, hb', hs⟩ := g1.lst_ex
    refine ⟨j, rp.int_eq, b', vs, rfl, hj, hb', fun q hq => ?_⟩
    have hlen := hs.length
    refine k _ _ (Sta.newL (t1 := [_]) st4 hq fun hot A q => ?_)
    obtain ⟨_, _, e3, k1, k2⟩ := q.brw1.lst_ex
    cases e3
    rw [uq _ _ _ hb' k1]
    have hl2 := k2.length
    unfold stepD
    rw [← hl2]
    exact k2.pick _
  · exact k.elim
/-- list(zip(xs, ys)) -/
theorem c_lzip {a b : E} {x y : Expr} {p p2 q q2 : Pos} (hc : cal = true) (hg : glB sc "list" = true) (hg2 : glB sc "zip" = true) (hx : plainX x = true) (hy : plainX y = true) (ha : PE X x (tE C cf ca X.K EX W 1 a)) (hb : PE X y (tE C cf ca X.K EX W 1 b)) :
    PE X (.Call (.Name "list" p) [.Call (.Name "zip" p2) [x, y] [] q2] [] q) (tE C cf ca X.K EX W 0 (.lzip a b)) := by
  have m1 : X.mg "list" = none := g.bl _ (by decide)
  have m2 : X.mg "zip" = none := g.bl _ (by decide)
  have s2 := star_cons (env := X.env) (xs := []) hy
  have s1 := star_cons (env := X.env) (xs := [y]) hx
  refine PEimp (pe_listZip (g.calm hc) (g.gl hg) m1 (g.gl hg2) m2 (pa_cons ha (pa_cons hb pa_nil s2) s1) s1 (by rw [s2]; rfl)) fun σ H Q z => ?_
  obtain ⟨H0, S, ts, r, st, z⟩ := z
  simp only [ev] at z
  refine ⟨H0, S, ts, r, st, z.bind.imp fun a1 k v H1 st1 => ?_⟩
  refine ⟨H0, S, _, _, st1, (k.bind.deep).imp fun a2 k w H2 st2 => ?_⟩
  obtain ⟨r1, l1, d1⟩ := a1
  obtain ⟨r2, l2, d2⟩ := a2
  cases d1 <;> cases d2 <;> first | exact k.elim | skip
  obtain ⟨a, b, xs, ys, rfl, rfl, h1, h2, h3, h4, st3⟩ := Sta.open2 st2
  simp only at k
  split at k
  · rename_i hzk
    refine ⟨a, b, xs, ys, rfl, h1, h2, fun ps l H' t hl => ?_⟩
    have st4 := zip_all st3 h3 h4 hzk t
    simp only [List.nil_append] at st4
    exact k _ _ (Sta.mkL st4 hl)
  · exact k.elim
omit g in
theorem src_str {z : Str} {bw : Bool} : Src K EX (Its z) (z.cps.toList.map fun c => D.str ⟨#[c]⟩) [] bw where
  mine := fun _ => by simp
  turn := fun i H0 S ts σ r H st => by
    refine ⟨fun e => ?_, fun d e => ?_⟩
    · rw [List.length_map, Array.length_toList] at e
      exact Nat.le_of_eq e.symm
    · rw [List.getElem?_map] at e
      cases hc : z.cps.toList[i]? with
      | none => rw [hc] at e; cases e
      | some c =>
        rw [hc] at e
        cases e
        have hi := (List.getElem?_eq_some_iff.mp hc).1
        rw [Array.length_toList] at hi
        refine ⟨hi, fun x H' y => ?_⟩
        obtain ⟨rfl, c2, h2, rfl⟩ := y
        rw [← Array.getElem?_toList, hc] at h2
        cases h2
        exact Sta.push0 st fun _ => .str 0 _
/-- what may be walked: a list, a tuple, a text -/
def iSeq2 (K : PySem.W.Frag) (tl : TE) : TI := fun σ H R => tl σ H fun x H1 => (∃ a, x = .ref a ∧ (((∃ xs, SqL K H1 a xs) ∧ R (Itl K a) H1) ∨ ((∃ xs, SqT K H1 a xs) ∧ R (Itt K a) H1))) ∨ ∃ z, x = .str z ∧ R (Its z) H1
omit g in
theorem pi_seq2 {l tg : Expr} {tl : TE} (hl : PE X l tl) : PI X tg l (iSeq2 X.K tl) := by
  refine ⟨fun pins s σ H R I h => ?_⟩
  refine thn (hl.run pins s σ H _ I h) fun v s1 ⟨x, H1, I1, r1, q1⟩ => ?_
  rcases q1 with ⟨a, e, q⟩ | ⟨z, e, q⟩
  · subst e
    cases r1
    rcases q with ⟨⟨xs, hq⟩, q⟩ | ⟨⟨xs, hq⟩, q⟩
    · obtain ⟨its, rv, p, hz⟩ := I1.list hq
      refine wpAny_pyIter_list p.isList ?_
      exact pi_one (tk := s1.toks) I1 _ (turn_list a _) ⟨_, Heap.get?_push_size _ rfl, rfl, rfl⟩ q
    · obtain ⟨its, rv, p, hz⟩ := I1.tuple hq
      refine wpAny_pyIter_tuple (show s1.heap.IsTuple a its.toArray from p) ?_
      exact pi_one (tk := s1.toks) I1 _ (turn_tuple a _) ⟨_, Heap.get?_push_size _ rfl, rfl, rfl⟩ q
  · subst e
    obtain ⟨t, rfl⟩ := r1
    cases ha : z.cps.all (· < 128)
    · exact wpAny_pyIter_wide ha (pi_one (tk := s1.toks) I1 _ (turn_str _ z t "str_iterator" (.inr rfl)) ⟨_, Heap.get?_push_size _ rfl, rfl, rfl⟩ q)
    · exact wpAny_pyIter_ascii ha (pi_one (tk := s1.toks) I1 _ (turn_str _ z t "str_ascii_iterator" (.inl rfl)) ⟨_, Heap.get?_push_size _ rfl, rfl, rfl⟩ q)
theorem i_seq {e : E} {x tg : Expr} (h : PE X x (tE C cf ca X.K EX W 0 e)) : PI X tg x (tSr C cf ca X.K EX W (.seq e)) := by
  refine PIimp (pi_seq2 h) fun σ H R z => ?_
  obtain ⟨H0, S, ts, r, st, z⟩ := z
  simp only [evSr] at z
  refine ⟨H0, S, ts, r, st, z.bind.imp fun a1 k v H1 st1 => ?_⟩
  obtain ⟨ds, e, k⟩ := k.bind.of
  obtain ⟨r1, l1, d1⟩ := a1
  have st2 := Sta.lowT st1 (Nat.zero_le l1)
  obtain ⟨hot, A, rp⟩ := Sta.peekOwn st2
  cases d1 <;> simp only [seqOf, reduceCtorEq] at e
  · cases e
    have st3 := st1.pop
    cases rp
    exact .inr ⟨_, rfl, k _ _ H1 src_str st3⟩
  · cases e
    obtain ⟨a, vs, rfl, h1, h2⟩ := rp.tup_ex
    exact .inl ⟨a, rfl, .inr ⟨⟨vs, h1⟩, k _ _ H1 src_tup st2⟩⟩
  · cases e
    obtain ⟨a, vs, rfl, h1, h2⟩ := rp.lst_ex
    exact .inl ⟨a, rfl, .inl ⟨⟨vs, h1⟩, k _ _ H1 src_list st2⟩⟩
omit g in
theorem src_brw {a : Addr} {ds : List D} : Src K EX (Itl K a) ds [.brw (.ref a) 1 (.lst ds)] true where
  mine := fun h => by cases h
  turn := fun i H0 S ts σ r H st => by
    obtain ⟨hot, rp⟩ := Sta.peek st
    obtain ⟨_, vs, e1, h1, h2⟩ := rp.lst_ex
    cases e1
    refine ⟨fun e => ⟨vs, h1, by rw [h2.length, e]; exact Nat.le_refl _⟩, fun d e => ?_⟩
    obtain ⟨v, e2, _⟩ := h2.zero.get e
    refine ⟨⟨vs, v, h1, e2⟩, fun x H' y => ?_⟩
    obtain ⟨rfl, y⟩ := y
    refine Sta.item (tt := [_]) st fun hot A q => ?_
    have q1 := q.one
    cases q1 with
    | brw q1 =>
      obtain ⟨_, ws, e3, k1, k2⟩ := q1.lst_ex
      cases e3
      obtain ⟨u, e4, k3⟩ := k2.zero.get e
      rw [y ws k1] at e4
      cases e4
      exact k3
theorem i_seqB {e : E} {x tg : Expr} (h : PE X x (tE C cf ca X.K EX W 1 e)) : PI X tg x (tSr C cf ca X.K EX W (.seqB e)) := by
  refine PIimp (pi_seq h) fun σ H R z => ?_
  obtain ⟨H0, S, ts, r, st, z⟩ := z
  simp only [evSr] at z
  refine ⟨H0, S, ts, r, st, z.bind.imp fun a1 k v H1 st1 => ?_⟩
  obtain ⟨r1, l1, d1⟩ := a1
  obtain ⟨hot, rp⟩ := Sta.peek st1
  cases d1 <;> first | exact k.elim | skip
  obtain ⟨a, vs, rfl, h1, h2⟩ := rp.lst_ex
  exact ⟨a, rfl, .inl ⟨⟨vs, h1⟩, k _ _ H1 src_brw st1⟩⟩
theorem rng62_ok {i : Int} (h : rng62 i = true) : -(2 ^ 62) ≤ i ∧ i < 2 ^ 62 := by
  have h' : i.natAbs ≤ 8000000 := by simpa [rng62] using h
  omega
theorem i_range1 {es : Es} {x tg : Expr} {p q : Pos} (hg : glB sc "range" = true) (hx : plainX x = true) (hl : es.len = 1) (h : PA X [x] (tEs C cf ca X.K EX W 9 0 es)) : PI X tg (.Call (.Name "range" p) [x] [] q) (tSr C cf ca X.K EX W (.range es)) := by
  refine PIimp (pi_range1 (g.gl hg) (g.bl _ (by decide)) h (star_cons hx)) fun σ H R z => ?_
  obtain ⟨H0, S, ts, r, st, z⟩ := z
  simp only [evSr] at z
  refine ⟨H0, S, ts, r, st, z.bind.imp fun a1 k vs H1 hn st1 => ?_⟩
  obtain ⟨xs, e, k⟩ := k.bind.of
  obtain ⟨r1, ds⟩ := a1
  obtain ⟨hot, rp⟩ := Sta.peeks st1
  have hlen := rp.length
  rw [hn, hl] at hlen
  match ds, hlen with
  | [d], _ =>
    obtain ⟨v, rfl, rq⟩ := rp.one_ex
    cases d <;> simp only [rangeop, reduceCtorEq] at e
    split at e
    · rename_i hr
      cases e
      obtain ⟨h1, h2⟩ := rng62_ok g hr
      exact ⟨_, by rw [rq.int_eq], h1, h2, k _ [] H1 src_range (Sta.pop st1)⟩
    · cases e
theorem i_range2 {es : Es} {x y tg : Expr} {p q : Pos} (hg : glB sc "range" = true) (hx : plainX x = true) (hy : plainX y = true) (hl : es.len = 2) (h : PA X [x, y] (tEs C cf ca X.K EX W 9 0 es)) : PI X tg (.Call (.Name "range" p) [x, y] [] q) (tSr C cf ca X.K EX W (.range es)) := by
  refine PIimp (pi_range2 (g.gl hg) (g.bl _ (by decide)) h (by rw [star_cons hx, star_cons hy]; rfl) (star_cons hy)) fun σ H R z => ?_
  obtain ⟨H0, S, ts, r, st, z⟩ := z
  simp only [evSr] at z
  refine ⟨H0, S, ts, r, st, z.bind.imp fun a1 k vs H1 hn st1 => ?_⟩
  obtain ⟨xs, e, k⟩ := k.bind.of
  obtain ⟨r1, ds⟩ := a1
  obtain ⟨hot, rp⟩ := Sta.peeks st1
  have hlen := rp.length
  rw [hn, hl] at hlen
  match ds, hlen with
  | [d, d'], _ =>
    obtain ⟨v, w, rfl, rq, rq'⟩ := rp.two_ex
    cases d <;> cases d' <;> simp only [rangeop, reduceCtorEq] at e
    split at e
    · rename_i hr
      cases e
      rw [Bool.and_eq_true] at hr
      obtain ⟨h1, h2⟩ := rng62_ok g hr.1
      obtain ⟨h3, h4⟩ := rng62_ok g hr.2
      exact ⟨_, _, by rw [rq.int_eq, rq'.int_eq], ⟨h1, h2, h3, h4⟩, k _ [] H1 src_range (Sta.pop st1)⟩
    · cases e
theorem i_enum {e : E} {x tg : Expr} {p q : Pos} (ht : isTupE tg = true) (hg : glB sc "enumerate" = true) (hx : plainX x = true) (h : PE X x (tE C cf ca X.K EX W 0 e)) : PI X tg (.Call (.Name "enumerate" p) [x] [] q) (tSr C cf ca X.K EX W (.enum e)) := by
  cases tg <;> first | cases ht | skip
  refine PIimp (pi_enumK (g.gl hg) (g.bl _ (by decide)) (pa_cons h pa_nil (star_cons hx)) (star_cons hx)) fun σ H R z => ?_
  obtain ⟨H0, S, ts, r, st, z⟩ := z
  simp only [evSr] at z
  refine ⟨H0, S, ts, r, st, z.bind.imp fun a1 k v H1 st1 => ?_⟩
  obtain ⟨ds, e, k⟩ := k.bind.of
  obtain ⟨r1, l1, d1⟩ := a1
  have st2 := Sta.lowT st1 (Nat.zero_le l1)
  obtain ⟨hot, A, rp⟩ := Sta.peekOwn st2
  simp only [enumOf, Option.map_eq_some_iff] at e
  obtain ⟨es, e, rfl⟩ := e
  obtain ⟨t, rfl⟩ := items_dK e
  obtain ⟨a, vs, rfl, h1, h2⟩ := rp.seq_ex
  exact ⟨a, vs, t, rfl, h1, k _ _ H1 src_enum st2⟩
theorem i_zip {a b : E} {x y tg : Expr} {p q : Pos} (ht : isTupE tg = true) (hg : glB sc "zip" = true) (hx : plainX x = true) (hy : plainX y = true) (ha : PE X x (tE C cf ca X.K EX W 0 a)) (hb : PE X y (tE C cf ca X.K EX W 0 b)) : PI X tg (.Call (.Name "zip" p) [x, y] [] q) (tSr C cf ca X.K EX W (.zip a b)) := by
  cases tg <;> first | cases ht | skip
  have h1 := star_cons (env := X.env) (xs := [y]) hx
  have h2 := star_cons (env := X.env) (xs := []) hy
  refine PIimp (pi_zipK (g.gl hg) (g.bl _ (by decide)) (pa_cons ha (pa_cons hb pa_nil h2) h1) h1 (by rw [h2]; rfl)) fun σ H R z => ?_
  obtain ⟨H0, S, ts, r, st, z⟩ := z
  simp only [evSr] at z
  refine ⟨H0, S, ts, r, st, z.bind.imp fun a1 k v H1 st1 => ?_⟩
  have st2 := Sta.lowT st1 (Nat.zero_le _)
  refine ⟨H0, S, _, _, st2, (Post.deep (Post.bind k)).imp fun a2 k w H2 st3 => ?_⟩
  have st4 := Sta.lowT st3 (Nat.zero_le _)
  obtain ⟨ds, e, kk⟩ := k.bind.of
  obtain ⟨r1, l1, d1⟩ := a1
  obtain ⟨r2, l2, d2⟩ := a2
  obtain ⟨hot, A, rp⟩ := Sta.peekOwn st4
  obtain ⟨hot', A', rp'⟩ := Sta.peekOwn (Sta.pop st4)
  unfold zipOf at e
  split at e
  · rename_i as bs ea eb
    split at e
    · rename_i hzk
      cases e
      obtain ⟨t, rfl⟩ := items_dK ea
      obtain ⟨u, rfl⟩ := items_dK eb
      obtain ⟨a, vs, rfl, h1, h2⟩ := rp'.seq_ex
      obtain ⟨b, ws, rfl, h3, h4⟩ := rp.seq_ex
      exact ⟨a, b, vs, ws, t, u, rfl, h1, h3, kk _ _ H2 (src_zip hzk) st4⟩
    · cases e
  · cases e
end
end
end Ly

set_option Elab.async false
set_option linter.all false
set_option maxRecDepth 100000
set_option maxHeartbeats 2000000
/-! Dicts in expressions. -/
namespace Ly
open PySem PySem.Spec PyProof.Rows L2
section
variable {C : Cfg} {cal : Bool} {N : List Str} {sc : Scope} {cf : Nat → List D → CR} {ca : Nat → Addr} {EX : Addr → Nat → Prop} {W : WX} {X : Cx} {K : PySem.W.Frag}
variable {H0 H H' : Hp} {S : List Addr} {ts : List Tm} {σ : L2.St} {r : Env}
theorem RepT.dic_ex {hot : List Addr} {j : Nat} {v : V} {t : Bool} {ks : List (List L2.Key)} {ds : List D} (h : RepT K H S hot j v (.dic t ks ds)) : ∃ a vs, v = .ref a ∧ Rd H a (dOb t ks vs) ∧ dOk t ks ∧ ks.length = vs.length ∧ RepTs K H S hot (j - 1) vs ds := by
  cases h with
  | dic0 h k e hs => exact ⟨_, _, rfl, h.1, k, e, hs⟩
  | dicS h k e hs => exact ⟨_, _, rfl, h.1, k, e, hs⟩
theorem zip_inj {α : Type} : ∀ {ks : List α} {vs ws : List V}, ks.length = vs.length → ks.length = ws.length → ks.zip vs = ks.zip ws → vs = ws
  | [], [], [], _, _, _ => rfl
  | [], _ :: _, _, h, _, _ => by simp at h
  | [], [], _ :: _, _, h, _ => by simp at h
  | k :: ks, [], _, h, _, _ => by simp at h
  | k :: ks, _ :: _, [], _, h, _ => by simp at h
  | k :: ks, v :: vs, w :: ws, h1, h2, e => by
    simp only [List.zip_cons_cons, List.cons.injEq, Prod.mk.injEq, true_and] at e
    rw [e.1, zip_inj (by simpa using h1) (by simpa using h2) e.2]
theorem dOb_inj {t : Bool} {ks : List (List L2.Key)} {vs ws : List V} (h1 : ks.length = vs.length) (h2 : ks.length = ws.length) (e : dOb t ks vs = dOb t ks ws) : vs = ws := by
  cases t with
  | true =>
    have e' : ks.zip vs = ks.zip ws := by
      have : HO.dT (ks.zip vs) = HO.dT (ks.zip ws) := e
      injection this
    exact zip_inj h1 h2 e'
  | false =>
    have e' : (ks.map k1).zip vs = (ks.map k1).zip ws := by
      have : HO.dK ((ks.map k1).zip vs) = HO.dK ((ks.map k1).zip ws) := e
      injection this
    exact zip_inj (by simpa using h1) (by simpa using h2) e'
theorem rd_dic {a : Addr} {t : Bool} {ks : List (List L2.Key)} {vs ws : List V} (h1 : ks.length = vs.length) (h2 : ks.length = ws.length) (r1 : Rd H a (dOb t ks vs)) (r2 : Rd H a (dOb t ks ws)) : vs = ws := by
  refine dOb_inj (t := t) h1 h2 ?_
  rcases r1 with r1 | ⟨o, r1⟩
  · rcases r2 with r2 | ⟨o', r2⟩
    · rw [r1] at r2; exact Option.some.inj r2
    · rw [r1] at r2; exact absurd (Option.some.inj r2) dOb_frz
  · rcases r2 with r2 | ⟨o', r2⟩
    · rw [r1] at r2; exact absurd (Option.some.inj r2).symm dOb_frz
    · rw [r1] at r2
      have := Option.some.inj r2
      injection this
/-- y in d -/
def rDin (neg : Bool) : R2 := fun y x H Q => ∃ a o, x = .ref a ∧ DGet H a y o ∧ Q (.bl (neg ^^ o.isSome)) H
def inOf (neg : Bool) : CmpOp := if neg then .NotIn else .In
theorem op_din (hu : X.A.units + 1 < cLine) (neg : Bool) : OpR X (compareOp (inOf neg)) (rDin neg) := by
  intro pins s σ H x y v u Q I rx ry h
  obtain ⟨a, o, rfl, g, q⟩ := h
  obtain rfl : u = Value.ref a := ry
  cases neg with
  | false =>
    refine d_in hu I g rx fun s' I' => ⟨.bl o.isSome, H, I', rfl, ?_⟩
    simpa using q
  | true =>
    refine d_notIn hu I g rx fun s' I' => ⟨.bl (!o.isSome), H, I', rfl, ?_⟩
    simpa using q
variable (g : Good C cal N sc cf ca EX W X)
include g
omit g in
theorem c_dnw2 {t : Bool} {p : Pos} : PE X (.Dict [] [] p) (tE C cf ca X.K EX W 0 (.dnw2 t)) := by
  cases t with
  | false =>
    refine PEimp pe_dnewK fun σ H Q z => ?_
    obtain ⟨H0, S, ts, r, st, z⟩ := z
    simp only [ev] at z
    exact fun p hp => z _ _ (st.fresh (A := [p]) (same_upd hp) (by simp) (by simp [hp]) fun hot => .dicS (l := 1) (t := false) (ks := []) (vs := []) upd_same (fun _ k hk => by simp at hk) rfl (.nil 1))
  | true =>
    refine PEimp pe_dnewT fun σ H Q z => ?_
    obtain ⟨H0, S, ts, r, st, z⟩ := z
    simp only [ev] at z
    exact fun p hp => z _ _ (st.fresh (A := [p]) (same_upd hp) (by simp) (by simp [hp]) fun hot => .dicS (l := 1) (t := true) (ks := []) (vs := []) upd_same (fun h => by cases h) rfl (.nil 1))
omit g in
theorem c_dnew {t : Bool} {p : Pos} : PE X (.Dict [] [] p) (tE C cf ca X.K EX W 0 (.dnew t)) := by
  cases t with
  | false =>
    refine PEimp pe_dnewK fun σ H Q z => ?_
    obtain ⟨H0, S, ts, r, st, z⟩ := z
    simp only [ev] at z
    exact fun p hp => z _ _ (st.fresh (A := [p]) (same_upd hp) (by simp) (by simp [hp]) fun hot => .dicS (t := false) (ks := []) (vs := []) upd_same (fun _ k hk => by simp at hk) rfl (.nil 0))
  | true =>
    refine PEimp pe_dnewT fun σ H Q z => ?_
    obtain ⟨H0, S, ts, r, st, z⟩ := z
    simp only [ev] at z
    exact fun p hp => z _ _ (st.fresh (A := [p]) (same_upd hp) (by simp) (by simp [hp]) fun hot => .dicS (t := true) (ks := []) (vs := []) upd_same (fun h => by cases h) rfl (.nil 0))
omit g in
theorem c_dn1 {z : Int} {b : Bool} {k k2 : Nat} {p1 p2 p : Pos} : PE X (.Dict [some (.Constant (.int z) k p1)] [.Constant (.bool b) k2 p2] p) (tE C cf ca X.K EX W 0 (.dn1 z b)) := by
  refine PEimp (pe_disp (pps_cons pe_int pe_bl pps_nil) rfl rfl (by simp) (by simp)) fun σ H Q zz => ?_
  obtain ⟨H0, S, ts, r, st, zz⟩ := zz
  simp only [ev] at zz
  intro p hp
  refine ⟨upd_same, [(.inl z, .bl b)], rfl, by simp, ?_⟩
  show Q (.ref p) (upd (upd H p (.dK [])) p (.dK [(.inl z, .bl b)]))
  rw [upd_upd]
  exact zz _ _ (st.fresh (A := [p]) (same_upd hp) (by simp) (by simp [hp]) fun hot => .dicS (t := false) (ks := [[.inl z]]) (vs := [.bl b]) upd_same (fun _ k hk => ⟨.inl z, by simpa using hk⟩) rfl (.cons (.bl 0 b) (.nil 0)))
omit g in
/-- a key looked up in a dict, both read -/
theorem Sta.look {v w : V} {i j : Nat} {t : Bool} {ks : List (List L2.Key)} {ds : List D} {y : D} {q : List L2.Key} (hot : List Addr) (h1 : RepT K H S hot i v (.dic t ks ds)) (h2 : RepT K H S hot j w y) (e : keyD t y = some q) :
    ∃ a vs, v = .ref a ∧ Rd H a (dOb t ks vs) ∧ ks.length = vs.length ∧ DGet H a w (valV (ks.zip vs) q) ∧ RepTs K H S hot (i - 1) vs ds := by
  obtain ⟨a, vs, rfl, hr, ok, hl, hs⟩ := h1.dic_ex
  exact ⟨a, vs, rfl, hr, hl, dget_of hr ok (key_is h2 e), hs⟩
theorem c_din {neg : Bool} {k a : E} {x y : Expr} {p : Pos} (hy : plainX y = true) (hk : PE X x (tE C cf ca X.K EX W 9 k)) (ha : PE X y (tE C cf ca X.K EX W 1 a)) : PE X (.Compare x [inOf neg] [y] p) (tE C cf ca X.K EX W 0 (.din neg k a)) := by
  refine PEimp (pe_cmpR (op_din (by have := g.un; omega) neg) hk ha (plain_marks hy)) fun σ H Q z => ?_
  obtain ⟨H0, S, ts, r, st, z⟩ := z
  simp only [ev] at z
  refine ⟨H0, S, ts, r, st, z.bind.imp fun a1 k v H1 st1 => ?_⟩
  refine ⟨H0, S, _, _, st1, k.bind.deep.imp fun a2 k w H2 st2 => ?_⟩
  obtain ⟨r2, l2, d2⟩ := a2
  simp only at k st2
  cases d2 <;> first | exact k.elim | skip
  rename_i t ks ds
  obtain ⟨q, e, k⟩ := k.bind.of
  obtain ⟨hot, h1, h2⟩ := Sta.peek2 st2
  obtain ⟨b, vs, rfl, hr, hl, dg, hs⟩ := Sta.look hot h2 h1 e
  refine ⟨b, _, rfl, dg, ?_⟩
  have hsome : (valV (ks.zip vs) q).isSome = (dval ks ds q).isSome := by
    rcases rep_val q (ks := ks) hs with ⟨v', d', e1, e2, _⟩ | ⟨e1, e2⟩
    · rw [e1, e2]; rfl
    · rw [e1, e2]; rfl
  rw [hsome]
  exact k _ H2 ((Sta.pop (Sta.pop st2)).push0 fun _ => .bl 0 _)
theorem t_din {neg : Bool} {k a : E} {x y : Expr} {p : Pos} (hy : plainX y = true) (hk : PE X x (tE C cf ca X.K EX W 9 k)) (ha : PE X y (tE C cf ca X.K EX W 1 a)) : PT X (.Compare x [inOf neg] [y] p) (tT C cf ca X.K EX W (.din neg k a)) := by
  refine PTimp (pt_cmpR (op_din (by have := g.un; omega) neg) hk ha (plain_marks hy)) fun σ H Q z => ?_
  obtain ⟨H0, S, ts, r, st, z⟩ := z
  simp only [ev] at z
  refine ⟨H0, S, ts, r, st, z.bind.imp fun a1 k v H1 st1 => ?_⟩
  refine ⟨H0, S, _, _, st1, k.bind.deep.imp fun a2 k w H2 st2 => ?_⟩
  obtain ⟨r2, l2, d2⟩ := a2
  simp only at k st2
  cases d2 <;> first | exact k.elim | skip
  rename_i t ks ds
  obtain ⟨q, e, b', e', k⟩ := k.bind.of
  cases e'
  obtain ⟨hot, h1, h2⟩ := Sta.peek2 st2
  obtain ⟨b, vs, rfl, hr, hl, dg, hs⟩ := Sta.look hot h2 h1 e
  refine ⟨b, _, rfl, dg, ?_⟩
  have hsome : (valV (ks.zip vs) q).isSome = (dval ks ds q).isSome := by
    rcases rep_val q (ks := ks) hs with ⟨v', d', e1, e2, _⟩ | ⟨e1, e2⟩
    · rw [e1, e2]; rfl
    · rw [e1, e2]; rfl
  rw [hsome]
  exact ⟨_, rfl, k H2 (Sta.pop (Sta.pop st2))⟩
omit g in
/-- what is found is handed on -/
theorem Sta.found {w u : V} {j : Nat} {t : Bool} {ks : List (List L2.Key)} {vs : List V} {ds : List D} {y d : D} {q : List L2.Key} {a : Addr} (st : Sta K EX H0 S (.brw w 9 y :: .brw (.ref a) (j + 1) (.dic t ks ds) :: ts) σ r H) (hr : Rd H a (dOb t ks vs)) (hl : ks.length = vs.length) (e1 : valV (ks.zip vs) q = some u) (e2 : dval ks ds q = some d) : Sta K EX H0 S (.brw u j d :: ts) σ r H := by
  refine Sta.step (t1 := [.brw (.ref a) (j + 1) (.dic t ks ds)]) (t2 := [.brw u j d]) (Sta.pop st) (Same.refl H) fun hot A1 nd sub dom hS qq => ⟨[], .nil, fun _ z => (by simp at z), fun hot' h1 h2 h3 h4 => .mk1 (.brw ?_)⟩
  obtain ⟨b, ws, eb, hr2, ok2, hl2, hs⟩ := qq.brw1.dic_ex
  cases eb
  have ew := rd_dic hl hl2 hr hr2
  subst ew
  rcases rep_val q (ks := ks) hs with ⟨v', d', k1, k2, k3⟩ | ⟨k1, k2⟩
  · rw [e1] at k1
    rw [e2] at k2
    cases k1
    cases k2
    exact k3.less hS fun a ha => (h1 a ha).elim id fun z => by simp at z
  · rw [e1] at k1; cases k1
omit g in
theorem noSl {y : Expr} (hy : plainX y = true) : NoSl y := by
  intro ov iv
  cases y <;> first | rfl | cases hy
theorem c_dix {k a : E} {x y : Expr} {p : Pos} {j : Nat} (hy : plainX y = true) (ha : PE X x (tE C cf ca X.K EX W (j + 1) a)) (hk : PE X y (tE C cf ca X.K EX W 9 k)) : PE X (.Subscript x y p) (tE C cf ca X.K EX W j (.dix a k)) := by
  refine PEimp (pe_dget (by have := g.un; omega) ha hk (noSl hy)) fun σ H Q z => ?_
  obtain ⟨H0, S, ts, r, st, z⟩ := z
  simp only [ev] at z
  refine ⟨H0, S, ts, r, st, z.bind.imp fun a1 k v H1 st1 => ?_⟩
  refine ⟨H0, S, _, _, st1, k.bind.deep.imp fun a2 k w H2 st2 => ?_⟩
  obtain ⟨r1, l1, d1⟩ := a1
  obtain ⟨r2, l2, d2⟩ := a2
  simp only at k st2
  cases d1 with
  | dic t ks ds =>
    obtain ⟨q, e, k⟩ := k.bind.of
    obtain ⟨d, e2, k⟩ := (Post.bind k).of
    obtain ⟨hot, h1, h2⟩ := Sta.peek2 st2
    obtain ⟨b, vs, rfl, hr, hl, dg, hs⟩ := Sta.look hot h1 h2 e
    rcases rep_val q (ks := ks) hs with ⟨v', d', k1, k2, k3⟩ | ⟨k1, k2⟩
    · rw [e2] at k2
      cases k2
      rw [k1] at dg
      have st3 := Sta.found (j := j) st2 hr hl k1 e2
      refine ⟨b, v', rfl, dg, ?_⟩
      cases j with
      | zero => exact k _ H2 (Sta.brw0 st3)
      | succ j => exact k _ H2 st3
    · rw [e2] at k2; cases k2
  | _ => exact k.elim
omit g in
theorem isD_of {a : Addr} {t : Bool} {ks : List (List L2.Key)} {vs : List V} (h : Rd H a (dOb t ks vs)) : IsD H a := by
  cases t with
  | false => exact .inl ⟨_, h⟩
  | true => exact .inr ⟨_, h⟩
theorem c_dgt {a k : E} {x : Expr} {y : Str} {p1 p2 p3 : Pos} (hl : (p2.endLine == p3.line) = true) (hx : plainX x = true) (ha : PE X (.Name y p1) (tE C cf ca X.K EX W 1 a)) (hk : PE X x (tE C cf ca X.K EX W 9 k)) :
    PE X (.Call (.Attribute (.Name y p1) "get" p2) [x] [] p3) (tE C cf ca X.K EX W 0 (.dgt a k)) := by
  have hs := star_cons (env := X.env) (xs := []) hx
  refine PEimp (pe_dget1 (by have := g.un; omega) ha hk ⟨rfl, few1 hx, hl, by rw [hs]; rfl⟩) fun σ H Q z => ?_
  obtain ⟨H0, S, ts, r, st, z⟩ := z
  simp only [ev] at z
  refine ⟨H0, S, ts, r, st, z.bind.imp fun a1 k v H1 st1 => ?_⟩
  obtain ⟨r1, l1, d1⟩ := a1
  simp only at k st1
  cases d1 <;> first | exact k.elim | skip
  rename_i t ks ds
  obtain ⟨hot0, g0⟩ := Sta.peek st1
  obtain ⟨b, vs, rfl, hr0, ok0, hl0, hs0⟩ := g0.dic_ex
  refine ⟨b, rfl, isD_of hr0, H0, S, _, _, st1, k.bind.deep.imp fun a2 k w H2 st2 => ?_⟩
  obtain ⟨r2, l2, d2⟩ := a2
  obtain ⟨q, e, k⟩ := k.bind.of
  obtain ⟨hot, h1, h2⟩ := Sta.peek2 st2
  obtain ⟨b', vs', eb, hr, hl', dg, hs'⟩ := Sta.look hot h1 h2 e
  cases eb
  rcases rep_val q (ks := ks) hs' with ⟨v', d', k1, k2, k3⟩ | ⟨k1, k2⟩
  · rw [k1] at dg
    rw [k2] at k
    exact ⟨_, dg, k _ H2 (Sta.brw0 (Sta.found (j := 0) st2 hr hl' k1 k2))⟩
  · rw [k1] at dg
    rw [k2] at k
    exact ⟨_, dg, k _ H2 ((Sta.pop (Sta.pop st2)).push0 fun _ => .non 0)⟩
end
end Ly

set_option Elab.async false
set_option linter.all false
set_option maxRecDepth 100000
set_option maxHeartbeats 2000000
/-! Methods in expressions; sorted(dict), len(set(texts)), dict(t + u). -/
namespace Ly
open PySem PySem.Spec PyProof.Rows L2
theorem mEs_len {C : Cfg} {cal : Bool} {N : List Str} {sc : Scope} : ∀ (es : Es) (xs : List Expr), mEs C cal N sc es xs = true → es.len = xs.length
  | .nil, [], _ => rfl
  | .nil, _ :: _, h => by simp [mEs] at h
  | .cons _ _, [], h => by simp [mEs] at h
  | .cons e es, x :: xs, h => by
    simp only [mEs, Bool.and_eq_true] at h
    rw [Es.len, List.length_cons, mEs_len es xs h.2]
def Me.ty : Me → String
  | .lcount => "list"
  | _ => "str"
def Me.id : Me → String
  | .isdigit => "str.isdigit"
  | .join => "str.join"
  | .find3 => "str.find"
  | .partition => "str.partition"
  | .split => "str.split"
  | .endswith => "str.endswith"
  | .lcount => "list.count"
section
variable {C : Cfg} {cal : Bool} {N : List Str} {sc : Scope} {cf : Nat → List D → CR} {ca : Nat → Addr} {EX : Addr → Nat → Prop} {W : WX} {X : Cx} {K : PySem.W.Frag}
variable {H0 H H' : Hp} {S : List Addr} {ts : List Tm} {σ : L2.St} {r : Env}
def rSMeth (K : PySem.W.Frag) (EX : Addr → Nat → Prop) (m : Me) : V → List V → Hp → VK → Prop := fun x vs H Q => ∃ H0 S ts σ r dx ds l z, Sta K EX H0 S (.brws vs 1 ds :: .brw x 1 dx :: ts) σ r H ∧ methop m dx ds = some (l, z) ∧ ∀ v H', Sta K EX H0 S (.own v l z :: ts) σ r H' → Q v H'
theorem strs_of {S hot : List Addr} {j : Nat} : ∀ {vs : List V} {ds : List D} {ss : List Str}, RepTs K H S hot j vs ds → asStrs ds = some ss → vs = ss.map V.str
  | _, _, _, .nil _, h => by cases h; rfl
  | _, _, _, .cons (d := d) h hs, e => by
    cases d <;> simp only [asStrs, reduceCtorEq, Option.map_eq_some_iff] at e
    obtain ⟨ss, e1, e2⟩ := e
    subst e2
    rw [strs_of hs e1]
    cases h
    rfl
theorem mstr_rep {S hot : List Addr} {j : Nat} : ∀ ss : List Str, RepTs K H S hot j (ss.map V.str) (ss.map D.str)
  | [] => .nil j
  | s :: ss => .cons (.str j s) (mstr_rep ss)
theorem mt_meth (m : Me) : MtR X m.id (rSMeth X.K EX m) := by
  intro pins s σ H x vs v us Q I rx rv h
  obtain ⟨H0, S, ts, σ', r, dx, ds, l, z, st, e, q⟩ := h
  obtain ⟨hot, h1⟩ := st.peeks
  obtain ⟨hot2, h2⟩ := Sta.peek (Sta.pop st)
  have scal : ∀ w d, (∀ hot, Rep X.K H hot 0 w d []) → l = 0 → z = d → Q w H := fun w d g e1 e2 => by
    subst e1; subst e2
    exact q w H ((Sta.pop (Sta.pop st)).push0 g)
  unfold methop at e
  split at e
  · rename_i a
    cases e
    cases h1
    rw [h2.str_eq] at rx
    exact mt_isdigit pins s σ H _ _ v us Q I rx rv ⟨a, rfl, rfl, trivial, scal _ _ (fun _ => .bl 0 _) rfl rfl⟩
  · rename_i a ds'
    obtain ⟨w, rfl, g⟩ := h1.one_ex
    obtain ⟨ss, e1, e2⟩ := Option.bind_eq_some_iff.mp e
    obtain ⟨p, ws, rfl, hp, hs⟩ := g.lst_ex
    have ew := strs_of hs e1
    subst ew
    split at e2
    · rename_i hz
      cases e2
      rw [h2.str_eq] at rx
      exact mt_join pins s σ H _ _ v us Q I rx rv ⟨a, p, ss, rfl, rfl, .inl hp, hz, scal _ _ (fun _ => .str 0 _) rfl rfl⟩
    · cases e2
  · rename_i a b i
    cases e
    obtain ⟨w, w', rfl, g, g'⟩ := h1.two_ex
    rw [h2.str_eq] at rx
    rw [g.str_eq, g'.int_eq] at rv
    exact mt_find3 pins s σ H _ _ v us Q I rx rv ⟨a, b, i, rfl, rfl, scal _ _ (fun _ => .int 0 _) rfl rfl⟩
  · rename_i a b
    obtain ⟨w, rfl, g⟩ := h1.one_ex
    rw [h2.str_eq] at rx
    rw [g.str_eq] at rv
    split at e
    · cases e
    · rename_i hz
      cases e
      refine mt_partition pins s σ H _ _ v us Q I rx rv ⟨a, b, rfl, rfl, by simp only [beq_eq_false_iff_ne]; omega, by rw [← ln_eq]; omega, fun p hp => ?_⟩
      refine q _ _ (Sta.step (t1 := []) (t2 := [.own (.ref p) 0 _]) (Sta.pop (Sta.pop st)) (same_upd hp) fun hot A1 nd sub dom hS _ => ⟨[], .nil, fun _ z => (by simp at z), fun hot' g1 g2 g3 g4 => .mk1 (.own ?_)⟩)
      exact Rep.tup (l := 0) (tupF_new0 rfl) (Reps.cons (A := []) (.str _ _) (Reps.cons (A := []) (.str _ _) (Reps.cons (A := []) (.str _ _) (.nil _))))
  · rename_i a b
    obtain ⟨w, rfl, g⟩ := h1.one_ex
    rw [h2.str_eq] at rx
    rw [g.str_eq] at rv
    split at e
    · cases e
    · rename_i hz
      cases e
      refine mt_split pins s σ H _ _ v us Q I rx rv ⟨a, b, rfl, rfl, by simp only [beq_eq_false_iff_ne]; omega, by rw [← ln_eq]; omega, fun p hp => ?_⟩
      exact q _ _ (Sta.newL (t1 := []) (Sta.pop (Sta.pop st)) hp fun hot A q => mstr_rep _)
  · rename_i a b
    cases e
    obtain ⟨w, rfl, g⟩ := h1.one_ex
    rw [h2.str_eq] at rx
    rw [g.str_eq] at rv
    exact mt_endswith pins s σ H _ _ v us Q I rx rv ⟨a, b, rfl, rfl, scal _ _ (fun _ => .bl 0 _) rfl rfl⟩
  · rename_i ds' k
    obtain ⟨w, rfl, g⟩ := h1.one_ex
    rw [g.str_eq] at rv
    obtain ⟨ss, e1, e2⟩ := Option.map_eq_some_iff.mp e
    cases e2
    obtain ⟨p, ws, rfl, hp, hs⟩ := h2.lst_ex
    have ew := strs_of hs e1
    subst ew
    exact mt_countS pins s σ H _ _ v us Q I rx rv ⟨p, ss, k, rfl, rfl, hp, scal _ _ (fun _ => .int 0 _) rfl rfl⟩
  · cases e
theorem Me.plain (m : Me) : PlainAttrs m.ty := by cases m <;> first | exact F.plainAttrs_str | exact F.plainAttrs_list
theorem Me.slot (m : Me) : Slot m.ty m.word m.id := by
  cases m
  · exact F.slot_str_isdigit
  · exact F.slot_str_join
  · exact F.slot_str_find
  · exact F.slot_str_partition
  · exact F.slot_str_split
  · exact F.slot_str_endswith
  · exact F.slot_list_count
theorem Me.typ (m : Me) : typeOf (.builtin m.id) = pure (.type "method_descriptor") := by
  cases m
  · exact F.type_str_isdigit
  · exact F.type_str_join
  · exact F.type_str_find
  · exact F.type_str_partition
  · exact F.type_str_split
  · exact F.type_str_endswith
  · with_unfolding_all rfl
theorem meth_tyV {hot : List Addr} {m : Me} {v : V} {d : D} {j : Nat} (h : RepT K H S hot j v d) (e : methTy m d = true) : tyV K m.ty v H := by
  cases m <;> cases d <;> simp only [methTy, reduceCtorEq, Bool.false_eq_true] at e
  all_goals first
    | (rw [h.str_eq]; rfl)
    | (obtain ⟨a, vs, rfl, h1, h2⟩ := h.lst_ex; exact .inl ⟨rfl, vs, h1⟩)
theorem base_plain {o : Expr} {name : Str} {env : PySem.Env} {w : Sem Value} (h : noCall0 o = true) : attributeBase o name env w = w := by
  unfold noCall0 at h
  unfold attributeBase
  split
  · cases h
  · rename_i hn
    cases o <;> first | rfl | skip
theorem fewN {x : Expr} {xs : List Expr} {env : PySem.Env} {p : Pos} (hx : plainX x = true) (h : ∀ y ∈ xs, plainX y = true) (hl : (x :: xs).length < 20) : ((backTo p (starEach (x :: xs) env)).all (fun x => !x.1) && (backToKw p (keywordEach [] env)).all (fun x => x.1.isSome) && decide ((x :: xs).length + ([] : List Keyword).length + (if ([] : List Keyword).isEmpty then 0 else 1) < 30)) = true := by
  have h1 : (backTo p (starEach (x :: xs) env)).any (·.1) = false := star_none fun y hy => by
    rcases List.mem_cons.mp hy with rfl | hy
    · exact hx
    · exact h y hy
  rw [Bool.and_eq_true, Bool.and_eq_true]
  refine ⟨⟨?_, rfl⟩, ?_⟩
  · rw [List.all_eq_true]
    intro z hz
    have := List.any_eq_false.mp h1 z hz
    simpa using this
  · simp only [List.length_nil, List.isEmpty_nil, if_true, Nat.add_zero, decide_eq_true_eq]
    omega
variable (g : Good C cal N sc cf ca EX W X)
include g
theorem c_meth {m : Me} {a : E} {es : Es} {x : Expr} {xs : List Expr} {p2 p3 : Pos} (hl : (p2.endLine == p3.line) = true) (hn : noCall0 x = true) (hk : xs.length < 20) (ha : PE X x (tE C cf ca X.K EX W 1 a)) (hp : ∀ y ∈ xs, plainX y = true)
    (hs : PA X xs (tEs C cf ca X.K EX W 1 0 es)) (hln : es.len = xs.length) : PE X (.Call (.Attribute x m.word p2) xs [] p3) (tE C cf ca X.K EX W 0 (.meth m a es)) := by
  match xs, hp, hs, hln, hk with
  | [], hp, hs, hln, hk =>
    cases es with
    | cons _ _ => simp [Es.len] at hln
    | nil =>
      refine PEimp (pe_bm0 m.plain m.slot m.typ (mt_meth (EX := EX) m) ha (base_plain hn) hl) fun σ H Q z => ?_
      obtain ⟨H0, S, ts, r, st, z⟩ := z
      simp only [ev, evs] at z
      refine ⟨H0, S, ts, r, st, z.bind.imp fun a1 k v H1 st1 => ?_⟩
      obtain ⟨hot, g1⟩ := Sta.peek st1
      split at k
      · rename_i ht
        have k2 : Post X.K ca EX W H0 S ts σ ((R.of (methop m a1.2.2 [])).bind fun x => R.ok (a1.1, x.1, x.2)) _ := k
        obtain ⟨⟨l, d⟩, e, k⟩ := (Post.bind k2).of
        refine ⟨meth_tyV g1 ht, H0, S, ts, σ, _, a1.2.2, [], l, d, Sta.step (t1 := []) (t2 := [.brws [] 1 []]) st1 (Same.refl H1) fun hot A1 nd sub dom hS q => ⟨[], .nil, fun _ z => (by simp at z), fun hot' h1 h2 h3 h4 => .mk1 (.brws (.nil 1))⟩, e, k⟩
      · exact k.elim
  | y :: ys, hp, hs, hln, hk =>
    have h1 := star_cons (env := X.env) (xs := ys) (hp y List.mem_cons_self)
    have h2 := star_none (env := X.env) (pos := p3) fun z hz => hp z (List.mem_cons_of_mem _ hz)
    refine PEimp (pe_bm m.plain m.slot m.typ (mt_meth (EX := EX) m) ha hs (base_plain hn) (fewN (hp y List.mem_cons_self) (fun z hz => hp z (List.mem_cons_of_mem _ hz)) hk) hl h1 h2) fun σ H Q z => ?_
    obtain ⟨H0, S, ts, r, st, z⟩ := z
    simp only [ev] at z
    refine ⟨H0, S, ts, r, st, z.bind.imp fun a1 k v H1 st1 => ?_⟩
    obtain ⟨hot, g1⟩ := Sta.peek st1
    split at k
    · rename_i ht
      refine ⟨meth_tyV g1 ht, H0, S, _, _, st1, k.bind.deep.imp fun a2 k vs H2 hn st2 => ?_⟩
      obtain ⟨⟨l, d⟩, e, k⟩ := (Post.bind k).of
      exact ⟨H0, S, ts, σ, _, a1.2.2, a2.2, l, d, st2, e, k⟩
    · exact k.elim
omit g in
theorem asIntK_keys : ∀ {ks : List (List L2.Key)} {is : List Int}, asIntK ks = some is → ks = is.map fun i => [Sum.inl i]
  | [], _, h => by cases h; rfl
  | [.inl i] :: ks, _, h => by
    simp only [asIntK, Option.map_eq_some_iff] at h
    obtain ⟨is, h1, rfl⟩ := h
    rw [List.map_cons, ← asIntK_keys h1]
  | [] :: _, _, h => by simp [asIntK] at h
  | [.inr _] :: _, _, h => by simp [asIntK] at h
  | (_ :: _ :: _) :: _, _, h => by simp [asIntK] at h
theorem c_sdic {a : E} {z : Expr} {p q : Pos} (hc : cal = true) (hg : glB sc "sorted" = true) (hp : plainX z = true) (ha : PE X z (tE C cf ca X.K EX W 1 a)) :
    PE X (.Call (.Name "sorted" p) [z] [] q) (tE C cf ca X.K EX W 0 (.sdic a)) := by
  have m1 : X.mg "sorted" = none := g.bl _ (by decide)
  have s1 := star_cons (env := X.env) (xs := []) hp
  refine PEimp (pe_callB (cr_sortedD (g.calm hc)) (g.gl hg) m1 PyProof.Rows.boot_sorted (pa_cons ha pa_nil s1) (he := s1)) fun σ H Q z => ?_
  obtain ⟨H0, S, ts, r, st, z⟩ := z
  simp only [ev] at z
  refine ⟨H0, S, ts, r, st, z.bind.imp fun a1 k v H1 st1 => ?_⟩
  obtain ⟨r1, l1, d1⟩ := a1
  obtain ⟨hot, g1⟩ := Sta.peek st1
  cases d1 <;> first | exact k.elim | skip
  rename_i t ks ds
  cases t <;> first | exact k.elim | skip
  obtain ⟨is, e1, k⟩ := (Post.bind k).of
  obtain ⟨b, vs, rfl, hb, ok, hl, hs⟩ := g1.dic_ex
  have ek := asIntK_keys e1
  subst ek
  by_cases hlen : is.length < LN
  · rw [if_pos hlen] at k
    refine ⟨b, _, is, rfl, hb, ?_, fun ys p h1 h2 hp => ?_⟩
    · rw [List.map_fst_zip (by rw [List.length_map, hl]; exact Nat.le_refl _), List.map_map]
      rfl
    · have en : ys = sortI is := sort_uniq ys _ (h1.trans (sortI_perm is).symm) h2 (sortI_pw is)
      subst en
      exact k _ _ (Sta.newL (t1 := [_]) st1 hp fun hot A q => ints_rep _)
  · rw [if_neg hlen] at k
    exact k.elim
theorem c_lset {a : E} {z : Expr} {p p2 q q2 : Pos} (hc : cal = true) (hg : glB sc "len" = true) (hg2 : glB sc "set" = true) (hp : plainX z = true) (ha : PE X z (tE C cf ca X.K EX W 1 a)) :
    PE X (.Call (.Name "len" p) [.Call (.Name "set" p2) [z] [] q2] [] q) (tE C cf ca X.K EX W 0 (.lset a)) := by
  have m1 : X.mg "len" = none := g.bl _ (by decide)
  have m2 : X.mg "set" = none := g.bl _ (by decide)
  have s1 := star_cons (env := X.env) (xs := []) hp
  refine PEimp (pe_lenSetS (g.calm hc) (g.gl hg) m1 (g.gl hg2) m2 ha s1) fun σ H Q z => ?_
  obtain ⟨H0, S, ts, r, st, z⟩ := z
  simp only [ev] at z
  refine ⟨H0, S, ts, r, st, z.bind.imp fun a1 k v H1 st1 => ?_⟩
  obtain ⟨r1, l1, d1⟩ := a1
  obtain ⟨hot, g1⟩ := Sta.peek st1
  cases d1 <;> first | exact k.elim | skip
  obtain ⟨ss, e1, k⟩ := (Post.bind k).of
  obtain ⟨b, vs, rfl, hb, hs⟩ := g1.lst_ex
  have ew := strs_of hs e1
  subst ew
  by_cases hlen : ss.length < 60
  · rw [if_pos hlen] at k
    exact ⟨b, ss, rfl, hb, hlen, k _ _ ((Sta.pop st1).push0 fun _ => .int 0 _)⟩
  · rw [if_neg hlen] at k
    exact k.elim
omit g in
/-- pairs of texts and something, taken apart -/
theorem prs_apart {S hot : List Addr} : ∀ {vs : List V} {ds : List D} {p : List Str × List D}, RepTs K H S hot 0 vs ds → asPrs ds = some p →
    ∃ (ps : List Addr) (xs : List V), vs = ps.map V.ref ∧ ps.length = p.1.length ∧ xs.length = p.1.length ∧ Paired (fun (b : Addr) (kv : L2.Key × V) => SqT K H b [kV kv.1, kv.2]) ps ((p.1.map Sum.inr).zip xs) ∧ RepTs K H S hot 0 xs p.2
  | _, _, _, .nil _, h => by cases h; exact ⟨[], [], rfl, rfl, rfl, .nil, .nil 0⟩
  | _, _, _, .cons (d := d) h hs, e => by
    cases d with
    | tup es =>
      match es, h, e with
      | [.str s, y], h, e =>
        simp only [asPrs, Option.map_eq_some_iff] at e
        obtain ⟨p, e1, rfl⟩ := e
        obtain ⟨ps, xs, rfl, h1, h2, h4, h5⟩ := prs_apart hs e1
        obtain ⟨b, ws, rfl, hb, hw⟩ := h.tup_ex
        obtain ⟨v, w, rfl, g1, g2⟩ := hw.two_ex
        rw [g1.str_eq] at hb
        exact ⟨b :: ps, w :: xs, rfl, by simp [h1], by simp [h2], .cons hb h4, .cons g2 h5⟩
      | [], _, e => simp [asPrs] at e
      | [_], _, e => simp [asPrs] at e
      | .non :: _ :: _, _, e => simp [asPrs] at e
      | .bl _ :: _ :: _, _, e => simp [asPrs] at e
      | .int _ :: _ :: _, _, e => simp [asPrs] at e
      | .tup _ :: _ :: _, _, e => simp [asPrs] at e
      | .lst _ :: _ :: _, _, e => simp [asPrs] at e
      | .dic _ _ _ :: _ :: _, _, e => simp [asPrs] at e
      | .exn :: _ :: _, _, e => simp [asPrs] at e
      | .str _ :: _ :: _ :: _, _, e => simp [asPrs] at e
    | _ => simp [asPrs] at e
omit g in
theorem prs_uniq (inj : ∀ b xs ys, SqT K H b xs → SqT K H b ys → xs = ys) : ∀ {ss : List Str} {ps : List Addr} {xs ys : List V}, xs.length = ss.length → ys.length = ss.length →
    Paired (fun (b : Addr) (kv : L2.Key × V) => SqT K H b [kV kv.1, kv.2]) ps ((ss.map Sum.inr).zip xs) → Paired (fun (b : Addr) (kv : L2.Key × V) => SqT K H b [kV kv.1, kv.2]) ps ((ss.map Sum.inr).zip ys) → xs = ys
  | [], ps, xs, ys, h1, h2, _, _ => by
    rw [List.eq_nil_of_length_eq_zero h1, List.eq_nil_of_length_eq_zero h2]
  | s :: ss, ps, x :: xs, y :: ys, h1, h2, p, q => by
    simp only [List.map_cons, List.zip_cons_cons] at p q
    cases p with
    | cons a1 p =>
      cases q with
      | cons a2 q =>
        have e := inj _ _ _ a1 a2
        simp only [List.cons.injEq, and_true, true_and] at e
        rw [e, prs_uniq inj (by simpa using h1) (by simpa using h2) p q]
  | _ :: _, _, [], _, h1, _, _, _ => by simp at h1
  | _ :: _, _, _ :: _, [], _, h2, _, _ => by simp at h2
omit g in
theorem refs_inj : ∀ {ps qs : List Addr}, ps.map V.ref = qs.map V.ref → ps = qs
  | [], [], _ => rfl
  | [], _ :: _, h => by simp at h
  | _ :: _, [], h => by simp at h
  | p :: ps, q :: qs, h => by
    simp only [List.map_cons, List.cons.injEq, V.ref.injEq] at h
    rw [h.1, refs_inj h.2]
def rSDict (K : PySem.W.Frag) (EX : Addr → Nat → Prop) : List V → Hp → VK → Prop := fun vs H Q => ∃ H0 S ts σ r v ds p, vs = [v] ∧ Sta K EX H0 S (.brw v 1 (.tup ds) :: ts) σ r H ∧ asPrs ds = some p ∧ isPrs ds = true ∧
  ∀ v H', Sta K EX H0 S (.own v 1 (.dic false (dprsK p.1 p.2 [] []).1 (dprsK p.1 p.2 [] []).2) :: ts) σ r H' → Q v H'
omit g in
theorem call_dprs (hc : X.calm = true) : CallR X (.type "dict") (rSDict X.K EX) := by
  intro pins s σ H vs us Q I rv h
  obtain ⟨H0, S, ts, σ', r, v, ds, p, rfl, st, e, hp, q⟩ := h
  obtain ⟨hot, h1⟩ := st.peek
  obtain ⟨a, ws, rfl, ha, hs⟩ := h1.tup_exF
  obtain ⟨o, ho, hod⟩ := ha.2 hp
  obtain ⟨ps, xs, rfl, l1, l2, pr, _⟩ := prs_apart hs e
  refine cr_dictT hc pins s σ H _ us Q I rv ⟨a, o, ps, (p.1.map Sum.inr).zip xs, rfl, ho, hod, pr, fun l hl => q _ _ ?_⟩
  have em := dprs_merge p.1 xs [] [] (fun _ k hk => by simp at hk) rfl
  simp only [List.map_nil, List.zip_nil_left] at em
  rw [em]
  refine Sta.step (t1 := [.brw (.ref a) 1 (.tup ds)]) (t2 := [.own (.ref l) 1 _]) st (same_upd hl) fun hot A1 nd sub dom hS qq => ?_
  refine ⟨[l], by simp, fun b hb => .inr (by simp at hb; subst hb; exact hl), fun hot' g1 g2 g3 g4 => .mk1 (.own ?_)⟩
  obtain ⟨a', ws', ea, ha', hs'⟩ := qq.brw1.tup_exF
  cases ea
  have ew := I.tuple_inj ha'.sq ha.sq
  obtain ⟨ps', xs', e', l1', l2', pr', rx⟩ := prs_apart hs' e
  have ep : ps' = ps := refs_inj (by rw [← e', ew])
  subst ep
  have ex := prs_uniq (fun b xs ys h1 h2 => I.tuple_inj h1 h2) l2' l2 pr' pr
  subst ex
  have lx : xs'.length = p.2.length := rx.length
  obtain ⟨k1', k2'⟩ := dprs_ok p.1 xs' [] [] (fun _ k hk => by simp at hk) rfl
  have ke := dprs_keys p.1 xs' p.2 [] ([] : List V) ([] : List D) lx
  have rx' := (rx.frame (H' := upd H l (dOb false (dprsK p.1 xs' [] []).1 (dprsK p.1 xs' [] []).2)) (X := []) (S' := S) (hot' := hot') (fun a _ o e => same_upd hl a o e) (fun _ z => (by simp at z)) (fun _ z => (by simp at z)) hS
    (fun b hb => (g1 b hb).imp id fun z => by simp at z; subst z; exact hl) (fun b hb => .inl hb)).zero
  have rd := Reps.dprs p.1 (ks := []) rx' (.nil 0)
  rw [← ke]
  exact .dicS (t := false) upd_same k1' k2' rd
theorem c_dprs {a : E} {z : Expr} {p q : Pos} (hc : cal = true) (hg : glB sc "dict" = true) (hp : plainX z = true) (ha : PE X z (tE C cf ca X.K EX W 1 a)) :
    PE X (.Call (.Name "dict" p) [z] [] q) (tE C cf ca X.K EX W 0 (.dprs a)) := by
  have m1 : X.mg "dict" = none := g.bl _ (by decide)
  have b1 : bootBuiltins "dict" = some (.type "dict") := by decide +kernel
  have s1 := star_cons (env := X.env) (xs := []) hp
  refine PEimp (pe_callTy (call_dprs (EX := EX) (g.calm hc)) (g.gl hg) m1 b1 (pa_cons ha pa_nil s1) (by decide) (by decide) s1 rfl) fun σ H Q z => ?_
  obtain ⟨H0, S, ts, r, st, z⟩ := z
  simp only [ev] at z
  refine ⟨H0, S, ts, r, st, z.bind.imp fun a1 k v H1 st1 => ?_⟩
  obtain ⟨r1, l1, d1⟩ := a1
  cases d1 <;> first | exact k.elim | skip
  rename_i ds
  obtain ⟨p, e1, k⟩ := (Post.bind k).of
  by_cases hh : p.1.length < 60 ∧ isPrs ds = true
  · rw [if_pos hh] at k
    exact ⟨H0, S, ts, σ, _, v, ds, p, rfl, st1, e1, hh.2, k⟩
  · rw [if_neg hh] at k
    exact k.elim
end
end Ly

set_option Elab.async false
set_option linter.all false
set_option maxRecDepth 100000
set_option maxHeartbeats 2000000
/-! The length of a dict of one's own. -/
namespace Ly
open PySem PySem.Spec PyProof.Rows L2
section
variable {K : PySem.W.Frag} {EX : Addr → Nat → Prop} {H0 H H' : Hp} {S : List Addr} {ts : List Tm} {σ : L2.St} {r : Env}
theorem Sta.dicAt {i k : Nat} {t : Bool} {ks : List (List L2.Key)} {ds : List D} (st : Sta K EX H0 S ts σ r H) (e : getv r i = some (k + 1, .dic t ks ds)) : ∃ a vs, σ[i]? = some (some (.ref a)) ∧ H a = some (dOb t ks vs) ∧ dOk t ks ∧ ks.length = vs.length := by
  obtain ⟨_, _, A, B, _, _, _, hS⟩ := st
  obtain ⟨o, x, _, A1, _, e1, e2, _, h1, _⟩ := hS.split i (getv_lt e)
  rw [getv_some e] at e2
  have e2' := Option.some.inj e2
  clear e2
  cases h1 with
  | non => cases e2'
  | exc h1 =>
    have z := congrArg Prod.snd (Option.some.inj e2')
    cases z
  | sm h1 =>
    cases e2'
    cases h1 with
    | dicS h ok hl hs => exact ⟨_, _, e1, h, ok, hl⟩
end
section
variable {C : Cfg} {cal : Bool} {N : List Str} {sc : Scope} {cf : Nat → List D → CR} {ca : Nat → Addr} {EX : Addr → Nat → Prop} {W : WX} {X : Cx} {K : PySem.W.Frag}
theorem call_lenDT : CallR X (.builtin "len") (fun xs H Q => ∃ (a : Addr) (t : Bool) (ks : List (List L2.Key)) (vs : List V), xs = [V.ref a] ∧ H a = some (dOb t ks vs) ∧ ks.length = vs.length ∧ Q (.int (ks.length : Nat)) H) := by
  intro pins s σ H vs us Q I rv h
  obtain ⟨a, t, ks, ws, rfl, ha, hl, q⟩ := h
  cases t with
  | true =>
    refine call_len_dT pins s σ H _ us Q I rv ⟨a, ks.zip ws, rfl, ha, ?_⟩
    rw [List.length_zip, ← hl, Nat.min_self]
    exact q
  | false =>
    refine call_lenD pins s σ H _ us Q I rv ⟨a, (ks.map k1).zip ws, rfl, ha, ?_⟩
    rw [List.length_zip, List.length_map, ← hl, Nat.min_self]
    exact q
section
variable (g : Good C cal N sc cf ca EX W X)
include g
theorem c_dlen {i : Nat} {y : Str} {p p1 q : Pos} (hg : glB sc "len" = true) (hy : mVar N sc i y = true) :
    PE X (.Call (.Name "len" p) [.Name y p1] [] q) (tE C cf ca X.K EX W 0 (.dlen i)) := by
  have m1 : X.mg "len" = none := g.bl _ (by decide)
  refine PEimp (pe_callB call_lenDT (g.gl hg) m1 PySem.boot_len (pa_cons (mVar_ok g hy p1) pa_nil)) fun σ H Q z => ?_
  obtain ⟨H0, S, ts, r, st, z⟩ := z
  simp only [ev] at z
  split at z
  · rename_i m t ks ds e0
    obtain ⟨a, vs, h1, h2, h3, h4⟩ := st.dicAt e0
    exact ⟨.ref a, h1, a, t, ks, vs, rfl, h2, h4, z _ _ (st.push0 fun _ => .int 0 _)⟩
  · exact z.elim
end
end
end Ly

set_option Elab.async false
set_option linter.all false
namespace Ly
open PySem PySem.Spec PyProof.Rows L2
section
variable {X : Cx}
/-- d.pop(k), the key there: a dict with keys that are tuples -/
def rPopT1 : V → List V → Hp → VK → Prop := fun x xs H Q => ∃ (a : Addr) (kvs : List (List L2.Key × V)) (k : List L2.Key) (b : Addr) (v : V), x = .ref a ∧ xs = [.ref b] ∧ H a = some (.dT kvs) ∧ H b = some (.tup (k.map kV)) ∧ valV kvs k = some v ∧ Q v (upd H a (.dT (dropK kvs k)))
theorem mt_popT1 (hu : X.A.units + 1 < cLine) : MtR X "dict.pop" rPopT1 := by
  intro pins s σ H x xs v us Q I rx rxs h
  obtain ⟨a, kvs, k, b, v0, rfl, rfl, ha, hb, ev, q1⟩ := h
  cases rx
  obtain ⟨u1, rfl, r1⟩ := vals1 rxs
  cases r1
  obtain ⟨z, hd, xs', rel, dd⟩ := dt_of I.hok ha
  have hz : xs'.length ≤ sizeLine := by rw [← Paired.length rel]; exact z
  have r := rel.val k
  rw [ev] at r
  obtain ⟨p, hp, rv⟩ : ∃ p, atKey xs' k = some p ∧ RelV v0 p.2 := by
    cases e : atKey xs' k with
    | none => rw [e] at r; exact (show False from r).elim
    | some p => rw [e] at r; exact ⟨p, rfl, r⟩
  refine call_pop_heap (knd := tupleKind (mixKind X.prog X.w)) (k := k) (more := []) (.inl rfl) (PySem.F.args_dict_pop_2 _ _) (tupleKind_room_in1 hu) (key_of I.hok hb) hd dd hp (fun h' dd' hs => ?_) hz
  obtain ⟨o, es, ep, hq, h2, h3, h4, _, h5⟩ := dd'
  have I2 : Inv X pins σ (upd H a (.dT (dropK kvs k))) { s with heap := h', toks := s.toks + (tupleKind (mixKind X.prog X.w)).draws k } :=
    d_write I (by rw [ha]; exact True.intro) hs ⟨o, hq⟩ ⟨Nat.le_trans (dropK_le kvs k) z, hd, _, (L2.DX.KT_drop k rel).keeps (fun c ys ec => (by rw [upd_ne (ne_of ec ha (fun z => nomatch z))]; exact ec)), o, es, ep, hq, h2, h3, h4, h5⟩
  show EP X pins σ Q p.2 _
  exact ⟨v0, _, I2, rv, q1⟩
end
end Ly

set_option Elab.async false
set_option linter.all false
set_option maxRecDepth 100000
set_option maxHeartbeats 2000000
/-! Dicts that are walked: locked for good, or for a while; reversed(xs). -/
namespace Ly
open PySem PySem.Spec PyProof.Rows L2
/-- a dict is locked for good -/
def tFrz (t : TE) : TE := fun σ H Q => t σ H fun x H1 => ∃ d u, x = .ref d ∧ H1 d = some u ∧ Mut (some u) ∧ ∀ od, Q (.ref d) (upd H1 d (.frz od u))
theorem pe_frz {X : Cx} {e : Expr} {t : TE} (h : PE X e t) : PE X e (tFrz t) := by
  refine ⟨fun pins s σ H Q I q => ?_⟩
  refine thn (h.run pins s σ H _ I q) fun v s1 ⟨x, H1, I1, r1, q1⟩ => ?_
  obtain ⟨d, u, rfl, hd, hm, q2⟩ := q1
  obtain ⟨od, I2⟩ := I1.lock hd hm
  exact ⟨_, _, I2, r1, q2 od⟩
theorem dOb_mut {t : Bool} {ks : List (List L2.Key)} {vs : List V} : Mut (some (dOb t ks vs)) := by cases t <;> trivial
section
variable {K : PySem.W.Frag} {EX : Addr → Nat → Prop} {H0 H H' : Hp} {S hot hot' : List Addr} {ts : List Tm} {σ : L2.St} {r : Env} {a : Addr} {od : Obj} {t : Bool} {ks : List (List L2.Key)} {vs : List V}
theorem rd_frz (h0 : H a = some (dOb t ks vs)) {b : Addr} {o : HO} (h : Rd H b o) : Rd (upd H a (.frz od (dOb t ks vs))) b o := by
  by_cases e : b = a
  · subst e
    rcases h with h | ⟨u, h⟩
    · rw [h0] at h
      cases h
      exact .inr ⟨od, upd_same⟩
    · rw [h0] at h
      exact absurd (Option.some.inj h) dOb_frz
  · rcases h with h | ⟨u, h⟩
    · exact .inl (by rw [upd_ne e]; exact h)
    · exact .inr ⟨u, by rw [upd_ne e]; exact h⟩
theorem sqt_frz (h0 : H a = some (dOb t ks vs)) {b : Addr} {ws : List V} (h : SqT K H b ws) : SqT K (upd H a (.frz od (dOb t ks vs))) b ws := by
  rcases h with h | h
  · exact .inl (rd_frz h0 h)
  · exact .inr h
theorem tupf_frz (h0 : H a = some (dOb t ks vs)) {b : Addr} {ws : List V} {es : List D} (h : TupF K H b ws es) : TupF K (upd H a (.frz od (dOb t ks vs))) b ws es := by
  refine ⟨?_, fun e => ?_⟩
  · rcases h.1 with h | ⟨h, g⟩
    · refine .inl ?_
      rw [upd_ne (fun z => by subst z; rw [h0] at h; exact dOb_tup (Option.some.inj h))]
      exact h
    · exact .inr ⟨sqt_frz h0 h, g⟩
  · obtain ⟨o, h1, h2⟩ := h.2 e
    refine ⟨o, ?_, h2⟩
    rw [upd_ne (fun z => by subst z; rw [h0] at h1; exact dOb_frz (Option.some.inj h1))]
    exact h1
theorem lstf_frz (h0 : H a = some (dOb t ks vs)) (c4 : ∀ b ∈ hot', b ∈ hot) {b : Addr} {ws : List V} (h : LstF K H hot b ws) : LstF K (upd H a (.frz od (dOb t ks vs))) hot' b ws := by
  rcases h with ⟨h, hn⟩ | h
  · exact .inl ⟨rd_frz h0 h, fun hm => hn (c4 b hm)⟩
  · exact .inr h
mutual
theorem RepT.frz (h0 : H a = some (dOb t ks vs)) (c4 : ∀ b ∈ hot', b ∈ hot) : ∀ {j : Nat} {v : V} {d : D}, RepT K H S hot j v d → RepT K (upd H a (.frz od (dOb t ks vs))) S hot' j v d
  | _, _, _, .non l => .non l
  | _, _, _, .bl l b => .bl l b
  | _, _, _, .int l i => .int l i
  | _, _, _, .str l s => .str l s
  | _, _, _, .tup h hs => .tup (tupf_frz h0 h) (RepTs.frz h0 c4 hs)
  | _, _, _, .lst0 h hs => .lst0 (lstf_frz h0 c4 h) (RepTs.frz h0 c4 hs)
  | _, _, _, .lstS h hs => .lstS (lstf_frz h0 (fun _ z => z) h) (RepTs.frz h0 c4 hs)
  | _, _, _, .dic0 h k e hs => .dic0 ⟨rd_frz h0 h.1, fun hm => h.2 (c4 _ hm)⟩ k e (RepTs.frz h0 c4 hs)
  | _, _, _, .dicS h k e hs => .dicS ⟨rd_frz h0 h.1, h.2⟩ k e (RepTs.frz h0 c4 hs)
theorem RepTs.frz (h0 : H a = some (dOb t ks vs)) (c4 : ∀ b ∈ hot', b ∈ hot) : ∀ {j : Nat} {ws : List V} {ds : List D}, RepTs K H S hot j ws ds → RepTs K (upd H a (.frz od (dOb t ks vs))) S hot' j ws ds
  | _, _, _, .nil l => .nil l
  | _, _, _, .cons h hs => .cons (RepT.frz h0 c4 h) (RepTs.frz h0 c4 hs)
end
theorem TmOk.toFrz {u : Tm} {A : List Addr} (F : Fr H (upd H a (.frz od (dOb t ks vs))) S S hot hot' [a]) (h0 : H a = some (dOb t ks vs)) (c4 : ∀ b ∈ hot', b ∈ hot) (h : TmOk K H S hot u A) (hn : ∀ b ∈ [a], b ∉ A) : TmOk K (upd H a (.frz od (dOb t ks vs))) S hot' u A := by
  cases u with
  | brw v j d =>
    cases h with
    | brw h => exact .brw (h.frz h0 c4)
  | brws v j d =>
    cases h with
    | brws h => exact .brws (h.frz h0 c4)
  | _ => exact h.frame F (.inr rfl) hn
theorem Tms.frz (F : Fr H (upd H a (.frz od (dOb t ks vs))) S S hot hot' [a]) (h0 : H a = some (dOb t ks vs)) (c4 : ∀ b ∈ hot', b ∈ hot) : ∀ {ts : List Tm} {A : List Addr}, Tms K H S hot ts A → (∀ b ∈ [a], b ∉ A) → Tms K (upd H a (.frz od (dOb t ks vs))) S hot' ts A
  | _, _, .nil, _ => .nil
  | _, _, .cons h hs, hn => .cons (TmOk.toFrz F h0 c4 h fun b hb z => hn b hb (List.mem_append_left _ z)) (Tms.frz F h0 c4 hs fun b hb z => hn b hb (List.mem_append_right _ z))
theorem getv_setO {i l : Nat} {d : D} (h : i < r.length) : getv (r.set i (some (l, d))) i = some (l, d) := by
  unfold getv
  rw [List.getElem?_set_self h]
theorem Sta.lowD {i l l' : Nat} {t : Bool} {ks : List (List L2.Key)} {ds : List D} (st : Sta K EX H0 S ts σ r H) (e : getv r i = some (l, .dic t ks ds)) (h : l' ≤ l) : Sta K EX H0 S ts σ (r.set i (some (l', .dic t ks ds))) H := by
  obtain ⟨o, x, e1, e2, f⟩ := st.slot i (getv_lt e)
  rw [getv_some e] at e2
  cases e2
  have q := f o (some (l', .dic t ks ds)) [] fun hot A hs nd ns => by
    generalize hd : D.dic t ks ds = d at hs
    generalize hx : some (l, d) = x at hs
    cases hs with
    | non => cases hx
    | exc _ => cases hx; cases hd
    | sm hr =>
      cases hx
      obtain ⟨B', s, g⟩ := hr.low h nd
      exact ⟨[], B', s, fun hot' h1 h2 h4 => ⟨.nil, .sm (hd ▸ g hot' h1 h2)⟩⟩
  rw [set_same e1] at q
  exact q
end
section
variable {K : PySem.W.Frag} {EX : Addr → Nat → Prop} {H0 H H' : Hp} {S : List Addr} {ts : List Tm} {σ : L2.St} {r : Env}
theorem Sta.freeze {i k : Nat} {t : Bool} {ks : List (List L2.Key)} {ds : List D} (st : Sta K EX H0 S ts σ r H) (e0 : getv r i = some (k + 1, .dic t ks ds)) : ∃ a vs, σ[i]? = some (some (.ref a)) ∧ H a = some (dOb t ks vs) ∧ dOk t ks ∧ ks.length = vs.length ∧
    ∀ od, Sta K EX H0 S (.frz a od (dOb t ks vs) :: ts) σ (r.set i (some (0, .dic t ks ds))) (upd H a (.frz od (dOb t ks vs))) := by
  have st' := Sta.lowD st e0 (l' := 1) (by omega)
  have e := getv_setO (l := 1) (d := .dic t ks ds) (getv_lt e0)
  obtain ⟨ex, sd, A2, B, nd, new, hT, hS⟩ := st'
  obtain ⟨o, x, B1, C, B2, e1, e2, rfl, h3, f⟩ := hS.split i (getv_lt e)
  rw [getv_some e] at e2
  have e2' := Option.some.inj e2
  clear e2
  cases h3 with
  | non => cases e2'
  | exc h3 =>
    have z := congrArg Prod.snd (Option.some.inj e2')
    cases z
  | sm h3 =>
    cases e2'
    cases h3 with
    | dicS h ok hl hs =>
      rename_i a vs A0
      have eA := hs.zero
      subst eA
      refine ⟨a, vs, e1, h, ok, hl, fun od => ?_⟩
      have perm2 : (A2 ++ (B1 ++ ([a] ++ B2))).Perm (a :: (A2 ++ (B1 ++ B2))) := by
        rw [List.perm_iff_count]
        intro b
        simp only [List.count_append, List.count_cons, List.count_nil]
        omega
      obtain ⟨na, nd3⟩ := List.nodup_cons.mp (perm2.nodup_iff.mp nd)
      have sub : ∀ b, b ∈ A2 ++ (B1 ++ B2) → b ∈ A2 ++ (B1 ++ ([a] ++ B2)) := fun b hb => perm2.mem_iff.mpr (List.mem_cons_of_mem _ hb)
      have ina : a ∈ A2 ++ (B1 ++ ([a] ++ B2)) := perm2.mem_iff.mpr List.mem_cons_self
      have aS : a ∉ S := (new a ina).2
      have F : Fr H (upd H a (.frz od (dOb t ks vs))) S S (S ++ (A2 ++ (B1 ++ ([a] ++ B2)))) (S ++ (A2 ++ (B1 ++ B2))) [a] := ⟨fun b hb o e => by rw [upd_ne (by simpa using hb)]; exact e, fun b hb => by
        obtain rfl : b = a := by simpa using hb
        exact .inr ⟨t, ks, vs, .inl h⟩, fun b hb => by
        obtain rfl : b = a := by simpa using hb
        exact List.mem_append_right _ ina, fun b hb => by
        rcases List.mem_append.mp hb with z | z
        · exact .inl (List.mem_append_left _ z)
        · exact .inl (List.mem_append_right _ (sub b z)), fun b hb => List.mem_append_left _ hb, fun b hb => .inl hb⟩
      have nA : ∀ l : List Addr, (∀ b ∈ l, b ∈ A2 ++ (B1 ++ B2)) → ∀ b ∈ [a], b ∉ l := fun l hl b hb hm => by
        obtain rfl : b = a := by simpa using hb
        exact na (hl b hm)
      have nhot : a ∉ S ++ (A2 ++ (B1 ++ B2)) := fun hm => by
        rcases List.mem_append.mp hm with z | z
        · exact aS z
        · exact na z
      refine ⟨fun b u e' => ?_, fun b hb => ?_, A2, B1 ++ B2, nd3, fun b hb => new b (sub b hb), Tms.cons (A := []) (.frz upd_same nhot) (hT.frz F h (fun b hb => by
        rcases List.mem_append.mp hb with z | z
        · exact List.mem_append_left _ z
        · exact List.mem_append_right _ (sub b z)) (nA _ fun b hb => List.mem_append_left _ hb)), ?_⟩
      · rw [upd_ne (fun z => by subst z; rw [(new b ina).1] at e'; cases e')]
        exact ex b u e'
      · by_cases z : b = a
        · subst z; rw [upd_same]; exact fun z => nomatch z
        · rw [upd_ne z]; exact sd b hb
      · have q := f (upd H a (.frz od (dOb t ks vs))) S S (S ++ (A2 ++ (B1 ++ B2))) [a] (some (.ref a)) (some (0, .dic t ks ds)) [] F (fun b hb => ⟨nA _ (fun b hb => List.mem_append_right _ (List.mem_append_left _ hb)) b hb, nA _ (fun b hb => List.mem_append_right _ (List.mem_append_right _ hb)) b hb⟩)
          (.sm (.dic0 ⟨.inr ⟨od, upd_same⟩, nhot⟩ ok hl (hs.frame F.c1 F.c2 F.hX F.c4 (nA _ (by simp)))))
        rw [set_same e1, List.set_set] at q
        exact q
theorem Sta.peekF {a : Addr} {o : Obj} {u : HO} (st : Sta K EX H0 S (.frz a o u :: ts) σ r H) : H a = some (.frz o u) := by
  obtain ⟨_, _, A, B, _, _, hT, _⟩ := st
  cases hT with
  | cons h _ =>
    cases h with
    | frz h _ => exact h
end
theorem kd_rep {K : PySem.W.Frag} {H : Hp} {hot : List Addr} (x : L2.Key) : Rep K H hot 0 (kV x) (kD x) [] := by
  cases x with
  | inl i => exact .int 0 i
  | inr s => exact .str 0 s
theorem kds_rep {K : PySem.W.Frag} {H : Hp} {hot : List Addr} : ∀ k : List L2.Key, Reps K H hot 0 (k.map kV) (k.map kD) []
  | [] => .nil 0
  | x :: k => Reps.cons (A := []) (kd_rep x) (kds_rep k)
theorem kd_prs (k : List L2.Key) : isPrs (k.map kD) = false := by
  cases k with
  | nil => rfl
  | cons x k => cases x <;> rfl
theorem src_keys {K : PySem.W.Frag} {EX : Addr → Nat → Prop} {d : Addr} {o : Obj} {ks : List (List L2.Key)} {vs : List V} (ok : dOk false ks) (hl : ks.length = vs.length) : Src K EX (Itk d o ((ks.map k1).zip vs)) (ks.map (keyDt false)) [.frz d o (dOb false ks vs)] false where
  mine := fun _ => by simp [Tm.mine]
  turn := fun i H0 S ts σ r H st => by
    have hd := Sta.peekF st
    have hz : ((ks.map k1).zip vs).length = ks.length := by rw [List.length_zip, List.length_map, ← hl, Nat.min_self]
    refine ⟨fun e => ⟨hd, by rw [hz, e, List.length_map]; exact Nat.le_refl _⟩, fun x e => ?_⟩
    rw [List.getElem?_map] at e
    cases hk : ks[i]? with
    | none => rw [hk] at e; cases e
    | some k =>
      rw [hk] at e
      cases e
      have hi := (List.getElem?_eq_some_iff.mp hk).1
      refine ⟨⟨hd, by rw [hz]; exact hi⟩, fun y H' z => ?_⟩
      obtain ⟨rfl, k', v, e2, rfl⟩ := z
      have e3 := List.getElem?_zip_eq_some.mp e2
      rw [List.getElem?_map, hk] at e3
      cases e3.1
      obtain ⟨x, rfl⟩ := ok rfl k (List.mem_of_getElem? hk)
      exact Sta.push0 st fun _ => kd_rep x
theorem src_keysT {K : PySem.W.Frag} {EX : Addr → Nat → Prop} {d : Addr} {o : Obj} {ks : List (List L2.Key)} {vs : List V} (hl : ks.length = vs.length) : Src K EX (Itkt d o (ks.zip vs)) (ks.map (keyDt true)) [.frz d o (dOb true ks vs)] false where
  mine := fun _ => by simp [Tm.mine]
  turn := fun i H0 S ts σ r H st => by
    have hd := Sta.peekF st
    have hz : (ks.zip vs).length = ks.length := by rw [List.length_zip, ← hl, Nat.min_self]
    refine ⟨fun e => ⟨hd, by rw [hz, e, List.length_map]; exact Nat.le_refl _⟩, fun x e => ?_⟩
    rw [List.getElem?_map] at e
    cases hk : ks[i]? with
    | none => rw [hk] at e; cases e
    | some k =>
      rw [hk] at e
      cases e
      have hi := (List.getElem?_eq_some_iff.mp hk).1
      refine ⟨⟨hd, by rw [hz]; exact hi⟩, fun y H' z => ?_⟩
      obtain ⟨rfl, k', v, q, e2, rfl, hq⟩ := z
      have e3 := List.getElem?_zip_eq_some.mp e2
      rw [hk] at e3
      cases e3.1
      exact Sta.push0 st fun _ => .tup ⟨.inl hq, fun z => by rw [kd_prs] at z; cases z⟩ (kds_rep _)
section
variable {K : PySem.W.Frag} {EX EX' : Addr → Nat → Prop} {H0 H H' : Hp} {S : List Addr} {ts : List Tm} {σ : L2.St} {r : Env}
theorem Slots.noX {hot : List Addr} : ∀ {σ : L2.St} {r : Env} {A : List Addr}, Slots K EX H hot σ r A → Ly.noX r = true → Slots K EX' H hot σ r A
  | _, _, _, .nil, _ => .nil
  | _, _, _, .cons h hs, e => by
    cases h with
    | non => exact .cons .non (Slots.noX hs (by simpa [Ly.noX] using e))
    | exc h =>
      simp [Ly.noX] at e
      omega
    | sm h =>
      simp only [Ly.noX, Bool.and_eq_true] at e
      exact .cons (.sm h) (Slots.noX hs e.2)
theorem Sta.noX (st : Sta K EX H0 S ts σ r H) (h : Ly.noX r = true) : Sta K EX' H0 S ts σ r H := by
  obtain ⟨ex, sd, A, B, nd, new, hT, hS⟩ := st
  exact ⟨ex, sd, A, B, nd, new, hT, hS.noX h⟩
theorem Slots.mono {hot : List Addr} (f : ∀ a c, EX a c → EX' a c) : ∀ {σ : L2.St} {r : Env} {A : List Addr}, Slots K EX H hot σ r A → Slots K EX' H hot σ r A
  | _, _, _, .nil => .nil
  | _, _, _, .cons h hs => by
    cases h with
    | non => exact .cons .non (Slots.mono f hs)
    | exc h => exact .cons (.exc (f _ _ h)) (Slots.mono f hs)
    | sm h => exact .cons (.sm h) (Slots.mono f hs)
theorem Sta.mono (st : Sta K EX H0 S ts σ r H) (f : ∀ a c, EX a c → EX' a c) : Sta K EX' H0 S ts σ r H := by
  obtain ⟨ex, sd, A, B, nd, new, hT, hS⟩ := st
  exact ⟨ex, sd, A, B, nd, new, hT, hS.mono f⟩
theorem noX_put {d : D} : ∀ {r : Env} {i : Nat}, noX (r.set i none) = true → noX (r.set i (some (1, d))) = true
  | [], _, h => h
  | _ :: r, 0, h => by
    rw [List.set_cons_zero] at h ⊢
    simp only [Ly.noX, Bool.and_eq_true] at h ⊢
    exact ⟨by decide, h⟩
  | none :: r, i + 1, h => by
    rw [List.set_cons_succ] at h ⊢
    simp only [Ly.noX] at h ⊢
    exact noX_put h
  | some (l, x) :: r, i + 1, h => by
    rw [List.set_cons_succ] at h ⊢
    simp only [Ly.noX, Bool.and_eq_true] at h ⊢
    exact ⟨h.1, noX_put h.2⟩
/-- a dict's slot -/
theorem Sta.dicOwn {i k : Nat} {t : Bool} {ks : List (List L2.Key)} {ds : List D} (st : Sta K EX H0 S ts σ r H) (e : getv r i = some (k + 1, .dic t ks ds)) : ∃ a vs, σ[i]? = some (some (.ref a)) ∧ H a = some (dOb t ks vs) ∧ dOk t ks ∧ ks.length = vs.length := by
  obtain ⟨a, vs, h1, h2, h3, h4, _⟩ := st.freeze e
  exact ⟨a, vs, h1, h2, h3, h4⟩
theorem Sta.freezeU {i : Nat} {t : Bool} {ks : List (List L2.Key)} {ds : List D} {a : Addr} (st : Sta K EX H0 S ts σ r H) (e : getv r i = some (1, .dic t ks ds)) (ea : σ[i]? = some (some (.ref a))) (hx : EX a 999) : ∃ vs, H a = some (dOb t ks vs) ∧ dOk t ks ∧ ks.length = vs.length ∧
    ∀ od, Sta K EX H0 S (.lck a od t ks vs ds :: ts) σ (r.set i (some (1099, .exn))) (upd H a (.frz od (dOb t ks vs))) := by
  obtain ⟨ex, sd, A2, B, nd, new, hT, hS⟩ := st
  obtain ⟨o, x, B1, C, B2, e1, e2, rfl, h3, f⟩ := hS.split i (getv_lt e)
  rw [getv_some e] at e2
  have e2' := Option.some.inj e2
  clear e2
  cases h3 with
  | non => cases e2'
  | exc h3 =>
    have z := congrArg Prod.snd (Option.some.inj e2')
    cases z
  | sm h3 =>
    cases e2'
    cases h3 with
    | dicS h ok hl hs =>
      rename_i a' vs A0
      have eA := hs.zero
      subst eA
      rw [ea] at e1
      cases e1
      refine ⟨vs, h, ok, hl, fun od => ?_⟩
      have perm2 : (A2 ++ (B1 ++ ([a] ++ B2))).Perm ([a] ++ A2 ++ (B1 ++ ([] ++ B2))) := by
        rw [List.perm_iff_count]
        intro b
        simp only [List.count_append, List.count_cons, List.count_nil]
        omega
      have nd2 := perm2.nodup_iff.mp nd
      have na : a ∉ A2 ++ (B1 ++ B2) := fun hm => by
        rw [List.append_assoc] at nd2
        exact (List.nodup_cons.mp nd2).1 (by simpa using hm)
      have mm : ∀ b, b ∈ S ++ ([a] ++ A2 ++ (B1 ++ ([] ++ B2))) → b ∈ S ++ (A2 ++ (B1 ++ ([a] ++ B2))) := fun b hb => by
        rcases List.mem_append.mp hb with z | z
        · exact List.mem_append_left _ z
        · exact List.mem_append_right _ (perm2.mem_iff.mpr z)
      have ina : a ∈ A2 ++ (B1 ++ ([a] ++ B2)) := by simp
      have F : Fr H (upd H a (.frz od (dOb t ks vs))) S S (S ++ (A2 ++ (B1 ++ ([a] ++ B2)))) (S ++ ([a] ++ A2 ++ (B1 ++ ([] ++ B2)))) [a] := ⟨fun b hb o e => by rw [upd_ne (by simpa using hb)]; exact e, fun b hb => by
        obtain rfl : b = a := by simpa using hb
        exact .inr ⟨t, ks, vs, .inl h⟩, fun b hb => by
        obtain rfl : b = a := by simpa using hb
        exact List.mem_append_right _ ina, fun b hb => .inl (mm b hb), fun b hb => List.mem_append_left _ hb, fun b hb => .inl hb⟩
      have nA : ∀ l : List Addr, (∀ b ∈ l, b ∈ A2 ++ (B1 ++ B2)) → ∀ b ∈ [a], b ∉ l := fun l hl b hb hm => by
        obtain rfl : b = a := by simpa using hb
        exact na (hl b hm)
      refine ⟨fun b u e' => ?_, fun b hb => ?_, [a] ++ A2, B1 ++ ([] ++ B2), nd2, fun b hb => new b (perm2.mem_iff.mpr hb), Tms.cons (A := [a]) (.lck upd_same ok hl (hs.frame F.c1 F.c2 F.hX F.c4 (by simp))) (hT.frz F h mm (nA _ fun b hb => List.mem_append_left _ hb)), ?_⟩
      · rw [upd_ne (fun z => by subst z; rw [(new b ina).1] at e'; cases e')]
        exact ex b u e'
      · by_cases z : b = a
        · subst z; rw [upd_same]; exact fun z => nomatch z
        · rw [upd_ne z]; exact sd b hb
      · have q := f (upd H a (.frz od (dOb t ks vs))) S S (S ++ ([a] ++ A2 ++ (B1 ++ ([] ++ B2)))) [a] (some (.ref a)) (some (100 + 999, .exn)) [] F (fun b hb => ⟨nA _ (fun b hb => List.mem_append_right _ (List.mem_append_left _ hb)) b hb, nA _ (fun b hb => List.mem_append_right _ (List.mem_append_right _ hb)) b hb⟩) (.exc hx)
        rw [set_same ea] at q
        exact q
theorem Sta.unfreeze {i : Nat} {t : Bool} {ks : List (List L2.Key)} {vs : List V} {ds : List D} {a : Addr} {od : Obj} (st : Sta K EX H0 S (.lck a od t ks vs ds :: ts) σ r H) (mine : ∀ t ∈ ts, t.mine = true) (e : getv r i = some (1099, .exn)) (hx : ∀ b, EX b 999 → b = a) (nx : Ly.noX (r.set i none) = true) :
    H a = some (.frz od (dOb t ks vs)) ∧ Sta K EX' H0 S ts σ (r.set i (some (1, .dic t ks ds))) (upd H a (dOb t ks vs)) := by
  obtain ⟨ex, sd, A, B, nd, new, hT, hS⟩ := st
  obtain ⟨o, x, B1, C, B2, e1, e2, rfl, h3, f⟩ := hS.split i (getv_lt e)
  rw [getv_some e] at e2
  have e2' := Option.some.inj e2
  clear e2
  cases hT with
  | cons hl hT =>
    cases hl with
    | lck h ok hl hs =>
      refine ⟨h, ?_⟩
      rename_i A2
      cases h3 with
      | non => cases e2'
      | sm h3 =>
        have z := Option.some.inj e2'
        cases z
        cases h3
      | exc h3 =>
        rename_i b c
        have z := congrArg Prod.fst (Option.some.inj e2')
        have z : 1099 = 100 + c := z
        have ec : c = 999 := by omega
        subst ec
        have eb := hx b h3
        subst eb
        have perm2 : ([b] ++ A2 ++ (B1 ++ ([] ++ B2))).Perm (A2 ++ (B1 ++ ([b] ++ B2))) := by
          rw [List.perm_iff_count]
          intro c
          simp only [List.count_append, List.count_cons, List.count_nil]
          omega
        have nd2 := perm2.nodup_iff.mp nd
        have na : b ∉ A2 ++ (B1 ++ B2) := fun hm => by
          rw [List.append_assoc] at nd
          exact (List.nodup_cons.mp nd).1 (by simpa using hm)
        have mm : ∀ c, c ∈ S ++ (A2 ++ (B1 ++ ([b] ++ B2))) → c ∈ S ++ ([b] ++ A2 ++ (B1 ++ ([] ++ B2))) := fun c hc => by
          rcases List.mem_append.mp hc with z | z
          · exact List.mem_append_left _ z
          · exact List.mem_append_right _ (perm2.mem_iff.mpr z)
        have ina : b ∈ [b] ++ A2 ++ (B1 ++ ([] ++ B2)) := by simp
        have F : Fr H (upd H b (dOb t ks vs)) S S (S ++ ([b] ++ A2 ++ (B1 ++ ([] ++ B2)))) (S ++ (A2 ++ (B1 ++ ([b] ++ B2)))) [b] := ⟨fun c hb o e => by rw [upd_ne (by simpa using hb)]; exact e, fun c hc => by
          obtain rfl : c = b := by simpa using hc
          exact .inr ⟨t, ks, vs, .inr ⟨od, h⟩⟩, fun c hc => by
          obtain rfl : c = b := by simpa using hc
          exact List.mem_append_right _ ina, fun c hc => .inl (mm c hc), fun c hc => List.mem_append_left _ hc, fun c hc => .inl hc⟩
        have nA : ∀ l : List Addr, (∀ c ∈ l, c ∈ A2 ++ (B1 ++ B2)) → ∀ c ∈ [b], c ∉ l := fun l hl c hc hm => by
          obtain rfl : c = b := by simpa using hc
          exact na (hl c hm)
        refine ⟨fun c u e' => ?_, fun c hc => ?_, A2, B1 ++ ([b] ++ B2), nd2, fun c hc => new c (perm2.mem_iff.mpr hc), hT.frame F (.inr mine) (nA _ fun c hc => List.mem_append_left _ hc), ?_⟩
        · rw [upd_ne (fun z => by subst z; rw [(new c ina).1] at e'; cases e')]
          exact ex c u e'
        · by_cases z : c = b
          · subst z; rw [upd_same]; exact fun z => nomatch z
          · rw [upd_ne z]; exact sd c hc
        · have q := f (upd H b (dOb t ks vs)) S S (S ++ (A2 ++ (B1 ++ ([b] ++ B2)))) [b] (some (.ref b)) (some (1, .dic t ks ds)) [b] F (fun c hc => ⟨nA _ (fun c hc => List.mem_append_right _ (List.mem_append_left _ hc)) c hc, nA _ (fun c hc => List.mem_append_right _ (List.mem_append_right _ hc)) c hc⟩)
            (.sm (.dicS upd_same ok hl (hs.frame F.c1 F.c2 F.hX F.c4 (by simp))))
          rw [set_same e1] at q
          exact q.noX (noX_put nx)
theorem Sta.peekK {a : Addr} {o : Obj} {t : Bool} {ks : List (List L2.Key)} {vs : List V} {ds : List D} (st : Sta K EX H0 S (.lck a o t ks vs ds :: ts) σ r H) : H a = some (.frz o (dOb t ks vs)) := by
  obtain ⟨_, _, A, B, _, _, hT, _⟩ := st
  cases hT with
  | cons h _ =>
    cases h with
    | lck h _ _ _ => exact h
theorem src_lckK {d : Addr} {o : Obj} {ks : List (List L2.Key)} {vs : List V} {ds : List D} (ok : dOk false ks) (hl : ks.length = vs.length) : Src K EX (Itk d o ((ks.map k1).zip vs)) (ks.map (keyDt false)) [.lck d o false ks vs ds] false where
  mine := fun _ => by simp [Tm.mine]
  turn := fun i H0 S ts σ r H st => by
    have hd := Sta.peekK st
    have hz : ((ks.map k1).zip vs).length = ks.length := by rw [List.length_zip, List.length_map, ← hl, Nat.min_self]
    refine ⟨fun e => ⟨hd, by rw [hz, e, List.length_map]; exact Nat.le_refl _⟩, fun x e => ?_⟩
    rw [List.getElem?_map] at e
    cases hk : ks[i]? with
    | none => rw [hk] at e; cases e
    | some k =>
      rw [hk] at e
      cases e
      have hi := (List.getElem?_eq_some_iff.mp hk).1
      refine ⟨⟨hd, by rw [hz]; exact hi⟩, fun y H' z => ?_⟩
      obtain ⟨rfl, k', v, e2, rfl⟩ := z
      have e3 := List.getElem?_zip_eq_some.mp e2
      rw [List.getElem?_map, hk] at e3
      cases e3.1
      obtain ⟨x, rfl⟩ := ok rfl k (List.mem_of_getElem? hk)
      exact Sta.push0 st fun _ => kd_rep x
theorem src_lckT {d : Addr} {o : Obj} {ks : List (List L2.Key)} {vs : List V} {ds : List D} (hl : ks.length = vs.length) : Src K EX (Itkt d o (ks.zip vs)) (ks.map (keyDt true)) [.lck d o true ks vs ds] false where
  mine := fun _ => by simp [Tm.mine]
  turn := fun i H0 S ts σ r H st => by
    have hd := Sta.peekK st
    have hz : (ks.zip vs).length = ks.length := by rw [List.length_zip, ← hl, Nat.min_self]
    refine ⟨fun e => ⟨hd, by rw [hz, e, List.length_map]; exact Nat.le_refl _⟩, fun x e => ?_⟩
    rw [List.getElem?_map] at e
    cases hk : ks[i]? with
    | none => rw [hk] at e; cases e
    | some k =>
      rw [hk] at e
      cases e
      have hi := (List.getElem?_eq_some_iff.mp hk).1
      refine ⟨⟨hd, by rw [hz]; exact hi⟩, fun y H' z => ?_⟩
      obtain ⟨rfl, k', v, q, e2, rfl, hq⟩ := z
      have e3 := List.getElem?_zip_eq_some.mp e2
      rw [hk] at e3
      cases e3.1
      exact Sta.push0 st fun _ => .tup ⟨.inl hq, fun z => by rw [kd_prs] at z; cases z⟩ (kds_rep _)
end
section
variable {C : Cfg} {cal : Bool} {N : List Str} {sc : Scope} {cf : Nat → List D → CR} {ca : Nat → Addr} {EX : Addr → Nat → Prop} {W : WX} {X : Cx} {K : PySem.W.Frag}
variable (g : Good C cal N sc cf ca EX W X)
include g
theorem i_keys {i : Nat} {y : Str} {tg : Expr} {p1 : Pos} (hy : mVar N sc i y = true) : PI X tg (.Name y p1) (tSr C cf ca X.K EX W (.keys i)) := by
  refine PIimp (pi_keys (pe_frz (mVar_ok g hy p1))) fun σ H R z => ?_
  obtain ⟨H0, S, ts, r, st, z⟩ := z
  simp only [evSr] at z
  cases e0 : getv r i with
  | none => rw [e0] at z; exact z.elim
  | some x =>
    obtain ⟨l, d⟩ := x
    rw [e0] at z
    cases l with
    | zero => exact z.elim
    | succ m =>
      cases d <;> first | exact z.elim | skip
      rename_i tt ks ds
      obtain ⟨a, vs, h1, h2, ok, hl, f⟩ := st.freeze e0
      refine ⟨.ref a, h1, a, dOb tt ks vs, rfl, h2, dOb_mut, fun od => ⟨a, od, rfl, ?_⟩⟩
      have z' : ∀ J tt' H1, Src X.K EX J (ks.map (keyDt tt)) tt' false → Sta X.K EX H0 S (tt' ++ ts) σ (r.set i (some (0, .dic tt ks ds))) H1 → R J H1 := z
      cases tt with
      | false => exact .inl ⟨_, upd_same, z' _ _ _ (src_keys ok hl) (f od)⟩
      | true => exact .inr ⟨_, upd_same, z' _ _ _ (src_keysT hl) (f od)⟩
omit g in
theorem src_rev {a : Addr} {ds : List D} {n : Nat} {bw : Bool} (hn : n = ds.length) : Src K EX (Itv K a n) ds.reverse [.own (.ref a) 0 (.lst ds)] bw where
  mine := fun _ => by simp [Tm.mine]
  turn := fun i H0 S ts σ r H st => by
    subst hn
    obtain ⟨hot, A, rp⟩ := Sta.peekOwn st
    obtain ⟨_, vs, e1, h1, h2⟩ := rp.lst_ex
    cases e1
    refine ⟨fun e => by rw [e, List.length_reverse]; exact Nat.le_refl _, fun d e => ?_⟩
    have hi : i < ds.length := by
      have := (List.getElem?_eq_some_iff.mp e).1
      rwa [List.length_reverse] at this
    rw [List.getElem?_reverse hi] at e
    obtain ⟨v, e2, _⟩ := h2.get e
    refine ⟨⟨hi, vs, v, h1, e2⟩, fun x H' y => ?_⟩
    obtain ⟨rfl, y⟩ := y
    refine Sta.item (tt := [_]) st fun hot A q => ?_
    obtain ⟨_, ws, e3, k1, k2⟩ := q.own1.lst_ex
    cases e3
    obtain ⟨u, e4, k3⟩ := k2.get e
    rw [y ws k1] at e4
    cases e4
    exact k3
theorem i_revS {a : E} {x tg : Expr} {p q : Pos} (hg : glB sc "reversed" = true) (hx : plainX x = true) (h : PE X x (tE C cf ca X.K EX W 0 a)) : PI X tg (.Call (.Name "reversed" p) [x] [] q) (tSr C cf ca X.K EX W (.revS a)) := by
  have hn : X.mg "reversed" = none := g.bl _ (by decide)
  have s1 := star_cons (env := X.env) (xs := []) hx
  refine PIimp (pi_reversed (g.gl hg) hn (pa_cons h pa_nil s1) s1) fun σ H R z => ?_
  obtain ⟨H0, S, ts, r, st, z⟩ := z
  simp only [evSr] at z
  refine ⟨H0, S, ts, r, st, z.bind.imp fun a1 k v H1 st1 => ?_⟩
  obtain ⟨r1, l1, d1⟩ := a1
  have st2 := Sta.lowT st1 (Nat.zero_le l1)
  obtain ⟨hot, A, rp⟩ := Sta.peekOwn st2
  cases d1 <;> first | exact k.elim | skip
  rename_i ds
  obtain ⟨b, vs, rfl, h1, h2⟩ := rp.lst_ex
  have k' : ∀ J tt' H1, Src X.K EX J ds.reverse tt' false → Sta X.K EX H0 S (tt' ++ ts) σ r1 H1 → R J H1 := k
  exact ⟨b, vs, rfl, h1, k' _ _ _ (src_rev (by rw [h2.length])) st2⟩
end
end Ly

set_option Elab.async false
set_option linter.all false
set_option maxRecDepth 100000
set_option maxHeartbeats 2000000
/-! list(d). -/
namespace Ly
open PySem PySem.Spec PyProof.Rows L2
section
variable {prog : Program} {w : World} {A : Around} {E : Value → Shared → Prop} {s : Shared} {d : Addr} {es : Array DictEntry} {ep : Nat}
theorem walks_raw (hh : A.handled = none) (I d : Addr) (hne : d ≠ I) (es : Array DictEntry) (ep : Nat) :
    Walks prog w A I [I, d] [I] es.size (fun i v => ∃ en, es[i]? = some en ∧ v = en.key) (fun i h => h.IsKeyIter I d i es.size ep ∧ DT.Raw h d es ep) where
  sub := fun b hb => by simp at hb; simp [hb]
  frame := fun _ _ _ st hk => ⟨st.1.at fun o e => hk I (by simp) o e, st.2.at' fun o e => hk d (by simp) o e⟩
  item := fun i s Q E hi st hQ => by
    obtain ⟨o, ho, hx, hdt⟩ := st.2
    refine next_key_item st.1 ho hdt rfl (Array.getElem?_eq_getElem hi) fun h' hit' hs' => ?_
    exact hQ _ h' s.toks ⟨_, Array.getElem?_eq_getElem hi, rfl⟩ ⟨hit', st.2.at' fun o e => hs'.extBut d o hne e⟩ fun b o hb e => hs'.extBut b o (fun h => hb (by simp [h])) e
  done := fun s Q E st hQ => by
    obtain ⟨o, ho, hx, hdt⟩ := st.2
    exact next_key_end hh st.1 ho hdt rfl (Nat.le_refl _) fun h' he' => hQ h' s.toks fun b o hb e => he' b o (fun h => hb (by simp [h])) e
  self := fun _ _ _ _ st hQ => wpAny_pyIter_keyiter st.1 hQ
theorem kdl_raw (lo : (d == sysModules) = false) : PySem.W.KdlSrc prog w "dict" d d es.size (fun i v => ∃ en, es[i]? = some en ∧ v = en.key) (fun h => DT.Raw h d es ep) where
  type := fun _ hm => hm.typeIs
  there := fun _ hm => ⟨hm.lt, hm.lt⟩
  keep := fun _ _ hm hk => hm.at' fun o e => hk d (.inl rfl) o e
  notList := by decide
  notTuple := by decide
  hint := fun _ _ _ _ hm hq => PySem.W.kdl_hint_dict hm.typeIs hq
  iter := fun A s hh hm => ⟨_, _, (fun _ _ hq => by
    obtain ⟨o, ho, hx, hdt⟩ := hm
    exact iter_keys lo ho hx hdt hq), walks_raw hh _ d (Nat.ne_of_lt hm.lt) es ep, ⟨⟨_, Heap.get?_push_size _ rfl, rfl, rfl⟩, hm.push _⟩⟩
end
def refV : Value → V
  | .ref a => .ref a
  | _ => .non
theorem refs_vals : ∀ us : List Value, (∀ u ∈ us, ∃ q, u = .ref q) → Vals (us.map refV) us
  | [], _ => .nil
  | u :: us, h => by
    obtain ⟨q, rfl⟩ := h u List.mem_cons_self
    exact .cons rfl (refs_vals us fun v hv => h v (List.mem_cons_of_mem _ hv))
section
variable {X : Cx}
/-- list(d) -/
def rListA : List V → Hp → VK → Prop := fun xs H Q => (∃ (a : Addr) (kvs : List (L2.Key × V)), xs = [.ref a] ∧ Rd H a (.dK kvs) ∧ ∀ p, H p = none → Q (.ref p) (upd H p (.lst (kvs.map fun kv => kV kv.1)))) ∨
  ∃ (a : Addr) (kvs : List (List L2.Key × V)), xs = [.ref a] ∧ Rd H a (.dT kvs) ∧ ∀ (p : Addr) (ws : List V), H p = none → ws.length = kvs.length → (∀ (i : Nat) (kv : List L2.Key × V), kvs[i]? = some kv → ∃ b, ws[i]? = some (.ref b) ∧ H b = some (.tup (kv.1.map kV))) → Q (.ref p) (upd H p (.lst ws))
theorem cr_listA (hc : X.calm = true) : CallR X (.type "list") rListA := by
  intro pins s σ H xs us Q I r q
  rcases q with q | ⟨a, kvs, rfl, hd, q⟩
  · exact call_listD hc pins s σ H xs us Q I r q
  obtain ⟨u, rfl, rx⟩ := vals1 r
  cases rx
  obtain ⟨z, lo, zs, rel, o, es, ep, ho, hx, hdt, he, _⟩ := dt_rd I.hok hd
  have l1 : es.size = zs.length := size_of_entries he
  have l2 : kvs.length = zs.length := Paired.length rel
  refine PySem.W.kdl_call (kdl_raw (es := es) (ep := ep) lo) (I.ok.hd hc) ⟨o, ho, hx, hdt⟩ (by rw [l1, ← l2]; exact z) fun h' tk acc c' hk hD hacc => ?_
  have hent : ∀ (i : Nat) (v : Value), acc.toList[i]? = some v → ∃ kv b, kvs[i]? = some kv ∧ v = .ref b ∧ H b = some (.tup (kv.1.map kV)) := fun i v e => by
    obtain ⟨en, h1, rfl⟩ := hacc.2 i v (by rw [← e, Array.getElem?_toList])
    have hi : i < kvs.length := by
      have := (Array.getElem?_eq_some_iff.mp h1).1
      omega
    obtain ⟨b, hb, e1, e2, _⟩ := L2.paired_get rel (List.getElem?_eq_getElem hi)
    have q := entry_at he i
    rw [hb] at q
    rw [h1] at q
    have q := Option.some.inj q
    exact ⟨_, b.2.1, List.getElem?_eq_getElem hi, by rw [q]; rfl, e2⟩
  have hlen : acc.toList.length = kvs.length := by
    have := hacc.1
    rw [Array.length_toList]
    omega
  have hv : Vals (acc.toList.map refV) acc.toList := refs_vals _ fun u hu => by
    obtain ⟨i, hi⟩ := List.getElem?_of_mem hu
    obtain ⟨_, b, _, e, _⟩ := hent i u hi
    exact ⟨b, e⟩
  refine ⟨.ref s.heap.objs.size, upd H s.heap.objs.size (.lst (acc.toList.map refV)), I.laid (t' := tk) hk (Nat.le_refl _)
    (show ObjOk X.prog X.w _ _ _ (.lst (acc.toList.map refV)) from ⟨by rw [List.length_map, hlen]; exact z, acc.toList, c', hv, by rw [Array.toArray_toList]; exact hD⟩), rfl, q _ _ (I.hok.fresh (Nat.le_refl _)) (by rw [List.length_map, hlen]) fun i kv e => ?_⟩
  have hi : i < acc.toList.length := by
    rw [hlen]
    exact (List.getElem?_eq_some_iff.mp e).1
  obtain ⟨kv', b, e1, e2, e3⟩ := hent i _ (List.getElem?_eq_getElem hi)
  rw [e] at e1
  cases e1
  refine ⟨b, ?_, e3⟩
  rw [List.getElem?_map, List.getElem?_eq_getElem hi, e2]
  rfl
end
theorem keys_repK {K : PySem.W.Frag} {H : Hp} {S hot : List Addr} {j : Nat} : ∀ {ks : List (List L2.Key)} {vs : List V}, dOk false ks → ks.length = vs.length → RepTs K H S hot j (((ks.map k1).zip vs).map fun kv => kV kv.1) (ks.map (keyDt false))
  | [], _, _, _ => .nil j
  | _ :: _, [], _, h => by simp at h
  | k :: ks, v :: vs, ok, h => by
    obtain ⟨x, rfl⟩ := ok rfl k List.mem_cons_self
    refine .cons ?_ (keys_repK (fun e q hq => ok e q (List.mem_cons_of_mem _ hq)) (by simpa using h))
    cases x with
    | inl i => exact .int j i
    | inr s => exact .str j s
theorem kds_repT {K : PySem.W.Frag} {H : Hp} {S hot : List Addr} {j : Nat} : ∀ k : List L2.Key, RepTs K H S hot j (k.map kV) (k.map kD)
  | [] => .nil j
  | .inl i :: k => .cons (.int j i) (kds_repT k)
  | .inr s :: k => .cons (.str j s) (kds_repT k)
theorem keys_repT {K : PySem.W.Frag} {H : Hp} {S hot : List Addr} {j : Nat} : ∀ {ks : List (List L2.Key)} {ws : List V}, ws.length = ks.length → (∀ (i : Nat) (k : List L2.Key), ks[i]? = some k → ∃ b, ws[i]? = some (.ref b) ∧ H b = some (.tup (k.map kV))) → RepTs K H S hot j ws (ks.map (keyDt true))
  | [], [], _, _ => .nil j
  | [], _ :: _, h, _ => by simp at h
  | _ :: _, [], h, _ => by simp at h
  | k :: ks, w :: ws, h, g => by
    obtain ⟨b, e1, e2⟩ := g 0 k rfl
    have e1 := Option.some.inj e1
    subst e1
    exact .cons (.tup ⟨.inl e2, fun z => by rw [kd_prs] at z; cases z⟩ (kds_repT k)) (keys_repT (by simpa using h) fun i k' e => by simpa using g (i + 1) k' (by simpa using e))
section
variable {C : Cfg} {cal : Bool} {N : List Str} {sc : Scope} {cf : Nat → List D → CR} {ca : Nat → Addr} {EX : Addr → Nat → Prop} {W : WX} {X : Cx} {K : PySem.W.Frag}
variable (g : Good C cal N sc cf ca EX W X)
include g
theorem c_dkeys {a : E} {z : Expr} {p q : Pos} (hc : cal = true) (hg : glB sc "list" = true) (hp : plainX z = true) (ha : PE X z (tE C cf ca X.K EX W 1 a)) :
    PE X (.Call (.Name "list" p) [z] [] q) (tE C cf ca X.K EX W 0 (.dkeys a)) := by
  have m2 : X.mg "list" = none := g.bl _ (by decide)
  have b2 : bootBuiltins "list" = some (.type "list") := by decide +kernel
  have s1 := star_cons (env := X.env) (xs := []) hp
  refine PEimp (pe_callTy (cr_listA (g.calm hc)) (g.gl hg) m2 b2 (pa_cons ha pa_nil s1) (by decide) (by decide) s1 rfl) fun σ H Q z => ?_
  obtain ⟨H0, S, ts, r, st, z⟩ := z
  simp only [ev] at z
  refine ⟨H0, S, ts, r, st, z.bind.imp fun a1 k v H1 st1 => ?_⟩
  obtain ⟨r1, l1, d1⟩ := a1
  obtain ⟨hot, g1⟩ := Sta.peek st1
  cases d1 <;> first | exact k.elim | skip
  rename_i t ks ds
  simp only at k
  split at k
  · obtain ⟨b, vs, rfl, hb, ok, hl, hs⟩ := g1.dic_ex
    cases t with
    | false =>
      refine .inl ⟨b, _, rfl, hb, fun p hp => ?_⟩
      exact k _ _ (Sta.newL (t1 := [_]) st1 hp fun hot A q => keys_repK ok hl)
    | true =>
      refine .inr ⟨b, _, rfl, hb, fun p ws hp hw he => ?_⟩
      refine k _ _ (Sta.newL (t1 := [_]) st1 hp fun hot A q => keys_repT (by rw [hw, List.length_zip, ← hl, Nat.min_self]) fun i k' e => ?_)
      have hi : i < vs.length := by
        rw [← hl]
        exact (List.getElem?_eq_some_iff.mp e).1
      exact he i (k', vs[i]) (List.getElem?_zip_eq_some.mpr ⟨e, List.getElem?_eq_getElem hi⟩)
  · exact k.elim
end
end Ly

set_option Elab.async false
set_option linter.all false
set_option maxRecDepth 100000
set_option maxHeartbeats 2000000
/-! Comprehensions, and all expressions together. -/
namespace Ly
open PySem PySem.Spec PyProof.Rows L2
section
variable {C : Cfg} {cal : Bool} {N : List Str} {sc : Scope} {cf : Nat → List D → CR} {ca : Nat → Addr} {EX : Addr → Nat → Prop} {W : WX} {X : Cx} {K : PySem.W.Frag}
variable {H0 H H' : Hp} {S : List Addr} {ts : List Tm} {σ : L2.St} {r : Env}

/-! ### targets -/
def gLocs : List Nat → TGs
  | [] => gNil
  | i :: js => gCons (gName i) (gLocs js)
def gTg (K : PySem.W.Frag) : Tg → TG
  | .name i => gName i
  | .tup js => gTup K js.length (gLocs js)
theorem Sta.uncons {v : V} {d : D} {vs : List V} {ds : List D} (st : Sta K EX H0 S (.owns (v :: vs) 0 (d :: ds) :: ts) σ r H) : Sta K EX H0 S (.own v 0 d :: .owns vs 0 ds :: ts) σ r H :=
  Sta.step (t1 := [.owns (v :: vs) 0 (d :: ds)]) (t2 := [.own v 0 d, .owns vs 0 ds]) st (Same.refl H) fun hot A1 nd sub dom hS q => by
    have q1 := q.one
    clear q
    cases q1 with
    | owns q1 =>
      refine ⟨[], .nil, fun _ z => (by simp at z), fun hot' h1 h2 h3 h4 => ?_⟩
      have hh : ∀ a ∈ hot', a ∈ hot := fun a ha => (h1 a ha).elim id fun z => by simp at z
      have q2 := q1.hot hh
      cases q2 with
      | cons q3 q4 =>
        have e1 := q3.zero
        have e2 := q4.zero
        subst e1 e2
        exact Tms.cons (A := []) (.own q3) (.mk1 (.owns q4))
theorem put_many {Q : L2.St → Hp → Prop} : ∀ {js : List Nat} {vs : List V} {ds : List D} {σ : L2.St} {r : Env}, Sta K EX H0 S (.owns vs 0 ds :: ts) σ r H → ds.length = js.length →
    (∀ σ', σ'.length = σ.length → (∀ k, k ∉ js → σ'[k]? = σ[k]?) → Sta K EX H0 S ts σ' (setAll js ds r) H → Q σ' H) → gLocs js vs σ H Q
  | [], vs, ds, σ, r, st, hl, h => by
    obtain ⟨_, _, A, B, _, _, hT, _⟩ := id st
    obtain ⟨A1, A2, _, h1, _⟩ := Tms.split (t1 := [_]) hT
    have h1 := h1.one
    cases h1 with
    | owns h1 =>
      have e := h1.length
      rw [hl] at e
      have e1 : vs = [] := List.eq_nil_of_length_eq_zero e
      have e2 : ds = [] := List.eq_nil_of_length_eq_zero hl
      subst e1 e2
      exact ⟨rfl, h σ rfl (fun _ _ => rfl) st.pop⟩
  | i :: js, vs, [], σ, r, st, hl, h => by simp at hl
  | i :: js, vs, d :: ds, σ, r, st, hl, h => by
    obtain ⟨_, _, A, B, _, _, hT, _⟩ := id st
    obtain ⟨A1, A2, _, h1, _⟩ := Tms.split (t1 := [_]) hT
    have h1 := h1.one
    cases h1 with
    | owns h1 =>
      have e := h1.length
      cases vs with
      | nil => simp at e
      | cons v vs =>
        refine ⟨v, vs, rfl, ?_⟩
        have st2 := (Sta.uncons st).store i
        refine put_many st2 (by simpa using hl) fun σ' h1 h2 st3 => h σ' (by rw [h1, List.length_set]) (fun k hk => ?_) st3
        simp only [List.mem_cons, not_or] at hk
        rw [h2 k hk.2, List.getElem?_set_ne (Ne.symm hk.1)]
theorem Sta.openT {v : V} {ds : List D} (st : Sta K EX H0 S (.own v 0 (.tup ds) :: ts) σ r H) : ∃ a vs, v = .ref a ∧ SqT K H a vs ∧ vs.length = ds.length ∧ Sta K EX H0 S (.owns vs 0 ds :: ts) σ r H := by
  obtain ⟨ex, sd, A, B, nd, new, hT, hS⟩ := st
  cases hT with
  | cons h hs =>
    cases h with
    | own h =>
      obtain ⟨a, vs, rfl, h1, h2⟩ := h.tup_ex
      exact ⟨a, vs, rfl, h1, h2.length, ex, sd, _, B, nd, new, .cons (.owns h2) hs, hS⟩
theorem put_sem {t : Tg} {v : V} {d : D} {r' : Env} {Q : L2.St → Hp → Prop} (st : Sta K EX H0 S (.own v 0 d :: ts) σ r H) (e : t.put d r = some r') (h : ∀ σ', σ'.length = σ.length → (∀ k, k ∉ t.ids → σ'[k]? = σ[k]?) → Sta K EX H0 S ts σ' r' H → Q σ' H) : gTg K t v σ H Q := by
  cases t with
  | name i =>
    cases e
    refine h _ (List.length_set ..) (fun k hk => ?_) (st.store i)
    rw [List.getElem?_set_ne (fun e => hk (by rw [e]; simp [Tg.ids]))]
  | tup js =>
    cases d <;> simp only [Tg.put, reduceCtorEq] at e
    rename_i ds
    split at e
    · rename_i hl
      cases e
      obtain ⟨a, vs, rfl, h1, h2, st2⟩ := Sta.openT st
      exact ⟨a, vs, rfl, h1, by rw [h2, hl], put_many st2 hl h⟩
    · cases e
/-! ### a list of a comprehension's own -/
/-- D is laid: nobody's own from now on -/
theorem Sta.enter {p : Addr} {k : Nat} (st : Sta K EX H0 S ts σ r H) (hp : H p = none) : Sta K EX H0 (p :: S) (.owns [] k [] :: ts) σ r (upd H p (.lst [])) := by
  have sm : Same H (upd H p (.lst [])) := same_upd hp
  obtain ⟨ex, sd, A, B, nd, new, hT, hS⟩ := st
  have F : Fr H (upd H p (.lst [])) S (p :: S) (S ++ (A ++ B)) (p :: S ++ (A ++ B)) [] := ⟨fun a _ o e => sm a o e, fun _ z => (by simp at z), fun _ z => (by simp at z), fun a ha => by
    rw [List.cons_append] at ha
    rcases List.mem_cons.mp ha with e | z
    · subst e; exact .inr hp
    · exact .inl z, fun a ha => List.mem_append_left _ ha, fun a ha => by
    rcases List.mem_cons.mp ha with e | z
    · subst e; exact .inr hp
    · exact .inl z⟩
  refine ⟨ex.trans sm, fun a ha => ?_, A, B, nd, fun a ha => ⟨(new a ha).1, fun hm => ?_⟩, Tms.cons (A := []) (.owns (.nil k)) (hT.frame F (.inl (by simp)) (by simp)), hS.frame F (by simp)⟩
  · rcases List.mem_cons.mp ha with e | z
    · subst e; rw [upd_same]; exact fun z => nomatch z
    · cases e : H a with
      | none => exact absurd e (sd a z)
      | some o => rw [sm a o e]; exact fun z => nomatch z
  · rcases List.mem_cons.mp hm with e | z
    · subst e
      have hh : H a ≠ none := by
        rcases List.mem_append.mp ha with z | z
        · exact (hT.mem a z).ne
        · exact (hS.mem a z).ne
      exact hh hp
    · exact (new a ha).2 z
/-- a list that is nobody's is written -/
theorem Sta.write {p : Addr} {xs ys : List V} (st : Sta K EX H0 S ts σ r H) (hp : p ∈ S) (hx : H p = some (.lst xs)) (h0 : H0 p = none) : Sta K EX H0 S ts σ r (upd H p (.lst ys)) := by
  obtain ⟨ex, sd, A, B, nd, new, hT, hS⟩ := st
  have F : Fr H (upd H p (.lst ys)) S S (S ++ (A ++ B)) (S ++ (A ++ B)) [p] := ⟨fun a ha o e => by rw [upd_ne (by simpa using ha)]; exact e, fun a ha => by
    obtain rfl : a = p := by simpa using ha
    exact .inl ⟨xs, hx⟩, fun a ha => by
    obtain rfl : a = p := by simpa using ha
    exact List.mem_append_left _ hp, fun a ha => .inl ha, fun a ha => List.mem_append_left _ ha, fun a ha => .inl ha⟩
  have nn : ∀ a ∈ [p], a ∉ A ++ B := fun a ha hm => by
    obtain rfl : a = p := by simpa using ha
    exact (new a hm).2 hp
  refine ⟨fun b o e => ?_, fun a ha => ?_, A, B, nd, new, hT.frame F (.inl fun a ha => ?_) fun a ha hm => nn a ha (List.mem_append_left _ hm), hS.frame F fun a ha hm => nn a ha (List.mem_append_right _ hm)⟩
  · rw [upd_ne (fun h => by subst h; rw [h0] at e; cases e)]
    exact ex b o e
  · by_cases h : a = p
    · subst h; rw [upd_same]; exact fun z => nomatch z
    · rw [upd_ne h]; exact sd a ha
  · obtain rfl : a = p := by simpa using ha
    exact hp
/-- it is one's own at last -/
theorem Sta.leave {p : Addr} {k : Nat} {vs : List V} {ds : List D} (st : Sta K EX H0 (p :: S) (.owns vs k ds :: ts) σ r H) (hx : H p = some (.lst vs)) (h0 : H0 p = none) (hn : p ∉ S) : Sta K EX H0 S (.own (.ref p) (k + 1) (.lst ds) :: ts) σ r H := by
  obtain ⟨ex, sd, A0, B, nd, new, hT, hS⟩ := st
  obtain ⟨A1, A2, rfl, h1, h2⟩ := Tms.split (t1 := [_]) hT
  have h1' := h1.one
  clear h1
  cases h1' with
  | owns h1 =>
    have hD : p ∉ A1 ++ A2 ++ B := fun hm => (new p hm).2 List.mem_cons_self
    have F : Fr H H (p :: S) S (p :: S ++ (A1 ++ A2 ++ B)) (S ++ (p :: A1 ++ A2 ++ B)) [] := ⟨fun a _ o e => e, fun _ z => (by simp at z), fun _ z => (by simp at z), fun a ha => by
      refine .inl ?_
      simp only [List.mem_append, List.mem_cons, List.cons_append] at ha ⊢
      rcases ha with z | z | z
      · exact .inr (.inl z)
      · exact .inl z
      · exact .inr (.inr z), fun a ha => List.mem_append_left _ ha, fun a ha => .inl (List.mem_cons_of_mem _ ha)⟩
    refine ⟨ex, fun a ha => sd a (List.mem_cons_of_mem _ ha), p :: A1 ++ A2, B, ?_, fun a ha => ?_, Tms.cons (A := p :: A1) (.own (.lstS hx (h1.frame F.c1 F.c2 F.hX F.c4 (by simp)))) (h2.frame F (.inl (by simp)) (by simp)), hS.frame F (by simp)⟩
    · simp only [List.cons_append]
      exact List.nodup_cons.mpr ⟨hD, nd⟩
    · simp only [List.cons_append] at ha
      rcases List.mem_cons.mp ha with e | z
      · subst e; exact ⟨h0, hn⟩
      · exact ⟨(new a z).1, fun hm => (new a z).2 (List.mem_cons_of_mem _ hm)⟩
theorem Sta.under {tt : List Tm} {t : Tm} (st : Sta K EX H0 S (tt ++ t :: ts) σ r H) : Sta K EX H0 S (t :: ts) σ r H := by
  induction tt with
  | nil => exact st
  | cons u tt ih => exact ih (Sta.pop st)
theorem perm_mid {t : Tm} {tt : List Tm} : (tt ++ t :: ts).Perm (t :: (tt ++ ts)) := List.perm_middle

/-- a nobody's list is held as it is -/
theorem Sta.hold {p : Addr} {o : HO} (st : Sta K EX H0 S ts σ r H) (hp : p ∈ S) (hx : H p = some o) : Sta K EX (upd H0 p o) S ts σ r H := by
  obtain ⟨ex, sd, A, B, nd, new, hT, hS⟩ := st
  refine ⟨fun b u e => ?_, sd, A, B, nd, fun a ha => ⟨?_, (new a ha).2⟩, hT, hS⟩
  · by_cases h : b = p
    · subst h; rw [upd_same] at e; cases e; exact hx
    · rw [upd_ne h] at e; exact ex b u e
  · rw [upd_ne (fun e => (new a ha).2 (by rw [e]; exact hp))]
    exact (new a ha).1
theorem Sta.unhold {p : Addr} {o : HO} (st : Sta K EX (upd H0 p o) S ts σ r H) (h0 : H0 p = none) : Sta K EX H0 S ts σ r H ∧ H p = some o := by
  obtain ⟨ex, sd, A, B, nd, new, hT, hS⟩ := st
  have sm := same_upd (o := o) h0
  exact ⟨⟨sm.trans ex, sd, A, B, nd, fun a ha => ⟨sm.free (new a ha).1, (new a ha).2⟩, hT, hS⟩, ex p o upd_same⟩
def W0 : WX := fun _ _ _ _ => False
section
variable (g : Good C cal N sc cf ca EX W X)
include g
theorem comp_tLc {h : Nat} {elt : E} {t : Tg} {src : Sr} {cond : Eo} {σ : L2.St} {H : Hp} {Q : VK} (z : tE C cf ca X.K EX W 0 (.comp h elt t src cond) σ H Q) : tLc (tSr C cf ca X.K EX W src) (gTg X.K t) (tIf C cf ca X.K EX W0 cond) (tE C cf ca X.K EX W0 0 elt) t.ids σ H Q := by
  obtain ⟨H0, S, ts, r, st, z⟩ := z
  simp only [ev] at z
  refine ⟨H0, S, ts, r, st, z.bind.imp fun a1 k J tt H1 sj st1 L hD => ?_⟩
  obtain ⟨r1, xs⟩ := a1
  obtain ⟨⟨r2, yy⟩, e, k⟩ := k.bind.of
  simp only at e k sj st1
  unfold compT at e
  generalize hF : (fun (q : Env) (x : D) => (Ly.R.of (t.put x q)).bind fun q1 => (evc C.G C.sub cf cond q1).bind fun x => if x.snd = true then (ev C.G C.sub cf 0 elt x.fst).bind fun x => if h - 1 ≤ x.2.fst then Ly.R.ok (wipeE t.ids x.fst, some x.2.snd) else Ly.R.bad else Ly.R.ok (wipeE t.ids x.fst, none)) = F at e
  have h0 : H0 L = none := st1.ex.free hD
  have hDS : L ∉ S := fun hm => st1.sd L hm hD
  refine ⟨fun i m H => m = xs.length - i ∧ i ≤ xs.length ∧ ∃ acc rq ys, H L = some (.lst acc) ∧ acc.length = ys.length ∧ Sta X.K EX H0 (L :: S) (tt ++ .owns acc (h - 1) ys :: ts) (wipe σ t.ids) rq H ∧ compLoop F (xs.drop i) rq ys = some (r2, yy),
    ⟨xs.length, by simp, Nat.zero_le _, [], _, [], upd_same, rfl, ((Sta.enter st1 hD).perm perm_mid.symm).wiped t.ids, by rw [List.drop_zero]; exact e⟩, ?_⟩
  rintro i m H2 ⟨rfl, hle, acc, rq, ys, hacc, hlen, st2, e2⟩
  by_cases hlt : i < xs.length
  · obtain ⟨d, hd⟩ : ∃ d, xs[i]? = some d := ⟨xs[i], List.getElem?_eq_getElem hlt⟩
    obtain ⟨go, step⟩ := (sj.turn i _ (L :: S) _ _ _ H2 (Sta.hold st2 List.mem_cons_self hacc)).2 d hd
    have hdrop : xs.drop i = d :: xs.drop (i + 1) := by
      rw [List.drop_eq_getElem_cons hlt]
      rw [List.getElem?_eq_getElem hlt] at hd
      cases hd
      rfl
    rw [hdrop, compLoop] at e2
    refine .inr ⟨go, fun H => ∃ acc rq ys, H L = some (.lst acc) ∧ acc.length = ys.length ∧ Sta X.K EX H0 (L :: S) (tt ++ .owns acc (h - 1) ys :: ts) (wipe σ t.ids) rq H ∧ compLoop F (xs.drop (i + 1)) rq ys = some (r2, yy), fun H' nx => ⟨xs.length - (i + 1), by omega, rfl, hlt, nx⟩, fun v H3 y => ?_⟩
    have st3 := step v H3 y
    have hFd : F rq d = (Ly.R.of (t.put d rq)).bind fun q1 => (evc C.G C.sub cf cond q1).bind fun x => if x.snd = true then (ev C.G C.sub cf 0 elt x.fst).bind fun x => if h - 1 ≤ x.2.fst then Ly.R.ok (wipeE t.ids x.fst, some x.2.snd) else Ly.R.bad else Ly.R.ok (wipeE t.ids x.fst, none) := by rw [← hF]
    cases e3 : t.put d rq with
    | none => rw [hFd, e3] at e2; cases e2
    | some q1 =>
      rw [e3] at hFd
      simp only [R.of, R.bind] at hFd
      refine put_sem st3 e3 fun σ2 l2 ag st4 => ?_
      have wp : wipe σ2 t.ids = wipe σ t.ids := by
        rw [wipe_agree l2 ag]
        refine wipe_agree (wipe_length ..) fun k hk => ?_
        rw [wipe_get, if_neg hk]
      refine ⟨wp, ?_⟩
      cases e4 : evc C.G C.sub cf cond q1 with
      | bad => rw [hFd, e4] at e2; cases e2
      | exc _ _ => rw [hFd, e4] at e2; cases e2
      | ok qb =>
        obtain ⟨q2, b⟩ := qb
        rw [e4] at hFd
        simp only at hFd
        refine ⟨_, L :: S, _, q1, st4, ?_⟩
        rw [e4]
        intro H5 st5
        cases b with
        | false =>
          simp only [Bool.false_eq_true, if_false] at hFd ⊢
          rw [hFd] at e2
          obtain ⟨st6, hc6⟩ := Sta.unhold st5 h0
          exact ⟨acc, _, ys, hc6, hlen, by rw [← wp]; exact st6.wiped t.ids, e2⟩
        | true =>
          simp only [if_true] at hFd ⊢
          cases e5 : ev C.G C.sub cf 0 elt q2 with
          | bad => rw [hFd, e5] at e2; cases e2
          | exc _ _ => rw [hFd, e5] at e2; cases e2
          | ok a3 =>
            obtain ⟨q3, l3, d3⟩ := a3
            rw [e5] at hFd
            simp only at hFd
            refine ⟨_, L :: S, _, q2, st5, ?_⟩
            rw [e5]
            intro w H6 st6
            by_cases hl : h - 1 ≤ l3
            · rw [if_pos hl] at hFd
              rw [hFd] at e2
              simp only at e2
              split at e2
              · rename_i hz
                have st7 : Sta X.K EX (upd H0 L (.lst acc)) (L :: S) (tt ++ .owns (acc ++ [w]) (h - 1) (ys ++ [d3]) :: ts) σ2 q3 H6 :=
                  (Sta.snoc (st6.perm ((List.Perm.cons _ perm_mid))) hl).perm perm_mid.symm
                obtain ⟨st8, hc8⟩ := Sta.unhold st7 h0
                refine ⟨acc, hc8, by rw [hlen, ← ln_eq]; exact hz, acc ++ [w], _, ys ++ [d3], upd_same, by rw [List.length_append, List.length_append, hlen]; rfl, ?_, e2⟩
                rw [← wp]
                exact (st8.write List.mem_cons_self hc8 h0).wiped t.ids
              · cases e2
            · rw [if_neg hl] at hFd
              rw [hFd] at e2
              cases e2
  · have ei : i = xs.length := by omega
    subst ei
    refine .inl ⟨(sj.turn _ H0 (L :: S) _ _ _ H2 st2).1 rfl, ?_⟩
    rw [List.drop_length] at e2
    cases e2
    exact k _ _ ((Sta.leave (Sta.under st2) hacc h0 hDS).lowT (by show h ≤ h - 1 + 1; omega)).unwiped
theorem c_comp {h : Nat} {elt : E} {t : Tg} {src : Sr} {cond : Eo} {x tg it : Expr} {ifs : List Expr} {scope : Scope} {p : Pos} (hc : cal = true) (ok : BlkOk X.N X.env.scope scope (ownOf N t.ids)) (hi : PI X tg it (tSr C cf ca X.K EX W src))
    (hg : ∀ (s : Shared) (H : Hp) (C' : Addr) (cl : List (Str × Addr)) (fp : List Addr), PG (X.blk s H scope (compEnvC scope cl C' X.env) fp) tg (gTg X.K t))
    (ht : ∀ (s : Shared) (H : Hp) (C' : Addr) (cl : List (Str × Addr)) (fp : List Addr), PTs (X.blk s H scope (compEnvC scope cl C' X.env) fp) ifs (tIf C cf ca X.K EX W0 cond))
    (he : ∀ (s : Shared) (H : Hp) (C' : Addr) (cl : List (Str × Addr)) (fp : List Addr), PE (X.blk s H scope (compEnvC scope cl C' X.env) fp) x (tE C cf ca X.K EX W0 0 elt)) (hs : plainX it = true) :
    PE X (.ListComp x [⟨tg, it, ifs, 0⟩] scope p) (tE C cf ca X.K EX W 0 (.comp h elt t src cond)) := by
  have hids : (ownOf N t.ids).map (·.2) = t.ids := by simp [ownOf, Function.comp_def]
  refine PEimp (pe_lc (g.calm hc) (by rw [g.hN]; exact g.nd) hi ok hg ht he (plain_fold hs)) fun σ H Q z => ?_
  rw [hids]
  exact comp_tLc g z
end
end
end Ly

set_option Elab.async false
set_option linter.all false
set_option maxRecDepth 100000
set_option maxHeartbeats 2000000
/-! All expressions together. -/
namespace Ly
open PySem PySem.Spec PyProof.Rows L2
section
variable {C : Cfg} {cal : Bool} {N : List Str} {sc : Scope} {cf : Nat → List D → CR} {ca : Nat → Addr} {EX : Addr → Nat → Prop} {W : WX} {X : Cx}

theorem t_ife {c a b : E} {x y z : Expr} {p : Pos} (hc : PT X x (tT C cf ca X.K EX W c)) (ha : PT X y (tT C cf ca X.K EX W a)) (hb : PT X z (tT C cf ca X.K EX W b)) : PT X (.IfExp x y z p) (tT C cf ca X.K EX W (.ife c a b)) := by
  refine ⟨fun pins s σ H Q I h => ?_⟩
  show wpAny _ _ (do if ← isTrue x X.env (eval x X.env) then isTrue y X.env (eval y X.env) else isTrue z X.env (eval z X.env)) _ _ s
  obtain ⟨H0, S, ts, r, st, k⟩ := h
  simp only [ev] at k
  refine wpAny_bind (thn (hc.run pins s σ H (fun d H1 => if d = true then tT C cf ca X.K EX W a σ H1 Q else tT C cf ca X.K EX W b σ H1 Q) I ⟨H0, S, ts, r, st, k.bind.imp fun a1 k => ?_⟩) fun d s1 ⟨H1, I1, q1⟩ => ?_)
  · obtain ⟨r1, l1, d1⟩ := a1
    cases d1 <;> first | exact k.elim | skip
    rename_i b
    refine ⟨b, rfl, fun H1 st1 => ?_⟩
    cases b with
    | true => exact ⟨H0, S, ts, r1, st1, k⟩
    | false => exact ⟨H0, S, ts, r1, st1, k⟩
  · cases d with
    | true => exact ha.run pins s1 σ H1 Q I1 q1
    | false => exact hb.run pins s1 σ H1 Q I1 q1
theorem if_no : PTs X [] (tIf C cf ca X.K EX W .no) := ⟨fun pins s σ H Q I z => pts_nil.run pins s σ H Q I (by
  obtain ⟨H0, S, ts, r, st, z⟩ := z
  exact z H st)⟩
theorem if_yes {e : E} {x : Expr} (h : PT X x (tT C cf ca X.K EX W e)) : PTs X [x] (tIf C cf ca X.K EX W (.yes e)) := ⟨fun pins s σ H Q I z => (pts_one h).run pins s σ H Q I (by
  obtain ⟨H0, S, ts, r, st, z⟩ := z
  simp only [evc] at z
  refine ⟨H0, S, ts, r, st, z.bind.imp fun a1 k => ?_⟩
  obtain ⟨r1, l1, d1⟩ := a1
  cases d1 <;> first | exact k.elim | exact ⟨_, rfl, k⟩)⟩
/-- forms that are tested by their value -/
def valE : E → Bool
  | .not _ => false
  | .cmp _ _ _ => false
  | .din _ _ _ => false
  | .chain _ _ _ _ _ => false
  | .bop _ _ => false
  | .ife _ _ _ => false
  | _ => true
theorem mE_test : ∀ (e : E) (x : Expr), mE C cal N sc e x = true → valE e = true → ∀ (env : PySem.Env) whole, isTrue x env whole = (do let v ← whole; standAt x.pos; holding [v] (truthy v)) := by
  intro e x h hv
  cases x with
  | UnaryOp o a p =>
    cases e with
    | neg a' =>
      simp only [mE, dUn, Bool.and_eq_true, decide_eq_true_eq] at h
      obtain ⟨rfl, _⟩ := h
      intro env whole
      rfl
    | not a' => cases hv
    | _ => first | (exfalso; revert h; simp [mE, dName, dConst, dBin, dCmp, dCmp2, dBool, dIf, dTup, dLst, dSub, dCall, dCallK, dComp, dRev, dStep, isD0, dD1, dMeth, dMethE]; done) | (exfalso; rename_i f _; revert h; cases f <;> simp [mE, dCall, dCallK, dRev, dStep, isD0, dD1, dMeth, dMethE])
  | BoolOp o a p => exfalso; revert h hv; cases e <;> (try (rename_i f _; cases f)) <;> simp [valE, mE, dName, dConst, dBin, dUn, dCmp, dCmp2, dBool, dIf, dTup, dLst, dSub, dCall, dCallK, dComp, dRev, dStep, isD0, dD1, dMeth, dMethE]
  | IfExp a b c p => exfalso; revert h hv; cases e <;> (try (rename_i f _; cases f)) <;> simp [valE, mE, dName, dConst, dBin, dUn, dCmp, dCmp2, dBool, dIf, dTup, dLst, dSub, dCall, dCallK, dComp, dRev, dStep, isD0, dD1, dMeth, dMethE]
  | Compare a o b p => exfalso; revert h hv; cases e <;> (try (rename_i f _; cases f)) <;> simp [valE, mE, dName, dConst, dBin, dUn, dBool, dIf, dTup, dLst, dSub, dCall, dCallK, dComp, dRev, dStep, isD0, dD1, dMeth, dMethE]
  | _ => exact fun env whole => rfl
theorem ScRel.blk {sc sc' scope : Scope} (r : ScRel sc sc') (hk : scope.kind = .function) : ScRel scope (relS scope sc') := by
  refine ⟨hk, fun x k h => ?_⟩
  show ∃ k', List.lookup x (scope.names.map _) = some k' ∧ _
  generalize scope.names = l at h
  induction l with
  | nil => cases h
  | cons y l ih =>
    obtain ⟨n, k0⟩ := y
    simp only [List.lookup_cons, List.map_cons] at h ⊢
    by_cases hc : (k0 == NameKind.free && sc'.kind == .function && sc'.names.lookup n == some .cell) = true
    · rw [if_pos hc, List.lookup_cons]
      cases hx : x == n with
      | true =>
        rw [hx] at h
        cases h
        simp only [Bool.and_eq_true, beq_iff_eq] at hc
        exact ⟨.cell, rfl, .inr ⟨hc.1.1, rfl⟩⟩
      | false =>
        rw [hx] at h
        exact ih h
    · rw [if_neg hc, List.lookup_cons]
      cases hx : x == n with
      | true =>
        rw [hx] at h
        cases h
        exact ⟨_, rfl, .inl rfl⟩
      | false =>
        rw [hx] at h
        exact ih h
theorem Good.blk (g : Good C cal N sc cf ca EX W X) (hc : cal = true) {scope : Scope} (hk : scope.kind = .function) (s : Shared) (H : Hp) (C' : Addr) (cl : List (Str × Addr)) (fp : List Addr) :
    Good C cal N scope cf ca EX W0 (X.blk s H scope (compEnvC scope cl C' X.env) fp) where
  hN := g.hN
  nd := g.nd
  sr := g.sr.blk hk
  fo := fun x h => by
    show (scope.names.lookup x == some .cell) = true
    rw [h]; rfl
  calm := g.calm
  un := g.un
  tk := takes0
  fns := g.fns
  dfl := g.dfl
  bl := g.bl
  gls := g.gls
  exN := g.exN
  exI := fun h => by rw [hc] at h; cases h
theorem Good.blkOk (g : Good C cal N sc cf ca EX W X) {scope : Scope} {own : List (Str × Nat)} (h : blkC N sc scope own = true) : BlkOk X.N X.env.scope scope own := by
  have b := blkOk_by h
  rw [g.hN]
  refine ⟨b.kind, b.uniq, b.ix, fun y hy e => ?_, b.own⟩
  rcases b.free y hy e with z | z
  · obtain ⟨k', e', q | ⟨q, _⟩⟩ := g.sr.2 _ _ z
    · subst q; exact .inl e'
    · cases q
  · obtain ⟨k', e', q | ⟨_, q⟩⟩ := g.sr.2 _ _ z
    · subst q; exact .inr e'
    · subst q; exact .inl e'
theorem g_loc (g : Good C cal N sc cf ca EX W X) {i : Nat} {x : Expr} (h : mLoc N sc i x = true) : ∃ n p, x = .Name n p ∧ PG X x (gName i) := by
  unfold mLoc at h
  split at h
  · rename_i n e
    obtain ⟨p, rfl⟩ := dName_eq e
    rw [Bool.and_eq_true, decide_eq_true_eq] at h
    obtain ⟨l1, l2⟩ := g.loc h.2
    exact ⟨n, p, rfl, pg_name (by rw [g.hN]; exact g.nd) (by rw [g.hN]; exact h.1) l1 l2⟩
  · cases h
theorem g_locs (g : Good C cal N sc cf ca EX W X) : ∀ {js : List Nat} {xs : List Expr}, mLocs N sc js xs = true → PGs X xs (gLocs js) ∧ (assignEach xs X.env).length = js.length ∧ (assignEach xs X.env).findIdx? (·.1) = none
  | [], [], _ => ⟨pgs_nil, rfl, rfl⟩
  | [], _ :: _, h => by simp [mLocs] at h
  | _ :: _, [], h => by simp [mLocs] at h
  | i :: js, x :: xs, h => by
    simp only [mLocs, Bool.and_eq_true] at h
    obtain ⟨n, p, rfl, h1⟩ := g_loc g h.1
    obtain ⟨h2, h3, h4⟩ := g_locs g h.2
    have e : assignEach (.Name n p :: xs) X.env = (false, assign (.Name n p) X.env) :: assignEach xs X.env := rfl
    refine ⟨pgs_cons h1 h2 (by rw [e]; rfl), by rw [e, List.length_cons, List.length_cons, h3], ?_⟩
    rw [e, List.findIdx?_cons]
    simp [h4]
theorem g_tg (g : Good C cal N sc cf ca EX W X) (hc : cal = true) {t : Tg} {x : Expr} (h : mTg N sc t x = true) : PG X x (gTg X.K t) := by
  cases t with
  | name i =>
    obtain ⟨n, p, rfl, h1⟩ := g_loc g h
    exact h1
  | tup js =>
    simp only [mTg] at h
    split at h
    · rename_i es e
      obtain ⟨k, p, rfl⟩ := dTup_eq e
      obtain ⟨h1, h2, h3⟩ := g_locs g h
      exact pg_tup (g.calm hc) h1 h2 h3
    · cases h
theorem mSr_plain : ∀ (e : Sr) (tg x : Expr), mSr C cal N sc e tg x = true → plainX x = true
  | .seq a, tg, x, h => mE_plain a x (by simpa [mSr] using h)
  | .seqB a, tg, x, h => mE_plain a x (by simpa [mSr] using h)
  | .range es, tg, x, h => by
    cases x <;> first | rfl | simp [mSr, dCall] at h
  | .enum a, tg, x, h => by
    cases x <;> first | rfl | simp [mSr, dCall] at h
  | .keys i, tg, x, h => by
    cases x <;> first | rfl | simp [mSr, dName] at h
  | .revS a, tg, x, h => by
    cases x <;> first | rfl | simp [mSr, dCall] at h
  | .zip a b, tg, x, h => by
    cases x <;> first | rfl | simp [mSr, dCall] at h
mutual
theorem sE : ∀ (e : E) (x : Expr) (sc : Scope) (W : WX) (X : Cx), Good C cal N sc cf ca EX W X → mE C cal N sc e x = true → (∀ j, PE X x (tE C cf ca X.K EX W j e)) ∧ PT X x (tT C cf ca X.K EX W e)
  | .var i, x, sc, W, X, g, h => by
    have main : ∀ j, PE X x (tE C cf ca X.K EX W j (.var i)) := by
      have hm := h
      simp only [mE] at hm
      split at hm
      · rename_i n e
        obtain ⟨p, rfl⟩ := dName_eq e
        exact c_var g hm
      · cases hm
    exact ⟨main, t_val g (main 9) (mE_test _ _ h rfl X.env)⟩
  | .mv i, x, sc, W, X, g, h => by
    have main : ∀ j, PE X x (tE C cf ca X.K EX W j (.mv i)) := by
      have hm := h
      simp only [mE] at hm
      split at hm
      · rename_i n e
        obtain ⟨p, rfl⟩ := dName_eq e
        exact modes (c_mv g hm) (fun _ _ => by simp only [ev])
      · cases hm
    exact ⟨main, t_val g (main 9) (mE_test _ _ h rfl X.env)⟩
  | .cst d, x, sc, W, X, g, h => by
    have main : ∀ j, PE X x (tE C cf ca X.K EX W j (.cst d)) := by
      have hm := h
      simp only [mE] at hm
      split at hm
      · rename_i n e
        obtain ⟨k, p, rfl⟩ := dConst_eq e
        exact modes (c_cst g hm) (fun _ _ => by simp only [ev])
      · cases hm
    exact ⟨main, t_val g (main 9) (mE_test _ _ h rfl X.env)⟩
  | .glb i, x, sc, W, X, g, h => by
    have main : ∀ j, PE X x (tE C cf ca X.K EX W j (.glb i)) := by
      have hm := h
      simp only [mE] at hm
      split at hm
      · rename_i n q e e2
        obtain ⟨p, rfl⟩ := dName_eq e
        simp only [Bool.and_eq_true, decide_eq_true_eq] at hm
        obtain ⟨⟨rfl, h1⟩, h2⟩ := hm
        exact modes (c_glb g e2 h1 h2) (fun _ _ => by simp only [ev])
      · cases hm
    exact ⟨main, t_val g (main 9) (mE_test _ _ h rfl X.env)⟩
  | .bin o a b, x, sc, W, X, g, h => by
    have main : ∀ j, PE X x (tE C cf ca X.K EX W j (.bin o a b)) := by
      have hm := h
      simp only [mE] at hm
      split at hm
      · rename_i y op z e
        obtain ⟨p, rfl⟩ := dBin_eq e
        simp only [Bool.and_eq_true, decide_eq_true_eq] at hm
        obtain ⟨⟨rfl, h1⟩, h2⟩ := hm
        exact modes (c_bin g ((sE a y sc W X g h1).1 1) ((sE b z sc W X g h2).1 1)) (fun _ _ => by simp only [ev])
      · cases hm
    exact ⟨main, t_val g (main 9) (mE_test _ _ h rfl X.env)⟩
  | .neg a, x, sc, W, X, g, h => by
    have main : ∀ j, PE X x (tE C cf ca X.K EX W j (.neg a)) := by
      have hm := h
      simp only [mE] at hm
      split at hm
      · rename_i op y e
        obtain ⟨p, rfl⟩ := dUn_eq e
        simp only [Bool.and_eq_true, decide_eq_true_eq] at hm
        obtain ⟨rfl, h1⟩ := hm
        exact modes (c_neg g ((sE a y sc W X g h1).1 9)) (fun _ _ => by simp only [ev])
      · cases hm
    exact ⟨main, t_val g (main 9) (mE_test _ _ h rfl X.env)⟩
  | .not a, x, sc, W, X, g, h => by
    simp only [mE] at h
    split at h
    · rename_i op y e
      obtain ⟨p, rfl⟩ := dUn_eq e
      simp only [Bool.and_eq_true, decide_eq_true_eq] at h
      obtain ⟨rfl, h1⟩ := h
      have q := sE a y sc W X g h1
      exact ⟨modes (c_not g (q.1 9)) (fun _ _ => by simp only [ev]), t_not g q.2⟩
    · cases h
  | .cmp c a b, x, sc, W, X, g, h => by
    simp only [mE] at h
    split at h
    · rename_i y op z e
      obtain ⟨p, rfl⟩ := dCmp_eq e
      simp only [Bool.and_eq_true, decide_eq_true_eq] at h
      obtain ⟨⟨rfl, h1⟩, h2⟩ := h
      have q1 := (sE a y sc W X g h1).1 9
      have q2 := (sE b z sc W X g h2).1 9
      exact ⟨modes (c_cmp g (mE_plain b z h2) q1 q2) (fun _ _ => by simp only [ev]), t_cmp g (mE_plain b z h2) q1 q2⟩
    · cases h
  | .chain c c' a b u, x, sc, W, X, g, h => by
    simp only [mE] at h
    split at h
    · rename_i y op z op' w e
      obtain ⟨p, rfl⟩ := dCmp2_eq e
      simp only [Bool.and_eq_true, decide_eq_true_eq] at h
      obtain ⟨⟨⟨⟨rfl, rfl⟩, h1⟩, h2⟩, h3⟩ := h
      have q1 := (sE a y sc W X g h1).1 9
      have q2 := (sE b z sc W X g h2).1 9
      have q3 := (sE u w sc W X g h3).1 9
      exact ⟨modes (c_chain g (mE_plain u w h3) q1 q2 q3) (fun _ _ => by simp only [ev]), t_chain g (mE_plain u w h3) q1 q2 q3⟩
    · cases h
  | .bop isAnd es, x, sc, W, X, g, h => by
    simp only [mE] at h
    split at h
    · rename_i op xs e
      obtain ⟨p, rfl⟩ := dBool_eq e
      simp only [Bool.and_eq_true, decide_eq_true_eq] at h
      obtain ⟨rfl, h1⟩ := h
      obtain ⟨_, q⟩ := sEs es xs sc W X g h1
      have hne : es ≠ .nil ∨ es = .nil := by cases es <;> simp
      rcases hne with hne | hne
      · obtain ⟨q1, q2⟩ := q hne isAnd p
        refine ⟨modes ?_ (fun _ _ => by simp only [ev]), ?_⟩
        · exact PEimp q1 fun σ H Q z => by
            obtain ⟨H0, S, ts, r, st, z⟩ := z
            simp only [ev] at z
            exact ⟨H0, S, ts, r, st, z⟩
        · exact PTimp q2.pt fun σ H Q z => by
            obtain ⟨H0, S, ts, r, st, z⟩ := z
            simp only [ev] at z
            exact ⟨H0, S, ts, r, st, z⟩
      · subst hne
        refine ⟨modes ⟨fun pins s σ H Q I z => ?_⟩ (fun _ _ => by simp only [ev]), ⟨fun pins s σ H Q I z => ?_⟩⟩
        · obtain ⟨H0, S, ts, r, st, z⟩ := z
          simp only [ev, evBop] at z
          exact z.elim
        · obtain ⟨H0, S, ts, r, st, z⟩ := z
          simp only [ev, evBop] at z
          exact z.elim
    · cases h
  | .ife c a b, x, sc, W, X, g, h => by
    simp only [mE] at h
    split at h
    · rename_i y z w e
      obtain ⟨p, rfl⟩ := dIf_eq e
      simp only [Bool.and_eq_true] at h
      obtain ⟨⟨h1, h2⟩, h3⟩ := h
      have q1 := sE c y sc W X g h1
      have q2 := sE a z sc W X g h2
      have q3 := sE b w sc W X g h3
      exact ⟨fun j => c_ife g q1.2 (q2.1 j) (q3.1 j), t_ife q1.2 q2.2 q3.2⟩
    · cases h
  | .tup hh es, x, sc, W, X, g, h => by
    have main : ∀ j, PE X x (tE C cf ca X.K EX W j (.tup hh es)) := by
      have hm := h
      simp only [mE] at hm
      split at hm
      · rename_i xs e
        obtain ⟨k, p, rfl⟩ := dTup_eq e
        simp only [Bool.and_eq_true, decide_eq_true_eq] at hm
        exact modes (c_tup g hm.2 ((sEs es xs sc W X g hm.1).1 0 hh)) (fun _ _ => by simp only [ev])
      · cases hm
    exact ⟨main, t_val g (main 9) (mE_test _ _ h rfl X.env)⟩
  | .lst hh es, x, sc, W, X, g, h => by
    have main : ∀ j, PE X x (tE C cf ca X.K EX W j (.lst hh es)) := by
      have hm := h
      simp only [mE] at hm
      split at hm
      · rename_i xs e
        obtain ⟨p, rfl⟩ := dLst_eq e
        simp only [Bool.and_eq_true, decide_eq_true_eq] at hm
        exact modes (c_lst g hm.2 ((sEs es xs sc W X g hm.1).1 0 (hh - 1))) (fun _ _ => by simp only [ev])
      · cases hm
    exact ⟨main, t_val g (main 9) (mE_test _ _ h rfl X.env)⟩
  | .ix a k, x, sc, W, X, g, h => by
    have main : ∀ j, PE X x (tE C cf ca X.K EX W j (.ix a k)) := by
      have hm := h
      simp only [mE] at hm
      split at hm
      · rename_i y z e
        obtain ⟨p, rfl⟩ := dSub_eq e
        simp only [Bool.and_eq_true] at hm
        exact fun j => c_ix g (mE_plain k z hm.2) ((sE a y sc W X g hm.1).1 (j + 1)) ((sE k z sc W X g hm.2).1 9)
      · cases hm
    exact ⟨main, t_val g (main 9) (mE_test _ _ h rfl X.env)⟩
  | .sl a lo hi, x, sc, W, X, g, h => by
    have main : ∀ j, PE X x (tE C cf ca X.K EX W j (.sl a lo hi)) := by
      have hm := h
      simp only [mE] at hm
      split at hm
      · rename_i y z e
        obtain ⟨p, rfl⟩ := dSub_eq e
        split at hm
        · rename_i l u e2
          obtain ⟨p2, rfl⟩ := dSlice_eq e2
          simp only [Bool.and_eq_true] at hm
          obtain ⟨⟨h1, h2⟩, h3⟩ := hm
          exact modes (c_sl g ((sE a y sc W X g h1).1 1) (sEo lo l sc W X g h2) (sEo hi u sc W X g h3)) (fun _ _ => by simp only [ev])
        · cases hm
      · cases hm
    exact ⟨main, t_val g (main 9) (mE_test _ _ h rfl X.env)⟩
  | .rev a, x, sc, W, X, g, h => by
    have main : ∀ j, PE X x (tE C cf ca X.K EX W j (.rev a)) := by
      have hm := h
      simp only [mE] at hm
      split at hm
      · rename_i y e
        obtain ⟨k, p1, p2, p3, p, rfl⟩ := dRev_eq e
        exact modes (c_rev g ((sE a y sc W X g hm).1 1)) (fun _ _ => by simp only [ev])
      · cases hm
    exact ⟨main, t_val g (main 9) (mE_test _ _ h rfl X.env)⟩
  | .stp a b c, x, sc, W, X, g, h => by
    have main : ∀ j, PE X x (tE C cf ca X.K EX W j (.stp a b c)) := by
      have hm := h
      simp only [mE] at hm
      split at hm
      · rename_i y z u e
        obtain ⟨p3, p, rfl⟩ := dStep_eq e
        simp only [Bool.and_eq_true] at hm
        obtain ⟨⟨h1, h2⟩, h3⟩ := hm
        exact modes (c_stp g ((sE a y sc W X g h1).1 1) ((sE b z sc W X g h2).1 9) ((sE c u sc W X g h3).1 9)) (fun _ _ => by simp only [ev])
      · cases hm
    exact ⟨main, t_val g (main 9) (mE_test _ _ h rfl X.env)⟩
  | .dnew t, x, sc, W, X, g, h => by
    have main : ∀ j, PE X x (tE C cf ca X.K EX W j (.dnew t)) := by
      have hm := h
      simp only [mE] at hm
      obtain ⟨p, rfl⟩ := isD0_eq hm
      exact modes c_dnew (fun _ _ => by simp only [ev])
    exact ⟨main, t_val g (main 9) (mE_test _ _ h rfl X.env)⟩
  | .dnw2 t, x, sc, W, X, g, h => by
    have main : ∀ j, PE X x (tE C cf ca X.K EX W j (.dnw2 t)) := by
      have hm := h
      simp only [mE] at hm
      obtain ⟨p, rfl⟩ := isD0_eq hm
      exact modes c_dnw2 (fun _ _ => by simp only [ev])
    exact ⟨main, t_val g (main 9) (mE_test _ _ h rfl X.env)⟩
  | .dkeys a, x, sc, W, X, g, h => by
    have main : ∀ j, PE X x (tE C cf ca X.K EX W j (.dkeys a)) := by
      have hm := h
      simp only [mE] at hm
      split at hm
      · rename_i y u e
        obtain ⟨p, q, rfl⟩ := dCall_eq e
        simp only [Bool.and_eq_true, decide_eq_true_eq] at hm
        obtain ⟨⟨⟨h1, rfl⟩, h3⟩, h4⟩ := hm
        exact modes (c_dkeys g h1 h3 (mE_plain a u h4) ((sE a u sc W X g h4).1 1)) (fun _ _ => by simp only [ev])
      · cases hm
    exact ⟨main, t_val g (main 9) (mE_test _ _ h rfl X.env)⟩
  | .dn1 z b, x, sc, W, X, g, h => by
    have main : ∀ j, PE X x (tE C cf ca X.K EX W j (.dn1 z b)) := by
      have hm := h
      simp only [mE, decide_eq_true_eq] at hm
      obtain ⟨k, p1, k2, p2, p, rfl⟩ := dD1_eq hm
      exact modes c_dn1 (fun _ _ => by simp only [ev])
    exact ⟨main, t_val g (main 9) (mE_test _ _ h rfl X.env)⟩
  | .din neg k a, x, sc, W, X, g, h => by
    simp only [mE] at h
    split at h
    · rename_i y op z e
      obtain ⟨p, rfl⟩ := dCmp_eq e
      simp only [Bool.and_eq_true, decide_eq_true_eq] at h
      obtain ⟨⟨rfl, h1⟩, h2⟩ := h
      have hp := mE_plain a z h2
      have e1 := (sE k y sc W X g h1).1 9
      have e2 := (sE a z sc W X g h2).1 1
      exact ⟨modes (c_din (neg := neg) g hp e1 e2) (fun _ _ => by simp only [ev]), t_din (neg := neg) g hp e1 e2⟩
    · cases h
  | .dix a k, x, sc, W, X, g, h => by
    have main : ∀ j, PE X x (tE C cf ca X.K EX W j (.dix a k)) := by
      have hm := h
      simp only [mE] at hm
      split at hm
      · rename_i y z e
        obtain ⟨p, rfl⟩ := dSub_eq e
        simp only [Bool.and_eq_true] at hm
        exact fun j => c_dix g (mE_plain k z hm.2) ((sE a y sc W X g hm.1).1 (j + 1)) ((sE k z sc W X g hm.2).1 9)
      · cases hm
    exact ⟨main, t_val g (main 9) (mE_test _ _ h rfl X.env)⟩
  | .dgt a k, x, sc, W, X, g, h => by
    have main : ∀ j, PE X x (tE C cf ca X.K EX W j (.dgt a k)) := by
      have hm := h
      simp only [mE] at hm
      split at hm
      · rename_i y m z e
        obtain ⟨p1, p2, p3, rfl, hl⟩ := dMeth_eq e
        simp only [Bool.and_eq_true, decide_eq_true_eq] at hm
        obtain ⟨⟨rfl, h1⟩, h2⟩ := hm
        cases a <;> first | cases h1 | skip
        rename_i i
        exact modes (c_dgt g hl (mE_plain k z h2) (c_var g h1 1) ((sE k z sc W X g h2).1 9)) (fun _ _ => by simp only [ev])
      · cases hm
    exact ⟨main, t_val g (main 9) (mE_test _ _ h rfl X.env)⟩
  | .sset a, x, sc, W, X, g, h => by
    have main : ∀ j, PE X x (tE C cf ca X.K EX W j (.sset a)) := by
      have hm := h
      simp only [mE] at hm
      split at hm
      · rename_i y u e
        obtain ⟨p, q, rfl⟩ := dCall_eq e
        simp only [Bool.and_eq_true, decide_eq_true_eq] at hm
        obtain ⟨⟨⟨h1, rfl⟩, h3⟩, h4⟩ := hm
        split at h4
        · rename_i y2 z e2
          obtain ⟨p2, q2, rfl⟩ := dCall_eq e2
          simp only [Bool.and_eq_true, decide_eq_true_eq] at h4
          obtain ⟨⟨rfl, h5⟩, h6⟩ := h4
          exact modes (c_sset g h1 h3 h5 (mE_plain a z h6) ((sE a z sc W X g h6).1 1)) (fun _ _ => by simp only [ev])
        · cases h4
      · cases hm
    exact ⟨main, t_val g (main 9) (mE_test _ _ h rfl X.env)⟩
  | .lrg a, x, sc, W, X, g, h => by
    have main : ∀ j, PE X x (tE C cf ca X.K EX W j (.lrg a)) := by
      have hm := h
      simp only [mE] at hm
      split at hm
      · rename_i y u e
        obtain ⟨p, q, rfl⟩ := dCall_eq e
        simp only [Bool.and_eq_true, decide_eq_true_eq] at hm
        obtain ⟨⟨⟨h1, rfl⟩, h3⟩, h4⟩ := hm
        split at h4
        · rename_i y2 z e2
          obtain ⟨p2, q2, rfl⟩ := dCall_eq e2
          simp only [Bool.and_eq_true, decide_eq_true_eq] at h4
          obtain ⟨⟨rfl, h5⟩, h6⟩ := h4
          exact modes (c_lrg g h1 h3 h5 (mE_plain a z h6) ((sE a z sc W X g h6).1 9)) (fun _ _ => by simp only [ev])
        · cases h4
      · cases hm
    exact ⟨main, t_val g (main 9) (mE_test _ _ h rfl X.env)⟩
  | .lrgd a b, x, sc, W, X, g, h => by
    have main : ∀ j, PE X x (tE C cf ca X.K EX W j (.lrgd a b)) := by
      have hm := h
      simp only [mE] at hm
      split at hm
      · rename_i y u e
        obtain ⟨p, q, rfl⟩ := dCall_eq e
        simp only [Bool.and_eq_true, decide_eq_true_eq] at hm
        obtain ⟨⟨⟨h1, rfl⟩, h3⟩, h4⟩ := hm
        split at h4
        · rename_i y2 z z2 z3 e2
          obtain ⟨p2, q2, rfl⟩ := dCall_eq e2
          simp only [Bool.and_eq_true, decide_eq_true_eq] at h4
          obtain ⟨⟨⟨⟨rfl, h5⟩, h6⟩, h7⟩, h8⟩ := h4
          obtain ⟨kk, p3, p4, rfl⟩ := isM1_eq h8
          exact modes (c_lrgd g h1 h3 h5 (mE_plain a z h6) (mE_plain b z2 h7) ((sE a z sc W X g h6).1 9) ((sE b z2 sc W X g h7).1 9)) (fun _ _ => by simp only [ev])
        · cases h4
      · cases hm
    exact ⟨main, t_val g (main 9) (mE_test _ _ h rfl X.env)⟩
  | .lzip a b, x, sc, W, X, g, h => by
    have main : ∀ j, PE X x (tE C cf ca X.K EX W j (.lzip a b)) := by
      have hm := h
      simp only [mE] at hm
      split at hm
      · rename_i y u e
        obtain ⟨p, q, rfl⟩ := dCall_eq e
        simp only [Bool.and_eq_true, decide_eq_true_eq] at hm
        obtain ⟨⟨⟨h1, rfl⟩, h3⟩, h4⟩ := hm
        split at h4
        · rename_i y2 z z2 e2
          obtain ⟨p2, q2, rfl⟩ := dCall_eq e2
          simp only [Bool.and_eq_true, decide_eq_true_eq] at h4
          obtain ⟨⟨⟨rfl, h5⟩, h6⟩, h7⟩ := h4
          exact modes (c_lzip g h1 h3 h5 (mE_plain a z h6) (mE_plain b z2 h7) ((sE a z sc W X g h6).1 1) ((sE b z2 sc W X g h7).1 1)) (fun _ _ => by simp only [ev])
        · cases h4
      · cases hm
    exact ⟨main, t_val g (main 9) (mE_test _ _ h rfl X.env)⟩
  | .lidx i a, x, sc, W, X, g, h => by
    have main : ∀ j, PE X x (tE C cf ca X.K EX W j (.lidx i a)) := by
      have hm := h
      simp only [mE] at hm
      split at hm
      · rename_i y m z e
        obtain ⟨p1, p2, p3, rfl, hl⟩ := dMeth_eq e
        simp only [Bool.and_eq_true, decide_eq_true_eq] at hm
        obtain ⟨⟨rfl, h1⟩, h2⟩ := hm
        exact modes (c_lidx g h1 hl (mE_plain a z h2) ((sE a z sc W X g h2).1 9)) (fun _ _ => by simp only [ev])
      · cases hm
    exact ⟨main, t_val g (main 9) (mE_test _ _ h rfl X.env)⟩
  | .meth m a es, x, sc, W, X, g, h => by
    have main : ∀ j, PE X x (tE C cf ca X.K EX W j (.meth m a es)) := by
      have hm := h
      simp only [mE] at hm
      split at hm
      · rename_i y w xs e
        obtain ⟨p2, p3, rfl, hl, hn, hk⟩ := dMethE_eq e
        simp only [Bool.and_eq_true, decide_eq_true_eq] at hm
        obtain ⟨⟨rfl, h1⟩, h2⟩ := hm
        exact modes (c_meth g hl hn hk ((sE a y sc W X g h1).1 1) (mEs_plain es xs h2) ((sEs es xs sc W X g h2).1 1 0) (mEs_len es xs h2)) (fun _ _ => by simp only [ev])
      · cases hm
    exact ⟨main, t_val g (main 9) (mE_test _ _ h rfl X.env)⟩
  | .sdic a, x, sc, W, X, g, h => by
    have main : ∀ j, PE X x (tE C cf ca X.K EX W j (.sdic a)) := by
      have hm := h
      simp only [mE] at hm
      split at hm
      · rename_i y u e
        obtain ⟨p, q, rfl⟩ := dCall_eq e
        simp only [Bool.and_eq_true, decide_eq_true_eq] at hm
        obtain ⟨⟨⟨h1, rfl⟩, h3⟩, h4⟩ := hm
        exact modes (c_sdic g h1 h3 (mE_plain a u h4) ((sE a u sc W X g h4).1 1)) (fun _ _ => by simp only [ev])
      · cases hm
    exact ⟨main, t_val g (main 9) (mE_test _ _ h rfl X.env)⟩
  | .dlen i, x, sc, W, X, g, h => by
    have main : ∀ j, PE X x (tE C cf ca X.K EX W j (.dlen i)) := by
      have hm := h
      simp only [mE] at hm
      split at hm
      · rename_i y u e
        obtain ⟨p, q, rfl⟩ := dCall_eq e
        simp only [Bool.and_eq_true, decide_eq_true_eq] at hm
        obtain ⟨⟨rfl, h3⟩, h4⟩ := hm
        split at h4
        · rename_i v e2
          obtain ⟨p2, rfl⟩ := dName_eq e2
          exact modes (c_dlen g h3 h4) (fun _ _ => by simp only [ev])
        · cases h4
      · cases hm
    exact ⟨main, t_val g (main 9) (mE_test _ _ h rfl X.env)⟩
  | .lset a, x, sc, W, X, g, h => by
    have main : ∀ j, PE X x (tE C cf ca X.K EX W j (.lset a)) := by
      have hm := h
      simp only [mE] at hm
      split at hm
      · rename_i y u e
        obtain ⟨p, q, rfl⟩ := dCall_eq e
        simp only [Bool.and_eq_true, decide_eq_true_eq] at hm
        obtain ⟨⟨⟨h1, rfl⟩, h3⟩, h4⟩ := hm
        split at h4
        · rename_i y2 z e2
          obtain ⟨p2, q2, rfl⟩ := dCall_eq e2
          simp only [Bool.and_eq_true, decide_eq_true_eq] at h4
          obtain ⟨⟨rfl, h5⟩, h6⟩ := h4
          exact modes (c_lset g h1 h3 h5 (mE_plain a z h6) ((sE a z sc W X g h6).1 1)) (fun _ _ => by simp only [ev])
        · cases h4
      · cases hm
    exact ⟨main, t_val g (main 9) (mE_test _ _ h rfl X.env)⟩
  | .dprs a, x, sc, W, X, g, h => by
    have main : ∀ j, PE X x (tE C cf ca X.K EX W j (.dprs a)) := by
      have hm := h
      simp only [mE] at hm
      split at hm
      · rename_i y u e
        obtain ⟨p, q, rfl⟩ := dCall_eq e
        simp only [Bool.and_eq_true, decide_eq_true_eq] at hm
        obtain ⟨⟨⟨h1, rfl⟩, h3⟩, h4⟩ := hm
        exact modes (c_dprs g h1 h3 (mE_plain a u h4) ((sE a u sc W X g h4).1 1)) (fun _ _ => by simp only [ev])
      · cases hm
    exact ⟨main, t_val g (main 9) (mE_test _ _ h rfl X.env)⟩
  | .lcnt i a, x, sc, W, X, g, h => by
    have main : ∀ j, PE X x (tE C cf ca X.K EX W j (.lcnt i a)) := by
      have hm := h
      simp only [mE] at hm
      split at hm
      · rename_i y m z e
        obtain ⟨p1, p2, p3, rfl, hl⟩ := dMeth_eq e
        simp only [Bool.and_eq_true, decide_eq_true_eq] at hm
        obtain ⟨⟨rfl, h1⟩, h2⟩ := hm
        exact modes (c_lcnt g h1 hl (mE_plain a z h2) ((sE a z sc W X g h2).1 9)) (fun _ _ => by simp only [ev])
      · cases hm
    exact ⟨main, t_val g (main 9) (mE_test _ _ h rfl X.env)⟩
  | .call b f es, x, sc, W, X, g, h => by
    have main : ∀ j, PE X x (tE C cf ca X.K EX W j (.call b f es)) := by
      have hm := h
      simp only [mE] at hm
      split at hm
      · rename_i y a as e
        obtain ⟨p, q, rfl⟩ := dCall_eq e
        simp only [Bool.and_eq_true, decide_eq_true_eq] at hm
        obtain ⟨⟨⟨⟨h1, h2⟩, h3⟩, h4⟩, h5⟩ := hm
        exact modes (c_call g h1 h2 h3 h4 (mEs_plain es _ h5) ((sEs es _ sc W X g h5).1 _ 0)) (fun _ _ => by simp only [ev])
      · cases hm
    exact ⟨main, t_val g (main 9) (mE_test _ _ h rfl X.env)⟩
  | .callD f es ss, x, sc, W, X, g, h => by
    have main : ∀ j, PE X x (tE C cf ca X.K EX W j (.callD f es ss)) := by
      have hm := h
      simp only [mE] at hm
      split at hm
      · rename_i y a as e
        obtain ⟨p, q, rfl⟩ := dCall_eq e
        simp only [Bool.and_eq_true, decide_eq_true_eq] at hm
        obtain ⟨⟨⟨⟨⟨h1, h2⟩, h6⟩, h3⟩, h4⟩, h5⟩ := hm
        exact modes (c_callD g h1 h2 h6 h3 h4 (mEs_plain es _ h5) ((sEs es _ sc W X g h5).1 _ 0)) (fun _ _ => by simp only [ev])
      · cases hm
    exact ⟨main, t_val g (main 9) (mE_test _ _ h rfl X.env)⟩
  | .blt f es, x, sc, W, X, g, h => by
    have main : ∀ j, PE X x (tE C cf ca X.K EX W j (.blt f es)) := by
      have hm := h
      by_cases hf : f = .maxd
      · subst hf
        simp only [mE] at hm
        split at hm
        · rename_i y a k b e
          obtain ⟨p, q, u, rfl⟩ := dCallK_eq e
          simp only [Bool.and_eq_true, decide_eq_true_eq] at hm
          obtain ⟨⟨⟨⟨h1, rfl⟩, rfl⟩, h4⟩, h5⟩ := hm
          match es, h5 with
          | .cons e1 (.cons e2 .nil), h5 =>
            simp only [mEs, Bool.and_eq_true] at h5
            exact modes (c_maxd g h1 h4 (mE_plain e1 a h5.1) ((sE e1 a sc W X g h5.1).1 1) ((sE e2 b sc W X g h5.2.1).1 1)) (fun _ _ => by simp only [ev])
          | .nil, h5 => simp [mEs] at h5
          | .cons _ .nil, h5 => simp [mEs] at h5
          | .cons _ (.cons _ (.cons _ _)), h5 => simp [mEs] at h5
        · cases hm
      · have h' : (match dCall x with
            | some (x, a, as) => (cal || f.cold) && decide (x = f.name) && glB sc x && mEs C cal N sc es (a :: as)
            | none => false) = true := by
          cases f <;> first | exact absurd rfl hf | (simp only [mE] at hm; exact hm)
        split at h'
        · rename_i y a as e
          obtain ⟨p, q, rfl⟩ := dCall_eq e
          simp only [Bool.and_eq_true, decide_eq_true_eq, Bool.or_eq_true] at h'
          obtain ⟨⟨⟨h1, rfl⟩, h3⟩, h4⟩ := h'
          exact modes (c_blt g hf h1.symm h3 (mEs_plain es _ h4) ((sEs es _ sc W X g h4).1 1 0)) (fun _ _ => by simp only [ev])
        · cases h'
    exact ⟨main, t_val g (main 9) (mE_test _ _ h rfl X.env)⟩
  | .isi a t, x, sc, W, X, g, h => by
    have main : ∀ j, PE X x (tE C cf ca X.K EX W j (.isi a t)) := by
      have hm := h
      simp only [mE] at hm
      split at hm
      · rename_i y u v e
        obtain ⟨p, q, rfl⟩ := dCall_eq e
        simp only [Bool.and_eq_true, decide_eq_true_eq] at hm
        obtain ⟨⟨⟨rfl, h2⟩, h3⟩, h4⟩ := hm
        split at h4
        · rename_i T e2
          obtain ⟨p2, rfl⟩ := dName_eq e2
          simp only [Bool.and_eq_true, decide_eq_true_eq] at h4
          obtain ⟨rfl, h5⟩ := h4
          exact modes (c_isi g h2 h5 (mE_plain a u h3) ((sE a u sc W X g h3).1 9)) (fun _ _ => by simp only [ev])
        · cases h4
      · cases hm
    exact ⟨main, t_val g (main 9) (mE_test _ _ h rfl X.env)⟩
  | .isx i k, x, sc, W, X, g, h => by
    have main : ∀ j, PE X x (tE C cf ca X.K EX W j (.isx i k)) := by
      have hm := h
      simp only [mE] at hm
      split at hm
      · rename_i y u v e
        obtain ⟨p, q, rfl⟩ := dCall_eq e
        simp only [Bool.and_eq_true, decide_eq_true_eq, Bool.not_eq_true'] at hm
        obtain ⟨⟨⟨h0, rfl⟩, h2⟩, h4⟩ := hm
        split at h4
        · rename_i n T e1 e2
          obtain ⟨p1, rfl⟩ := dName_eq e1
          obtain ⟨p2, rfl⟩ := dName_eq e2
          simp only [Bool.and_eq_true, decide_eq_true_eq] at h4
          obtain ⟨⟨⟨h5, h6⟩, h7⟩, h8⟩ := h4
          exact modes (c_isx g h0 h2 h5 h6 h7 h8) (fun _ _ => by simp only [ev])
        · cases h4
      · cases hm
    exact ⟨main, t_val g (main 9) (mE_test _ _ h rfl X.env)⟩
  | .isxs i ks, x, sc, W, X, g, h => by
    have main : ∀ j, PE X x (tE C cf ca X.K EX W j (.isxs i ks)) := by
      have hm := h
      simp only [mE] at hm
      split at hm
      · rename_i y u v e
        obtain ⟨p, q, rfl⟩ := dCall_eq e
        simp only [Bool.and_eq_true, decide_eq_true_eq, Bool.not_eq_true'] at hm
        obtain ⟨⟨⟨h0, rfl⟩, h2⟩, h4⟩ := hm
        split at h4
        · rename_i n T e1 e2
          obtain ⟨p1, rfl⟩ := dName_eq e1
          obtain ⟨kk, p2, rfl⟩ := dTup_eq e2
          simp only [Bool.and_eq_true, decide_eq_true_eq] at h4
          obtain ⟨⟨h5, h6⟩, h7⟩ := h4
          exact modes (c_isxs g h0 h2 h5 h6 h7) (fun _ _ => by simp only [ev])
        · cases h4
      · cases hm
    exact ⟨main, t_val g (main 9) (mE_test _ _ h rfl X.env)⟩
  | .comp hh elt t src cond, x, sc, W, X, g, h => by
    have main : ∀ j, PE X x (tE C cf ca X.K EX W j (.comp hh elt t src cond)) := by
      have hm := h
      simp only [mE] at hm
      split at hm
      · rename_i y tg it ifs sc' e
        obtain ⟨p, rfl⟩ := dComp_eq e
        simp only [Bool.and_eq_true] at hm
        obtain ⟨⟨⟨⟨⟨h1, h2⟩, h3⟩, h4⟩, h5⟩, h6⟩ := hm
        have hk := (blkOk_by h3).kind
        exact modes (c_comp g h1 (g.blkOk h3) (sSr src tg it sc W X g h2)
          (fun s H C' cl fp => g_tg (g.blk h1 hk s H C' cl fp) h1 h4)
          (fun s H C' cl fp => sIf cond ifs sc' W0 _ (g.blk h1 hk s H C' cl fp) h6)
          (fun s H C' cl fp => (sE elt y sc' W0 _ (g.blk h1 hk s H C' cl fp) h5).1 0) (mSr_plain src tg it h2)) (fun _ _ => by simp only [ev])
      · cases hm
    exact ⟨main, t_val g (main 9) (mE_test _ _ h rfl X.env)⟩
theorem sEs : ∀ (es : Es) (xs : List Expr) (sc : Scope) (W : WX) (X : Cx), Good C cal N sc cf ca EX W X → mEs C cal N sc es xs = true → (∀ j h, PA X xs (tEs C cf ca X.K EX W j h es)) ∧
    (es ≠ .nil → ∀ b p, PE X (.BoolOp (if b then .And else .Or) xs p) (tBo C cf ca X.K EX W b es) ∧ PW X (.BoolOp (if b then .And else .Or) xs p) (tBoT C cf ca X.K EX W b es))
  | .nil, [], sc, W, X, g, h => ⟨fun j hh => a_nil g, fun n => absurd rfl n⟩
  | .nil, _ :: _, sc, W, X, g, h => by simp [mEs] at h
  | .cons _ _, [], sc, W, X, g, h => by simp [mEs] at h
  | .cons e es, x :: xs, sc, W, X, g, h => by
    simp only [mEs, Bool.and_eq_true] at h
    have q1 := sE e x sc W X g h.1
    have q2 := sEs es xs sc W X g h.2
    refine ⟨fun j hh => a_cons g (mE_plain e x h.1) (q1.1 j) (q2.1 j hh), fun _ b p => ?_⟩
    match es, xs, h.2, q2.2 with
    | .nil, [], _, _ => exact ⟨bo_one g (q1.1 9), bt_one g q1.2⟩
    | .nil, _ :: _, h, _ => simp [mEs] at h
    | .cons _ _, [], h, _ => simp [mEs] at h
    | .cons e' es', y :: ys, _, q3 =>
      obtain ⟨q4, q5⟩ := q3 (by simp) b p
      refine ⟨?_, bt_cons g q1.2 q5⟩
      cases b with
      | true => exact bo_and g (q1.1 9) q4
      | false => exact bo_or g (q1.1 9) q4
theorem sEo : ∀ (e : Eo) (x : Option Expr) (sc : Scope) (W : WX) (X : Cx), Good C cal N sc cf ca EX W X → mEo C cal N sc e x = true → PO X x (tEo C cf ca X.K EX W e)
  | .no, none, sc, W, X, g, h => o_no g
  | .no, some _, sc, W, X, g, h => by simp [mEo] at h
  | .yes _, none, sc, W, X, g, h => by simp [mEo] at h
  | .yes e, some x, sc, W, X, g, h => o_yes g ((sE e x sc W X g (by simpa [mEo] using h)).1 9)
theorem sIf : ∀ (e : Eo) (xs : List Expr) (sc : Scope) (W : WX) (X : Cx), Good C cal N sc cf ca EX W X → mIf C cal N sc e xs = true → PTs X xs (tIf C cf ca X.K EX W e)
  | .no, [], sc, W, X, g, h => if_no
  | .no, _ :: _, sc, W, X, g, h => by simp [mIf] at h
  | .yes _, [], sc, W, X, g, h => by simp [mIf] at h
  | .yes _, _ :: _ :: _, sc, W, X, g, h => by simp [mIf] at h
  | .yes e, [x], sc, W, X, g, h => if_yes (sE e x sc W X g (by simpa [mIf] using h)).2
theorem sSr : ∀ (e : Sr) (tg x : Expr) (sc : Scope) (W : WX) (X : Cx), Good C cal N sc cf ca EX W X → mSr C cal N sc e tg x = true → PI X tg x (tSr C cf ca X.K EX W e)
  | .seq a, tg, x, sc, W, X, g, h => i_seq g ((sE a x sc W X g (by simpa [mSr] using h)).1 0)
  | .seqB a, tg, x, sc, W, X, g, h => i_seqB g ((sE a x sc W X g (by simpa [mSr] using h)).1 1)
  | .range es, tg, x, sc, W, X, g, h => by
    simp only [mSr] at h
    split at h
    · rename_i n a as e
      obtain ⟨p, q, rfl⟩ := dCall_eq e
      simp only [Bool.and_eq_true, decide_eq_true_eq] at h
      obtain ⟨⟨⟨rfl, h2⟩, h3⟩, h4⟩ := h
      have q1 := (sEs es _ sc W X g h4).1 9 0
      have hp := mEs_plain es _ h4
      match as, h3, q1, hp, h4 with
      | [], _, q1, hp, h4 =>
        refine i_range1 g h2 (hp a List.mem_cons_self) ?_ q1
        match es, h4 with
        | .cons _ .nil, _ => rfl
        | .nil, h4 => simp [mEs] at h4
        | .cons _ (.cons _ _), h4 => simp [mEs] at h4
      | [b], _, q1, hp, h4 =>
        refine i_range2 g h2 (hp a List.mem_cons_self) (hp b (by simp)) ?_ q1
        match es, h4 with
        | .cons _ (.cons _ .nil), _ => rfl
        | .nil, h4 => simp [mEs] at h4
        | .cons _ .nil, h4 => simp [mEs] at h4
        | .cons _ (.cons _ (.cons _ _)), h4 => simp [mEs] at h4
      | _ :: _ :: _, h3, _, _, _ => simp at h3
    · cases h
  | .keys i, tg, x, sc, W, X, g, h => by
    simp only [mSr] at h
    split at h
    · rename_i n e
      obtain ⟨p, rfl⟩ := dName_eq e
      exact i_keys g h
    · cases h
  | .revS a, tg, x, sc, W, X, g, h => by
    simp only [mSr] at h
    split at h
    · rename_i n y e
      obtain ⟨p, q, rfl⟩ := dCall_eq e
      simp only [Bool.and_eq_true, decide_eq_true_eq] at h
      obtain ⟨⟨rfl, h3⟩, h4⟩ := h
      exact i_revS g h3 (mE_plain a y h4) ((sE a y sc W X g h4).1 0)
    · cases h
  | .enum a, tg, x, sc, W, X, g, h => by
    simp only [mSr] at h
    split at h
    · rename_i n y e
      obtain ⟨p, q, rfl⟩ := dCall_eq e
      simp only [Bool.and_eq_true, decide_eq_true_eq] at h
      obtain ⟨⟨⟨h1, rfl⟩, h3⟩, h4⟩ := h
      exact i_enum g h1 h3 (mE_plain a y h4) ((sE a y sc W X g h4).1 0)
    · cases h
  | .zip a b, tg, x, sc, W, X, g, h => by
    simp only [mSr] at h
    split at h
    · rename_i n y z e
      obtain ⟨p, q, rfl⟩ := dCall_eq e
      simp only [Bool.and_eq_true, decide_eq_true_eq] at h
      obtain ⟨⟨⟨⟨h1, rfl⟩, h3⟩, h4⟩, h5⟩ := h
      exact i_zip g h1 h3 (mE_plain a y h4) (mE_plain b z h5) ((sE a y sc W X g h4).1 0) ((sE b z sc W X g h5).1 0)
    · cases h
end
end
end Ly

set_option Elab.async false
set_option linter.all false
set_option maxRecDepth 100000
set_option maxHeartbeats 2000000
/-! Statements: what they leave of a state; the cases. -/
namespace Ly
open PySem PySem.Spec PyProof.Rows L2
section
variable {K : PySem.W.Frag} {EX : Addr → Nat → Prop} {H0 H H' : Hp} {S : List Addr} {ts : List Tm} {σ : L2.St} {r : Env}

/-! ### one's own list is written -/
theorem Sta.lowS {i l l' : Nat} {ds : List D} (st : Sta K EX H0 S ts σ r H) (e : getv r i = some (l, .lst ds)) (h : l' ≤ l) : Sta K EX H0 S ts σ (r.set i (some (l', .lst ds))) H := by
  obtain ⟨o, x, e1, e2, f⟩ := st.slot i (getv_lt e)
  rw [getv_some e] at e2
  cases e2
  have q := f o (some (l', .lst ds)) [] fun hot A hs nd ns => by
    generalize hd : D.lst ds = d at hs
    generalize hx : some (l, d) = x at hs
    cases hs with
    | non => cases hx
    | exc _ => cases hx; cases hd
    | sm hr =>
      cases hx
      obtain ⟨B', s, g⟩ := hr.low h nd
      exact ⟨[], B', s, fun hot' h1 h2 h4 => ⟨.nil, .sm (hd ▸ g hot' h1 h2)⟩⟩
  rw [set_same e1] at q
  exact q
theorem Sta.peekL {i m : Nat} {ds : List D} (st : Sta K EX H0 S ts σ r H) (e : getv r i = some (m + 1, .lst ds)) : ∃ a vs, σ[i]? = some (some (.ref a)) ∧ H a = some (.lst vs) ∧ vs.length = ds.length := by
  obtain ⟨_, _, A, B, _, _, _, hS⟩ := st
  obtain ⟨o, x, _, A1, _, e1, e2, _, h1, _⟩ := hS.split i (getv_lt e)
  rw [getv_some e] at e2
  have e2' := Option.some.inj e2
  clear e2
  cases h1 with
  | non => cases e2'
  | exc h1 =>
    have z := congrArg Prod.snd (Option.some.inj e2')
    cases z
  | sm h1 =>
    cases e2'
    cases h1 with
    | lstS h hs => exact ⟨_, _, e1, h, hs.length⟩
theorem Sta.mutate {t1 : List Tm} {i k : Nat} {ds : List D} (st : Sta K EX H0 S (t1 ++ ts) σ r H) (mine : ∀ t ∈ ts, t.mine = true) (e : getv r i = some (k + 1, .lst ds)) : ∃ a vs, σ[i]? = some (some (.ref a)) ∧ H a = some (.lst vs) ∧ vs.length = ds.length ∧
    ∀ (vs' : List V) (ds' : List D), (∀ hot A1 A0, Tms K H S hot t1 A1 → Reps K H hot k vs ds A0 → (A1 ++ A0).Nodup → ∃ A', A'.Nodup ∧ (∀ b ∈ A', b ∈ A1 ++ A0) ∧ Reps K H hot k vs' ds' A') →
      Sta K EX H0 S ts σ (r.set i (some (k + 1, .lst ds'))) (upd H a (.lst vs')) := by
  obtain ⟨ex, sd, A, B, nd, new, hT, hS⟩ := st
  obtain ⟨A1, A2, rfl, h1, h2⟩ := Tms.split hT
  obtain ⟨o, x, B1, C, B2, e1, e2, rfl, h3, f⟩ := hS.split i (getv_lt e)
  rw [getv_some e] at e2
  have e2' := Option.some.inj e2
  clear e2
  cases h3 with
  | non => cases e2'
  | exc h3 =>
    have z := congrArg Prod.snd (Option.some.inj e2')
    cases z
  | sm h3 =>
    cases e2'
    cases h3 with
    | lstS h hs =>
      rename_i a vs A0
      refine ⟨a, vs, e1, h, hs.length, fun vs' ds' g => ?_⟩
      have perm : (A1 ++ A2 ++ (B1 ++ (a :: A0 ++ B2))).Perm (a :: ((A1 ++ A0) ++ (A2 ++ (B1 ++ B2)))) := by
        rw [List.perm_iff_count]
        intro b
        simp only [List.count_append, List.count_cons]
        omega
      have nd2 := perm.nodup_iff.mp nd
      obtain ⟨na, nd3⟩ := List.nodup_cons.mp nd2
      obtain ⟨n1, n2, n3⟩ := List.nodup_append.mp nd3
      obtain ⟨A', m1, m2, m3⟩ := g _ A1 A0 h1 hs n1
      have inh : ∀ b, b ∈ a :: ((A1 ++ A0) ++ (A2 ++ (B1 ++ B2))) → b ∈ A1 ++ A2 ++ (B1 ++ (a :: A0 ++ B2)) := fun b hb => perm.mem_iff.mpr hb
      have perm2 : (A2 ++ (B1 ++ (a :: A' ++ B2))).Perm (a :: (A' ++ (A2 ++ (B1 ++ B2)))) := by
        rw [List.perm_iff_count]
        intro b
        simp only [List.count_append, List.count_cons]
        omega
      have sub : ∀ b, b ∈ A2 ++ (B1 ++ (a :: A' ++ B2)) → b ∈ A1 ++ A2 ++ (B1 ++ (a :: A0 ++ B2)) := fun b hb => by
        refine inh b ?_
        rcases List.mem_cons.mp (perm2.mem_iff.mp hb) with z | z
        · exact List.mem_cons.mpr (.inl z)
        · refine List.mem_cons_of_mem _ ?_
          rcases List.mem_append.mp z with z | z
          · exact List.mem_append_left _ (m2 b z)
          · exact List.mem_append_right _ z
      have F : Fr H (upd H a (.lst vs')) S S (S ++ (A1 ++ A2 ++ (B1 ++ (a :: A0 ++ B2)))) (S ++ (A2 ++ (B1 ++ (a :: A' ++ B2)))) [a] := ⟨fun b hb o e => by rw [upd_ne (by simpa using hb)]; exact e, fun b hb => by
        obtain rfl : b = a := by simpa using hb
        exact .inl ⟨vs, h⟩, fun b hb => by
        obtain rfl : b = a := by simpa using hb
        exact List.mem_append_right _ (inh b List.mem_cons_self), fun b hb => by
        rcases List.mem_append.mp hb with z | z
        · exact .inl (List.mem_append_left _ z)
        · exact .inl (List.mem_append_right _ (sub b z)), fun b hb => List.mem_append_left _ hb, fun b hb => .inl hb⟩
      have nA : ∀ l : List Addr, (∀ b ∈ l, b ∈ (A1 ++ A0) ++ (A2 ++ (B1 ++ B2))) → ∀ b ∈ [a], b ∉ l := fun l hl b hb hm => by
        obtain rfl : b = a := by simpa using hb
        exact na (hl b hm)
      refine ⟨fun b u e' => ?_, fun b hb => ?_, A2, B1 ++ (a :: A' ++ B2), ?_, fun b hb => new b (sub b hb), h2.frame F (.inr mine) (nA _ fun b hb => List.mem_append_right _ (List.mem_append_left _ hb)), ?_⟩
      · rw [upd_ne (fun z => by subst z; rw [(new b (inh b List.mem_cons_self)).1] at e'; cases e')]
        exact ex b u e'
      · by_cases z : b = a
        · subst z; rw [upd_same]; exact fun z => nomatch z
        · rw [upd_ne z]; exact sd b hb
      · rw [perm2.nodup_iff]
        refine List.nodup_cons.mpr ⟨fun hm => na ?_, List.nodup_append.mpr ⟨m1, n2, fun b hb c hc e' => n3 b (m2 b hb) c hc e'⟩⟩
        rcases List.mem_append.mp hm with z | z
        · exact List.mem_append_left _ (m2 a z)
        · exact List.mem_append_right _ z
      · have q := f (upd H a (.lst vs')) S S _ [a] (some (.ref a)) (some (k + 1, .lst ds')) (a :: A') F (fun b hb => ⟨nA _ (fun b hb => List.mem_append_right _ (List.mem_append_right _ (List.mem_append_left _ hb))) b hb, nA _ (fun b hb => List.mem_append_right _ (List.mem_append_right _ (List.mem_append_right _ hb))) b hb⟩)
          (.sm (.lstS upd_same (m3.frame F.c1 F.c2 F.hX F.c4 (nA _ fun b hb => List.mem_append_left _ (m2 b hb)))))
        rw [set_same e1] at q
        exact q
theorem Sta.mutateG {t1 : List Tm} {i k : Nat} {t : Bool} {ks : List (List L2.Key)} {ds : List D} (st : Sta K EX H0 S (t1 ++ ts) σ r H) (mine : ∀ t ∈ ts, t.mine = true) (e : getv r i = some (k + 1, .dic t ks ds)) : ∃ a vs, σ[i]? = some (some (.ref a)) ∧ H a = some (dOb t ks vs) ∧ dOk t ks ∧ ks.length = vs.length ∧
    ∀ (ks' : List (List L2.Key)) (vs' : List V) (ds' : List D), dOk t ks' → ks'.length = vs'.length → (∀ hot A1 A0, Tms K H S hot t1 A1 → Reps K H hot k vs ds A0 → (A1 ++ A0).Nodup → ∃ A', A'.Nodup ∧ (∀ b ∈ A', b ∈ A1 ++ A0) ∧ Reps K H hot k vs' ds' A') →
      Sta K EX H0 S ts σ (r.set i (some (k + 1, .dic t ks' ds'))) (upd H a (dOb t ks' vs')) := by
  obtain ⟨ex, sd, A, B, nd, new, hT, hS⟩ := st
  obtain ⟨A1, A2, rfl, h1, h2⟩ := Tms.split hT
  obtain ⟨o, x, B1, C, B2, e1, e2, rfl, h3, f⟩ := hS.split i (getv_lt e)
  rw [getv_some e] at e2
  have e2' := Option.some.inj e2
  clear e2
  cases h3 with
  | non => cases e2'
  | exc h3 =>
    have z := congrArg Prod.snd (Option.some.inj e2')
    cases z
  | sm h3 =>
    cases e2'
    cases h3 with
    | dicS h ok hl hs =>
      rename_i a vs A0
      refine ⟨a, vs, e1, h, ok, hl, fun ks' vs' ds' ok' hl' g => ?_⟩
      have perm : (A1 ++ A2 ++ (B1 ++ (a :: A0 ++ B2))).Perm (a :: ((A1 ++ A0) ++ (A2 ++ (B1 ++ B2)))) := by
        rw [List.perm_iff_count]
        intro b
        simp only [List.count_append, List.count_cons]
        omega
      have nd2 := perm.nodup_iff.mp nd
      obtain ⟨na, nd3⟩ := List.nodup_cons.mp nd2
      obtain ⟨n1, n2, n3⟩ := List.nodup_append.mp nd3
      obtain ⟨A', m1, m2, m3⟩ := g _ A1 A0 h1 hs n1
      have inh : ∀ b, b ∈ a :: ((A1 ++ A0) ++ (A2 ++ (B1 ++ B2))) → b ∈ A1 ++ A2 ++ (B1 ++ (a :: A0 ++ B2)) := fun b hb => perm.mem_iff.mpr hb
      have perm2 : (A2 ++ (B1 ++ (a :: A' ++ B2))).Perm (a :: (A' ++ (A2 ++ (B1 ++ B2)))) := by
        rw [List.perm_iff_count]
        intro b
        simp only [List.count_append, List.count_cons]
        omega
      have sub : ∀ b, b ∈ A2 ++ (B1 ++ (a :: A' ++ B2)) → b ∈ A1 ++ A2 ++ (B1 ++ (a :: A0 ++ B2)) := fun b hb => by
        refine inh b ?_
        rcases List.mem_cons.mp (perm2.mem_iff.mp hb) with z | z
        · exact List.mem_cons.mpr (.inl z)
        · refine List.mem_cons_of_mem _ ?_
          rcases List.mem_append.mp z with z | z
          · exact List.mem_append_left _ (m2 b z)
          · exact List.mem_append_right _ z
      have F : Fr H (upd H a (dOb t ks' vs')) S S (S ++ (A1 ++ A2 ++ (B1 ++ (a :: A0 ++ B2)))) (S ++ (A2 ++ (B1 ++ (a :: A' ++ B2)))) [a] := ⟨fun b hb o e => by rw [upd_ne (by simpa using hb)]; exact e, fun b hb => by
        obtain rfl : b = a := by simpa using hb
        exact .inr ⟨t, ks, vs, .inl h⟩, fun b hb => by
        obtain rfl : b = a := by simpa using hb
        exact List.mem_append_right _ (inh b List.mem_cons_self), fun b hb => by
        rcases List.mem_append.mp hb with z | z
        · exact .inl (List.mem_append_left _ z)
        · exact .inl (List.mem_append_right _ (sub b z)), fun b hb => List.mem_append_left _ hb, fun b hb => .inl hb⟩
      have nA : ∀ l : List Addr, (∀ b ∈ l, b ∈ (A1 ++ A0) ++ (A2 ++ (B1 ++ B2))) → ∀ b ∈ [a], b ∉ l := fun l hl b hb hm => by
        obtain rfl : b = a := by simpa using hb
        exact na (hl b hm)
      refine ⟨fun b u e' => ?_, fun b hb => ?_, A2, B1 ++ (a :: A' ++ B2), ?_, fun b hb => new b (sub b hb), h2.frame F (.inr mine) (nA _ fun b hb => List.mem_append_right _ (List.mem_append_left _ hb)), ?_⟩
      · rw [upd_ne (fun z => by subst z; rw [(new b (inh b List.mem_cons_self)).1] at e'; cases e')]
        exact ex b u e'
      · by_cases z : b = a
        · subst z; rw [upd_same]; exact fun z => nomatch z
        · rw [upd_ne z]; exact sd b hb
      · rw [perm2.nodup_iff]
        refine List.nodup_cons.mpr ⟨fun hm => na ?_, List.nodup_append.mpr ⟨m1, n2, fun b hb c hc e' => n3 b (m2 b hb) c hc e'⟩⟩
        rcases List.mem_append.mp hm with z | z
        · exact List.mem_append_left _ (m2 a z)
        · exact List.mem_append_right _ z
      · have q := f (upd H a (dOb t ks' vs')) S S _ [a] (some (.ref a)) (some (k + 1, .dic t ks' ds')) (a :: A') F (fun b hb => ⟨nA _ (fun b hb => List.mem_append_right _ (List.mem_append_right _ (List.mem_append_left _ hb))) b hb, nA _ (fun b hb => List.mem_append_right _ (List.mem_append_right _ (List.mem_append_right _ hb))) b hb⟩)
          (.sm (.dicS upd_same ok' hl' (m3.frame F.c1 F.c2 F.hX F.c4 (nA _ fun b hb => List.mem_append_left _ (m2 b hb)))))
        rw [set_same e1] at q
        exact q
theorem Sta.mutateD {t1 : List Tm} {i k : Nat} {t : Bool} {ks : List (List L2.Key)} {ds : List D} (st : Sta K EX H0 S (t1 ++ ts) σ r H) (mine : ∀ t ∈ ts, t.mine = true) (e : getv r i = some (k + 1, .dic t ks ds)) : ∃ a vs, σ[i]? = some (some (.ref a)) ∧ H a = some (dOb t ks vs) ∧ dOk t ks ∧ ks.length = vs.length ∧
    ∀ (ks' : List (List L2.Key)) (vs' : List V) (ds' : List D), dOk t ks' → ks'.length = vs'.length → (∀ hot A1, Tms K H S hot t1 A1 → Reps K H hot 0 vs ds [] → Reps K H hot 0 vs' ds' []) →
      Sta K EX H0 S ts σ (r.set i (some (1, .dic t ks' ds'))) (upd H a (dOb t ks' vs')) := by
  have st1 := st.lowD e (l' := 1) (by omega)
  have e1 := getv_setO (l := 1) (d := .dic t ks ds) (getv_lt e)
  obtain ⟨a, vs, h1, h2, ok, hl, f⟩ := Sta.mutateG (k := 0) st1 mine e1
  refine ⟨a, vs, h1, h2, ok, hl, fun ks' vs' ds' ok' hl' g => ?_⟩
  have q := f ks' vs' ds' ok' hl' fun hot A1 A0 q1 q2 nd => by
    have e := q2.zero
    subst e
    exact ⟨[], .nil, by simp, g hot A1 q1 q2⟩
  rwa [List.set_set] at q
end

/-! ### statements -/
section
variable {C : Cfg} {cal : Bool} {N : List Str} {sc : Scope} {cf : Nat → List D → CR} {ca : Nat → Addr} {EX : Addr → Nat → Prop} {W : WX} {X : Cx} {K : PySem.W.Frag} {fu : Nat}
def PostS (K : PySem.W.Frag) (ca : Nat → Addr) (EX : Addr → Nat → Prop) (W : WX) (H0 : Hp) (S : List Addr) (ts : List Tm) (E : Ends) (o : O) : Prop :=
  match o with
  | .nx r => ∀ σ H, Sta K EX H0 S ts σ r H → E.nx σ H
  | .bk r => ∀ σ H, Sta K EX H0 S ts σ r H → E.bk σ H
  | .ct r => ∀ σ H, Sta K EX H0 S ts σ r H → E.ct σ H
  | .ret l d => ∀ v H' A, Same H0 H' → A.Nodup → (∀ a ∈ A, H0 a = none ∧ a ∉ S) → Rep K H' (S ++ A) l v d A → E.rt v H'
  | .exc r c => ∀ σ H, Sta K EX H0 S ts σ r H → W (.ref (ca c)) none σ H
  | .bad => False
def tS (K : PySem.W.Frag) (ca : Nat → Addr) (EX : Addr → Nat → Prop) (W : WX) (f : Env → O) : TS := fun E σ H => ∃ H0 S ts r, (∀ t ∈ ts, t.mine = true) ∧ Sta K EX H0 S ts σ r H ∧ PostS K ca EX W H0 S ts E (f r)
theorem PSimp {x : Stmt} {t t' : TS} (h : PS X x t) (i : ∀ E σ H, t' E σ H → t E σ H) : PS X x t' := ⟨fun pins s σ H E I q => h.run pins s σ H E I (i E σ H q)⟩
theorem PSsimp {x : List Stmt} {t t' : TS} (h : PSs X x t) (i : ∀ E σ H, t' E σ H → t E σ H) : PSs X x t' := ⟨fun pins s σ H E I q => h.run pins s σ H E I (i E σ H q)⟩
section
variable {H0 H : Hp} {S : List Addr} {ts : List Tm} {σ : L2.St} {r : Env} {En : Ends}
theorem PostS.toO {α : Type} {x : Ly.R α} {f : α → O} (h : PostS K ca EX W H0 S ts En (x.toO f)) : Post K ca EX W H0 S ts σ x fun a => PostS K ca EX W H0 S ts En (f a) := by
  cases x with
  | ok a => exact h
  | exc r c => exact fun H' st => h σ H' st
  | bad => exact h
end
/-- the context of statements -/
structure GoodS (C : Cfg) (cal : Bool) (N : List Str) (sc : Scope) (cf : Nat → List D → CR) (ca : Nat → Addr) (EX : Addr → Nat → Prop) (W : WX) (X : Cx) : Prop where
  g : Good C cal N sc cf ca EX W X
  esc : X.env.scope = sc
  po : cal = true → PassesOwn (model X.prog X.w) X.A X.env X.xe
  stk : X.stack = X.env :: X.outer
  frm : X.env.frame = some X.env.locals
  exK : ∀ (k : Nat) (T : Str), C.exs[k]? = some T → ∃ cv vv, RelV vv cv ∧ (∀ u, RelV vv u → u = cv) ∧ (X.mg T = some cv ∨ (X.mg T = none ∧ bootBuiltins T = some cv ∧ T ≠ "__name__")) ∧ ∀ c, PySem.W.kitOne X.K (.ref (ca c)) cv = some (C.sub c k) ∧ PySem.W.exmOne X.K (.ref (ca c)) cv = some (C.sub c k)
  exC : C.exs ≠ [] → ∀ c, ExcC X.K (ca c)
  rs : ∀ (k : Nat) (T : Str), C.exs[k]? = some T → k < C.nown → ∃ (newId initId B : String) (bmB : List Value), ExcBaseFacts B newId initId bmB ∧ PySem.W.excIn X.K (ca k) bmB newId = true ∧ X.mg T = some (.ref (ca k)) ∧ PySem.W.keepIn X.K (.ref (ca k)) = true ∧ Raises X (.ref (ca k))
section
variable (G : GoodS C cal N sc cf ca EX W X)
include G
theorem s_set0 {i h : Nat} {e : E} {x : Expr} {y : Str} {py p : Pos} (hi : N[i]? = some y) (hl : locB sc y = true) (hs : swapsWith x (some (.Name y py)) p.line X.env = pure false) (he : PE X x (tE C cf ca X.K EX W 0 e)) :
    PS X (.Assign [.Name y py] x p) (tS X.K ca EX W (evS C.G C.sub cf fu (.set i h e))) := by
  obtain ⟨l1, l2⟩ := G.g.loc hl
  refine PSimp (ps_set (by rw [G.g.hN]; exact G.g.nd) (by rw [G.g.hN]; exact hi) l1 he hs l2) fun E σ H z => ?_
  obtain ⟨H0, S, ts, r, mine, st, z⟩ := z
  simp only [evS] at z
  exact ⟨H0, S, ts, r, st, z.toO.imp fun a1 k v H1 st1 => k _ _ ((Sta.lowT st1 (Nat.min_le_left ..)).store i)⟩
theorem s_drop {e : E} {x : Expr} {p : Pos} (hs : swapsWith x none p.line X.env = pure false) (he : PE X x (tE C cf ca X.K EX W 9 e)) : PS X (.Expr x p) (tS X.K ca EX W (evS C.G C.sub cf fu (.drop e))) := by
  refine PSimp (ps_expr he hs) fun E σ H z => ?_
  obtain ⟨H0, S, ts, r, mine, st, z⟩ := z
  simp only [evS] at z
  exact ⟨H0, S, ts, r, st, z.toO.imp fun a1 k v H1 st1 => k _ _ (Sta.pop st1)⟩
theorem s_ret {e : E} {x : Expr} {p : Pos} (he : PE X x (tE C cf ca X.K EX W 0 e)) : PS X (.Return (some x) p) (tS X.K ca EX W (evS C.G C.sub cf fu (.ret e))) := by
  refine PSimp (ps_ret he) fun E σ H z => ?_
  obtain ⟨H0, S, ts, r, mine, st, z⟩ := z
  simp only [evS] at z
  refine ⟨H0, S, ts, r, st, z.toO.imp fun a1 k v H1 st1 => ?_⟩
  obtain ⟨ex, sd, A, B, nd, new, hT, hS⟩ := st1
  obtain ⟨A1, A2, rfl, h1, h2⟩ := Tms.split (t1 := [_]) hT
  have h1 := h1.one
  cases h1 with
  | own h1 =>
    refine k v H1 A1 ex (List.nodup_append.mp (List.nodup_append.mp nd).1).1 (fun a ha => new a (List.mem_append_left _ (List.mem_append_left _ ha))) (h1.hot fun a ha => ?_)
    rcases List.mem_append.mp ha with z | z
    · exact List.mem_append_left _ z
    · exact List.mem_append_right _ (List.mem_append_left _ (List.mem_append_left _ z))
theorem s_retN {p : Pos} : PS X (.Return none p) (tS X.K ca EX W (evS C.G C.sub cf fu .retN)) := by
  refine PSimp ps_retN fun E σ H z => ?_
  obtain ⟨H0, S, ts, r, mine, st, z⟩ := z
  simp only [evS] at z
  exact z .non H [] st.ex .nil (by simp) (.non 0)
theorem s_nx {x : Stmt} {s : S} (h : PS X x tNext) (e : ∀ r, evS C.G C.sub cf fu s r = .nx r) : PS X x (tS X.K ca EX W (evS C.G C.sub cf fu s)) := by
  refine PSimp h fun E σ H z => ?_
  obtain ⟨H0, S, ts, r, mine, st, z⟩ := z
  rw [e] at z
  exact z σ H st
theorem s_brk {p : Pos} : PS X (.Break p) (tS X.K ca EX W (evS C.G C.sub cf fu .brk)) := by
  refine PSimp ps_break fun E σ H z => ?_
  obtain ⟨H0, S, ts, r, mine, st, z⟩ := z
  exact z σ H st
theorem s_cont {p : Pos} : PS X (.Continue p) (tS X.K ca EX W (evS C.G C.sub cf fu .cont)) := by
  refine PSimp ps_continue fun E σ H z => ?_
  obtain ⟨H0, S, ts, r, mine, st, z⟩ := z
  exact z σ H st
theorem s_ife {c : E} {x : Expr} {a b : B} {xs ys : List Stmt} {p : Pos} (hc : PT X x (tT C cf ca X.K EX W c)) (ha : PSs X xs (tS X.K ca EX W (evB C.G C.sub cf fu a))) (hb : PSs X ys (tS X.K ca EX W (evB C.G C.sub cf fu b))) :
    PS X (.If x xs ys p) (tS X.K ca EX W (evS C.G C.sub cf fu (.ife c a b))) := by
  refine PSimp (ps_if hc ha hb) fun E σ H z => ?_
  obtain ⟨H0, S, ts, r, mine, st, z⟩ := z
  simp only [evS] at z
  refine ⟨H0, S, ts, r, st, z.toO.imp fun a1 k => ?_⟩
  obtain ⟨r1, l1, d1⟩ := a1
  cases d1 <;> first | exact k.elim | skip
  rename_i b
  refine ⟨b, rfl, fun H1 st1 => ?_⟩
  cases b with
  | true => exact ⟨H0, S, ts, r1, mine, st1, k⟩
  | false => exact ⟨H0, S, ts, r1, mine, st1, k⟩
theorem b_nil : PSs X [] (tS X.K ca EX W (evB C.G C.sub cf fu .nil)) := by
  refine PSsimp pss_nil fun E σ H z => ?_
  obtain ⟨H0, S, ts, r, mine, st, z⟩ := z
  exact z σ H st
theorem b_cons {s : S} {b : B} {x : Stmt} {xs : List Stmt} (hs : PS X x (tS X.K ca EX W (evS C.G C.sub cf fu s))) (hb : PSs X xs (tS X.K ca EX W (evB C.G C.sub cf fu b))) : PSs X (x :: xs) (tS X.K ca EX W (evB C.G C.sub cf fu (.cons s b))) := by
  refine PSsimp (pss_cons hs hb) fun E σ H z => ?_
  obtain ⟨H0, S, ts, r, mine, st, z⟩ := z
  refine ⟨H0, S, ts, r, mine, st, ?_⟩
  rw [evB] at z
  revert z
  cases evS C.G C.sub cf fu s r with
  | nx r1 => exact fun z σ H st1 => ⟨H0, S, ts, r1, mine, st1, z⟩
  | _ => exact id
end
end
end Ly

set_option Elab.async false
set_option linter.all false
set_option maxRecDepth 100000
set_option maxHeartbeats 2000000
/-! Statements: lists that are written, loops, errors. -/
namespace Ly
open PySem PySem.Spec PyProof.Rows L2
section
variable {C : Cfg} {cal : Bool} {N : List Str} {sc : Scope} {cf : Nat → List D → CR} {ca : Nat → Addr} {EX : Addr → Nat → Prop} {W : WX} {X : Cx} {K : PySem.W.Frag} {fu : Nat}
theorem Reps.set {H : Hp} {hot : List Addr} {k : Nat} : ∀ {vs : List V} {ds : List D} {A B : List Addr} {q : Nat} {v : V} {d : D}, Reps K H hot k vs ds A → Rep K H hot k v d B → q < ds.length → (B ++ A).Nodup → ∃ A', A'.Nodup ∧ (∀ b ∈ A', b ∈ B ++ A) ∧ Reps K H hot k (vs.set q v) (ds.set q d) A'
  | _, _, _, _, _, _, _, .nil _, _, hq, _ => by simp at hq
  | _, _, _, B, 0, v, d, .cons (A := A) (B := A2) h hs, hr, _, nd => by
    obtain ⟨n1, n2, n3⟩ := List.nodup_append.mp nd
    obtain ⟨n4, n5, n6⟩ := List.nodup_append.mp n2
    refine ⟨B ++ A2, List.nodup_append.mpr ⟨n1, n5, fun a ha b hb => n3 a ha b (List.mem_append_right _ hb)⟩, fun b hb => ?_, .cons hr hs⟩
    rcases List.mem_append.mp hb with z | z
    · exact List.mem_append_left _ z
    · exact List.mem_append_right _ (List.mem_append_right _ z)
  | _, _, _, B, q + 1, v, d, .cons (A := A) (B := A2) h hs, hr, hq, nd => by
    obtain ⟨n1, n2, n3⟩ := List.nodup_append.mp nd
    obtain ⟨n4, n5, n6⟩ := List.nodup_append.mp n2
    obtain ⟨A', m1, m2, m3⟩ := Reps.set (q := q) hs hr (by simpa using hq) (List.nodup_append.mpr ⟨n1, n5, fun a ha b hb => n3 a ha b (List.mem_append_right _ hb)⟩)
    refine ⟨A ++ A', List.nodup_append.mpr ⟨n4, m1, fun a ha b hb e => ?_⟩, fun b hb => ?_, .cons h m3⟩
    · rcases List.mem_append.mp (m2 b hb) with z | z
      · exact n3 b z a (List.mem_append_left _ ha) e.symm
      · exact n6 a ha b z e
    · rcases List.mem_append.mp hb with z | z
      · exact List.mem_append_right _ (List.mem_append_left _ z)
      · rcases List.mem_append.mp (m2 b z) with z | z
        · exact List.mem_append_left _ z
        · exact List.mem_append_right _ (List.mem_append_right _ z)
theorem Reps.dropLast0 {H : Hp} {hot : List Addr} : ∀ {vs : List V} {ds : List D} {A : List Addr}, Reps K H hot 0 vs ds A → Reps K H hot 0 vs.dropLast ds.dropLast []
  | _, _, _, .nil _ => .nil _
  | _, _, _, .cons h (.nil _) => .nil _
  | _, _, _, .cons h (.cons h2 hs) => by
    have q := Reps.dropLast0 (.cons h2 hs)
    have e := h.zero
    subst e
    exact Reps.cons (A := []) h q
theorem getv_set {r : Env} {i l : Nat} {d : D} (h : i < r.length) : getv (r.set i (some (l, d))) i = some (l, d) := by
  unfold getv
  rw [List.getElem?_set_self h]
theorem list_of_slot {H0 H : Hp} {S : List Addr} {ts : List Tm} {σ : L2.St} {r : Env} {i m : Nat} {ds : List D} (st : Sta K EX H0 S ts σ r H) (e : getv r i = some (m + 1, .lst ds)) : ∃ a, σ[i]? = some (some (.ref a)) ∧ tyV K "list" (.ref a) H := by
  obtain ⟨a, vs, h1, h2, h3⟩ := st.peekL e
  exact ⟨a, h1, .inl ⟨rfl, vs, SqL.of h2⟩⟩
theorem Sta.openB {H0 H : Hp} {S : List Addr} {ts : List Tm} {σ : L2.St} {r : Env} {v : V} {d : D} {xs : List D} (st : Sta K EX H0 S (.brw v 1 d :: ts) σ r H) (e : itemsOf d = some xs) : ∃ b zs, v = .ref b ∧ (SqL K H b zs ∨ SqT K H b zs) ∧ zs.length = xs.length ∧ Sta K EX H0 S (.brws zs 0 xs :: ts) σ r H := by
  obtain ⟨ex, sd, A, B, nd, new, hT, hS⟩ := st
  cases hT with
  | cons h hs =>
    cases h with
    | brw h =>
      cases d <;> simp only [itemsOf, reduceCtorEq] at e
      · cases e
        obtain ⟨a, vs, rfl, h1, h2⟩ := h.tup_ex
        exact ⟨a, vs, rfl, .inr h1, h2.length, ex, sd, _, B, nd, new, Tms.cons (A := []) (.brws h2) hs, hS⟩
      · cases e
        obtain ⟨a, vs, rfl, h1, h2⟩ := h.lst_ex
        exact ⟨a, vs, rfl, .inl h1, h2.length, ex, sd, _, B, nd, new, Tms.cons (A := []) (.brws h2) hs, hS⟩
theorem Sta.scAt {H0 H : Hp} {S : List Addr} {ts : List Tm} {σ : L2.St} {r : Env} {i l : Nat} {d : D} (st : Sta K EX H0 S ts σ r H) (e : getv r i = some (l, d)) : ∃ v, σ[i]? = some (some v) ∧ (∀ n, d = .int n → v = .int n) ∧ ∀ n, d = .str n → v = .str n := by
  obtain ⟨_, _, A, B, _, _, _, hS⟩ := st
  obtain ⟨o, x, _, A1, _, e1, e2, _, h1, _⟩ := hS.split i (getv_lt e)
  rw [getv_some e] at e2
  have e2' := Option.some.inj e2
  clear e2
  cases h1 with
  | non => cases e2'
  | exc h1 =>
    have z := congrArg Prod.snd (Option.some.inj e2')
    exact ⟨_, e1, ⟨fun n e => (by rw [e] at z; cases z), fun n e => (by rw [e] at z; cases z)⟩⟩
  | sm h1 =>
    cases e2'
    refine ⟨_, e1, ⟨fun n e => ?_, fun n e => ?_⟩⟩
    · subst e
      cases h1
      rfl
    · subst e
      cases h1
      rfl
theorem Sta.intAt {H0 H : Hp} {S : List Addr} {ts : List Tm} {σ : L2.St} {r : Env} {i l : Nat} {d : D} (st : Sta K EX H0 S ts σ r H) (e : getv r i = some (l, d)) : ∃ v, σ[i]? = some (some v) ∧ ∀ n, d = .int n → v = .int n := by
  obtain ⟨v, h1, h2, _⟩ := st.scAt e
  exact ⟨v, h1, h2⟩
/-- in place: whole numbers and texts -/
def ipIS : TIp := fun x y H Q => (∃ i j, x = .int i ∧ y = .int j ∧ Q (.int (i + j)) H) ∨ ∃ i j, x = .str i ∧ y = .str j ∧ i.length + j.length ≤ sizeLine ∧ Q (.str (i ++ j)) H
theorem ip_addIS {X : Cx} : PIp X .Add ipIS := by
  intro pins s σ H x y v u Q I r1 r2 h
  rcases h with h | h
  · exact ip_add pins s σ H x y v u Q I r1 r2 h
  · exact iop_add_str pins s σ H x y v u Q I r1 r2 h
section
variable (G : GoodS C cal N sc cf ca EX W X)
include G
theorem s_app {i : Nat} {e : E} {x : Expr} {y : Str} {p1 p2 p3 p4 : Pos} (hy : mVar N sc i y = true) (hl : (p2.endLine == p3.line) = true) (hx : plainX x = true) (he : PE X x (tE C cf ca X.K EX W 0 e)) :
    PS X (.Expr (.Call (.Attribute (.Name y p1) "append" p2) [x] [] p3) p4) (tS X.K ca EX W (evS C.G C.sub cf fu (.app i e))) := by
  have hs := star_cons (env := X.env) (xs := []) hx
  refine PSimp (ps_expr (pe_bm F.plainAttrs_list F.slot_list_append (by with_unfolding_all rfl) mt_append (mVar_ok G.g hy p1) (pa_cons he pa_nil hs) rfl (few1 hx) hl hs)) fun En σ H z => ?_
  obtain ⟨H0, S, ts, r, mine, st, z⟩ := z
  simp only [evS] at z
  split at z
  · rename_i m0 ds0 e0
    obtain ⟨a, h1, h2⟩ := list_of_slot st e0
    refine ⟨.ref a, h1, h2, H0, S, ts, r, st, z.toO.imp fun a1 k v H1 st1 => ?_⟩
    obtain ⟨r1, l1, d1⟩ := a1
    simp only at k st1
    split at k
    · rename_i m ds e1
      split at k
      · rename_i hz
        have st2 := Sta.lowS (l' := min m l1 + 1) (Sta.lowT st1 (Nat.min_le_right m l1)) e1 (by omega)
        have e2 := getv_set (l := min m l1 + 1) (d := .lst ds) (getv_lt e1)
        obtain ⟨b, vs, h3, h4, h5, f⟩ := Sta.mutate (t1 := [_]) st2 mine e2
        rw [h1] at h3
        cases h3
        refine ⟨a, vs, v, rfl, rfl, h4, by rw [h5, ← ln_eq]; exact hz, ?_⟩
        have q := f (vs ++ [v]) (ds ++ [d1]) fun hot A1 A0 q1 q2 nd => by
          refine ⟨A0 ++ A1, ?_, fun b hb => ?_, ?_⟩
          · exact (List.perm_append_comm).nodup_iff.mp nd
          · exact (List.perm_append_comm).mem_iff.mp hb
          · have := q2.append (.cons q1.own1 (.nil _))
            rwa [List.append_nil] at this
        rw [List.set_set] at q
        exact k _ _ q
      · exact k.elim
    · exact k.elim
  · exact z.elim
theorem s_ext {i : Nat} {e : E} {x : Expr} {y : Str} {p1 p2 p3 p4 : Pos} (hy : mVar N sc i y = true) (hl : (p2.endLine == p3.line) = true) (hx : plainX x = true) (he : PE X x (tE C cf ca X.K EX W 1 e)) :
    PS X (.Expr (.Call (.Attribute (.Name y p1) "extend" p2) [x] [] p3) p4) (tS X.K ca EX W (evS C.G C.sub cf fu (.ext i e))) := by
  have hs := star_cons (env := X.env) (xs := []) hx
  refine PSimp (ps_expr (pe_bm F.plainAttrs_list F.slot_list_extend (by with_unfolding_all rfl) mt_extA (mVar_ok G.g hy p1) (pa_cons he pa_nil hs) rfl (few1 hx) hl hs)) fun En σ H z => ?_
  obtain ⟨H0, S, ts, r, mine, st, z⟩ := z
  simp only [evS] at z
  split at z
  · rename_i m0 ds0 e0
    obtain ⟨a, h1, h2⟩ := list_of_slot st e0
    refine ⟨.ref a, h1, h2, H0, S, ts, r, st, z.toO.imp fun a1 k v H1 st1 => ?_⟩
    obtain ⟨r1, l1, d1⟩ := a1
    simp only at k st1
    split at k
    · rename_i m ds e1
      split at k
      · rename_i xs ex
        split at k
        · rename_i hz
          have st2 := Sta.lowS (l' := 0 + 1) st1 e1 (by omega)
          have e2 := getv_set (l := 0 + 1) (d := .lst ds) (getv_lt e1)
          obtain ⟨b, zs, rfl, hb, hlen, st3⟩ := Sta.openB st2 ex
          obtain ⟨b', vs, h3, h4, h5, f⟩ := Sta.mutate (t1 := [_]) st3 mine e2
          rw [h1] at h3
          cases h3
          refine ⟨a, b, vs, zs, rfl, rfl, h4, hb, by rw [h5, hlen, ← ln_eq]; exact hz, ?_⟩
          have q := f (vs ++ zs) (ds ++ xs) fun hot A1 A0 q1 q2 nd => ⟨A0, (List.nodup_append.mp nd).2.1, fun b hb => List.mem_append_right _ hb, by
            have := q2.append q1.brws1.zero
            rwa [List.append_nil] at this⟩
          rw [List.set_set] at q
          exact k _ _ q
        · exact k.elim
      · exact k.elim
    · exact k.elim
  · exact z.elim
theorem s_clear {i : Nat} {y : Str} {p1 p2 p3 p4 : Pos} (hy : mVar N sc i y = true) (hl : (p2.endLine == p3.line) = true) :
    PS X (.Expr (.Call (.Attribute (.Name y p1) "clear" p2) [] [] p3) p4) (tS X.K ca EX W (evS C.G C.sub cf fu (.clear i))) := by
  refine PSimp (ps_expr (pe_bm0 F.plainAttrs_list F.slot_list_clear (by with_unfolding_all rfl) mt_clear (mVar_ok G.g hy p1) rfl hl)) fun En σ H z => ?_
  obtain ⟨H0, S, ts, r, mine, st, z⟩ := z
  simp only [evS] at z
  split at z
  · rename_i m ds e1
    obtain ⟨a, h1, h2⟩ := list_of_slot st e1
    have st2 := Sta.lowS (l' := 0 + 1) st e1 (by omega)
    have e2 := getv_set (l := 0 + 1) (d := .lst ds) (getv_lt e1)
    obtain ⟨b, vs, h3, h4, h5, f⟩ := Sta.mutate (t1 := []) st2 mine e2
    rw [h1] at h3
    cases h3
    refine ⟨.ref a, h1, h2, a, vs, rfl, rfl, h4, ?_⟩
    have q := f [] [] fun hot A1 A0 q1 q2 nd => ⟨[], .nil, by simp, .nil _⟩
    rw [List.set_set] at q
    exact z _ _ q
  · exact z.elim
theorem s_pop {i : Nat} {y : Str} {p1 p2 p3 p4 : Pos} (hy : mVar N sc i y = true) (hl : (p2.endLine == p3.line) = true) :
    PS X (.Expr (.Call (.Attribute (.Name y p1) "pop" p2) [] [] p3) p4) (tS X.K ca EX W (evS C.G C.sub cf fu (.popS i))) := by
  refine PSimp (ps_expr (pe_bm0 F.plainAttrs_list F.slot_list_pop (by with_unfolding_all rfl) mt_pop (mVar_ok G.g hy p1) rfl hl)) fun En σ H z => ?_
  obtain ⟨H0, S, ts, r, mine, st, z⟩ := z
  simp only [evS] at z
  split at z
  · rename_i m ds e1
    split at z
    · exact z.elim
    · rename_i hne
      obtain ⟨a, h1, h2⟩ := list_of_slot st e1
      have st2 := Sta.lowS (l' := 0 + 1) st e1 (by omega)
      have e2 := getv_set (l := 0 + 1) (d := .lst ds) (getv_lt e1)
      obtain ⟨b, vs, h3, h4, h5, f⟩ := Sta.mutate (t1 := []) st2 mine e2
      rw [h1] at h3
      cases h3
      have hpos : 0 < ds.length := by
        cases ds with
        | nil => simp at hne
        | cons _ _ => simp
      have hlt : vs.length - 1 < vs.length := by omega
      refine ⟨.ref a, h1, h2, a, vs, vs[vs.length - 1], rfl, rfl, h4, List.getElem?_eq_getElem hlt, ?_⟩
      have q := f vs.dropLast ds.dropLast fun hot A1 A0 q1 q2 nd => ⟨[], .nil, by simp, Reps.dropLast0 q2⟩
      rw [List.set_set] at q
      exact z _ _ q
  · exact z.elim
theorem s_aug {i : Nat} {o : Bo} {op : Operator} {e : E} {x : Expr} {y : Str} {p p2 : Pos} (hi : N[i]? = some y) (hl : locB sc y = true) (ho : (o = .add ∧ op = .Add) ∨ (o = .sub ∧ op = .Sub)) (he : PE X x (tE C cf ca X.K EX W 9 e)) :
    PS X (.AugAssign (.Name y p2) op x p) (tS X.K ca EX W (evS C.G C.sub cf fu (.aug i o e))) := by
  obtain ⟨l1, l2⟩ := G.g.loc hl
  have hN : X.N.Nodup := by rw [G.g.hN]; exact G.g.nd
  have hi' : X.N[i]? = some y := by rw [G.g.hN]; exact hi
  rcases ho with ⟨rfl, rfl⟩ | ⟨rfl, rfl⟩
  · refine PSimp (ps_aug hN hi' l1 he ip_addIS l2) fun En σ H z => ?_
    obtain ⟨H0, S, ts, r, mine, st, z⟩ := z
    simp only [evS] at z
    split at z
    · rename_i l d e0
      obtain ⟨v, h1, h2, h3⟩ := st.scAt e0
      refine ⟨v, h1, H0, S, ts, r, st, z.toO.imp fun a1 k w H1 st1 => ?_⟩
      obtain ⟨r1, lw, dw⟩ := a1
      obtain ⟨hot, rp⟩ := Sta.peek st1
      simp only at k rp st1
      cases d <;> cases dw <;> simp only at k
      all_goals first | exact k.elim | skip
      · exact .inl ⟨_, _, h2 _ rfl, rp.int_eq, k _ _ (((Sta.pop st1).push0 fun _ => .int 0 _).store i)⟩
      · split at k
        · rename_i hz
          exact .inr ⟨_, _, h3 _ rfl, rp.str_eq, by rw [← ln_eq]; exact hz, k _ _ (((Sta.pop st1).push0 fun _ => .str 0 _).store i)⟩
        · exact k.elim
    · exact z.elim
  · refine PSimp (ps_aug hN hi' l1 he ip_sub l2) fun En σ H z => ?_
    obtain ⟨H0, S, ts, r, mine, st, z⟩ := z
    simp only [evS] at z
    split at z
    · rename_i l d e0
      obtain ⟨v, h1, h2⟩ := st.intAt e0
      refine ⟨v, h1, H0, S, ts, r, st, z.toO.imp fun a1 k w H1 st1 => ?_⟩
      obtain ⟨r1, lw, dw⟩ := a1
      obtain ⟨hot, rp⟩ := Sta.peek st1
      simp only at k rp st1
      cases d <;> cases dw <;> simp only at k
      all_goals first | exact k.elim | skip
      exact ⟨_, _, h2 _ rfl, rp.int_eq, k _ _ (((Sta.pop st1).push0 fun _ => .int 0 _).store i)⟩
    · exact z.elim
theorem s_seti {i : Nat} {k e : E} {x u : Expr} {y : Str} {p p1 p2 : Pos} (hy : mVar N sc i y = true) (hu : PE X u (tE C cf ca X.K EX W 9 k)) (he : PE X x (tE C cf ca X.K EX W 0 e)) (hx : plainX x = true) (hpu : plainX u = true) :
    PS X (.Assign [.Subscript (.Name y p1) u p2] x p) (tS X.K ca EX W (evS C.G C.sub cf fu (.seti i k e))) := by
  refine PSimp (ps_asg he (pg_sub (mVar_ok G.g hy p1) hu set_list (by intro _; cases u <;> first | rfl | cases hpu)) (by cases x <;> first | rfl | cases hx) rfl) fun En σ H z => ?_
  obtain ⟨H0, S, ts, r, mine, st, z⟩ := z
  simp only [evS] at z
  split at z
  · rename_i m0 ds0 e0
    obtain ⟨a, h1, h2⟩ := list_of_slot st e0
    refine ⟨H0, S, ts, r, st, z.toO.imp fun a1 k v H1 st1 => ?_⟩
    refine ⟨.ref a, h1, H0, S, _, _, st1, (Post.deep k.toO).imp fun a2 k w H2 st2 => ?_⟩
    obtain ⟨r1, l1, d1⟩ := a1
    obtain ⟨r2, l2, d2⟩ := a2
    obtain ⟨hot, rp⟩ := Sta.peek st2
    have st3 := Sta.pop st2
    simp only at k rp st3
    split at k
    · rename_i m ds pp e1
      split at k
      · rename_i q eq
        have st4 := Sta.lowS (l' := min m l1 + 1) (Sta.lowT st3 (Nat.min_le_right m l1)) e1 (by omega)
        have e2 := getv_set (l := min m l1 + 1) (d := .lst ds) (getv_lt e1)
        obtain ⟨b, vs, h3, h4, h5, f⟩ := Sta.mutate (t1 := [_]) st4 mine e2
        rw [h1] at h3
        cases h3
        refine ⟨a, vs, pp, q, rfl, rp.int_eq, h4, by rw [h5]; exact eq, ?_⟩
        have qq := f (vs.set q v) (ds.set q d1) fun hot A1 A0 q1 q2 nd => Reps.set q2 q1.own1 (by
          obtain ⟨k1, k2, k3, k4⟩ := ixN_seq eq
          omega) nd
        rw [List.set_set] at qq
        exact k _ _ qq
      · exact k.elim
    · exact k.elim
  · exact z.elim
theorem s_dput {i : Nat} {k e : E} {x u : Expr} {y : Str} {p p1 p2 : Pos} (hy : mVar N sc i y = true) (hu : PE X u (tE C cf ca X.K EX W 9 k)) (he : PE X x (tE C cf ca X.K EX W 0 e)) (hx : plainX x = true) (hpu : plainX u = true) :
    PS X (.Assign [.Subscript (.Name y p1) u p2] x p) (tS X.K ca EX W (evS C.G C.sub cf fu (.dput i k e))) := by
  refine PSimp (ps_dput (by have := G.g.un; omega) (mVar_ok G.g hy p1) hu he (by cases x <;> first | rfl | cases hx)) fun En σ H z => ?_
  obtain ⟨H0, S, ts, r, mine, st, z⟩ := z
  simp only [evS] at z
  split at z
  · rename_i m0 t0 ks0 ds0 e0
    refine ⟨H0, S, ts, r, st, z.toO.imp fun a1 k v H1 st1 => ?_⟩
    obtain ⟨a, vs0, h1, _⟩ := Sta.mutateD (t1 := []) st mine e0
    refine ⟨.ref a, h1, H0, S, _, _, st1, (Post.deep k.toO).imp fun a2 k w H2 st2 => ?_⟩
    obtain ⟨r1, l1, d1⟩ := a1
    obtain ⟨r2, l2, d2⟩ := a2
    obtain ⟨hot, rp⟩ := Sta.peek st2
    have st3 := Sta.lowT (Sta.pop st2) (Nat.zero_le _)
    simp only at k rp st3
    split at k
    · rename_i m t ks ds e1
      split at k
      · rename_i q eq
        split at k
        · rename_i hz
          obtain ⟨b, vs, h3, h4, ok, hl, f⟩ := Sta.mutateD (t1 := [_]) st3 mine e1
          rw [h1] at h3
          cases h3
          have hk := key_is rp eq
          refine ⟨a, _, rfl, dput_of h4 ok hl (by rw [← ln_eq]; exact hz) hk, ?_⟩
          refine k _ _ (f (dputK ks q) (dputV ks vs q v) (dputV ks ds q d1) (dOk_put ok hk.one) (dputK_len ks vs q v hl) fun hot A1 q1 q2 => ?_)
          have q3 := q1.own1
          have e3 := q3.zero
          subst e3
          exact Reps.dput q q2 q3
        · exact k.elim
      · exact k.elim
    · exact k.elim
  · exact z.elim
omit G in
theorem hasK_iff {κ : Type} [DecidableEq κ] {ks : List κ} {q : κ} : hasK ks q = true ↔ q ∈ ks := by
  unfold hasK
  exact decide_eq_true_iff
omit G in
theorem val_mem {α : Type} [DecidableEq α] (q : α) : ∀ {ks : List α} {vs : List V}, ks.length = vs.length → ((valV (ks.zip vs) q).isSome = true ↔ q ∈ ks)
  | [], [], _ => by simp [valV]
  | [], _ :: _, h => by simp at h
  | _ :: _, [], h => by simp at h
  | k :: ks, v :: vs, h => by
    rw [List.zip_cons_cons]
    by_cases e : k = q
    · rw [valV_pos e]; simp [e]
    · rw [valV_neg e, val_mem q (by simpa using h)]
      have : ¬ q = k := fun z => e z.symm
      simp [this]
theorem s_dsd {i : Nat} {k e : E} {x u : Expr} {y : Str} {p1 p2 p3 p4 : Pos} (hy : mVar N sc i y = true) (hl : (p2.endLine == p3.line) = true) (hu : PE X u (tE C cf ca X.K EX W 9 k)) (he : PE X x (tE C cf ca X.K EX W 9 e)) (hpu : plainX u = true) (hx : plainX x = true) :
    PS X (.Expr (.Call (.Attribute (.Name y p1) "setdefault" p2) [u, x] [] p3) p4) (tS X.K ca EX W (evS C.G C.sub cf fu (.dsd i k e))) := by
  have hs := star_cons (env := X.env) (xs := [x]) hpu
  have hs2 := star_cons (env := X.env) (xs := []) hx
  refine PSimp (ps_expr (pe_dsetd (mVar_ok G.g hy p1) hu he ⟨rfl, by rw [hs, hs2]; rfl, hl, by rw [hs, hs2]; rfl⟩)) fun En σ H z => ?_
  obtain ⟨H0, S, ts, r, mine, st, z⟩ := z
  simp only [evS] at z
  split at z
  · rename_i m0 ks0 ds0 e0
    obtain ⟨a, vs0, h1, h0, _⟩ := Sta.mutateD (t1 := []) st mine e0
    refine ⟨.ref a, h1, a, rfl, isD_of (.inl h0), H0, S, ts, r, st, z.toO.imp fun a1 k v H1 st1 => ?_⟩
    refine ⟨H0, S, _, _, st1, (Post.deep k.toO).imp fun a2 k w H2 st2 => ?_⟩
    obtain ⟨r1, l1, d1⟩ := a1
    obtain ⟨r2, l2, d2⟩ := a2
    obtain ⟨hot, rp, rw2⟩ := Sta.peek2 st2
    have st3 := Sta.pop (Sta.pop st2)
    simp only at k rp rw2 st3
    split at k
    · rename_i m ks ds zz e1
      split at k
      · rename_i q eq
        split at k
        · rename_i hz
          obtain ⟨b, vs, h3, h4, ok, hl, f⟩ := Sta.mutateD (t1 := []) st3 mine e1
          rw [h1] at h3
          cases h3
          have ew := rw2.int_eq
          subst ew
          have hk := key_is rp eq
          have hput := f (dputK ks q) (dputV ks vs q (.int zz)) (dputV ks ds q (.int zz)) (dOk_put ok hk.one) (dputK_len ks vs q _ hl) fun hot A1 q1 q2 => Reps.dput q q2 (.int 0 zz)
          rcases hk with ⟨_, x0, rfl, rfl⟩ | ⟨ht, _⟩
          · have hv1 := val_k1 x0 vs ok
            have hmem := val_mem [x0] hl
            refine ⟨(ks.map k1).zip vs, x0, h4, rfl, by rw [List.length_zip, List.length_map, ← ln_eq]; omega, fun v0 hv => ?_, fun hv => ?_⟩
            · rw [hv1] at hv
              rw [hv] at hmem
              rw [if_pos (hasK_iff.mpr (hmem.mp rfl))] at k
              exact k _ _ st3
            · rw [hv1] at hv
              rw [hv] at hmem
              rw [if_neg (fun z => by have := hmem.mpr (hasK_iff.mp z); cases this)] at k
              rw [putK_zip _ _ _ _ (by rw [List.length_map]; exact hl), dputK_k1 ok, dputV_k1 ok]
              exact k _ _ hput
          · cases ht
        · exact k.elim
      · exact k.elim
    · exact k.elim
  · exact z.elim
theorem s_for {t : Tg} {src : Sr} {b : B} {tg it : Expr} {xs : List Stmt} {p : Pos} (hc : cal = true) (hw : src.bw = false) (hi : PI X tg it (tSr C cf ca X.K EX W src)) (hg : PG X tg (gTg X.K t)) (hb : PSs X xs (tS X.K ca EX W (evB C.G C.sub cf fu b))) (hx : plainX it = true) :
    PS X (.For tg it xs [] p) (tS X.K ca EX W (evS C.G C.sub cf fu (.for_ t src b))) := by
  refine PSimp (ps_for (G.po hc) (G.g.calm hc) hi hg hb (plain_fold hx)) fun En σ H z => ?_
  obtain ⟨H0, S, ts, r, mine, st, z⟩ := z
  simp only [evS] at z
  refine ⟨H0, S, ts, r, st, z.toO.imp fun a1 k J tt H1 sj st1 => ?_⟩
  obtain ⟨r1, xs⟩ := a1
  simp only at k sj st1
  unfold forT at k
  generalize hF : (fun (q : Env) (x : D) => match t.put x q with
    | some q1 => evB C.G C.sub cf fu b q1
    | none => O.bad) = F at k
  have mine2 : ∀ u ∈ tt ++ ts, u.mine = true := fun u hu => (List.mem_append.mp hu).elim (sj.mine hw u) (mine u)
  have under : ∀ {σ : L2.St} {r : Env} {H : Hp}, Sta X.K EX H0 S (tt ++ ts) σ r H → Sta X.K EX H0 S ts σ r H := fun {σ r H} st => by
    clear sj st1 mine2
    induction tt with
    | nil => exact st
    | cons u tt ih => exact ih (Sta.pop st)
  refine ⟨fun i m σ H => m = xs.length - i ∧ i ≤ xs.length ∧ ∃ r, Sta X.K EX H0 S (tt ++ ts) σ r H ∧ PostS X.K ca EX W H0 S ts En (forLoop F (xs.drop i) r), ⟨xs.length, by simp, Nat.zero_le _, r1, st1, by rw [List.drop_zero]; exact k⟩, ?_⟩
  rintro i m σ2 H2 ⟨rfl, hle, r2, st2, k2⟩
  by_cases hlt : i < xs.length
  · obtain ⟨d, hd⟩ : ∃ d, xs[i]? = some d := ⟨xs[i], List.getElem?_eq_getElem hlt⟩
    obtain ⟨go, step⟩ := (sj.turn i _ S _ _ _ H2 st2).2 d hd
    have hdrop : xs.drop i = d :: xs.drop (i + 1) := by
      rw [List.drop_eq_getElem_cons hlt]
      rw [List.getElem?_eq_getElem hlt] at hd
      cases hd
      rfl
    rw [hdrop, forLoop] at k2
    refine .inr ⟨go, fun σ H => ∃ r, Sta X.K EX H0 S (tt ++ ts) σ r H ∧ PostS X.K ca EX W H0 S ts En (forLoop F (xs.drop (i + 1)) r), fun σ' H' nx => ⟨xs.length - (i + 1), by omega, rfl, hlt, nx⟩, fun v H3 y => ?_⟩
    have st3 := step v H3 y
    have hFd : F r2 d = match t.put d r2 with
      | some q1 => evB C.G C.sub cf fu b q1
      | none => O.bad := by rw [← hF]
    cases e3 : t.put d r2 with
    | none => rw [hFd, e3] at k2; exact k2.elim
    | some q1 =>
      rw [e3] at hFd
      refine put_sem st3 e3 fun σ3 l3 ag st4 => ⟨H0, S, tt ++ ts, q1, mine2, st4, ?_⟩
      simp only at hFd
      rw [hFd] at k2
      revert k2
      cases evB C.G C.sub cf fu b q1 with
      | nx r4 => exact fun k2 σ H st5 => ⟨r4, st5, k2⟩
      | ct r4 => exact fun k2 σ H st5 => ⟨r4, st5, k2⟩
      | bk r4 => exact fun k2 σ H st5 => k2 σ H (under st5)
      | ret l d => exact fun k2 => k2
      | exc r4 c => exact fun k2 σ H st5 => k2 σ H (under st5)
      | bad => exact fun k2 => k2
  · have ei : i = xs.length := by omega
    subst ei
    refine .inl ⟨(sj.turn _ H0 S _ _ _ H2 st2).1 rfl, ?_⟩
    rw [List.drop_length] at k2
    exact k2 _ _ (under st2)
theorem s_whl {c : E} {b : B} {x : Expr} {xs : List Stmt} {p : Pos} (hc : cal = true) (ht : PT X x (tT C cf ca X.K EX W c)) (hb : PSs X xs (tS X.K ca EX W (evB C.G C.sub cf fu b))) :
    PS X (.While x xs [] p) (tS X.K ca EX W (evS C.G C.sub cf fu (.whl c b))) := by
  refine PSimp (ps_while (G.po hc) ht hb) fun En σ H z => ?_
  obtain ⟨H0, S, ts, r, mine, st, z⟩ := z
  simp only [evS] at z
  refine ⟨fun m σ H => ∃ r, Sta X.K EX H0 S ts σ r H ∧ PostS X.K ca EX W H0 S ts En (whlLoop (ev C.G C.sub cf 9 c) (evB C.G C.sub cf fu b) m r), ⟨fu, r, st, z⟩, ?_⟩
  rintro m σ1 H1 ⟨r1, st1, k⟩
  cases m with
  | zero => exact k.elim
  | succ m =>
    rw [whlLoop] at k
    refine ⟨H0, S, ts, r1, st1, k.toO.imp fun a1 k => ?_⟩
    obtain ⟨r2, l2, d2⟩ := a1
    cases d2 <;> first | exact k.elim | skip
    rename_i bb
    refine ⟨bb, rfl, fun H2 st2 => ?_⟩
    cases bb with
    | false => exact k _ _ st2
    | true =>
      simp only at k
      refine ⟨fun σ H => ∃ r, Sta X.K EX H0 S ts σ r H ∧ PostS X.K ca EX W H0 S ts En (whlLoop (ev C.G C.sub cf 9 c) (evB C.G C.sub cf fu b) m r), fun σ' H' nx => ⟨m, Nat.lt_succ_self m, nx⟩, H0, S, ts, r2, mine, st2, ?_⟩
      revert k
      cases evB C.G C.sub cf fu b r2 with
      | nx r4 => exact fun k2 σ H st5 => ⟨r4, st5, k2⟩
      | ct r4 => exact fun k2 σ H st5 => ⟨r4, st5, k2⟩
      | bk r4 => exact fun k2 => k2
      | ret l d => exact fun k2 => k2
      | exc r4 c => exact fun k2 => k2
      | bad => exact fun k2 => k2
theorem s_raise {k : Nat} {m : Str} {T : Str} {j : Nat} {p p1 p2 p3 : Pos} (hc : cal = true) (hT : C.exs[k]? = some T) (hk : k < C.nown) (hg : glB sc T = true) (hd : dbg T = true) :
    PS X (.Raise (some (.Call (.Name T p1) [.Constant (.str m) j p2] [] p3)) none p) (tS X.K ca EX W (evS C.G C.sub cf fu (.raise k m))) := by
  obtain ⟨newId, initId, B, bmB, h1, h2, h3, h4, h5⟩ := G.rs k T hT hk
  simp only [dbg, Bool.not_eq_true'] at hd
  refine PSimp (ps_raise (G.g.calm hc) G.g.tk (pmk_own h1 h2 h3 h4 h5 (G.g.gl hg) hd)) fun En σ H z => ?_
  obtain ⟨H0, S, ts, r, mine, st, z⟩ := z
  simp only [evS] at z
  exact z σ H st
end
end
end Ly

set_option Elab.async false
set_option linter.all false
set_option maxRecDepth 100000
set_option maxHeartbeats 2000000
/-! Further statements: a list within a tuple, insert, reverse, a for over t[xs.pop()]. -/
namespace Ly
open PySem PySem.Spec PyProof.Rows L2
section
variable {C : Cfg} {cal : Bool} {N : List Str} {sc : Scope} {cf : Nat → List D → CR} {ca : Nat → Addr} {EX : Addr → Nat → Prop} {W : WX} {X : Cx} {K : PySem.W.Frag} {fu : Nat}
/-! ### further statements -/
section
variable {H0 H : Hp} {S : List Addr} {ts : List Tm} {σ : L2.St} {r : Env}
/-- a list within a tuple of one's own is written; the tuple is let go -/
theorem Sta.mutateP {v : V} {l k : Nat} {d : D} {b : Addr} {ws : List V} {ds es : List D} (st : Sta K EX H0 S (.own v l d :: .owns (.ref b :: ws) (k + 1) (.lst ds :: es) :: ts) σ r H) (mine : ∀ t ∈ ts, t.mine = true) :
    ∃ vs, H b = some (.lst vs) ∧ vs.length = ds.length ∧ ∀ vs', Sta K EX H0 S ts σ r (upd H b (.lst vs')) := by
  obtain ⟨ex, sd, A, B, nd, new, hT, hS⟩ := st
  cases hT with
  | cons h1 hs =>
    cases hs with
    | cons h2 h3 =>
      cases h2 with
      | owns h2 =>
        cases h2 with
        | cons g1 g2 =>
          cases g1 with
          | lstS h hs =>
            rename_i A1 A3 A2 vs A0
            refine ⟨vs, h, hs.length, fun vs' => ?_⟩
            have inb : ∀ c, c ∈ b :: (A3 ++ B) → c ∈ A1 ++ (b :: A0 ++ A2 ++ A3) ++ B := fun c hc => by
              simp only [List.mem_cons, List.mem_append] at hc ⊢
              rcases hc with e | e | e
              · exact .inl (.inr (.inl (.inl (.inl e))))
              · exact .inl (.inr (.inr e))
              · exact .inr e
            have hnb : b ∉ A3 ++ B := fun hm => by
              have c1 := List.nodup_iff_count.mp nd b
              have c2 : 1 ≤ (A3 ++ B).count b := List.count_pos_iff.mpr hm
              simp only [List.count_append, List.count_cons_self, List.cons_append] at c1 c2
              omega
            have F : Fr H (upd H b (.lst vs')) S S (S ++ (A1 ++ (b :: A0 ++ A2 ++ A3) ++ B)) (S ++ (A3 ++ B)) [b] := ⟨fun c hc o e => by rw [upd_ne (by simpa using hc)]; exact e, fun c hc => by
              obtain rfl : c = b := by simpa using hc
              exact .inl ⟨vs, h⟩, fun c hc => by
              obtain rfl : c = b := by simpa using hc
              exact List.mem_append_right _ (inb c List.mem_cons_self), fun c hc => by
              rcases List.mem_append.mp hc with z | z
              · exact .inl (List.mem_append_left _ z)
              · exact .inl (List.mem_append_right _ (inb c (List.mem_cons_of_mem _ z))), fun c hc => List.mem_append_left _ hc, fun c hc => .inl hc⟩
            have nA : ∀ c ∈ [b], c ∉ A3 := fun c hc hm => by
              obtain rfl : c = b := by simpa using hc
              exact hnb (List.mem_append_left _ hm)
            have nB : ∀ c ∈ [b], c ∉ B := fun c hc hm => by
              obtain rfl : c = b := by simpa using hc
              exact hnb (List.mem_append_right _ hm)
            refine ⟨fun c u e' => ?_, fun c hc => ?_, A3, B, ?_, fun c hc => new c (inb c (List.mem_cons_of_mem _ hc)), h3.frame F (.inr mine) nA, hS.frame F nB⟩
            · rw [upd_ne (fun z => by subst z; rw [(new c (inb c List.mem_cons_self)).1] at e'; cases e')]
              exact ex c u e'
            · by_cases z : c = b
              · subst z; rw [upd_same]; exact fun z => nomatch z
              · rw [upd_ne z]; exact sd c hc
            · obtain ⟨n1, n2, n3⟩ := List.nodup_append.mp nd
              obtain ⟨m1, m2, m3⟩ := List.nodup_append.mp n1
              obtain ⟨p1, p2, p3⟩ := List.nodup_append.mp m2
              exact List.nodup_append.mpr ⟨p2, n2, fun a ha c hc => n3 a (List.mem_append_right _ (List.mem_append_right _ ha)) c hc⟩
/-- a tuple of one's own, opened -/
theorem Sta.openT2 {v : V} {l : Nat} {ds : List D} (st : Sta K EX H0 S (.own v l (.tup ds) :: ts) σ r H) : ∃ a ws, v = .ref a ∧ SqT K H a ws ∧ Sta K EX H0 S (.owns ws (l - 1) ds :: ts) σ r H := by
  obtain ⟨ex, sd, A, B, nd, new, hT, hS⟩ := st
  cases hT with
  | cons h hs =>
    cases h with
    | own h =>
      cases h with
      | tup h1 h2 => exact ⟨_, _, rfl, h1.sq, ex, sd, _, B, nd, new, Tms.cons (.owns h2) hs, hS⟩
end
theorem Reps.ins {H : Hp} {hot : List Addr} {k : Nat} : ∀ (n : Nat) {vs : List V} {ds : List D} {A B : List Addr} {v : V} {d : D}, Reps K H hot k vs ds A → Rep K H hot k v d B → (B ++ A).Nodup → ∃ A', A'.Nodup ∧ (∀ b ∈ A', b ∈ B ++ A) ∧ Reps K H hot k (vs.take n ++ [v] ++ vs.drop n) (ds.take n ++ [d] ++ ds.drop n) A'
  | 0, _, _, A, B, _, _, h, hr, nd => ⟨B ++ A, nd, fun b hb => hb, .cons hr h⟩
  | n + 1, _, _, _, B, v, d, .nil _, hr, nd => ⟨B ++ [], nd, fun b hb => hb, by simpa using Reps.cons hr (.nil k)⟩
  | n + 1, _, _, _, B, v, d, .cons (A := A) (B := A2) h hs, hr, nd => by
    obtain ⟨n1, n2, n3⟩ := List.nodup_append.mp nd
    obtain ⟨n4, n5, n6⟩ := List.nodup_append.mp n2
    obtain ⟨A', m1, m2, m3⟩ := Reps.ins n hs hr (List.nodup_append.mpr ⟨n1, n5, fun a ha b hb => n3 a ha b (List.mem_append_right _ hb)⟩)
    refine ⟨A ++ A', List.nodup_append.mpr ⟨n4, m1, fun a ha b hb e => ?_⟩, fun b hb => ?_, by simpa using Reps.cons h m3⟩
    · rcases List.mem_append.mp (m2 b hb) with z | z
      · exact n3 b z a (List.mem_append_left _ ha) e.symm
      · exact n6 a ha b z e
    · rcases List.mem_append.mp hb with z | z
      · exact List.mem_append_right _ (List.mem_append_left _ z)
      · rcases List.mem_append.mp (m2 b z) with z | z
        · exact List.mem_append_left _ z
        · exact List.mem_append_right _ (List.mem_append_right _ z)
theorem Reps.revP {H : Hp} {hot : List Addr} {k : Nat} : ∀ {vs : List V} {ds : List D} {A : List Addr}, Reps K H hot k vs ds A → ∃ A', A'.Perm A ∧ Reps K H hot k vs.reverse ds.reverse A'
  | _, _, _, .nil _ => ⟨[], .refl _, .nil k⟩
  | _, _, _, .cons (A := A) (B := B) h hs => by
    obtain ⟨A', p, q⟩ := Reps.revP hs
    refine ⟨A' ++ (A ++ []), ?_, ?_⟩
    · rw [List.append_nil]
      exact List.perm_append_comm.trans (p.append_left A)
    · rw [List.reverse_cons, List.reverse_cons]
      exact q.append (.cons h (.nil k))
section
variable (G : GoodS C cal N sc cf ca EX W X)
include G
theorem s_appP {i : Nat} {e : E} {x : Expr} {y : Str} {kk : Nat} {p0 p1 p2 p3 p4 p5 : Pos} (hy : mVar N sc i y = true) (hl : (p2.endLine == p3.line) = true) (hx : plainX x = true) (he : PE X x (tE C cf ca X.K EX W 0 e)) :
    PS X (.Expr (.Call (.Attribute (.Subscript (.Name y p1) (.Constant (.int 0) kk p5) p0) "append" p2) [x] [] p3) p4) (tS X.K ca EX W (evS C.G C.sub cf fu (.appP i e))) := by
  have hs := star_cons (env := X.env) (xs := []) hx
  refine PSimp (ps_expr (pe_bm F.plainAttrs_list F.slot_list_append (by with_unfolding_all rfl) mt_append (pe_ix ix_tup (mVar_ok G.g hy p1) pe_int (plain_ix rfl)) (pa_cons he pa_nil hs) rfl (few1 hx) hl hs)) fun En σ H z => ?_
  obtain ⟨H0, S, ts, r, mine, st, z⟩ := z
  simp only [evS] at z
  split at z
  · rename_i m ds es e0
    split at z
    · rename_i hm
      obtain ⟨v, h1, st1⟩ := st.move e0 (by omega)
      obtain ⟨a, ws, rfl, ht, st2⟩ := st1.openT2
      obtain ⟨b, ws', vs, rfl, hb⟩ : ∃ b ws' vs, ws = .ref b :: ws' ∧ H b = some (.lst vs) := by
        obtain ⟨_, _, A, B, _, _, hT, _⟩ := st2
        cases hT with
        | cons h2 _ =>
          cases h2 with
          | owns h2 =>
            cases h2 with
            | cons g1 g2 =>
              cases g1 with
              | lstS h hs => exact ⟨_, _, _, rfl, h⟩
      refine ⟨.ref a, h1, a, _, 0, .ref b, rfl, rfl, ht, by simp [L2.atI, L2.ixN], .inl ⟨rfl, vs, SqL.of hb⟩, H0, S, _, _, st2, (Post.deep z.toO).imp fun a1 k v H1 st3 => ?_⟩
      obtain ⟨vs1, h3, h4, f⟩ := Sta.mutateP (k := m) st3 mine
      split at k
      · rename_i hz
        exact ⟨b, vs1, v, rfl, rfl, h3, by rw [h4, ← ln_eq]; exact hz, k _ _ (f _)⟩
      · exact k.elim
    · exact z.elim
  · exact z.elim
theorem s_rvs {i : Nat} {y : Str} {p1 p2 p3 p4 : Pos} (hy : mVar N sc i y = true) (hl : (p2.endLine == p3.line) = true) :
    PS X (.Expr (.Call (.Attribute (.Name y p1) "reverse" p2) [] [] p3) p4) (tS X.K ca EX W (evS C.G C.sub cf fu (.rvs i))) := by
  refine PSimp (ps_expr (pe_bm0 F.plainAttrs_list F.slot_list_reverse (by with_unfolding_all rfl) mt_reverse (mVar_ok G.g hy p1) rfl hl)) fun En σ H z => ?_
  obtain ⟨H0, S, ts, r, mine, st, z⟩ := z
  simp only [evS] at z
  split at z
  · rename_i m ds e1
    obtain ⟨a, h1, h2⟩ := list_of_slot st e1
    obtain ⟨b, vs, h3, h4, h5, f⟩ := Sta.mutate (t1 := []) st mine e1
    rw [h1] at h3
    cases h3
    refine ⟨.ref a, h1, h2, a, vs, rfl, rfl, h4, ?_⟩
    exact z _ _ (f vs.reverse ds.reverse fun hot A1 A0 q1 q2 nd => by
      obtain ⟨A', p, q⟩ := Reps.revP q2
      exact ⟨A', p.nodup_iff.mpr (List.nodup_append.mp nd).2.1, fun b hb => List.mem_append_right _ (p.mem_iff.mp hb), q⟩)
  · exact z.elim
theorem s_ins {i : Nat} {k e : E} {x u : Expr} {y : Str} {p1 p2 p3 p4 : Pos} (hy : mVar N sc i y = true) (hl : (p2.endLine == p3.line) = true) (hu : PE X u (tE C cf ca X.K EX W 9 k)) (he : PE X x (tE C cf ca X.K EX W 0 e)) (hpu : plainX u = true) (hx : plainX x = true) :
    PS X (.Expr (.Call (.Attribute (.Name y p1) "insert" p2) [u, x] [] p3) p4) (tS X.K ca EX W (evS C.G C.sub cf fu (.ins i k e))) := by
  have hs := star_cons (env := X.env) (xs := [x]) hpu
  have hs2 := star_cons (env := X.env) (xs := []) hx
  refine PSimp (ps_expr (pe_bm F.plainAttrs_list F.slot_list_insert (by with_unfolding_all rfl) mt_insert (mVar_ok G.g hy p1) (pa_cons hu (pa_cons he pa_nil hs2) hs) rfl (fewN hpu (by simpa using hx) (by simp)) hl hs (by rw [hs2]; rfl))) fun En σ H z => ?_
  obtain ⟨H0, S, ts, r, mine, st, z⟩ := z
  simp only [evS] at z
  split at z
  · rename_i m0 ds0 e0
    obtain ⟨a, h1, h2⟩ := list_of_slot st e0
    refine ⟨.ref a, h1, h2, H0, S, ts, r, st, z.toO.imp fun a1 k v H1 st1 => ?_⟩
    refine ⟨H0, S, _, _, st1, (Post.deep k.toO).imp fun a2 k w H2 st2 => ?_⟩
    obtain ⟨r1, l1, d1⟩ := a1
    obtain ⟨r2, l2, d2⟩ := a2
    simp only at k st2
    split at k
    · rename_i m ds pp e1 e1'
      split at k
      · rename_i hz
        have eint : v = .int pp := by
          obtain ⟨_, _, A, B, _, _, hT, _⟩ := st2
          cases hT with
          | cons _ hs =>
            cases hs with
            | cons h2 _ =>
              cases h2 with
              | brw h2 => exact h2.int_eq
        have st4 := Sta.lowS (l' := min m l2 + 1) (Sta.lowT st2 (Nat.min_le_right m l2)) e1 (by omega)
        have e2 := getv_set (l := min m l2 + 1) (d := .lst ds) (getv_lt e1)
        obtain ⟨b, vs, h3, h4, h5, f⟩ := Sta.mutate (t1 := [_, _]) st4 mine e2
        rw [h1] at h3
        cases h3
        refine ⟨a, vs, pp, w, rfl, by rw [eint], h4, by rw [h5, ← ln_eq]; exact hz.1, hz.2.1, by omega, ?_⟩
        have q := f (vs.take pp.toNat ++ [w] ++ vs.drop pp.toNat) (ds.take pp.toNat ++ [d2] ++ ds.drop pp.toNat) fun hot A1 A0 q1 q2 nd => by
          obtain ⟨A11, A12, rfl, g1, g2⟩ := q1.two
          cases g2 with
          | brw g2 =>
            rw [List.append_nil] at nd ⊢
            cases g1 with
            | own g1 => exact Reps.ins _ q2 g1 nd
        rw [List.set_set] at q
        exact k _ _ q
      · exact k.elim
    · exact k.elim
  · exact z.elim
theorem s_forK {t : Tg} {b : B} {J : It} {xs : List D} {tt ts : List Tm} {bw : Bool} {H0 H1 : Hp} {S : List Addr} {σ : L2.St} {r1 : Env} {En : Ends} (sj : Src X.K EX J xs tt bw) (hw : bw = false) (mine : ∀ t ∈ ts, t.mine = true) (st1 : Sta X.K EX H0 S (tt ++ ts) σ r1 H1) (k : PostS X.K ca EX W H0 S ts En (forT t (evB C.G C.sub cf fu b) xs r1)) :
    tFor (fun _ H R => R J H) (gTg X.K t) (tS X.K ca EX W (evB C.G C.sub cf fu b)) En σ H1 := by
  unfold forT at k
  generalize hF : (fun (q : Env) (x : D) => match t.put x q with
    | some q1 => evB C.G C.sub cf fu b q1
    | none => O.bad) = F at k
  have mine2 : ∀ u ∈ tt ++ ts, u.mine = true := fun u hu => (List.mem_append.mp hu).elim (sj.mine hw u) (mine u)
  have under : ∀ {σ : L2.St} {r : Env} {H : Hp}, Sta X.K EX H0 S (tt ++ ts) σ r H → Sta X.K EX H0 S ts σ r H := fun {σ r H} st => by
    clear sj st1 mine2
    induction tt with
    | nil => exact st
    | cons u tt ih => exact ih (Sta.pop st)
  refine ⟨fun i m σ H => m = xs.length - i ∧ i ≤ xs.length ∧ ∃ r, Sta X.K EX H0 S (tt ++ ts) σ r H ∧ PostS X.K ca EX W H0 S ts En (forLoop F (xs.drop i) r), ⟨xs.length, by simp, Nat.zero_le _, r1, st1, by rw [List.drop_zero]; exact k⟩, ?_⟩
  rintro i m σ2 H2 ⟨rfl, hle, r2, st2, k2⟩
  by_cases hlt : i < xs.length
  · obtain ⟨d, hd⟩ : ∃ d, xs[i]? = some d := ⟨xs[i], List.getElem?_eq_getElem hlt⟩
    obtain ⟨go, step⟩ := (sj.turn i _ S _ _ _ H2 st2).2 d hd
    have hdrop : xs.drop i = d :: xs.drop (i + 1) := by
      rw [List.drop_eq_getElem_cons hlt]
      rw [List.getElem?_eq_getElem hlt] at hd
      cases hd
      rfl
    rw [hdrop, forLoop] at k2
    refine .inr ⟨go, fun σ H => ∃ r, Sta X.K EX H0 S (tt ++ ts) σ r H ∧ PostS X.K ca EX W H0 S ts En (forLoop F (xs.drop (i + 1)) r), fun σ' H' nx => ⟨xs.length - (i + 1), by omega, rfl, hlt, nx⟩, fun v H3 y => ?_⟩
    have st3 := step v H3 y
    have hFd : F r2 d = match t.put d r2 with
      | some q1 => evB C.G C.sub cf fu b q1
      | none => O.bad := by rw [← hF]
    cases e3 : t.put d r2 with
    | none => rw [hFd, e3] at k2; exact k2.elim
    | some q1 =>
      rw [e3] at hFd
      refine put_sem st3 e3 fun σ3 l3 ag st4 => ⟨H0, S, tt ++ ts, q1, mine2, st4, ?_⟩
      simp only at hFd
      rw [hFd] at k2
      revert k2
      cases evB C.G C.sub cf fu b q1 with
      | nx r4 => exact fun k2 σ H st5 => ⟨r4, st5, k2⟩
      | ct r4 => exact fun k2 σ H st5 => ⟨r4, st5, k2⟩
      | bk r4 => exact fun k2 σ H st5 => k2 σ H (under st5)
      | ret l d => exact fun k2 => k2
      | exc r4 c => exact fun k2 σ H st5 => k2 σ H (under st5)
      | bad => exact fun k2 => k2
  · have ei : i = xs.length := by omega
    subst ei
    refine .inl ⟨(sj.turn _ H0 S _ _ _ H2 st2).1 rfl, ?_⟩
    rw [List.drop_length] at k2
    exact k2 _ _ (under st2)
theorem s_forP {t : Tg} {a : E} {i : Nat} {b : B} {tg x : Expr} {y : Str} {xs : List Stmt} {p p0 p1 p2 p3 : Pos} (hc : cal = true) (hy : mVar N sc i y = true) (hl : (p2.endLine == p3.line) = true) (ha : PE X x (tE C cf ca X.K EX W 0 a)) (hg : PG X tg (gTg X.K t)) (hb : PSs X xs (tS X.K ca EX W (evB C.G C.sub cf fu b))) :
    PS X (.For tg (.Subscript x (.Call (.Attribute (.Name y p1) "pop" p2) [] [] p3) p0) xs [] p) (tS X.K ca EX W (evS C.G C.sub cf fu (.forP t a i b))) := by
  refine PSimp (ps_for (G.po hc) (G.g.calm hc) (pi_seq (pe_ix (ix_sem 0) ha (pe_bm0 F.plainAttrs_list F.slot_list_pop (by with_unfolding_all rfl) mt_pop (mVar_ok G.g hy p1) rfl hl) (plain_ix rfl))) hg hb (plain_fold rfl)) fun En σ H z => ?_
  obtain ⟨H0, S, ts, r, mine, st, z⟩ := z
  simp only [evS] at z
  refine ⟨H0, S, ts, r, st, z.toO.imp fun a1 k v H1 st1 => ?_⟩
  obtain ⟨r1, l1, d1⟩ := a1
  have st1' := Sta.lowT st1 (Nat.zero_le _)
  simp only at k st1'
  split at k
  · rename_i m ds e1
    split at k
    · rename_i yy ey
      split at k
      · rename_i zz ez
        split at k
        · rename_i xs ex
          obtain ⟨n, rfl⟩ : ∃ n, yy = .int n := by
            cases yy <;> cases d1 <;> simp only [ixop, reduceCtorEq] at ez <;> exact ⟨_, rfl⟩
          have mine1 : ∀ t ∈ Tm.own v 0 d1 :: ts, t.mine = true := fun u hu => by
            rcases List.mem_cons.mp hu with rfl | hu
            · rfl
            · exact mine u hu
          obtain ⟨a0, vs0, hot0, A0, g1, g2, g3⟩ := st1'.lstAt e1
          have st2 := Sta.lowS (l' := 0 + 1) st1' e1 (by omega)
          have e2 := getv_set (l := 0 + 1) (d := .lst ds) (getv_lt e1)
          obtain ⟨b', vs, h3, h4, h5, f⟩ := Sta.mutate (t1 := []) st2 mine1 e2
          rw [g1] at h3
          cases h3
          rw [g2] at h4
          cases h4
          have q := f vs0.dropLast ds.dropLast fun hot A1 A0 q1 q2 nd => ⟨[], .nil, by simp, Reps.dropLast0 q2⟩
          rw [List.set_set] at q
          have hlast : vs0[vs0.length - 1]? = some (.int n) := by
            rw [h5]
            rw [List.getLast?_eq_getElem?] at ey
            have g4 := Reps.toT (S := []) (j := m) (by simp) g3 (by simp) (Nat.le_refl _)
            obtain ⟨w, k1, k2⟩ := g4.get ey
            rw [k1, k2.int_eq]
          refine ⟨.ref a0, g1, .inl ⟨rfl, vs0, SqL.of g2⟩, a0, vs0, .int n, rfl, rfl, g2, hlast, ?_⟩
          have q' := Sta.toBrw (j := 1) q
          obtain ⟨hot, rp⟩ := Sta.peek q'
          refine ⟨S, hot, d1, .int n, zz, rp, .int 9 n, ez, fun u hu => ?_⟩
          have q3 := Sta.brw0 (Sta.step (t1 := [.brw v 1 d1]) (t2 := [.brw u 0 zz]) q' (Same.refl _) fun hot A1 nd sub dom hS q => ⟨[], .nil, fun _ z => (by simp at z), fun hot' h1 h2 h3 h4 => .mk1 (.brw ((hu hot q.brw1).less hS fun a ha => (h1 a ha).elim id fun z => by simp at z))⟩)
          obtain ⟨hot2, A2, rp2⟩ := Sta.peekOwn q3
          have key : ∀ (J : It) (aa : Addr), u = .ref aa → Src X.K EX J xs [.own (.ref aa) 0 zz] false → _ := fun J aa hu sj => s_forK G (t := t) (b := b) (tt := [.own (.ref aa) 0 zz]) (W := W) (En := En) (cf := cf) (fu := fu) sj rfl mine (by subst hu; exact q3) k
          cases zz <;> simp only [itemsOf, reduceCtorEq] at ex
          · cases ex
            obtain ⟨aa, vs, rfl, h1, h2⟩ := rp2.tup_ex
            exact ⟨aa, rfl, .inr ⟨⟨vs, h1⟩, key _ aa rfl src_tup⟩⟩
          · cases ex
            obtain ⟨aa, vs, rfl, h1, h2⟩ := rp2.lst_ex
            exact ⟨aa, rfl, .inl ⟨⟨vs, h1⟩, key _ aa rfl src_list⟩⟩
        · exact k.elim
      · exact k.elim
    · exact k.elim
  · exact k.elim
end
end
end Ly

set_option Elab.async false
set_option linter.all false
set_option maxRecDepth 100000
set_option maxHeartbeats 2000000
/-! Further statements: a for over a dict of one's own, xs[k].append(e). -/
namespace Ly
open PySem PySem.Spec PyProof.Rows L2
section
variable {K : PySem.W.Frag} {EX : Addr → Nat → Prop} {H0 H H' : Hp} {S : List Addr} {ts : List Tm} {σ : L2.St} {r : Env}
theorem Reps.app1 {hot : List Addr} {es : List D} : ∀ {vs : List V} {ds : List D} {A : List Addr} (q : Nat), Reps K H hot 1 vs ds A → A.Nodup → ds[q]? = some (.lst es) → ∃ b ws, vs[q]? = some (.ref b) ∧ H b = some (.lst ws) ∧ Reps K H hot 0 ws es [] ∧ b ∈ A ∧
    ∀ (H' : Hp) (hot' S S' : List Addr), Fr H H' S S' hot hot' [b] → ∀ (ws' : List V) (es' : List D), H' b = some (.lst ws') → Reps K H' hot' 0 ws' es' [] → Reps K H' hot' 1 vs (ds.set q (.lst es')) A
  | _, _, _, q, .nil _, _, e => by simp at e
  | _, _, _, 0, .cons (A := A1) (B := B1) h hs, nd, e => by
    have e' := Option.some.inj e
    subst e'
    obtain ⟨n1, n2, n3⟩ := List.nodup_append.mp nd
    cases h with
    | lstS h hr =>
      rename_i a ws A0
      have z := hr.zero
      subst z
      refine ⟨a, ws, rfl, h, hr, List.mem_append_left _ List.mem_cons_self, fun H' hot' S S' F ws' es' h2 h3 => ?_⟩
      exact .cons (.lstS h2 h3) (hs.frame F.c1 F.c2 F.hX F.c4 fun c hc hm => by
        obtain rfl : c = a := by simpa using hc
        exact n3 c List.mem_cons_self c hm rfl)
  | _, _, _, q + 1, .cons (A := A1) (B := B1) h hs, nd, e => by
    obtain ⟨n1, n2, n3⟩ := List.nodup_append.mp nd
    obtain ⟨b, ws, e1, e2, e3, e4, g⟩ := Reps.app1 q hs n2 (by simpa using e)
    refine ⟨b, ws, by simpa using e1, e2, e3, List.mem_append_right _ e4, fun H' hot' S S' F ws' es' h2 h3 => ?_⟩
    exact .cons (h.frame F.c1 F.c2 F.hX F.c4 fun c hc hm => by
      obtain rfl : c = b := by simpa using hc
      exact n3 c hm c e4 rfl) (g H' hot' S S' F ws' es' h2 h3)
theorem Sta.toOpn {v : V} {l : Nat} {ds : List D} (st : Sta K EX H0 S (.own v (l + 1) (.lst ds) :: ts) σ r H) : ∃ a vs, v = .ref a ∧ Sta K EX H0 S (.opn a vs l ds :: ts) σ r H := by
  obtain ⟨ex, sd, A, B, nd, new, hT, hS⟩ := st
  cases hT with
  | cons h hs =>
    cases h with
    | own h =>
      cases h with
      | lstS h1 h2 => exact ⟨_, _, rfl, ex, sd, _, B, nd, new, Tms.cons (.opn h1 h2) hs, hS⟩
theorem Sta.opn1 {a : Addr} {vs : List V} {l : Nat} {ds : List D} (st : Sta K EX H0 S (.opn a vs (l + 1) ds :: ts) σ r H) : Sta K EX H0 S (.opn a vs 1 ds :: ts) σ r H :=
  st.swap fun hot A h nd ns => by
    cases h with
    | opn h1 h2 =>
      obtain ⟨n1, n2⟩ := List.nodup_cons.mp nd
      obtain ⟨B', s, g⟩ := h2.low (l' := 1) (by omega) n2
      refine ⟨a :: B', s.cons_cons a, fun hot' q1 q2 q4 => .opn h1 (g hot' q1 fun c hc hm => ?_)⟩
      rcases List.mem_cons.mp (q2 c (List.mem_cons_of_mem _ hc) hm) with z | z
      · subst z; exact absurd hc n1
      · exact z
theorem Sta.peekO {a : Addr} {vs : List V} {l : Nat} {ds : List D} (st : Sta K EX H0 S (.opn a vs l ds :: ts) σ r H) : H a = some (.lst vs) ∧ ∃ hot A, A.Nodup ∧ Reps K H hot l vs ds A := by
  obtain ⟨_, _, A, B, nd, _, hT, _⟩ := st
  cases hT with
  | cons h _ =>
    cases h with
    | opn h1 h2 =>
      obtain ⟨n1, n2, n3⟩ := List.nodup_append.mp nd
      obtain ⟨m1, m2, m3⟩ := List.nodup_append.mp n1
      exact ⟨h1, _, _, (List.nodup_cons.mp m1).2, h2⟩
theorem Sta.mutateL {a : Addr} {vs : List V} {ds es : List D} {q : Nat} {w : V} {d : D} (st : Sta K EX H0 S (.own w 0 d :: .opn a vs 1 ds :: ts) σ r H) (mine : ∀ t ∈ ts, t.mine = true) (e : ds[q]? = some (.lst es)) :
    ∃ b ws, vs[q]? = some (.ref b) ∧ H b = some (.lst ws) ∧ ws.length = es.length ∧ Sta K EX H0 S (.own (.ref a) 2 (.lst (ds.set q (.lst (es ++ [d])))) :: ts) σ r (upd H b (.lst (ws ++ [w]))) := by
  obtain ⟨ex, sd, A, B, nd, new, hT, hS⟩ := st
  cases hT with
  | cons h1 hs =>
    cases hs with
    | cons h2 h3 =>
      cases h1 with
      | own hw =>
        have hw0 := hw.zero
        subst hw0
        cases h2 with
        | opn ha hr =>
          rename_i A3 A2
          simp only [List.nil_append] at nd new hS hw ha hr h3
          obtain ⟨n1, n2, n3⟩ := List.nodup_append.mp nd
          obtain ⟨m1, m2, m3⟩ := List.nodup_append.mp n1
          obtain ⟨na, nA2⟩ := List.nodup_cons.mp m1
          obtain ⟨b, ws, e1, e2, e3, e4, g⟩ := Reps.app1 q hr nA2 e
          refine ⟨b, ws, e1, e2, e3.length, ?_⟩
          have inb : b ∈ a :: A2 ++ A3 ++ B := List.mem_append_left _ (List.mem_append_left _ (List.mem_cons_of_mem _ e4))
          have hab : a ≠ b := fun z => na (z ▸ e4)
          have F : Fr H (upd H b (.lst (ws ++ [w]))) S S (S ++ (a :: A2 ++ A3 ++ B)) (S ++ (a :: A2 ++ A3 ++ B)) [b] := ⟨fun c hc o e => by rw [upd_ne (by simpa using hc)]; exact e, fun c hc => by
            obtain rfl : c = b := by simpa using hc
            exact .inl ⟨ws, e2⟩, fun c hc => by
            obtain rfl : c = b := by simpa using hc
            exact List.mem_append_right _ inb, fun c hc => .inl hc, fun c hc => List.mem_append_left _ hc, fun c hc => .inl hc⟩
          have nb : ∀ l : List Addr, b ∉ l → ∀ c ∈ [b], c ∉ l := fun l hl c hc => by
            obtain rfl : c = b := by simpa using hc
            exact hl
          have hw' := hw.frame F.c1 F.c2 F.hX F.c4 (nb [] (by simp))
          have he' := e3.frame F.c1 F.c2 F.hX F.c4 (nb [] (by simp))
          have new' : Reps K (upd H b (.lst (ws ++ [w]))) (S ++ (a :: A2 ++ A3 ++ B)) 0 (ws ++ [w]) (es ++ [d]) [] := by
            have := he'.append (Reps.cons hw' (.nil 0))
            simpa using this
          have hr' := g _ _ S S F (ws ++ [w]) (es ++ [d]) upd_same new'
          refine ⟨fun c u e' => ?_, fun c hc => ?_, a :: A2 ++ A3, B, nd, new, Tms.cons (.own (.lstS (by rw [upd_ne hab]; exact ha) hr')) (h3.frame F (.inr mine) (nb _ fun hm => m3 b (List.mem_cons_of_mem _ e4) b hm rfl)), hS.frame F (nb _ fun hm => n3 b (List.mem_append_left _ (List.mem_cons_of_mem _ e4)) b hm rfl)⟩
          · rw [upd_ne (fun z => by subst z; rw [(new c inb).1] at e'; cases e')]
            exact ex c u e'
          · by_cases z : c = b
            · subst z; rw [upd_same]; exact fun z => nomatch z
            · rw [upd_ne z]; exact sd c hc
end
section
variable {C : Cfg} {cal : Bool} {N : List Str} {sc : Scope} {cf : Nat → List D → CR} {ca : Nat → Addr} {EX : Addr → Nat → Prop} {W : WX} {X : Cx} {K : PySem.W.Frag} {fu : Nat}
variable (G : GoodS C cal N sc cf ca EX W X)
include G
theorem s_forD {t : Tg} {i : Nat} {b : B} {tg : Expr} {y : Str} {xs : List Stmt} {p p1 : Pos} (hc : cal = true) (hy : mVar N sc i y = true) (hg : PG X tg (gTg X.K t)) (hb : PSs X xs (tS X.K ca EX W (evB C.G C.sub cf fu b))) :
    PS X (.For tg (.Name y p1) xs [] p) (tS X.K ca EX W (evS C.G C.sub cf fu (.forD t i b))) := by
  refine PSimp (ps_for (G.po hc) (G.g.calm hc) (pi_keys (pe_frz (mVar_ok G.g hy p1))) hg hb (plain_fold rfl)) fun En σ H z => ?_
  obtain ⟨H0, S, ts, r, mine, st, z⟩ := z
  simp only [evS] at z
  split at z
  · rename_i m tt ks ds e0
    obtain ⟨a, vs, h1, h2, ok, hl, f⟩ := st.freeze e0
    refine ⟨.ref a, h1, a, dOb tt ks vs, rfl, h2, dOb_mut, fun od => ⟨a, od, rfl, ?_⟩⟩
    cases tt with
    | false => exact .inl ⟨_, upd_same, s_forK G (t := t) (b := b) (tt := [.frz a od (dOb false ks vs)]) (src_keys ok hl) rfl mine (f od) z⟩
    | true => exact .inr ⟨_, upd_same, s_forK G (t := t) (b := b) (tt := [.frz a od (dOb true ks vs)]) (src_keysT hl) rfl mine (f od) z⟩
  · exact z.elim
theorem s_appL {i : Nat} {k e : E} {u x : Expr} {y : Str} {p0 p1 p2 p3 p4 : Pos} (hy : mVar N sc i y = true) (hl : (p2.endLine == p3.line) = true) (hk : PE X u (tE C cf ca X.K EX W 9 k)) (he : PE X x (tE C cf ca X.K EX W 0 e)) (hu : plainX u = true) (hx : plainX x = true) :
    PS X (.Expr (.Call (.Attribute (.Subscript (.Name y p1) u p0) "append" p2) [x] [] p3) p4) (tS X.K ca EX W (evS C.G C.sub cf fu (.appL i k e))) := by
  have hs := star_cons (env := X.env) (xs := []) hx
  refine PSimp (ps_expr (pe_bm F.plainAttrs_list F.slot_list_append (by with_unfolding_all rfl) mt_append (pe_ix ix_list (mVar_ok G.g hy p1) hk (plain_ix hu)) (pa_cons he pa_nil hs) rfl (few1 hx) hl hs)) fun En σ H z => ?_
  obtain ⟨H0, S, ts, r, mine, st, z⟩ := z
  simp only [evS] at z
  split at z
  · rename_i m ds e0
    split at z
    · rename_i hm
      obtain ⟨v, h1, st1⟩ := st.move e0 (by omega)
      obtain ⟨a, vs, rfl, st2⟩ := st1.toOpn
      have st3 := st2.opn1
      refine ⟨.ref a, h1, H0, S, _, _, st3, (Post.deep z.toO).imp fun a1 k1 v1 H1 st4 => ?_⟩
      obtain ⟨r1, l1, d1⟩ := a1
      simp only at k1 st4
      split at k1
      · rename_i p0 pI
        split at k1
        · rename_i q hq
          split at k1
          · rename_i es0 es he0
            have hv : v1 = .int pI := by
              obtain ⟨hot, rp⟩ := Sta.peek st4
              exact rp.int_eq
            subst hv
            have st5 := Sta.pop st4
            obtain ⟨g1, hot, A, g2, g3⟩ := Sta.peekO st5
            obtain ⟨b, ws, e1, e2, e3, e4, _⟩ := Reps.app1 q g3 g2 he0
            have hat : L2.atI vs pI = some (.ref b) := by
              unfold L2.atI
              rw [g3.length, hq]
              exact e1
            refine ⟨a, vs, pI, .ref b, rfl, rfl, SqL.of g1, hat, .inl ⟨rfl, ws, SqL.of e2⟩, H0, S, _, _, st5, (Post.deep k1.toO).imp fun a2 k2 w H2 st6 => ?_⟩
            obtain ⟨r2, l2, d⟩ := a2
            simp only at k2 st6
            obtain ⟨b', ws', f1, f2, f3, st7⟩ := Sta.mutateL (Sta.lowT st6 (Nat.zero_le _)) mine he0
            rw [e1] at f1
            cases f1
            split at k2
            · rename_i hz
              refine ⟨b, ws', w, rfl, rfl, f2, by rw [f3, ← ln_eq]; exact hz, k2 _ _ ?_⟩
              have st8 := st7.store i
              rw [set_same h1] at st8
              exact st8
            · exact k2.elim
          · exact k1.elim
        · exact k1.elim
      · exact k1.elim
    · exact z.elim
  · exact z.elim
end
end Ly

set_option Elab.async false
set_option linter.all false
set_option maxRecDepth 100000
set_option maxHeartbeats 2000000
/-! Further statements: d.pop(k), a for over a dict that is changed afterwards, dicts of dicts and of lists. -/
namespace Ly
open PySem PySem.Spec PyProof.Rows L2
section
variable {X : Cx}
def tDPop1 (td ty : TE) : TE := fun σ H Q => td σ H fun x H1 => ∃ a, x = .ref a ∧ IsD H1 a ∧ ty σ H1 fun y H2 => rPopT1 (.ref a) [y] H2 Q
theorem pe_dpop1 {o e : Expr} {td ty : TE} {apos cpos : Pos} (hu : X.A.units + 1 < cLine) (ho : PE X o td) (he : PE X e ty) (m : M1 X o "pop" apos e cpos) : PE X (.Call (.Attribute o "pop" apos) [e] [] cpos) (tDPop1 td ty) := by
  refine ⟨fun pins s σ H Q I h => ?_⟩
  refine wpAny_Call_method m.base m.few m.line PySem.F.plainAttrs_dict PySem.F.slot_dict_pop (by with_unfolding_all rfl) (thn (ho.run pins s σ H _ I h) fun u s1 ⟨x, H1, I1, rx, a, ex, d, q1⟩ => ?_)
  subst ex
  obtain rfl : u = Value.ref a := rx
  obtain ⟨t1, t2, _⟩ := isD_at I1 d
  refine ⟨t1, t2, ?_⟩
  rw [m.trees]
  refine Calls.callWith_builtin rfl (Calls.evalArgs_plain (Calls.spliced_cons (thn (he.run pins s1 σ H1 _ I1 q1) fun iv s2 ⟨y, H2, I2, ry, q2⟩ => Calls.spliced_nil ?_)))
  exact mt_popT1 hu pins s2 σ H2 (.ref a) [y] _ _ Q I2 rfl (.cons ry .nil) q2
end
theorem drop_zip {α : Type} (q : List L2.Key) : ∀ {ks : List (List L2.Key)} {xs : List α}, ks.length = xs.length → (ks.zip xs).filter (fun kv => decide (kv.1 ≠ q)) = (dropDK ks q).zip (dropDV ks xs q) ∧ (dropDK ks q).length = (dropDV ks xs q).length
  | [], [], _ => ⟨rfl, rfl⟩
  | [], _ :: _, h => by simp at h
  | _ :: _, [], h => by simp at h
  | k :: ks, x :: xs, h => by
    obtain ⟨i1, i2⟩ := drop_zip q (ks := ks) (xs := xs) (by simpa using h)
    have e1 : dropDK (k :: ks) q = if k ≠ q then k :: dropDK ks q else dropDK ks q := by
      unfold dropDK
      rw [List.filter_cons]
      by_cases hk : k = q <;> simp [hk]
    have e2 : dropDV (k :: ks) (x :: xs) q = if k ≠ q then x :: dropDV ks xs q else dropDV ks xs q := by
      unfold dropDV
      rw [List.zip_cons_cons, List.filter_cons]
      by_cases hk : k = q <;> simp [hk]
    rw [e1, e2, List.zip_cons_cons, List.filter_cons]
    by_cases hk : k = q
    · simp only [hk, ne_eq, not_true_eq_false, decide_false, Bool.false_eq_true, if_false]
      exact ⟨i1, i2⟩
    · simp only [hk, ne_eq, not_false_eq_true, decide_true, if_true]
      exact ⟨by rw [List.zip_cons_cons, i1], by rw [List.length_cons, List.length_cons, i2]⟩
theorem Reps.drop0 {K : PySem.W.Frag} {H : Hp} {hot : List Addr} (q : List L2.Key) : ∀ {ks : List (List L2.Key)} {vs : List V} {ds : List D} {A : List Addr}, Reps K H hot 0 vs ds A → Reps K H hot 0 (dropDV ks vs q) (dropDV ks ds q) []
  | [], _, _, _, _ => .nil 0
  | _ :: _, _, _, _, .nil _ => .nil 0
  | k :: ks, v :: vs, d :: ds, _, .cons h hs => by
    have e0 := h.zero
    subst e0
    have ih := Reps.drop0 q (ks := ks) hs
    have e2 : ∀ {α : Type} (x : α) (xs : List α), dropDV (k :: ks) (x :: xs) q = if k ≠ q then x :: dropDV ks xs q else dropDV ks xs q := fun x xs => by
      unfold dropDV
      rw [List.zip_cons_cons, List.filter_cons]
      by_cases hk : k = q <;> simp [hk]
    rw [e2, e2]
    by_cases hk : k = q
    · simp only [hk, ne_eq, not_true_eq_false, if_false]
      exact ih
    · simp only [hk, ne_eq, not_false_eq_true, if_true]
      exact Reps.cons (A := []) h ih
theorem ixK_val {α : Type} (q : List L2.Key) : ∀ {ks : List (List L2.Key)} {xs : List α} {x : α}, dval ks xs q = some x → xs[ixK ks q]? = some x
  | [], _, _, h => by simp [dval] at h
  | _ :: _, [], _, h => by simp [dval] at h
  | k :: ks, x :: xs, y, h => by
    unfold ixK
    rw [List.findIdx_cons]
    by_cases e : k = q
    · have e2 : x = y := by simpa [dval, e] using h
      simp [e, e2]
    · have e2 : dval ks xs q = some y := by simpa [dval, e] using h
      have := ixK_val q e2
      unfold ixK at this
      simp only [e, decide_false, cond_false, List.getElem?_cons_succ]
      exact this
theorem valV_ixK (q : List L2.Key) : ∀ {ks : List (List L2.Key)} {vs : List V} {v : V}, ks.length = vs.length → vs[ixK ks q]? = some v → valV (ks.zip vs) q = some v
  | [], [], _, _, h => by simp at h
  | [], _ :: _, _, h, _ => by simp at h
  | _ :: _, [], _, h, _ => by simp at h
  | k :: ks, w :: vs, v, hl, h => by
    unfold ixK at h
    rw [List.findIdx_cons] at h
    rw [List.zip_cons_cons]
    by_cases e : k = q
    · rw [valV_pos e]
      simpa [e] using h
    · rw [valV_neg e]
      refine valV_ixK q (by simpa using hl) ?_
      unfold ixK
      simpa [e] using h
section
variable {K : PySem.W.Frag} {EX : Addr → Nat → Prop} {H0 H H' : Hp} {S : List Addr} {ts : List Tm} {σ : L2.St} {r : Env}
theorem Reps.at1 {hot : List Addr} {x : D} : ∀ {vs : List V} {ds : List D} {A : List Addr} (q : Nat), Reps K H hot 1 vs ds A → A.Nodup → ds[q]? = some x → ∃ v B, vs[q]? = some v ∧ Rep K H hot 1 v x B ∧ (∀ c ∈ B, c ∈ A) ∧
    ∀ (H' : Hp) (hot' S S' : List Addr), Fr H H' S S' hot hot' B → ∀ x', Rep K H' hot' 1 v x' B → Reps K H' hot' 1 vs (ds.set q x') A
  | _, _, _, q, .nil _, _, e => by simp at e
  | _, _, _, 0, .cons (A := A1) (B := B1) h hs, nd, e => by
    have e' := Option.some.inj e
    subst e'
    obtain ⟨n1, n2, n3⟩ := List.nodup_append.mp nd
    exact ⟨_, A1, rfl, h, fun c hc => List.mem_append_left _ hc, fun H' hot' S S' F x' h' => .cons h' (hs.frame F.c1 F.c2 F.hX F.c4 fun c hc hm => n3 c hc c hm rfl)⟩
  | _, _, _, q + 1, .cons (A := A1) (B := B1) h hs, nd, e => by
    obtain ⟨n1, n2, n3⟩ := List.nodup_append.mp nd
    obtain ⟨v, B, e1, e2, e3, g⟩ := Reps.at1 q hs n2 (by simpa using e)
    exact ⟨v, B, by simpa using e1, e2, fun c hc => List.mem_append_right _ (e3 c hc), fun H' hot' S S' F x' h' => .cons (h.frame F.c1 F.c2 F.hX F.c4 fun c hc hm => n3 c hm c (e3 c hc) rfl) (g H' hot' S S' F x' h')⟩
theorem Sta.toOpnD {v : V} {l : Nat} {t : Bool} {ks : List (List L2.Key)} {ds : List D} (st : Sta K EX H0 S (.own v (l + 1) (.dic t ks ds) :: ts) σ r H) : ∃ a vs, v = .ref a ∧ Sta K EX H0 S (.opnD a t ks vs l ds :: ts) σ r H := by
  obtain ⟨ex, sd, A, B, nd, new, hT, hS⟩ := st
  cases hT with
  | cons h hs =>
    cases h with
    | own h =>
      cases h with
      | dicS h1 ok hl h2 => exact ⟨_, _, rfl, ex, sd, _, B, nd, new, Tms.cons (.opnD h1 ok hl h2) hs, hS⟩
theorem Sta.opnD1 {a : Addr} {t : Bool} {ks : List (List L2.Key)} {vs : List V} {l : Nat} {ds : List D} (st : Sta K EX H0 S (.opnD a t ks vs (l + 1) ds :: ts) σ r H) : Sta K EX H0 S (.opnD a t ks vs 1 ds :: ts) σ r H :=
  st.swap fun hot A h nd ns => by
    cases h with
    | opnD h1 ok hl h2 =>
      obtain ⟨n1, n2⟩ := List.nodup_cons.mp nd
      obtain ⟨B', s, g⟩ := h2.low (l' := 1) (by omega) n2
      refine ⟨a :: B', s.cons_cons a, fun hot' q1 q2 q4 => .opnD h1 ok hl (g hot' q1 fun c hc hm => ?_)⟩
      rcases List.mem_cons.mp (q2 c (List.mem_cons_of_mem _ hc) hm) with z | z
      · subst z; exact absurd hc n1
      · exact z
theorem Sta.peekOD {a : Addr} {t : Bool} {ks : List (List L2.Key)} {vs : List V} {l : Nat} {ds : List D} (st : Sta K EX H0 S (.opnD a t ks vs l ds :: ts) σ r H) : H a = some (dOb t ks vs) ∧ dOk t ks ∧ ks.length = vs.length ∧ vs.length = ds.length := by
  obtain ⟨_, _, A, B, nd, _, hT, _⟩ := st
  cases hT with
  | cons h _ =>
    cases h with
    | opnD h1 ok hl h2 => exact ⟨h1, ok, hl, h2.length⟩
theorem Sta.mutIn {t1 : List Tm} {a : Addr} {t : Bool} {ks : List (List L2.Key)} {vs : List V} {ds : List D} {j : Nat} {x : D} (st : Sta K EX H0 S (t1 ++ (.opnD a t ks vs 1 ds :: ts)) σ r H) (mine : ∀ t ∈ ts, t.mine = true) (e : ds[j]? = some x) :
    ∃ v, vs[j]? = some v ∧ (∃ hot B, Rep K H hot 1 v x B) ∧ ∀ (b : Addr) (o : HO) (x' : D), v = .ref b → (∀ hot B, Rep K H hot 1 (.ref b) x B → B = [b]) →
      (∀ hot A1, Tms K H S hot t1 A1 → Rep K H hot 1 (.ref b) x [b] → A1 = [] ∧ ∀ hot', Fr H (upd H b o) S S hot hot' [b] → Rep K (upd H b o) hot' 1 (.ref b) x' [b]) →
      Sta K EX H0 S (.own (.ref a) 2 (.dic t ks (ds.set j x')) :: ts) σ r (upd H b o) := by
  obtain ⟨ex, sd, A, B, nd, new, hT, hS⟩ := st
  obtain ⟨A1, A2, rfl, h1, h2⟩ := Tms.split hT
  cases h2 with
  | cons h3 h4 =>
    cases h3 with
    | opnD ha ok hl hr =>
      rename_i A4 A3
      have nd' := nd
      rw [List.append_assoc] at nd'
      obtain ⟨_, n2, _⟩ := List.nodup_append.mp nd'
      obtain ⟨n3, n4, n5⟩ := List.nodup_append.mp n2
      obtain ⟨m1, m2, m3⟩ := List.nodup_append.mp n3
      obtain ⟨na, nA3⟩ := List.nodup_cons.mp m1
      obtain ⟨v, Bq, e1, rp, sub, f⟩ := Reps.at1 j hr nA3 e
      refine ⟨v, e1, ⟨_, _, rp⟩, fun b o x' ev hB g => ?_⟩
      subst ev
      have eB := hB _ _ rp
      subst eB
      obtain ⟨eA1, g2⟩ := g _ A1 h1 rp
      subst eA1
      simp only [List.nil_append] at nd new hS hT h1 rp f g2 h4 hr
      have inb3 : b ∈ A3 := sub b (by simp)
      have inb : b ∈ a :: A3 ++ A4 ++ B := List.mem_append_left _ (List.mem_append_left _ (List.mem_cons_of_mem _ inb3))
      have hab : a ≠ b := fun z => na (z ▸ inb3)
      have F : Fr H (upd H b o) S S (S ++ (a :: A3 ++ A4 ++ B)) (S ++ (a :: A3 ++ A4 ++ B)) [b] := ⟨fun c hc o e => by rw [upd_ne (by simpa using hc)]; exact e, fun c hc => by
        obtain rfl : c = b := by simpa using hc
        exact rp.mem c (by simp), fun c hc => by
        obtain rfl : c = b := by simpa using hc
        exact List.mem_append_right _ inb, fun c hc => .inl hc, fun c hc => List.mem_append_left _ hc, fun c hc => .inl hc⟩
      have nb : ∀ l : List Addr, b ∉ l → ∀ c ∈ [b], c ∉ l := fun l hl c hc => by
        obtain rfl : c = b := by simpa using hc
        exact hl
      refine ⟨fun c u e' => ?_, fun c hc => ?_, a :: A3 ++ A4, B, nd, new, Tms.cons (.own (.dicS (by rw [upd_ne hab]; exact ha) ok hl (f _ _ S S F x' (g2 _ F)))) (h4.frame F (.inr mine) (nb _ fun hm => m3 b (List.mem_cons_of_mem _ inb3) b hm rfl)), hS.frame F (nb _ fun hm => n5 b (List.mem_append_left _ (List.mem_cons_of_mem _ inb3)) b hm rfl)⟩
      · rw [upd_ne (fun z => by subst z; rw [(new c inb).1] at e'; cases e')]
        exact ex c u e'
      · by_cases z : c = b
        · subst z
          rw [upd_same]
          exact fun z => nomatch z
        · rw [upd_ne z]; exact sd c hc
theorem rep1_dic {hot B : List Addr} {b : Addr} {t : Bool} {ks : List (List L2.Key)} {ds : List D} (h : Rep K H hot 1 (.ref b) (.dic t ks ds) B) : B = [b] ∧ ∃ vs, H b = some (dOb t ks vs) ∧ dOk t ks ∧ ks.length = vs.length ∧ Reps K H hot 0 vs ds [] := by
  cases h with
  | dicS h ok hl hs =>
    have e := hs.zero
    subst e
    exact ⟨rfl, _, h, ok, hl, hs⟩
theorem rep1_lst {hot B : List Addr} {b : Addr} {ds : List D} (h : Rep K H hot 1 (.ref b) (.lst ds) B) : B = [b] ∧ ∃ vs, H b = some (.lst vs) ∧ Reps K H hot 0 vs ds [] := by
  cases h with
  | lstS h hs =>
    have e := hs.zero
    subst e
    exact ⟨rfl, _, h, hs⟩
end
section
variable {C : Cfg} {cal : Bool} {N : List Str} {sc : Scope} {cf : Nat → List D → CR} {ca : Nat → Addr} {EX : Addr → Nat → Prop} {W : WX} {X : Cx} {K : PySem.W.Frag} {fu : Nat}
variable (G : GoodS C cal N sc cf ca EX W X)
include G
theorem s_dpop {i : Nat} {k : E} {u : Expr} {y : Str} {p1 p2 p3 p4 : Pos} (hy : mVar N sc i y = true) (hl : (p2.endLine == p3.line) = true) (hu : PE X u (tE C cf ca X.K EX W 9 k)) (hpu : plainX u = true) :
    PS X (.Expr (.Call (.Attribute (.Name y p1) "pop" p2) [u] [] p3) p4) (tS X.K ca EX W (evS C.G C.sub cf fu (.dpop i k))) := by
  have hs := star_cons (env := X.env) (xs := []) hpu
  refine PSimp (ps_expr (pe_dpop1 (by have := G.g.un; omega) (mVar_ok G.g hy p1) hu ⟨rfl, few1 hpu, hl, by rw [hs]; rfl⟩)) fun En σ H z => ?_
  obtain ⟨H0, S, ts, r, mine, st, z⟩ := z
  simp only [evS] at z
  split at z
  · rename_i m0 ks0 ds0 e0
    obtain ⟨a, vs0, h1, h0, _⟩ := Sta.mutateD (t1 := []) st mine e0
    refine ⟨.ref a, h1, a, rfl, isD_of (.inl h0), H0, S, ts, r, st, z.toO.imp fun a1 k v H1 st1 => ?_⟩
    obtain ⟨r1, l1, d1⟩ := a1
    obtain ⟨hot, rp⟩ := Sta.peek st1
    have st2 := Sta.pop st1
    simp only at k rp st2
    split at k
    · rename_i m ks ds e1
      split at k
      · rename_i q eq
        split at k
        · rename_i hz
          obtain ⟨b, vs, h3, h4, ok, hl, f⟩ := Sta.mutateD (t1 := []) st2 mine e1
          rw [h1] at h3
          cases h3
          have hk := key_is rp eq
          rcases hk with ⟨ht, _⟩ | ⟨_, c, rfl, hc⟩
          · cases ht
          · have hv : (valV (ks.zip vs) q).isSome = true := (val_mem q hl).mpr (hasK_iff.mp hz)
            obtain ⟨w, hw⟩ := Option.isSome_iff_exists.mp hv
            refine ⟨a, ks.zip vs, q, c, w, rfl, rfl, h4, hc, hw, ?_⟩
            obtain ⟨z1, z2⟩ := drop_zip q hl
            have st3 := f (dropDK ks q) (dropDV ks vs q) (dropDV ks ds q) (fun h => by cases h) z2 fun hot A1 q1 q2 => Reps.drop0 q q2
            have ez : HO.dT (dropK (ks.zip vs) q) = dOb true (dropDK ks q) (dropDV ks vs q) := by
              show HO.dT ((ks.zip vs).filter fun kv => decide (kv.1 ≠ q)) = _
              rw [z1]
              rfl
            rw [ez]
            exact k _ _ st3
        · exact k.elim
      · exact k.elim
    · exact k.elim
  · exact z.elim
theorem s_dputN {i : Nat} {k e : E} {x u : Expr} {y : Str} {p p1 p2 : Pos} (hy : mVar N sc i y = true) (hu : PE X u (tE C cf ca X.K EX W 9 k)) (he : PE X x (tE C cf ca X.K EX W 0 e)) (hx : plainX x = true) (hpu : plainX u = true) :
    PS X (.Assign [.Subscript (.Name y p1) u p2] x p) (tS X.K ca EX W (evS C.G C.sub cf fu (.dputN i k e))) := by
  refine PSimp (ps_dput (by have := G.g.un; omega) (mVar_ok G.g hy p1) hu he (by cases x <;> first | rfl | cases hx)) fun En σ H z => ?_
  obtain ⟨H0, S, ts, r, mine, st, z⟩ := z
  simp only [evS] at z
  split at z
  · rename_i m0 t0 ks0 ds0 e0
    refine ⟨H0, S, ts, r, st, z.toO.imp fun a1 k v H1 st1 => ?_⟩
    obtain ⟨a, vs0, h1, _⟩ := Sta.mutateD (t1 := []) (k := m0 + 1) st mine e0
    obtain ⟨r1, l1, d1⟩ := a1
    simp only at k st1
    split at k
    · rename_i l2 
      refine ⟨.ref a, h1, H0, S, _, _, st1, (Post.deep k.toO).imp fun a2 k w H2 st2 => ?_⟩
      obtain ⟨r2, l2', d2⟩ := a2
      obtain ⟨hot, rp⟩ := Sta.peek st2
      have st3 := Sta.lowT (l' := 1) (Sta.pop st2) (by omega)
      simp only at k rp st3
      split at k
      · rename_i m t ks ds e1
        split at k
        · rename_i q eq
          split at k
          · rename_i hz
            have st4 := st3.lowD e1 (l' := 2) (by omega)
            have e2 := getv_setO (l := 2) (d := .dic t ks ds) (getv_lt e1)
            obtain ⟨b, vs, h3, h4, ok, hl, f⟩ := Sta.mutateG (t1 := [_]) (k := 1) st4 mine e2
            rw [h1] at h3
            cases h3
            have hk := key_is rp eq
            have hnk : q ∉ ks := fun hm => by
              have := hasK_iff.mpr hm
              rw [hz.2] at this
              cases this
            have ek : dputK ks q = ks ++ [q] := by unfold dputK; rw [if_neg hnk]
            have ev : dputV ks vs q v = vs ++ [v] := by unfold dputV; rw [if_neg hnk]
            have hput := dput_of (v := v) h4 ok hl (by rw [← ln_eq]; exact hz.1) hk
            rw [ek, ev] at hput
            refine ⟨a, _, rfl, hput, ?_⟩
            have q5 := f (ks ++ [q]) (vs ++ [v]) (ds ++ [d1]) (by rw [← ek]; exact dOk_put ok hk.one) (by rw [List.length_append, List.length_append, hl]; rfl) fun hot A1 A0 q1 q2 nd => by
              have q3 := q1.own1
              refine ⟨A0 ++ (A1 ++ []), ?_, fun c hc => ?_, q2.append (Reps.cons q3 (.nil 1))⟩
              · rw [List.append_nil]
                exact List.perm_append_comm.nodup_iff.mp nd
              · rw [List.append_nil] at hc
                rcases List.mem_append.mp hc with z | z
                · exact List.mem_append_right _ z
                · exact List.mem_append_left _ z
            rw [List.set_set] at q5
            exact k _ _ q5
          · exact k.elim
        · exact k.elim
      · exact k.elim
    · exact k.elim
  · exact z.elim
theorem s_dput2 {i : Nat} {k k2 : E} {b : Bool} {u u2 : Expr} {y : Str} {kk : Nat} {p p1 p2 p5 p6 : Pos} (hy : mVar N sc i y = true) (hu : PE X u (tE C cf ca X.K EX W 9 k)) (hu2 : PE X u2 (tE C cf ca X.K EX W 9 k2)) (hpu : plainX u = true) (hpu2 : plainX u2 = true) :
    PS X (.Assign [.Subscript (.Subscript (.Name y p1) u p5) u2 p2] (.Constant (.bool b) kk p6) p) (tS X.K ca EX W (evS C.G C.sub cf fu (.dput2 i k k2 b))) := by
  refine PSimp (ps_dput (by have := G.g.un; omega) (pe_dget (by have := G.g.un; omega) (mVar_ok G.g hy p1) hu (noSl hpu)) hu2 pe_bl rfl) fun En σ H z => ?_
  obtain ⟨H0, S, ts, r, mine, st, z⟩ := z
  simp only [evS] at z
  split at z
  · rename_i m t ks ds e0
    split at z
    · rename_i hm
      obtain ⟨v, h1, st1⟩ := st.move e0 (by omega)
      obtain ⟨a, vs, rfl, st2⟩ := st1.toOpnD
      have st3 := st2.opnD1
      refine ⟨.ref a, h1, H0, S, _, _, st3, (Post.deep z.toO).imp fun a1 k1 v1 H1 st4 => ?_⟩
      obtain ⟨r1, l1, d1⟩ := a1
      simp only at k1 st4
      split at k1
      · rename_i q hq
        split at k1
        · rename_i t2 ks2 ds2 hd
          obtain ⟨hot, rp⟩ := Sta.peek st4
          have hk := key_is rp hq
          have st5 := Sta.pop st4
          obtain ⟨g1, ok, hl, hlv⟩ := Sta.peekOD st5
          have hix := ixK_val q hd
          obtain ⟨w, e1, ⟨hot2, B2, rp2⟩, _⟩ := Sta.mutIn (t1 := []) st5 mine hix
          have hval := valV_ixK q hl e1
          have hdg := dget_of (.inl g1) ok hk
          rw [hval] at hdg
          refine ⟨a, w, rfl, hdg, H0, S, _, _, st5, (Post.deep k1.toO).imp fun a2 k2 v2 H2 st6 => ?_⟩
          obtain ⟨r2, l2, d2⟩ := a2
          simp only at k2 st6
          split at k2
          · rename_i q2 hq2
            split at k2
            · rename_i hz
              obtain ⟨hot3, rp3⟩ := Sta.peek st6
              have hk2 := key_is rp3 hq2
              have st7 := Sta.pop st6
              obtain ⟨w', e1', ⟨hot4, B4, rp4⟩, f⟩ := Sta.mutIn (t1 := []) st7 mine hix
              rw [e1] at e1'
              cases e1'
              obtain ⟨c, rfl⟩ : ∃ c, w = .ref c := by cases rp4; exact ⟨_, rfl⟩
              obtain ⟨_, vs2, hc, ok2, hl2, _⟩ := rep1_dic rp4
              refine ⟨c, _, rfl, dput_of hc ok2 hl2 (by rw [← ln_eq]; exact hz) hk2, ?_⟩
              have st8 := f c (dOb t2 (dputK ks2 q2) (dputV ks2 vs2 q2 (.bl b))) (.dic t2 (dputK ks2 q2) (dputV ks2 ds2 q2 (.bl b))) rfl (fun hot B h => (rep1_dic h).1) fun hot A1 q1 q5 => by
                cases q1
                refine ⟨rfl, fun hot' F => ?_⟩
                obtain ⟨_, vs3, hc3, ok3, hl3, hs3⟩ := rep1_dic q5
                have ev : vs3 = vs2 := by
                  rw [hc] at hc3
                  exact (dOb_inj hl2 hl3 (Option.some.inj hc3)).symm
                subst ev
                exact .dicS upd_same (dOk_put ok2 hk2.one) (dputK_len ks2 vs3 q2 _ hl2) ((Reps.dput q2 hs3 (.bl 0 b)).frame F.c1 F.c2 F.hX F.c4 (by simp))
              have st9 := st8.store i
              rw [set_same h1] at st9
              exact k2 _ _ st9
            · exact k2.elim
          · exact k2.elim
        · exact k1.elim
      · exact k1.elim
    · exact z.elim
  · exact z.elim
theorem s_appD {i : Nat} {k e : E} {u x : Expr} {y : Str} {p0 p1 p2 p3 p4 : Pos} (hy : mVar N sc i y = true) (hl : (p2.endLine == p3.line) = true) (hk : PE X u (tE C cf ca X.K EX W 9 k)) (he : PE X x (tE C cf ca X.K EX W 0 e)) (hu : plainX u = true) (hx : plainX x = true) :
    PS X (.Expr (.Call (.Attribute (.Subscript (.Name y p1) u p0) "append" p2) [x] [] p3) p4) (tS X.K ca EX W (evS C.G C.sub cf fu (.appD i k e))) := by
  have hs := star_cons (env := X.env) (xs := []) hx
  refine PSimp (ps_expr (pe_bm F.plainAttrs_list F.slot_list_append (by with_unfolding_all rfl) mt_append (pe_dget (by have := G.g.un; omega) (mVar_ok G.g hy p1) hk (noSl hu)) (pa_cons he pa_nil hs) rfl (few1 hx) hl hs)) fun En σ H z => ?_
  obtain ⟨H0, S, ts, r, mine, st, z⟩ := z
  simp only [evS] at z
  split at z
  · rename_i m t ks ds e0
    split at z
    · rename_i hm
      obtain ⟨v, h1, st1⟩ := st.move e0 (by omega)
      obtain ⟨a, vs, rfl, st2⟩ := st1.toOpnD
      have st3 := st2.opnD1
      refine ⟨.ref a, h1, H0, S, _, _, st3, (Post.deep z.toO).imp fun a1 k1 v1 H1 st4 => ?_⟩
      obtain ⟨r1, l1, d1⟩ := a1
      simp only at k1 st4
      split at k1
      · rename_i q hq
        split at k1
        · rename_i es hd
          obtain ⟨hot, rp⟩ := Sta.peek st4
          have hk := key_is rp hq
          have st5 := Sta.pop st4
          obtain ⟨g1, ok, hl, hlv⟩ := Sta.peekOD st5
          have hix := ixK_val q hd
          obtain ⟨w, e1, ⟨hot2, B2, rp2⟩, _⟩ := Sta.mutIn (t1 := []) st5 mine hix
          obtain ⟨c, rfl⟩ : ∃ c, w = .ref c := by cases rp2; exact ⟨_, rfl⟩
          obtain ⟨_, ws, hc, hws⟩ := rep1_lst rp2
          have hval := valV_ixK q hl e1
          have hdg := dget_of (.inl g1) ok hk
          rw [hval] at hdg
          refine ⟨a, .ref c, rfl, hdg, .inl ⟨rfl, ws, SqL.of hc⟩, H0, S, _, _, st5, (Post.deep k1.toO).imp fun a2 k2 v2 H2 st6 => ?_⟩
          obtain ⟨r2, l2, d2⟩ := a2
          simp only at k2 st6
          obtain ⟨w', e1', ⟨hot4, B4, rp4⟩, f⟩ := Sta.mutIn (t1 := [_]) (Sta.lowT st6 (Nat.zero_le _)) mine hix
          rw [e1] at e1'
          cases e1'
          obtain ⟨_, ws4, hc4, hws4⟩ := rep1_lst rp4
          split at k2
          · rename_i hz
            refine ⟨c, ws4, v2, rfl, rfl, hc4, by rw [hws4.length, ← ln_eq]; exact hz, ?_⟩
            have st8 := f c (.lst (ws4 ++ [v2])) (.lst (es ++ [d2])) rfl (fun hot B h => (rep1_lst h).1) fun hot A1 q1 q5 => by
              have q3 := q1.own1
              have e3 := q3.zero
              subst e3
              refine ⟨rfl, fun hot' F => ?_⟩
              obtain ⟨_, ws5, hc5, hws5⟩ := rep1_lst q5
              rw [hc4] at hc5
              cases hc5
              have q6 := hws5.append (Reps.cons q3 (.nil 0))
              exact .lstS upd_same ((show Reps X.K H2 hot 0 (ws4 ++ [v2]) (es ++ [d2]) [] by simpa using q6).frame F.c1 F.c2 F.hX F.c4 (by simp))
            have st9 := st8.store i
            rw [set_same h1] at st9
            exact k2 _ _ st9
          · exact k2.elim
        · exact k1.elim
      · exact k1.elim
    · exact z.elim
  · exact z.elim
end
/-! ### a for over a dict, unlocked behind it -/
section
variable {X : Cx}
def tUnl (t : TS) : TS := fun D σ H => ∃ d u, H d = some u ∧ Mut (some u) ∧ t ⟨fun σ' H' => ∃ od u', H' d = some (.frz od u') ∧ D.nx σ' (upd H' d u'), D.rt, D.bk, D.ct⟩ σ H
theorem ps_unl {st : Stmt} {t : TS} (h : PS X st t) : PS X st (tUnl t) := by
  refine ⟨fun pins s σ H D I hw => ?_⟩
  obtain ⟨d, u, hd, mu, hw⟩ := hw
  refine thn (h.run pins s σ _ _ I hw) fun f s1 q => ?_
  cases f with
  | next => obtain ⟨σ', H', I2, od, u', e, q⟩ := q; exact ⟨σ', _, I2.unlock e (I.nofrz hd mu), q⟩
  | brk => exact q
  | cont => exact q
  | ret v => exact q
end
section
variable {C : Cfg} {cal : Bool} {N : List Str} {sc : Scope} {cf : Nat → List D → CR} {ca : Nat → Addr} {EX EX' : Addr → Nat → Prop} {W : WX} {X : Cx} {K : PySem.W.Frag} {fu : Nat}
/-- which errors are known does not matter where none is at hand -/
theorem GoodS.anyX (G : GoodS C cal N sc cf ca EX W X) (hc : cal = true) : GoodS C cal N sc cf ca EX' W X where
  g := { hN := G.g.hN, nd := G.g.nd, sr := G.g.sr, fo := G.g.fo, calm := G.g.calm, un := G.g.un, tk := G.g.tk, fns := G.g.fns, dfl := G.g.dfl, bl := G.g.bl, gls := G.g.gls
         exN := fun k T h => by
          obtain ⟨cv, vv, h1, h2, h3, h4⟩ := G.g.exN k T h
          exact ⟨cv, vv, h1, h2, h3, fun z => by rw [hc] at z; cases z⟩
         exI := fun h => by rw [hc] at h; cases h }
  esc := G.esc
  po := G.po
  stk := G.stk
  frm := G.frm
  exK := G.exK
  exC := G.exC
  rs := G.rs
theorem s_forK2 (G : GoodS C cal N sc cf ca EX W X) {t : Tg} {b : B} {J : It} {xs : List D} {tt ts : List Tm} {bw : Bool} {H0 H1 : Hp} {S : List Addr} {σ : L2.St} {r1 : Env} {En : Ends} (sj : Src X.K EX J xs tt bw) (hw : bw = false) (mine : ∀ t ∈ ts, t.mine = true) (st1 : Sta X.K EX H0 S (tt ++ ts) σ r1 H1) (k : PostS X.K ca EX W H0 S (tt ++ ts) En (forT t (evB C.G C.sub cf fu b) xs r1)) {tb : TS} (imp : ∀ E σ H, tS X.K ca EX W (evB C.G C.sub cf fu b) E σ H → tb E σ H) :
    tFor (fun _ H R => R J H) (gTg X.K t) tb En σ H1 := by
  unfold forT at k
  generalize hF : (fun (q : Env) (x : D) => match t.put x q with
    | some q1 => evB C.G C.sub cf fu b q1
    | none => O.bad) = F at k
  have mine2 : ∀ u ∈ tt ++ ts, u.mine = true := fun u hu => (List.mem_append.mp hu).elim (sj.mine hw u) (mine u)
  refine ⟨fun i m σ H => m = xs.length - i ∧ i ≤ xs.length ∧ ∃ r, Sta X.K EX H0 S (tt ++ ts) σ r H ∧ PostS X.K ca EX W H0 S (tt ++ ts) En (forLoop F (xs.drop i) r), ⟨xs.length, by simp, Nat.zero_le _, r1, st1, by rw [List.drop_zero]; exact k⟩, ?_⟩
  rintro i m σ2 H2 ⟨rfl, hle, r2, st2, k2⟩
  by_cases hlt : i < xs.length
  · obtain ⟨d, hd⟩ : ∃ d, xs[i]? = some d := ⟨xs[i], List.getElem?_eq_getElem hlt⟩
    obtain ⟨go, step⟩ := (sj.turn i _ S _ _ _ H2 st2).2 d hd
    have hdrop : xs.drop i = d :: xs.drop (i + 1) := by
      rw [List.drop_eq_getElem_cons hlt]
      rw [List.getElem?_eq_getElem hlt] at hd
      cases hd
      rfl
    rw [hdrop, forLoop] at k2
    refine .inr ⟨go, fun σ H => ∃ r, Sta X.K EX H0 S (tt ++ ts) σ r H ∧ PostS X.K ca EX W H0 S (tt ++ ts) En (forLoop F (xs.drop (i + 1)) r), fun σ' H' nx => ⟨xs.length - (i + 1), by omega, rfl, hlt, nx⟩, fun v H3 y => ?_⟩
    have st3 := step v H3 y
    have hFd : F r2 d = match t.put d r2 with
      | some q1 => evB C.G C.sub cf fu b q1
      | none => O.bad := by rw [← hF]
    cases e3 : t.put d r2 with
    | none => rw [hFd, e3] at k2; exact k2.elim
    | some q1 =>
      rw [e3] at hFd
      refine put_sem st3 e3 fun σ3 l3 ag st4 => imp _ _ _ ⟨H0, S, tt ++ ts, q1, mine2, st4, ?_⟩
      simp only at hFd
      rw [hFd] at k2
      revert k2
      cases evB C.G C.sub cf fu b q1 with
      | nx r4 => exact fun k2 σ H st5 => ⟨r4, st5, k2⟩
      | ct r4 => exact fun k2 σ H st5 => ⟨r4, st5, k2⟩
      | bk r4 => exact fun k2 σ H st5 => k2 σ H st5
      | ret l d => exact fun k2 => k2
      | exc r4 c => exact fun k2 σ H st5 => k2 σ H st5
      | bad => exact fun k2 => k2
  · have ei : i = xs.length := by omega
    subst ei
    refine .inl ⟨(sj.turn _ H0 S _ _ _ H2 st2).1 rfl, ?_⟩
    rw [List.drop_length] at k2
    exact k2 _ _ st2
theorem s_forU (G : GoodS C cal N sc cf ca EX W X) {t : Tg} {i : Nat} {b : B} {tg : Expr} {y : Str} {xs : List Stmt} {p p1 : Pos} (hc : cal = true) (nx : ∀ a c, ¬ EX a c) (hy : mVar N sc i y = true) (hg : PG X tg (gTg X.K t)) (hb : ∀ EX', GoodS C cal N sc cf ca EX' W X → PSs X xs (tS X.K ca EX' W (evB C.G C.sub cf fu b))) :
    PS X (.For tg (.Name y p1) xs [] p) (tS X.K ca EX W (evS C.G C.sub cf fu (.forU t i b))) := by
  have hb' : PSs X xs (fun E σ H => ∃ a : Addr, tS X.K ca (fun c n => c = a ∧ n = 999) W (evB C.G C.sub cf fu b) E σ H) := ⟨fun pins s σ H E I q => by
    obtain ⟨a, q⟩ := q
    exact (hb _ (G.anyX hc)).run pins s σ H E I q⟩
  refine PSimp (ps_unl (ps_for (G.po hc) (G.g.calm hc) (pi_keys (pe_frz (mVar_ok G.g hy p1))) hg hb' (plain_fold rfl))) fun En σ H z => ?_
  obtain ⟨H0, S, ts, r, mine, st, z⟩ := z
  simp only [evS] at z
  split at z
  · rename_i m tt ks ds e0
    obtain ⟨a, vs0, ea, _⟩ := st.dicOwn e0
    have stM : Sta X.K (fun c n => c = a ∧ n = 999) H0 S ts σ r H := st.mono fun b c h => absurd h (nx b c)
    have stL := stM.lowD e0 (l' := 1) (by omega)
    have eL := getv_setO (l := 1) (d := .dic tt ks ds) (getv_lt e0)
    obtain ⟨vs, hH, ok, hl, f⟩ := stL.freezeU eL ea ⟨rfl, rfl⟩
    refine ⟨a, dOb tt ks vs, hH, dOb_mut, .ref a, ea, a, dOb tt ks vs, rfl, hH, dOb_mut, fun od => ⟨a, od, rfl, ?_⟩⟩
    have st1 := f od
    rw [List.set_set] at st1
    have k : PostS X.K ca (fun c n => c = a ∧ n = 999) W H0 S ([.lck a od tt ks vs ds] ++ ts) ⟨fun σ' H' => ∃ od u', H' a = some (.frz od u') ∧ En.nx σ' (upd H' a u'), En.rt, En.bk, En.ct⟩ (forT t (evB C.G C.sub cf fu b) (ks.map (keyDt tt)) (r.set i (some (1099, .exn)))) := by
      revert z
      cases forT t (evB C.G C.sub cf fu b) (ks.map (keyDt tt)) (r.set i (some (1099, .exn))) with
      | nx r1 =>
        intro z σ1 H1 st2
        simp only at z
        split at z
        · rename_i l e1
          split at z
          · rename_i hcond
            obtain ⟨rfl, hnx⟩ := hcond
            obtain ⟨q1, q2⟩ := Sta.unfreeze (EX' := EX) st2 mine e1 (fun b h => h.1) hnx
            exact ⟨od, _, q1, z _ _ q2⟩
          · exact z.elim
        · exact z.elim
      | ret l d => exact fun z => z
      | bk r1 => exact fun z => z.elim
      | ct r1 => exact fun z => z.elim
      | exc r1 c => exact fun z => z.elim
      | bad => exact fun z => z.elim
    have key : ∀ J, Src X.K (fun c n => c = a ∧ n = 999) J (ks.map (keyDt tt)) [.lck a od tt ks vs ds] false → tFor (fun _ H R => R J H) (gTg X.K t) (fun E σ H => ∃ a : Addr, tS X.K ca (fun c n => c = a ∧ n = 999) W (evB C.G C.sub cf fu b) E σ H) ⟨fun σ' H' => ∃ od u', H' a = some (.frz od u') ∧ En.nx σ' (upd H' a u'), En.rt, En.bk, En.ct⟩ σ (upd H a (.frz od (dOb tt ks vs))) := fun J sj => s_forK2 (G.anyX (EX' := fun c n => c = a ∧ n = 999) hc) (t := t) (b := b) (tt := [.lck a od tt ks vs ds]) sj rfl mine st1 k fun E σ H q => ⟨a, q⟩
    cases tt with
    | false => exact .inl ⟨_, upd_same, key _ (src_lckK ok hl)⟩
    | true => exact .inr ⟨_, upd_same, key _ (src_lckT hl)⟩
  · exact z.elim
end
end Ly

set_option Elab.async false
set_option linter.all false
set_option maxRecDepth 100000
set_option maxHeartbeats 2000000
/-! Statements: targets, comprehensions stored, errors caught; all together. -/
namespace Ly
open PySem PySem.Spec PyProof.Rows L2

/-! ### taking statements apart -/
def dAsg : Stmt → Option (Expr × Expr × Pos)
  | .Assign [t] e p => some (t, e, p)
  | _ => none
theorem dAsg_eq {s : Stmt} {t e : Expr} {p : Pos} (h : dAsg s = some (t, e, p)) : s = .Assign [t] e p := by
  unfold dAsg at h; split at h <;> first | (cases h; rfl) | cases h
def dNameP : Expr → Option (Str × Pos)
  | .Name x p => some (x, p)
  | _ => none
theorem dNameP_eq {e : Expr} {x : Str} {p : Pos} (h : dNameP e = some (x, p)) : e = .Name x p := by
  unfold dNameP at h; split at h <;> first | (cases h; rfl) | cases h
def dExp : Stmt → Option Expr
  | .Expr e _ => some e
  | _ => none
theorem dExp_eq {s : Stmt} {e : Expr} (h : dExp s = some e) : ∃ p, s = .Expr e p := by
  unfold dExp at h; split at h <;> first | (cases h; exact ⟨_, rfl⟩) | cases h
/-- y.m(x, z) -/
def dMeth2 : Expr → Option (Str × Str × Expr × Expr)
  | .Call (.Attribute (.Name y _) m p2) [x, z] [] p3 => if p2.endLine == p3.line then some (y, m, x, z) else none
  | _ => none
theorem dMeth2_eq {e x z : Expr} {y m : Str} (h : dMeth2 e = some (y, m, x, z)) : ∃ p1 p2 p3, e = .Call (.Attribute (.Name y p1) m p2) [x, z] [] p3 ∧ (p2.endLine == p3.line) = true := by
  unfold dMeth2 at h
  split at h
  · split at h
    · cases h; exact ⟨_, _, _, rfl, by assumption⟩
    · cases h
  · cases h
def dMeth0 : Expr → Option (Str × Str)
  | .Call (.Attribute (.Name y _) m p2) [] [] p3 => if p2.endLine == p3.line then some (y, m) else none
  | _ => none
theorem dMeth0_eq {e : Expr} {y m : Str} (h : dMeth0 e = some (y, m)) : ∃ p1 p2 p3, e = .Call (.Attribute (.Name y p1) m p2) [] [] p3 ∧ (p2.endLine == p3.line) = true := by
  unfold dMeth0 at h
  split at h
  · split at h
    · cases h; exact ⟨_, _, _, rfl, by assumption⟩
    · cases h
  · cases h
/-- y[0].append(x) -/
def dApp0 : Expr → Option (Str × Expr)
  | .Call (.Attribute (.Subscript (.Name y _) (.Constant (.int 0) _ _) _) "append" p2) [x] [] p3 => if p2.endLine == p3.line then some (y, x) else none
  | _ => none
theorem dApp0_eq {e x : Expr} {y : Str} (h : dApp0 e = some (y, x)) : ∃ kk p0 p1 p2 p3 p5, e = .Call (.Attribute (.Subscript (.Name y p1) (.Constant (.int 0) kk p5) p0) "append" p2) [x] [] p3 ∧ (p2.endLine == p3.line) = true := by
  unfold dApp0 at h
  split at h
  · split at h
    · cases h; exact ⟨_, _, _, _, _, _, rfl, by assumption⟩
    · cases h
  · cases h
/-- x[y.pop()] -/
def dAppL : Expr → Option (Str × Expr × Expr)
  | .Call (.Attribute (.Subscript (.Name y _) u _) m p2) [x] [] p3 => if m = "append" ∧ (p2.endLine == p3.line) = true then some (y, u, x) else none
  | _ => none
theorem dAppL_eq {e u x : Expr} {y : Str} (h : dAppL e = some (y, u, x)) : ∃ p0 p1 p2 p3, e = .Call (.Attribute (.Subscript (.Name y p1) u p0) "append" p2) [x] [] p3 ∧ (p2.endLine == p3.line) = true := by
  unfold dAppL at h
  split at h
  · split at h
    · rename_i e1
      cases h
      obtain ⟨rfl, hl⟩ := e1
      exact ⟨_, _, _, _, rfl, hl⟩
    · cases h
  · cases h
/-- x[u][u2] = b -/
def dPut2 : Stmt → Option (Str × Expr × Expr × Bool)
  | .Assign [.Subscript (.Subscript (.Name y _) u _) u2 _] (.Constant (.bool b) _ _) _ => some (y, u, u2, b)
  | _ => none
theorem dPut2_eq {s : Stmt} {y : Str} {u u2 : Expr} {b : Bool} (h : dPut2 s = some (y, u, u2, b)) : ∃ kk p p1 p2 p5 p6, s = .Assign [.Subscript (.Subscript (.Name y p1) u p5) u2 p2] (.Constant (.bool b) kk p6) p := by
  unfold dPut2 at h; split at h <;> first | (cases h; exact ⟨_, _, _, _, _, _, rfl⟩) | cases h
def dIxPop : Expr → Option (Expr × Str)
  | .Subscript x (.Call (.Attribute (.Name y _) "pop" p2) [] [] p3) _ => if p2.endLine == p3.line then some (x, y) else none
  | _ => none
theorem dIxPop_eq {e x : Expr} {y : Str} (h : dIxPop e = some (x, y)) : ∃ p0 p1 p2 p3, e = .Subscript x (.Call (.Attribute (.Name y p1) "pop" p2) [] [] p3) p0 ∧ (p2.endLine == p3.line) = true := by
  unfold dIxPop at h
  split at h
  · split at h
    · cases h; exact ⟨_, _, _, _, rfl, by assumption⟩
    · cases h
  · cases h
def dAug : Stmt → Option (Expr × Operator × Expr)
  | .AugAssign t o e _ => some (t, o, e)
  | _ => none
theorem dAug_eq {s : Stmt} {t e : Expr} {o : Operator} (h : dAug s = some (t, o, e)) : ∃ p, s = .AugAssign t o e p := by
  unfold dAug at h; split at h <;> first | (cases h; exact ⟨_, rfl⟩) | cases h
def dIfS : Stmt → Option (Expr × List Stmt × List Stmt)
  | .If c a b _ => some (c, a, b)
  | _ => none
theorem dIfS_eq {s : Stmt} {c : Expr} {a b : List Stmt} (h : dIfS s = some (c, a, b)) : ∃ p, s = .If c a b p := by
  unfold dIfS at h; split at h <;> first | (cases h; exact ⟨_, rfl⟩) | cases h
def dFor : Stmt → Option (Expr × Expr × List Stmt)
  | .For t i b [] _ => some (t, i, b)
  | _ => none
theorem dFor_eq {s : Stmt} {t i : Expr} {b : List Stmt} (h : dFor s = some (t, i, b)) : ∃ p, s = .For t i b [] p := by
  unfold dFor at h; split at h <;> first | (cases h; exact ⟨_, rfl⟩) | cases h
def dWhl : Stmt → Option (Expr × List Stmt)
  | .While c b [] _ => some (c, b)
  | _ => none
theorem dWhl_eq {s : Stmt} {c : Expr} {b : List Stmt} (h : dWhl s = some (c, b)) : ∃ p, s = .While c b [] p := by
  unfold dWhl at h; split at h <;> first | (cases h; exact ⟨_, rfl⟩) | cases h
def dRet : Stmt → Option (Option Expr)
  | .Return e _ => some e
  | _ => none
theorem dRet_eq {s : Stmt} {e : Option Expr} (h : dRet s = some e) : ∃ p, s = .Return e p := by
  unfold dRet at h; split at h <;> first | (cases h; exact ⟨_, rfl⟩) | cases h
def dRaise : Stmt → Option (Str × Str)
  | .Raise (some (.Call (.Name x _) [.Constant (.str m) _ _] [] _)) none _ => some (x, m)
  | _ => none
theorem dRaise_eq {s : Stmt} {x m : Str} (h : dRaise s = some (x, m)) : ∃ j p p1 p2 p3, s = .Raise (some (.Call (.Name x p1) [.Constant (.str m) j p2] [] p3)) none p := by
  unfold dRaise at h; split at h <;> first | (cases h; exact ⟨_, _, _, _, _, rfl⟩) | cases h
def dTry : Stmt → Option (List Stmt × Str × Option Str × Stmt × List Stmt)
  | .Try b [.ExceptHandler (some (.Name x _)) n (h0 :: h) _] [] [] _ => some (b, x, n, h0, h)
  | _ => none
theorem dTry_eq {s h0 : Stmt} {b h : List Stmt} {x : Str} {n : Option Str} (e : dTry s = some (b, x, n, h0, h)) : ∃ p p1 p2, s = .Try b [.ExceptHandler (some (.Name x p1)) n (h0 :: h) p2] [] [] p := by
  unfold dTry at e; split at e <;> first | (cases e; exact ⟨_, _, _, rfl⟩) | cases e
def dTry2 : Stmt → Option (List Stmt × Str × Stmt × List Stmt × Str × Stmt × List Stmt)
  | .Try b [.ExceptHandler (some (.Name x _)) none (h0 :: h) _, .ExceptHandler (some (.Name y _)) none (k0 :: k) _] [] [] _ => some (b, x, h0, h, y, k0, k)
  | _ => none
theorem dTry2_eq {s h0 k0 : Stmt} {b h k : List Stmt} {x y : Str} (e : dTry2 s = some (b, x, h0, h, y, k0, k)) : ∃ p p1 p2 p3 p4, s = .Try b [.ExceptHandler (some (.Name x p1)) none (h0 :: h) p2, .ExceptHandler (some (.Name y p3)) none (k0 :: k) p4] [] [] p := by
  unfold dTry2 at e; split at e <;> first | (cases e; exact ⟨_, _, _, _, _, rfl⟩) | cases e
def isPass : Stmt → Bool
  | .Pass _ => true
  | .Expr (.Constant (.str _) _ _) _ => true
  | _ => false
def isBrk : Stmt → Bool
  | .Break _ => true
  | _ => false
def isCont : Stmt → Bool
  | .Continue _ => true
  | _ => false
def isCompE : Expr → Bool
  | .ListComp _ _ _ _ => true
  | _ => false
/-- stored within the comprehension itself -/
def swB (sc : Scope) (t : Str) (pos : Pos) : Expr → Bool
  | .ListComp _ _ s p => (sc.names.lookup t == some .local) && (pos.line == p.line) && !(s.names.any fun (n, k) => n == t && (k == .local || k == .cell))
  | _ => false
theorem swB_eq {C : Cfg} {cal : Bool} {N : List Str} {sc : Scope} {e : E} {x : Expr} {t : Str} {pos : Pos} {l : Nat} {env : PySem.Env} (h : mE C cal N sc e x = true) (hs : env.scope = sc) (hk : sc.kind = .function) : swapsWith x (some (.Name t pos)) l env = pure (swB sc t pos x) := by
  have hb : env.blockKind = .function := by unfold Env.blockKind; rw [hs, hk]; rfl
  have hp := mE_plain e x h
  cases x <;> first | rfl | cases hp | skip
  show (pure (env.blockKind == ScopeKind.function && env.kindOf t == some NameKind.local && _ && _) : Sem Bool) = _
  rw [hb]
  unfold swB Env.kindOf
  rw [hs]
  rfl

mutual
/-- a try in it, or a walk of a locked dict -/
def hasTryS : S → Bool
  | .try_ _ _ _ _ => true
  | .try2 _ _ _ _ _ => true
  | .ife _ a b => hasTryB a || hasTryB b
  | .for_ _ _ b => hasTryB b
  | .forD _ _ b => hasTryB b
  | .forU _ _ _ => true
  | .forP _ _ _ b => hasTryB b
  | .whl _ b => hasTryB b
  | _ => false
def hasTryB : B → Bool
  | .nil => false
  | .cons s b => hasTryS s || hasTryB b
end
section
variable (C : Cfg) (N : List Str) (sc : Scope)
mutual
def mS (cal : Bool) : S → Stmt → Bool
  | .set i _ e, s => match dAsg s with
    | some (t, x, _) => (match dNameP t with
      | some (y, py) => decide (N[i]? = some y) && locB sc y && mE C cal N sc e x && (!swB sc y py x || (cal && (match e with
        | .comp _ _ _ _ _ => true
        | _ => false)))
      | none => false)
    | none => false
  | .setT js e, s => match dAsg s with
    | some (t, x, _) => cal && mTg N sc (.tup js) t && mE C cal N sc e x && !isTupE x
    | none => false
  | .drop e, s => match dExp s with
    | some x => mE C cal N sc e x && !isCompE x
    | none => false
  | .app i e, s => match dExp s with
    | some c => (match dMeth c with
      | some (y, m, x) => decide (m = "append") && mVar N sc i y && mE C cal N sc e x
      | none => false)
    | none => false
  | .ext i e, s => match dExp s with
    | some c => (match dMeth c with
      | some (y, m, x) => decide (m = "extend") && mVar N sc i y && mE C cal N sc e x
      | none => false)
    | none => false
  | .appP i e, s => match dExp s with
    | some c => (match dApp0 c with
      | some (y, x) => mVar N sc i y && mE C cal N sc e x
      | none => false)
    | none => false
  | .forP t a i b, s => match dFor s with
    | some (tg, it, xs) => (match dIxPop it with
      | some (x, y) => cal && mVar N sc i y && mE C cal N sc a x && mTg N sc t tg && mB cal b xs
      | none => false)
    | none => false
  | .forD t i b, s => match dFor s with
    | some (tg, it, xs) => (match dName it with
      | some y => cal && mVar N sc i y && mTg N sc t tg && mB cal b xs
      | none => false)
    | none => false
  | .forU t i b, s => match dFor s with
    | some (tg, it, xs) => (match dName it with
      | some y => cal && mVar N sc i y && mTg N sc t tg && mB cal b xs && !hasTryB b
      | none => false)
    | none => false
  | .dpop i k, s => match dExp s with
    | some c => (match dMeth c with
      | some (y, m, x) => decide (m = "pop") && mVar N sc i y && mE C cal N sc k x
      | none => false)
    | none => false
  | .dput2 i k k2 b, s => match dPut2 s with
    | some (y, u, u2, b') => mVar N sc i y && mE C cal N sc k u && mE C cal N sc k2 u2 && decide (b' = b)
    | none => false
  | .dputN i k e, s => match dAsg s with
    | some (t, x, _) => (match dSub t with
      | some (n, u) => (match dName n with
        | some y => mVar N sc i y && mE C cal N sc k u && mE C cal N sc e x
        | none => false)
      | none => false)
    | none => false
  | .appD i k e, s => match dExp s with
    | some c => (match dAppL c with
      | some (y, u, x) => mVar N sc i y && mE C cal N sc k u && mE C cal N sc e x
      | none => false)
    | none => false
  | .appL i k e, s => match dExp s with
    | some c => (match dAppL c with
      | some (y, u, x) => mVar N sc i y && mE C cal N sc k u && mE C cal N sc e x
      | none => false)
    | none => false
  | .ins i k e, s => match dExp s with
    | some c => (match dMeth2 c with
      | some (y, m, u, x) => decide (m = "insert") && mVar N sc i y && mE C cal N sc k u && mE C cal N sc e x
      | none => false)
    | none => false
  | .rvs i, s => match dExp s with
    | some c => (match dMeth0 c with
      | some (y, m) => decide (m = "reverse") && mVar N sc i y
      | none => false)
    | none => false
  | .clear i, s => match dExp s with
    | some c => (match dMeth0 c with
      | some (y, m) => decide (m = "clear") && mVar N sc i y
      | none => false)
    | none => false
  | .aug i o e, s => match dAug s with
    | some (t, op, x) => (match dName t with
      | some y => decide (N[i]? = some y) && locB sc y && mE C cal N sc e x && (decide (o = .add ∧ op = .Add) || decide (o = .sub ∧ op = .Sub))
      | none => false)
    | none => false
  | .seti i k e, s => match dAsg s with
    | some (t, x, _) => (match dSub t with
      | some (n, u) => (match dName n with
        | some y => mVar N sc i y && mE C cal N sc k u && mE C cal N sc e x
        | none => false)
      | none => false)
    | none => false
  | .dput i k e, s => match dAsg s with
    | some (t, x, _) => (match dSub t with
      | some (n, u) => (match dName n with
        | some y => mVar N sc i y && mE C cal N sc k u && mE C cal N sc e x
        | none => false)
      | none => false)
    | none => false
  | .ife c a b, s => match dIfS s with
    | some (x, xs, ys) => mE C cal N sc c x && mB cal a xs && mB cal b ys
    | none => false
  | .for_ t src b, s => match dFor s with
    | some (tg, it, xs) => cal && !src.bw && mSr C cal N sc src tg it && mTg N sc t tg && mB cal b xs
    | none => false
  | .whl c b, s => match dWhl s with
    | some (x, xs) => cal && mE C cal N sc c x && mB cal b xs
    | none => false
  | .ret e, s => match dRet s with
    | some (some x) => mE C cal N sc e x
    | _ => false
  | .retN, s => match dRet s with
    | some none => true
    | _ => false
  | .raise c m, s => match dRaise s with
    | some (x, m') => cal && decide (C.exs[c]? = some x) && decide (c < C.nown) && decide (m' = m) && glB sc x && dbg x
    | none => false
  | .try_ b c i h, s => match dTry s with
    | some (xs, x, n, y, ys) => cal && decide (C.exs[c]? = some x) && glB sc x && dbg x && mB true b xs && mB false h (y :: ys) && (match i, n with
      | some j, some m => decide (N[j]? = some m) && decide (sc.names.lookup m = some .local)
      | none, none => true
      | _, _ => false)
    | none => false
  | .try2 b c1 h1 c2 h2, s => match dTry2 s with
    | some (xs, x, y, ys, x', y', ys') => cal && decide (C.exs[c1]? = some x) && glB sc x && dbg x && decide (C.exs[c2]? = some x') && glB sc x' && dbg x' && mB true b xs && mB false h1 (y :: ys) && mB false h2 (y' :: ys')
    | none => false
  | .dsd i k e, s => match dExp s with
    | some c => (match dMeth2 c with
      | some (y, m, u, x) => decide (m = "setdefault") && mVar N sc i y && mE C cal N sc k u && mE C cal N sc e x
      | none => false)
    | none => false
  | .popS i, s => match dExp s with
    | some c => (match dMeth0 c with
      | some (y, m) => decide (m = "pop") && mVar N sc i y
      | none => false)
    | none => false
  | .pass, s => isPass s
  | .brk, s => isBrk s
  | .cont, s => isCont s
  | .bad, _ => true
def mB (cal : Bool) : B → List Stmt → Bool
  | .nil, [] => true
  | .cons s b, x :: xs => mS cal s x && mB cal b xs
  | _, _ => false
end
end

section
variable {C : Cfg} {cal : Bool} {N : List Str} {sc : Scope} {cf : Nat → List D → CR} {ca : Nat → Addr} {EX EX' : Addr → Nat → Prop} {W : WX} {X : Cx} {K : PySem.W.Frag} {fu : Nat}
section
variable {H0 H : Hp} {S : List Addr} {ts : List Tm} {σ : L2.St} {r : Env}
theorem Sta.putExc {a : Addr} {c : Nat} (st : Sta K EX H0 S ts σ r H) (h : EX a c) (j : Nat) : Sta K EX H0 S ts (σ.set j (some (.ref a))) (r.set j (some (100 + c, .exn))) H := by
  by_cases hi : j < r.length
  · obtain ⟨o, x, e1, e2, f⟩ := st.slot j hi
    exact f (some (.ref a)) (some (100 + c, .exn)) [] fun hot A _ nd ns => ⟨[], [], List.nil_sublist _, fun hot' h1 h2 h4 => ⟨.nil, .exc h⟩⟩
  · rw [set_ge (by rw [st.len]; omega), set_ge (by omega)]
    exact st
end
theorem GoodS.tr {W' : WX} (G : GoodS C cal N sc cf ca EX W X) (hc : cal = true) {pn : List (Addr × Obj)} {xe : Value → Shared → Prop} (tk : Takes (X.tr pn xe) W') (po : PassesOwn (model X.prog X.w) X.A X.env xe) : GoodS C cal N sc cf ca EX W' (X.tr pn xe) where
  g := { hN := G.g.hN, nd := G.g.nd, sr := G.g.sr, fo := G.g.fo, calm := G.g.calm, un := G.g.un, tk := tk, fns := G.g.fns, dfl := G.g.dfl, bl := G.g.bl, gls := G.g.gls, exN := G.g.exN, exI := fun h => by rw [hc] at h; cases h }
  esc := G.esc
  po := fun _ => po
  stk := G.stk
  frm := G.frm
  exK := G.exK
  exC := G.exC
  rs := G.rs
theorem GoodS.suite (G : GoodS C cal N sc cf ca EX W X) {a : Addr} {oe : Obj} {pn : List (Addr × Obj)} (hx : ∀ b c, EX' b c → CallR (X.suite a ((a, oe) :: pn)) (.builtin "isinstance") (rIsX X.K (ca c) b)) : GoodS C false N sc cf ca EX' W0 (X.suite a ((a, oe) :: pn)) where
  g := { hN := G.g.hN, nd := G.g.nd, sr := G.g.sr, fo := G.g.fo, calm := fun h => (nomatch h), un := G.g.un, tk := takes0, fns := fun h => (nomatch h), dfl := fun h => (nomatch h), bl := G.g.bl, gls := G.g.gls
         exN := fun k T h => by
          obtain ⟨cv, vv, h1, h2, h3, h4⟩ := G.exK k T h
          exact ⟨cv, vv, h1, h2, h3, fun _ a c _ => (h4 c).1⟩
         exI := fun _ => hx }
  esc := G.esc
  po := fun h => (nomatch h)
  stk := G.stk
  frm := G.frm
  exK := G.exK
  exC := G.exC
  rs := G.rs
theorem PostS.mono {H0 : Hp} {S : List Addr} {ts : List Tm} {En : Ends} {o : O} (h : PostS K ca EX W H0 S ts En o) (hx : ∀ r c, o ≠ .exc r c) {W' : WX} : PostS K ca EX W' H0 S ts En o := by
  cases o with
  | exc r c => exact absurd rfl (hx r c)
  | _ => exact h
section
variable (G : GoodS C cal N sc cf ca EX W X)
include G
theorem GoodS.names {k : Nat} {x : Str} (h : C.exs[k]? = some x) (hg : glB sc x = true) (hd : dbg x = true) : ∃ cv, Names X x cv ∧ ∀ c, PySem.W.exmOne X.K (.ref (ca c)) cv = some (C.sub c k) := by
  obtain ⟨cv, vv, h1, h2, h3, h4⟩ := G.exK k x h
  simp only [dbg, Bool.not_eq_true'] at hd
  exact ⟨cv, ⟨G.g.gl hg, hd, h3⟩, fun c => (h4 c).2⟩
theorem s_setc {i h : Nat} {h' : Nat} {elt : E} {t : Tg} {src : Sr} {cond : Eo} {x tg it : Expr} {y : Str} {ifs : List Expr} {scope : Scope} {p py p2 : Pos} (hc : cal = true) (hy : N[i]? = some y) (hl : sc.names.lookup y = some .local)
    (hsw : swapsWith (.ListComp x [⟨tg, it, ifs, 0⟩] scope p) (some (.Name y py)) p2.line X.env = pure true)
    (ok : BlkOk X.N X.env.scope scope (ownOf N t.ids)) (hi : PI X tg it (tSr C cf ca X.K EX W src))
    (hg : ∀ (s : Shared) (H : Hp) (C' : Addr) (cl : List (Str × Addr)) (fp : List Addr), PG (X.blk s H scope (compEnvC scope cl C' X.env) fp) tg (gTg X.K t))
    (ht : ∀ (s : Shared) (H : Hp) (C' : Addr) (cl : List (Str × Addr)) (fp : List Addr), PTs (X.blk s H scope (compEnvC scope cl C' X.env) fp) ifs (tIf C cf ca X.K EX W0 cond))
    (he : ∀ (s : Shared) (H : Hp) (C' : Addr) (cl : List (Str × Addr)) (fp : List Addr), PE (X.blk s H scope (compEnvC scope cl C' X.env) fp) x (tE C cf ca X.K EX W0 0 elt)) (hs : plainX it = true) :
    PS X (.Assign [.Name y py] (.ListComp x [⟨tg, it, ifs, 0⟩] scope p) p2) (tS X.K ca EX W (evS C.G C.sub cf fu (.set i h (.comp h' elt t src cond)))) := by
  have hids : (ownOf N t.ids).map (·.2) = t.ids := by simp [ownOf, Function.comp_def]
  refine PSimp (ps_setLc (G.g.calm hc) (by rw [G.g.hN]; exact G.g.nd) (by rw [G.g.hN]; exact hy) (by rw [G.esc]; exact hl) hsw hi ok hg ht he (plain_fold hs)) fun En σ H z => ?_
  rw [hids]
  obtain ⟨H0, S, ts, r, mine, st, z⟩ := z
  simp only [evS] at z
  exact comp_tLc G.g ⟨H0, S, ts, r, st, z.toO.imp fun a1 k v H1 st1 => k _ _ ((Sta.lowT st1 (Nat.min_le_left ..)).store i)⟩
theorem s_setT {js : List Nat} {e : E} {x t : Expr} {p : Pos} (hg : PG X t (gTg X.K (.tup js))) (ht : ∃ es k p, t = .Tuple es k p) (hx : isTupE x = false) (hp : plainX x = true) (he : PE X x (tE C cf ca X.K EX W 0 e)) :
    PS X (.Assign [t] x p) (tS X.K ca EX W (evS C.G C.sub cf fu (.setT js e))) := by
  obtain ⟨es, kk, p2, rfl⟩ := ht
  refine PSimp (ps_asg he hg (by cases x <;> first | rfl | cases hp) (by cases x <;> first | rfl | cases hx)) fun En σ H z => ?_
  obtain ⟨H0, S, ts, r, mine, st, z⟩ := z
  simp only [evS] at z
  refine ⟨H0, S, ts, r, st, z.toO.imp fun a1 k v H1 st1 => ?_⟩
  obtain ⟨r1, l1, d1⟩ := a1
  simp only at k
  cases d1 <;> first | exact k.elim | skip
  rename_i ds
  simp only at k
  split at k
  · rename_i hl
    exact put_sem (t := .tup js) (Sta.lowT st1 (Nat.zero_le _)) (show (if ds.length = js.length then some (setAll js ds r1) else none) = some (setAll js ds r1) by rw [if_pos hl]) fun σ' _ _ st2 => k σ' H1 st2
  · exact k.elim
theorem s_tryAs {b h : B} {c j : Nat} {xs ys : List Stmt} {x n : Str} {y : Stmt} {p p1 p2 : Pos} (nx : ∀ a c, ¬ EX a c) (hc : cal = true) (hx : C.exs[c]? = some x) (hg : glB sc x = true) (hd : dbg x = true) (hj : N[j]? = some n) (hl : sc.names.lookup n = some .local)
    (hb : ∀ W X, GoodS C true N sc cf ca EX W X → PSs X xs (tS X.K ca EX W (evB C.G C.sub cf fu b)))
    (hh : ∀ EX X, GoodS C false N sc cf ca EX W0 X → PSs X (y :: ys) (tS X.K ca EX W0 (evB C.G C.sub cf fu h))) :
    PS X (.Try xs [.ExceptHandler (some (.Name x p1)) (some n) (y :: ys) p2] [] [] p) (tS X.K ca EX W (evS C.G C.sub cf fu (.try_ b c (some j) h))) := by
  subst hc
  obtain ⟨cv, nm, em⟩ := G.names hx hg hd
  refine PSimp (ps_try_as (i := j) (tb := fun W' => tS X.K ca EX W' (evB C.G C.sub cf fu b)) (ts := fun a cls d En σ H => ∃ c', cls = .ref (ca c') ∧ d = none ∧ tS X.K ca (fun b k => b = a ∧ k = c') W0 (evB C.G C.sub cf fu h) En σ H)
    G.stk G.frm (by rw [G.g.hN]; exact G.g.nd) (by rw [G.g.hN]; exact hj) (by unfold Env.kindOf; rw [G.esc]; exact hl) nm G.g.tk (fun W' pn xe tk po => hb W' _ (G.tr rfl tk po)) (fun a oe cls d pn hz hf => ?_)) fun En σ H z => ?_
  · refine ⟨fun pins s σ H En I q => ?_⟩
    obtain ⟨c', rfl, rfl, q⟩ := q
    exact (hh _ _ (G.suite (EX' := fun b k => b = a ∧ k = c') (oe := oe) (pn := pn) fun b k e => by
      obtain ⟨rfl, rfl⟩ := e
      exact call_isX (G.exC (fun e => by rw [e] at hx; simp at hx) k) hz hf)).run pins s σ H En I q
  · obtain ⟨H0, S, ts, r, mine, st, z⟩ := z
    simp only [evS] at z
    refine ⟨H0, S, ts, r, mine, st, ?_⟩
    revert z
    cases evB C.G C.sub cf fu b r with
    | nx r1 => exact fun z => z
    | bk r1 => exact fun z => z
    | ct r1 => exact fun z => z
    | ret l d => exact fun z => z
    | bad => exact fun z => z
    | exc r1 k =>
      intro z σ1 H1 st1
      simp only at z
      refine ⟨C.sub k c, em k, fun hs a ha => ?_, fun hs => ?_⟩
      · rw [if_pos hs] at z
        refine ⟨k, rfl, rfl, H0, S, ts, r1.set j (some (100 + k, .exn)), mine, (st1.mono fun a c e => absurd e (nx a c)).putExc ⟨rfl, rfl⟩ j, ?_⟩
        revert z
        cases evB C.G C.sub cf fu h (r1.set j (some (100 + k, .exn))) with
        | nx r2 =>
          intro z σ2 H2 st2
          simp only at z
          split at z
          · rename_i hn
            exact z _ _ ((st2.drop j none).noX hn)
          · exact z.elim
        | bk r2 =>
          intro z σ2 H2 st2
          simp only at z
          split at z
          · rename_i hn
            exact z _ _ ((st2.drop j none).noX hn)
          · exact z.elim
        | ct r2 =>
          intro z σ2 H2 st2
          simp only at z
          split at z
          · rename_i hn
            exact z _ _ ((st2.drop j none).noX hn)
          · exact z.elim
        | ret l d => exact fun z => z
        | exc r2 c2 => exact fun z => z.elim
        | bad => exact fun z => z
      · rw [if_neg (by rw [hs]; exact Bool.false_ne_true)] at z
        exact z _ _ st1
theorem s_tryOnly {b h : B} {c : Nat} {xs ys : List Stmt} {x : Str} {y : Stmt} {p p1 p2 : Pos} (nx : ∀ a c, ¬ EX a c) (hc : cal = true) (hx : C.exs[c]? = some x) (hg : glB sc x = true) (hd : dbg x = true)
    (hb : ∀ W X, GoodS C true N sc cf ca EX W X → PSs X xs (tS X.K ca EX W (evB C.G C.sub cf fu b)))
    (hh : ∀ EX X, GoodS C false N sc cf ca EX W0 X → PSs X (y :: ys) (tS X.K ca EX W0 (evB C.G C.sub cf fu h))) :
    PS X (.Try xs [.ExceptHandler (some (.Name x p1)) none (y :: ys) p2] [] [] p) (tS X.K ca EX W (evS C.G C.sub cf fu (.try_ b c none h))) := by
  subst hc
  obtain ⟨cv, nm, em⟩ := G.names hx hg hd
  refine PSimp (ps_try_only (tb := fun W' => tS X.K ca EX W' (evB C.G C.sub cf fu b)) (ts := fun a cls d En σ H => tS X.K ca EX W0 (evB C.G C.sub cf fu h) En σ H)
    G.stk G.frm nm G.g.tk (fun W' pn xe tk po => hb W' _ (G.tr rfl tk po)) (fun a oe cls d pn hz hf => ?_)) fun En σ H z => ?_
  · exact hh _ _ (G.suite (EX' := EX) (oe := oe) (pn := pn) fun b k e => absurd e (nx b k))
  · obtain ⟨H0, S, ts, r, mine, st, z⟩ := z
    simp only [evS] at z
    refine ⟨H0, S, ts, r, mine, st, ?_⟩
    revert z
    cases evB C.G C.sub cf fu b r with
    | nx r1 => exact fun z => z
    | bk r1 => exact fun z => z
    | ct r1 => exact fun z => z
    | ret l d => exact fun z => z
    | bad => exact fun z => z
    | exc r1 k =>
      intro z σ1 H1 st1
      simp only at z
      refine ⟨C.sub k c, em k, fun hs a ha => ?_, fun hs => ?_⟩
      · rw [if_pos hs] at z
        refine ⟨H0, S, ts, r1, mine, st1, ?_⟩
        revert z
        cases evB C.G C.sub cf fu h r1 with
        | exc r2 c2 => exact fun z => z.elim
        | _ => exact fun z => z
      · rw [if_neg (by rw [hs]; exact Bool.false_ne_true)] at z
        exact z _ _ st1
theorem s_try2 {b h h' : B} {c c' : Nat} {xs ys ys' : List Stmt} {x x' : Str} {y y' : Stmt} {p p1 p2 p3 p4 : Pos} (nx : ∀ a c, ¬ EX a c) (hc : cal = true) (hx : C.exs[c]? = some x) (hg : glB sc x = true) (hd : dbg x = true) (hx' : C.exs[c']? = some x') (hg' : glB sc x' = true) (hd' : dbg x' = true)
    (hb : ∀ W X, GoodS C true N sc cf ca EX W X → PSs X xs (tS X.K ca EX W (evB C.G C.sub cf fu b)))
    (hh : ∀ EX X, GoodS C false N sc cf ca EX W0 X → PSs X (y :: ys) (tS X.K ca EX W0 (evB C.G C.sub cf fu h)))
    (hh' : ∀ EX X, GoodS C false N sc cf ca EX W0 X → PSs X (y' :: ys') (tS X.K ca EX W0 (evB C.G C.sub cf fu h'))) :
    PS X (.Try xs [.ExceptHandler (some (.Name x p1)) none (y :: ys) p2, .ExceptHandler (some (.Name x' p3)) none (y' :: ys') p4] [] [] p) (tS X.K ca EX W (evS C.G C.sub cf fu (.try2 b c h c' h'))) := by
  subst hc
  obtain ⟨cv, nm, em⟩ := G.names hx hg hd
  obtain ⟨cv', nm', em'⟩ := G.names hx' hg' hd'
  refine PSimp (ps_try_many (tb := fun W' => tS X.K ca EX W' (evB C.G C.sub cf fu b)) (l := [(cv, fun a cls d En σ H => tS X.K ca EX W0 (evB C.G C.sub cf fu h) En σ H), (cv', fun a cls d En σ H => tS X.K ca EX W0 (evB C.G C.sub cf fu h') En σ H)])
    G.stk G.frm G.g.tk (fun W' pn xe tk po => hb W' _ (G.tr rfl tk po)) (.cons nm (fun a oe cls d pn hz hf => ?_) (.cons nm' (fun a oe cls d pn hz hf => ?_) .nil))) fun En σ H z => ?_
  · exact hh _ _ (G.suite (EX' := EX) (oe := oe) (pn := pn) fun b k e => absurd e (nx b k))
  · exact hh' _ _ (G.suite (EX' := EX) (oe := oe) (pn := pn) fun b k e => absurd e (nx b k))
  · obtain ⟨H0, S, ts, r, mine, st, z⟩ := z
    simp only [evS] at z
    refine ⟨H0, S, ts, r, mine, st, ?_⟩
    revert z
    cases evB C.G C.sub cf fu b r with
    | nx r1 => exact fun z => z
    | bk r1 => exact fun z => z
    | ct r1 => exact fun z => z
    | ret l d => exact fun z => z
    | bad => exact fun z => z
    | exc r1 k =>
      intro z σ1 H1 st1
      simp only at z
      refine ⟨C.sub k c, em k, fun hs a ha => ?_, fun hs => ⟨C.sub k c', em' k, fun hs' a ha => ?_, fun hs' => ?_⟩⟩
      · rw [if_pos hs] at z
        refine ⟨H0, S, ts, r1, mine, st1, ?_⟩
        revert z
        cases evB C.G C.sub cf fu h r1 with
        | exc r2 c2 => exact fun z => z.elim
        | _ => exact fun z => z
      · rw [if_neg (by rw [hs]; exact Bool.false_ne_true), if_pos hs'] at z
        refine ⟨H0, S, ts, r1, mine, st1, ?_⟩
        revert z
        cases evB C.G C.sub cf fu h' r1 with
        | exc r2 c2 => exact fun z => z.elim
        | _ => exact fun z => z
      · rw [if_neg (by rw [hs]; exact Bool.false_ne_true), if_neg (by rw [hs']; exact Bool.false_ne_true)] at z
        exact z _ _ st1
end
end
end Ly

set_option Elab.async false
set_option linter.all false
set_option maxRecDepth 100000
set_option maxHeartbeats 2000000
/-! All statements together; defs; the law's entry. -/
namespace Ly
open PySem PySem.Spec PyProof.Rows L2
section
variable {C : Cfg} {N : List Str} {sc : Scope} {cf : Nat → List D → CR} {ca : Nat → Addr} {fu : Nat}
/-- what is never come to -/
theorem s_bad {EX : Addr → Nat → Prop} {W : WX} {X : Cx} (x : Stmt) : PS X x (tS X.K ca EX W (evS C.G C.sub cf fu .bad)) := ⟨fun pins s σ H E I q => by
  obtain ⟨_, _, _, _, _, _, z⟩ := q
  simp only [evS] at z
  exact z.elim⟩
mutual
theorem sS : ∀ (s : S) (x : Stmt) (cal : Bool) (EX : Addr → Nat → Prop) (W : WX) (X : Cx), GoodS C cal N sc cf ca EX W X → (hasTryS s = true → cal = true → ∀ a c, ¬ EX a c) → mS C N sc cal s x = true → PS X x (tS X.K ca EX W (evS C.G C.sub cf fu s))
  | .set i h e, s, cal, EX, W, X, G, nx, hm => by
    simp only [mS] at hm
    split at hm
    · rename_i t x p e1
      obtain rfl := dAsg_eq e1
      split at hm
      · rename_i y py e2
        obtain rfl := dNameP_eq e2
        simp only [Bool.and_eq_true, decide_eq_true_eq, Bool.or_eq_true, Bool.not_eq_true'] at hm
        obtain ⟨⟨⟨h1, h2⟩, h3⟩, h4⟩ := hm
        have hk : sc.kind = .function := by have := G.g.sr.1; rw [G.esc] at this; exact this
        have sw := fun l => swB_eq (t := y) (pos := py) (l := l) (env := X.env) h3 G.esc hk
        rcases h4 with h4 | ⟨hc, h4⟩
        · exact s_set0 G h1 h2 (by rw [sw, h4]) ((sE e x sc W X G.g h3).1 0)
        · cases hsw : swB sc y py x with
          | false => exact s_set0 G h1 h2 (by rw [sw, hsw]) ((sE e x sc W X G.g h3).1 0)
          | true =>
            cases e <;> first | cases h4 | skip
            rename_i hh elt tt src cond
            have h3' := h3
            simp only [mE] at h3'
            split at h3'
            · rename_i u tg it ifs sc' e3
              obtain ⟨p3, rfl⟩ := dComp_eq e3
              simp only [Bool.and_eq_true] at h3'
              obtain ⟨⟨⟨⟨⟨k1, k2⟩, k3⟩, k4⟩, k5⟩, k6⟩ := h3'
              have hk' := (blkOk_by k3).kind
              have hloc : sc.names.lookup y = some .local := by
                have z := hsw
                unfold swB at z
                simp only [Bool.and_eq_true, beq_iff_eq] at z
                exact z.1.1
              exact s_setc G hc h1 hloc (by rw [sw, hsw]) (G.g.blkOk k3) (sSr src tg it sc W X G.g k2)
                (fun s H C' cl fp => g_tg (G.g.blk hc hk' s H C' cl fp) hc k4)
                (fun s H C' cl fp => sIf cond ifs sc' W0 _ (G.g.blk hc hk' s H C' cl fp) k6)
                (fun s H C' cl fp => (sE elt u sc' W0 _ (G.g.blk hc hk' s H C' cl fp) k5).1 0) (mSr_plain src tg it k2)
            · cases h3'
      · cases hm
    · cases hm
  | .setT js e, s, cal, EX, W, X, G, nx, hm => by
    simp only [mS] at hm
    split at hm
    · rename_i t x p e1
      obtain rfl := dAsg_eq e1
      simp only [Bool.and_eq_true, Bool.not_eq_true'] at hm
      obtain ⟨⟨⟨h1, h2⟩, h3⟩, h4⟩ := hm
      refine s_setT G (g_tg G.g h1 h2) ?_ h4 (mE_plain e x h3) ((sE e x sc W X G.g h3).1 0)
      simp only [mTg] at h2
      split at h2
      · rename_i es e2
        obtain ⟨k, p, rfl⟩ := dTup_eq e2
        exact ⟨es, k, p, rfl⟩
      · cases h2
    · cases hm
  | .drop e, s, cal, EX, W, X, G, nx, hm => by
    simp only [mS] at hm
    split at hm
    · rename_i x e1
      obtain ⟨p, rfl⟩ := dExp_eq e1
      simp only [Bool.and_eq_true, Bool.not_eq_true'] at hm
      have hp := mE_plain e x hm.1
      exact s_drop G (by cases x <;> first | rfl | exact absurd (show true = false from hm.2) (by decide) | cases hp) ((sE e x sc W X G.g hm.1).1 9)
    · cases hm
  | .app i e, s, cal, EX, W, X, G, nx, hm => by
    simp only [mS] at hm
    split at hm
    · rename_i c e1
      obtain ⟨p, rfl⟩ := dExp_eq e1
      split at hm
      · rename_i y m x e2
        obtain ⟨p1, p2, p3, rfl, hl⟩ := dMeth_eq e2
        simp only [Bool.and_eq_true, decide_eq_true_eq] at hm
        obtain ⟨⟨rfl, h1⟩, h2⟩ := hm
        exact s_app G h1 hl (mE_plain e x h2) ((sE e x sc W X G.g h2).1 0)
      · cases hm
    · cases hm
  | .ext i e, s, cal, EX, W, X, G, nx, hm => by
    simp only [mS] at hm
    split at hm
    · rename_i c e1
      obtain ⟨p, rfl⟩ := dExp_eq e1
      split at hm
      · rename_i y m x e2
        obtain ⟨p1, p2, p3, rfl, hl⟩ := dMeth_eq e2
        simp only [Bool.and_eq_true, decide_eq_true_eq] at hm
        obtain ⟨⟨rfl, h1⟩, h2⟩ := hm
        exact s_ext G h1 hl (mE_plain e x h2) ((sE e x sc W X G.g h2).1 1)
      · cases hm
    · cases hm
  | .appP i e, s, cal, EX, W, X, G, nx, hm => by
    simp only [mS] at hm
    split at hm
    · rename_i c e1
      obtain ⟨p, rfl⟩ := dExp_eq e1
      split at hm
      · rename_i y x e2
        obtain ⟨kk, p0, p1, p2, p3, p5, rfl, hl⟩ := dApp0_eq e2
        simp only [Bool.and_eq_true] at hm
        exact s_appP G hm.1 hl (mE_plain e x hm.2) ((sE e x sc W X G.g hm.2).1 0)
      · cases hm
    · cases hm
  | .appL i k e, s, cal, EX, W, X, G, nx, hm => by
    simp only [mS] at hm
    split at hm
    · rename_i c e1
      obtain ⟨p, rfl⟩ := dExp_eq e1
      split at hm
      · rename_i y u x e2
        obtain ⟨p0, p1, p2, p3, rfl, hl⟩ := dAppL_eq e2
        simp only [Bool.and_eq_true] at hm
        obtain ⟨⟨h1, h2⟩, h3⟩ := hm
        exact s_appL G h1 hl ((sE k u sc W X G.g h2).1 9) ((sE e x sc W X G.g h3).1 0) (mE_plain k u h2) (mE_plain e x h3)
      · cases hm
    · cases hm
  | .forD t i b, s, cal, EX, W, X, G, nx, hm => by
    simp only [mS] at hm
    split at hm
    · rename_i tg it xs e1
      obtain ⟨p, rfl⟩ := dFor_eq e1
      split at hm
      · rename_i y e2
        obtain ⟨p0, rfl⟩ := dName_eq e2
        simp only [Bool.and_eq_true] at hm
        obtain ⟨⟨⟨h1, h2⟩, h4⟩, h5⟩ := hm
        exact s_forD G h1 h2 (g_tg G.g h1 h4) (sB b xs cal EX W X G (fun h => nx (by simpa [hasTryS] using h)) h5)
      · cases hm
    · cases hm
  | .forU t i b, s, cal, EX, W, X, G, nx, hm => by
    simp only [mS] at hm
    split at hm
    · rename_i tg it xs e1
      obtain ⟨p, rfl⟩ := dFor_eq e1
      split at hm
      · rename_i y e2
        obtain ⟨p0, rfl⟩ := dName_eq e2
        simp only [Bool.and_eq_true, Bool.not_eq_true'] at hm
        obtain ⟨⟨⟨⟨h1, h2⟩, h4⟩, h5⟩, h6⟩ := hm
        exact s_forU G h1 (nx (by simp [hasTryS]) h1) h2 (g_tg G.g h1 h4) (fun EX' G' => sB b xs cal EX' W X G' (fun h => by rw [h6] at h; cases h) h5)
      · cases hm
    · cases hm
  | .dpop i k, s, cal, EX, W, X, G, nx, hm => by
    simp only [mS] at hm
    split at hm
    · rename_i c e1
      obtain ⟨p, rfl⟩ := dExp_eq e1
      split at hm
      · rename_i y m x e2
        obtain ⟨p1, p2, p3, rfl, hl⟩ := dMeth_eq e2
        simp only [Bool.and_eq_true, decide_eq_true_eq] at hm
        obtain ⟨⟨rfl, h1⟩, h2⟩ := hm
        exact s_dpop G h1 hl ((sE k x sc W X G.g h2).1 9) (mE_plain k x h2)
      · cases hm
    · cases hm
  | .dput2 i k k2 b, s, cal, EX, W, X, G, nx, hm => by
    simp only [mS] at hm
    split at hm
    · rename_i y u u2 b' e1
      obtain ⟨kk, p, p1, p2, p5, p6, rfl⟩ := dPut2_eq e1
      simp only [Bool.and_eq_true, decide_eq_true_eq] at hm
      obtain ⟨⟨⟨h1, h2⟩, h3⟩, rfl⟩ := hm
      exact s_dput2 G h1 ((sE k u sc W X G.g h2).1 9) ((sE k2 u2 sc W X G.g h3).1 9) (mE_plain k u h2) (mE_plain k2 u2 h3)
    · cases hm
  | .dputN i k e, s, cal, EX, W, X, G, nx, hm => by
    simp only [mS] at hm
    split at hm
    · rename_i t x p e1
      obtain rfl := dAsg_eq e1
      split at hm
      · rename_i n u e2
        obtain ⟨p2, rfl⟩ := dSub_eq e2
        split at hm
        · rename_i y e3
          obtain ⟨p3, rfl⟩ := dName_eq e3
          simp only [Bool.and_eq_true] at hm
          obtain ⟨⟨h1, h2⟩, h3⟩ := hm
          exact s_dputN G h1 ((sE k u sc W X G.g h2).1 9) ((sE e x sc W X G.g h3).1 0) (mE_plain e x h3) (mE_plain k u h2)
        · cases hm
      · cases hm
    · cases hm
  | .appD i k e, s, cal, EX, W, X, G, nx, hm => by
    simp only [mS] at hm
    split at hm
    · rename_i c e1
      obtain ⟨p, rfl⟩ := dExp_eq e1
      split at hm
      · rename_i y u x e2
        obtain ⟨p0, p1, p2, p3, rfl, hl⟩ := dAppL_eq e2
        simp only [Bool.and_eq_true] at hm
        obtain ⟨⟨h1, h2⟩, h3⟩ := hm
        exact s_appD G h1 hl ((sE k u sc W X G.g h2).1 9) ((sE e x sc W X G.g h3).1 0) (mE_plain k u h2) (mE_plain e x h3)
      · cases hm
    · cases hm
  | .forP t a i b, s, cal, EX, W, X, G, nx, hm => by
    simp only [mS] at hm
    split at hm
    · rename_i tg it xs e1
      obtain ⟨p, rfl⟩ := dFor_eq e1
      split at hm
      · rename_i x y e2
        obtain ⟨p0, p1, p2, p3, rfl, hl⟩ := dIxPop_eq e2
        simp only [Bool.and_eq_true] at hm
        obtain ⟨⟨⟨⟨h1, h2⟩, h3⟩, h4⟩, h5⟩ := hm
        exact s_forP G h1 h2 hl ((sE a x sc W X G.g h3).1 0) (g_tg G.g h1 h4) (sB b xs cal EX W X G (fun h => nx (by simpa [hasTryS] using h)) h5)
      · cases hm
    · cases hm
  | .ins i k e, s, cal, EX, W, X, G, nx, hm => by
    simp only [mS] at hm
    split at hm
    · rename_i c e1
      obtain ⟨p, rfl⟩ := dExp_eq e1
      split at hm
      · rename_i y m u x e2
        obtain ⟨p1, p2, p3, rfl, hl⟩ := dMeth2_eq e2
        simp only [Bool.and_eq_true, decide_eq_true_eq] at hm
        obtain ⟨⟨⟨rfl, h1⟩, h2⟩, h3⟩ := hm
        exact s_ins G h1 hl ((sE k u sc W X G.g h2).1 9) ((sE e x sc W X G.g h3).1 0) (mE_plain k u h2) (mE_plain e x h3)
      · cases hm
    · cases hm
  | .rvs i, s, cal, EX, W, X, G, nx, hm => by
    simp only [mS] at hm
    split at hm
    · rename_i c e1
      obtain ⟨p, rfl⟩ := dExp_eq e1
      split at hm
      · rename_i y m e2
        obtain ⟨p1, p2, p3, rfl, hl⟩ := dMeth0_eq e2
        simp only [Bool.and_eq_true, decide_eq_true_eq] at hm
        obtain ⟨rfl, h1⟩ := hm
        exact s_rvs G h1 hl
      · cases hm
    · cases hm
  | .clear i, s, cal, EX, W, X, G, nx, hm => by
    simp only [mS] at hm
    split at hm
    · rename_i c e1
      obtain ⟨p, rfl⟩ := dExp_eq e1
      split at hm
      · rename_i y m e2
        obtain ⟨p1, p2, p3, rfl, hl⟩ := dMeth0_eq e2
        simp only [Bool.and_eq_true, decide_eq_true_eq] at hm
        obtain ⟨rfl, h1⟩ := hm
        exact s_clear G h1 hl
      · cases hm
    · cases hm
  | .aug i o e, s, cal, EX, W, X, G, nx, hm => by
    simp only [mS] at hm
    split at hm
    · rename_i t op x e1
      obtain ⟨p, rfl⟩ := dAug_eq e1
      split at hm
      · rename_i y e2
        obtain ⟨p2, rfl⟩ := dName_eq e2
        simp only [Bool.and_eq_true, decide_eq_true_eq, Bool.or_eq_true] at hm
        obtain ⟨⟨⟨h1, h2⟩, h3⟩, h4⟩ := hm
        exact s_aug G h1 h2 h4 ((sE e x sc W X G.g h3).1 9)
      · cases hm
    · cases hm
  | .seti i k e, s, cal, EX, W, X, G, nx, hm => by
    simp only [mS] at hm
    split at hm
    · rename_i t x p e1
      obtain rfl := dAsg_eq e1
      split at hm
      · rename_i n u e2
        obtain ⟨p2, rfl⟩ := dSub_eq e2
        split at hm
        · rename_i y e3
          obtain ⟨p3, rfl⟩ := dName_eq e3
          simp only [Bool.and_eq_true] at hm
          obtain ⟨⟨h1, h2⟩, h3⟩ := hm
          exact s_seti G h1 ((sE k u sc W X G.g h2).1 9) ((sE e x sc W X G.g h3).1 0) (mE_plain e x h3) (mE_plain k u h2)
        · cases hm
      · cases hm
    · cases hm
  | .dput i k e, s, cal, EX, W, X, G, nx, hm => by
    simp only [mS] at hm
    split at hm
    · rename_i t x p e1
      obtain rfl := dAsg_eq e1
      split at hm
      · rename_i n u e2
        obtain ⟨p2, rfl⟩ := dSub_eq e2
        split at hm
        · rename_i y e3
          obtain ⟨p3, rfl⟩ := dName_eq e3
          simp only [Bool.and_eq_true] at hm
          obtain ⟨⟨h1, h2⟩, h3⟩ := hm
          exact s_dput G h1 ((sE k u sc W X G.g h2).1 9) ((sE e x sc W X G.g h3).1 0) (mE_plain e x h3) (mE_plain k u h2)
        · cases hm
      · cases hm
    · cases hm
  | .ife c a b, s, cal, EX, W, X, G, nx, hm => by
    simp only [mS] at hm
    split at hm
    · rename_i x xs ys e1
      obtain ⟨p, rfl⟩ := dIfS_eq e1
      simp only [Bool.and_eq_true] at hm
      obtain ⟨⟨h1, h2⟩, h3⟩ := hm
      exact s_ife G (sE c x sc W X G.g h1).2 (sB a xs cal EX W X G (fun h => nx (by simp [hasTryS, h])) h2) (sB b ys cal EX W X G (fun h => nx (by simp [hasTryS, h])) h3)
    · cases hm
  | .for_ t src b, s, cal, EX, W, X, G, nx, hm => by
    simp only [mS] at hm
    split at hm
    · rename_i tg it xs e1
      obtain ⟨p, rfl⟩ := dFor_eq e1
      simp only [Bool.and_eq_true, Bool.not_eq_true'] at hm
      obtain ⟨⟨⟨⟨h1, h0⟩, h2⟩, h3⟩, h4⟩ := hm
      exact s_for G h1 h0 (sSr src tg it sc W X G.g h2) (g_tg G.g h1 h3) (sB b xs cal EX W X G (fun h => nx (by simpa [hasTryS] using h)) h4) (mSr_plain src tg it h2)
    · cases hm
  | .whl c b, s, cal, EX, W, X, G, nx, hm => by
    simp only [mS] at hm
    split at hm
    · rename_i x xs e1
      obtain ⟨p, rfl⟩ := dWhl_eq e1
      simp only [Bool.and_eq_true] at hm
      obtain ⟨⟨h1, h2⟩, h3⟩ := hm
      exact s_whl G h1 (sE c x sc W X G.g h2).2 (sB b xs cal EX W X G (fun h => nx (by simpa [hasTryS] using h)) h3)
    · cases hm
  | .ret e, s, cal, EX, W, X, G, nx, hm => by
    simp only [mS] at hm
    split at hm
    · rename_i x e1
      obtain ⟨p, rfl⟩ := dRet_eq e1
      exact s_ret G ((sE e x sc W X G.g hm).1 0)
    · cases hm
  | .retN, s, cal, EX, W, X, G, nx, hm => by
    simp only [mS] at hm
    split at hm
    · rename_i e1
      obtain ⟨p, rfl⟩ := dRet_eq e1
      exact s_retN G
    · cases hm
  | .raise c m, s, cal, EX, W, X, G, nx, hm => by
    simp only [mS] at hm
    split at hm
    · rename_i x m' e1
      obtain ⟨j, p, p1, p2, p3, rfl⟩ := dRaise_eq e1
      simp only [Bool.and_eq_true, decide_eq_true_eq] at hm
      obtain ⟨⟨⟨⟨⟨h1, h2⟩, h3⟩, rfl⟩, h5⟩, h6⟩ := hm
      exact s_raise G h1 h2 h3 h5 h6
    · cases hm
  | .try_ b c i h, s, cal, EX, W, X, G, nx, hm => by
    simp only [mS] at hm
    split at hm
    · rename_i xs x n y ys e1
      obtain ⟨p, p1, p2, rfl⟩ := dTry_eq e1
      simp only [Bool.and_eq_true, decide_eq_true_eq] at hm
      obtain ⟨⟨⟨⟨⟨⟨h1, h2⟩, h3⟩, h4⟩, h5⟩, h6⟩, h7⟩ := hm
      cases i with
      | some j =>
        cases n with
        | some m =>
          simp only [Bool.and_eq_true, decide_eq_true_eq] at h7
          exact s_tryAs G (nx (by simp [hasTryS]) h1) h1 h2 h3 h4 h7.1 h7.2 (fun W X G' => sB b xs true EX W X G' (fun _ _ => nx (by simp [hasTryS]) h1) h5) (fun EX' X G' => sB h (y :: ys) false EX' W0 X G' (fun _ z => nomatch z) h6)
        | none => cases h7
      | none =>
        cases n with
        | some m => cases h7
        | none => exact s_tryOnly G (nx (by simp [hasTryS]) h1) h1 h2 h3 h4 (fun W X G' => sB b xs true EX W X G' (fun _ _ => nx (by simp [hasTryS]) h1) h5) (fun EX' X G' => sB h (y :: ys) false EX' W0 X G' (fun _ z => nomatch z) h6)
    · cases hm
  | .try2 b c1 h1 c2 h2, s, cal, EX, W, X, G, nx, hm => by
    simp only [mS] at hm
    split at hm
    · rename_i xs x y ys x' y' ys' e1
      obtain ⟨p, p1, p2, p3, p4, rfl⟩ := dTry2_eq e1
      simp only [Bool.and_eq_true, decide_eq_true_eq] at hm
      obtain ⟨⟨⟨⟨⟨⟨⟨⟨⟨k1, k2⟩, k3⟩, k4⟩, k5⟩, k6⟩, k7⟩, k8⟩, k9⟩, k10⟩ := hm
      exact s_try2 G (nx (by simp [hasTryS]) k1) k1 k2 k3 k4 k5 k6 k7 (fun W X G' => sB b xs true EX W X G' (fun _ _ => nx (by simp [hasTryS]) k1) k8) (fun EX' X G' => sB h1 (y :: ys) false EX' W0 X G' (fun _ z => nomatch z) k9) (fun EX' X G' => sB h2 (y' :: ys') false EX' W0 X G' (fun _ z => nomatch z) k10)
    · cases hm
  | .dsd i k e, s, cal, EX, W, X, G, nx, hm => by
    simp only [mS] at hm
    split at hm
    · rename_i c e1
      obtain ⟨p, rfl⟩ := dExp_eq e1
      split at hm
      · rename_i y m u x e2
        obtain ⟨p1, p2, p3, rfl, hl⟩ := dMeth2_eq e2
        simp only [Bool.and_eq_true, decide_eq_true_eq] at hm
        obtain ⟨⟨⟨rfl, h1⟩, h2⟩, h3⟩ := hm
        exact s_dsd G h1 hl ((sE k u sc W X G.g h2).1 9) ((sE e x sc W X G.g h3).1 9) (mE_plain k u h2) (mE_plain e x h3)
      · cases hm
    · cases hm
  | .popS i, s, cal, EX, W, X, G, nx, hm => by
    simp only [mS] at hm
    split at hm
    · rename_i c e1
      obtain ⟨p, rfl⟩ := dExp_eq e1
      split at hm
      · rename_i y m e2
        obtain ⟨p1, p2, p3, rfl, hl⟩ := dMeth0_eq e2
        simp only [Bool.and_eq_true, decide_eq_true_eq] at hm
        obtain ⟨rfl, h1⟩ := hm
        exact s_pop G h1 hl
      · cases hm
    · cases hm
  | .pass, s, cal, EX, W, X, G, nx, hm => by
    simp only [mS] at hm
    unfold isPass at hm
    split at hm
    · exact s_nx G ps_pass fun r => by simp only [evS]
    · exact s_nx G ps_doc fun r => by simp only [evS]
    · cases hm
  | .brk, s, cal, EX, W, X, G, nx, hm => by
    simp only [mS] at hm
    unfold isBrk at hm
    split at hm
    · exact s_brk G
    · cases hm
  | .cont, s, cal, EX, W, X, G, nx, hm => by
    simp only [mS] at hm
    unfold isCont at hm
    split at hm
    · exact s_cont G
    · cases hm
  | .bad, s, cal, EX, W, X, G, nx, hm => s_bad s
theorem sB : ∀ (b : B) (xs : List Stmt) (cal : Bool) (EX : Addr → Nat → Prop) (W : WX) (X : Cx), GoodS C cal N sc cf ca EX W X → (hasTryB b = true → cal = true → ∀ a c, ¬ EX a c) → mB C N sc cal b xs = true → PSs X xs (tS X.K ca EX W (evB C.G C.sub cf fu b))
  | .nil, [], cal, EX, W, X, G, nx, hm => b_nil G
  | .nil, _ :: _, cal, EX, W, X, G, nx, hm => by simp [mB] at hm
  | .cons _ _, [], cal, EX, W, X, G, nx, hm => by simp [mB] at hm
  | .cons s b, x :: xs, cal, EX, W, X, G, nx, hm => by
    simp only [mB, Bool.and_eq_true] at hm
    exact b_cons G (sS s x cal EX W X G (fun h => nx (by simp [hasTryB, h])) hm.1) (sB b xs cal EX W X G (fun h => nx (by simp [hasTryB, h])) hm.2)
end
end

/-! ### defs -/
/-- a def as it stands behind the top, with defaults or without -/
def FunX (K : PySem.W.Frag) (x : Str) (st : Stmt) (fa : Addr) (fd : FuncData) : Prop := ∃ dvs, FunD K x x (defArgs st) (defBody st) (defScope st) dvs [] fa fd
theorem FunX.of {K : PySem.W.Frag} {x : Str} {st : Stmt} {fa : Addr} {fd : FuncData} (F : Fun K x x st fa fd) : FunX K x st fa fd := by
  obtain ⟨oc, od, kV, doc, pm, an, cdv, ct, osl, e, lk, hcd⟩ := F.ex
  exact ⟨[], ⟨oc, od, .none, kV, doc, pm, an, cdv, ct, osl, e, lk, hcd, .inl ⟨rfl, rfl⟩, .inl rfl⟩, F.kp⟩
/-- a def of the program, of ours -/
def DefAt (K : PySem.W.Frag) (mg : Str → Option Value) (C : Cfg) (T : List Fn) (f : Nat) (x : Str) (fa : Addr) (fd : FuncData) (ps : List Str) : Prop :=
  ∃ (st : Stmt) (N : List Str) (F : Fn), mg x = some (.ref fa) ∧ PySem.W.keepIn K (.ref fa) = true ∧ FunX K x st fa fd ∧ Binds K fd ps [] ∧ (∀ ss, (f, ss) ∈ C.dfl → ∃ dsv, Vals (ss.map V.str) dsv ∧ Binds K fd ps dsv) ∧ FnScope N ps (defScope st) ∧ T[f]? = some F ∧ F.np = ps.length ∧ F.nn = N.length ∧ mB C N (defScope st) true F.body (defBody st) = true
structure DefOk (K : PySem.W.Frag) (mg : Str → Option Value) (C : Cfg) (T : List Fn) (f : Nat) (x : Str) : Prop where
  ex : ∃ (fa : Addr) (fd : FuncData) (ps : List Str), DefAt K mg C T f x fa fd ps
structure Tops (K : PySem.W.Frag) (mg : Str → Option Value) (C : Cfg) (ca : Nat → Addr) : Prop where
  bl : ∀ x ∈ bNames, mg x = none
  gls : ∀ (g : Nat) (p : Str × D), C.gls[g]? = some p → ∃ u v, mg p.1 = some u ∧ RelV v u ∧ ∀ H hot, Rep K H hot 0 v p.2 []
  exK : ∀ (k : Nat) (T : Str), C.exs[k]? = some T → ∃ cv vv, RelV vv cv ∧ (∀ u, RelV vv u → u = cv) ∧ (mg T = some cv ∨ (mg T = none ∧ bootBuiltins T = some cv ∧ T ≠ "__name__")) ∧ ∀ c, PySem.W.kitOne K (.ref (ca c)) cv = some (C.sub c k) ∧ PySem.W.exmOne K (.ref (ca c)) cv = some (C.sub c k)
  exC : C.exs ≠ [] → ∀ c, ExcC K (ca c)
  rs : ∀ (k : Nat) (T : Str), C.exs[k]? = some T → k < C.nown → ∃ (newId initId B : String) (bmB : List Value), ExcBaseFacts B newId initId bmB ∧ PySem.W.excIn K (ca k) bmB newId = true ∧ mg T = some (.ref (ca k)) ∧ PySem.W.keepIn K (.ref (ca k)) = true ∧ PySem.W.subIn K (.ref (ca k)) (.type "BaseException") = some true ∧ PySem.W.typeIn K (.ref (ca k)) = some (.type "type")
def NoEX : Addr → Nat → Prop := fun _ _ => False
section
variable {P : Program} {w : World} {K : PySem.W.Frag} {mg : Str → Option Value} {base : Heap} {C : Cfg} {ca : Nat → Addr} {fu : Nat} {T : List Fn}
theorem Slots.args {H : Hp} {hot : List Addr} : ∀ {vs : List V} {ds : List D} {A : List Addr}, Reps K H hot 0 vs ds A → ∀ n, Slots K NoEX H hot (vs.map some ++ List.replicate n none) (ds.map (fun d => some (0, d)) ++ List.replicate n none) A
  | _, _, _, .nil _, n => by
    induction n with
    | zero => exact .nil
    | succ n ih => exact Slots.cons (A := []) .non ih
  | _, _, _, .cons h hs, n => Slots.cons (.sm h) (Slots.args hs n)
theorem fns_ok (D : ∀ f x, C.fns[f]? = some x → DefOk K mg C T f x) (Tp : Tops K mg C ca) : ∀ (n : Nat) (f : Nat) (x : Str) (fa : Addr) (fd : FuncData) (ps : List Str), DefAt K mg C T f x fa fd ps → FnOk P w K mg base (L2.CX P w) n fa fd ps (spF K ca (callF C.G C.sub T fu n) f) := by
  intro n
  induction n with
  | zero =>
    intro f x fa fd ps hf
    refine ⟨fun vs H Q E h => ?_, fun A outer s H args us vs Q E hr he hb hv h => ?_⟩
    · obtain ⟨S, ds, _, _, h⟩ := h
      exact h.elim
    · obtain ⟨S, ds, _, _, h⟩ := h
      exact h.elim
  | succ n ih =>
    intro f x fa fd ps hf
    obtain ⟨st, N, F, h1, h2, ⟨dvs, h3⟩, h4, _, h5, h6, h7, h8, h9⟩ := hf
    refine h3.ok h5 (fun vs H Q E h => ?_) fun cdv A outer s H vs Q E hr h => ⟨tS K ca NoEX (fun cls d _ H => E cls d H) (evB C.G C.sub (callF C.G C.sub T fu n) fu F.body), ?_, ?_⟩
    · obtain ⟨S, ds, _, rp, h⟩ := h
      rw [callF, h6] at h
      simp only at h
      rw [rp.length]
      split at h
      · rename_i e
        split at e
        · rw [← h7]; assumption
        · cases e
      · rename_i e
        split at e
        · rw [← h7]; assumption
        · cases e
      · exact h.elim
    · refine sB F.body (defBody st) true NoEX _ _ (sc := defScope st) ?_ (fun _ _ _ _ h => h) h9
      refine { g := { hN := rfl, nd := h5.nd, sr := ⟨h5.kind, fun x k h => ⟨k, h, .inl rfl⟩⟩, fo := fun x h => rfl, calm := fun _ => rfl, un := ?_, tk := takes_of rfl rfl rfl rfl, fns := fun _ f' x' hf' => ?_, dfl := fun _ f' ss hs x' hf' => ?_, bl := Tp.bl, gls := Tp.gls, exN := fun k T' h => ?_, exI := fun h => nomatch h }, esc := rfl, po := fun _ => passes_of rfl, stk := rfl, frm := rfl, exK := Tp.exK, exC := Tp.exC, rs := fun k T' h hk => ?_ }
      · have := hr.un
        show (A.deeper _).units + 70 < cLine
        omega
      · obtain ⟨fa', fd', ps', hd⟩ := (D f' x' hf').ex
        have k4 := ih f' x' fa' fd' ps' hd
        obtain ⟨st', N', F', k1, k2, _, k3, _⟩ := hd
        exact ⟨fa', fd', ps', n, k1, k2, k3, k4, hr⟩
      · obtain ⟨fa', fd', ps', hd⟩ := (D f' x' hf').ex
        have k4 := ih f' x' fa' fd' ps' hd
        obtain ⟨st', N', F', k1, k2, _, _, k3, _⟩ := hd
        obtain ⟨dsv, k5, k6⟩ := k3 ss hs
        exact ⟨fa', fd', ps', n, dsv, k1, k2, k6, k5, k4, hr⟩
      · obtain ⟨cv, vv, k1, k2, k3, k4⟩ := Tp.exK k T' h
        exact ⟨cv, vv, k1, k2, k3, fun z => nomatch z⟩
      · obtain ⟨newId, initId, B, bmB, k1, k2, k3, k4, k5, k6⟩ := Tp.rs k T' h hk
        exact ⟨newId, initId, B, bmB, k1, k2, k3, k4, raises_own k5 k6⟩
    · obtain ⟨S, ds, hd, rp, h⟩ := h
      rw [callF, h6] at h
      simp only at h
      have hl := rp.length
      have sta : Sta K NoEX H S [] (L2.start N vs) (startE F.nn ds) H := by
        refine ⟨Same.refl H, hd, [], [], .nil, by simp, .nil, ?_⟩
        unfold L2.start startE
        rw [h8, ← hl, List.append_nil, List.append_nil]
        exact Slots.args rp.zero _
      refine ⟨H, S, [], startE F.nn ds, by simp, sta, ?_⟩
      by_cases hnp : ds.length = F.np
      · rw [if_pos hnp] at h
        revert h
        cases evB C.G C.sub (callF C.G C.sub T fu n) fu F.body (startE F.nn ds) with
        | nx r => exact fun h σ H' st => h .non H' [] st.ex .nil (by simp) (.non 0)
        | bk r => exact fun h => h.elim
        | ct r => exact fun h => h.elim
        | bad => exact fun h => h.elim
        | exc r c => exact fun h σ H' st => h H' st.ex
        | ret l d => exact fun h v H' A sm nd nw rp => h v H' A sm nd (fun a ha => (nw a ha).1) rp
      · rw [if_neg hnp] at h
        exact h.elim
/-- the law's own call -/
theorem spF_law {n f : Nat} {H : Hp} {a : Addr} {ns : List Int} (hS : SqL K H a (ns.map V.int)) (hl : ∃ l, callF C.G C.sub T fu n f [.lst (ns.map D.int)] = .ok l (.bl true)) : spF K ca (callF C.G C.sub T fu n) f [.ref a] H (fun v _ => v = .bl true) fun _ _ _ => False := by
  obtain ⟨l, hl⟩ := hl
  have mkI : ∀ ns : List Int, RepTs K H [] [] 0 (ns.map V.int) (ns.map D.int) := fun ns => by
    induction ns with
    | nil => exact .nil 0
    | cons n ns ih => exact .cons (.int 0 n) ih
  refine ⟨[], [.lst (ns.map D.int)], by simp, .cons (.lst0 ?_ (mkI ns)) (.nil 0), ?_⟩
  · rcases hS with h | h
    · exact .inl ⟨h, by simp⟩
    · exact .inr h
  · rw [hl]
    intro v H' A _ _ _ rp
    cases rp
    rfl
end
end Ly

set_option Elab.async false
set_option linter.all false
set_option maxRecDepth 100000
set_option maxHeartbeats 2000000
/-! Reckoning in the small language. -/
namespace Ly
open PySem

/-- a for over xs: P of what is still to come and the frame -/
theorem forT_list {α : Type} {g : α → D} {t : Tg} {f : Env → O} (P : List α → Env → Prop) : ∀ (l : List α) (r : Env), P l r →
    (∀ x rest q, P (x :: rest) q → ∃ q1 q2, t.put (g x) q = some q1 ∧ (f q1 = .nx q2 ∨ f q1 = .ct q2) ∧ P rest q2) → ∃ q, forT t f (l.map g) r = .nx q ∧ P [] q
  | [], r, h, _ => ⟨r, rfl, h⟩
  | x :: l, r, h, st => by
    obtain ⟨q1, q2, e1, e2, h2⟩ := st x l r h
    obtain ⟨q, e3, h3⟩ := forT_list P l q2 h2 st
    refine ⟨q, ?_, h3⟩
    unfold forT at e3 ⊢
    rw [List.map_cons, forLoop, e1]
    simp only
    rcases e2 with e2 | e2
    · rw [e2]; exact e3
    · rw [e2]; exact e3
/-- .. with an exit: at the first x that is out -/
theorem forT_find {α : Type} {g : α → D} {t : Tg} {f : Env → O} (out : O) (P : List α → Env → Prop) (ho : ∀ r, out ≠ .nx r ∧ out ≠ .ct r ∧ out ≠ .bk r) : ∀ (l : List α) (r : Env), P l r →
    (∀ x rest q, P (x :: rest) q → ∃ q1, t.put (g x) q = some q1 ∧ (f q1 = out ∨ ∃ q2, (f q1 = .nx q2 ∨ f q1 = .ct q2) ∧ P rest q2)) → forT t f (l.map g) r = out ∨ ∃ q, forT t f (l.map g) r = .nx q ∧ P [] q
  | [], r, h, _ => .inr ⟨r, rfl, h⟩
  | x :: l, r, h, st => by
    obtain ⟨q1, e1, e2 | ⟨q2, e2, h2⟩⟩ := st x l r h
    · left
      unfold forT
      rw [List.map_cons, forLoop, e1]
      simp only
      rw [e2]
      have h1 := ho
      cases out with
      | nx r1 => exact absurd rfl (h1 r1).1
      | ct r1 => exact absurd rfl (h1 r1).2.1
      | bk r1 => exact absurd rfl (h1 r1).2.2
      | _ => rfl
    · have ih := forT_find out P ho l q2 h2 st
      unfold forT at ih ⊢
      rw [List.map_cons, forLoop, e1]
      simp only
      rcases e2 with e2 | e2
      · rw [e2]; exact ih
      · rw [e2]; exact ih
theorem compLoop_map {α : Type} {g : α → D} {w : α → D} {F : Env → D → R (Env × Option D)} {r : Env} : ∀ (l : List α) (acc : List D), (∀ x ∈ l, F r (g x) = .ok (r, some (w x))) → acc.length + l.length ≤ LN → compLoop F (l.map g) r acc = some (r, acc ++ l.map w)
  | [], acc, _, _ => by simp [compLoop]
  | x :: l, acc, h, hl => by
    rw [List.map_cons, compLoop, h x List.mem_cons_self]
    simp only
    rw [List.length_cons] at hl
    rw [if_pos (by omega), compLoop_map l (acc ++ [w x]) (fun y hy => h y (List.mem_cons_of_mem _ hy)) (by simp; omega)]
    simp
/-- a comprehension's turn -/
def compF (t : Tg) (h : Nat) (c : Env → R (Env × Bool)) (e : Env → R (Env × Nat × D)) (q : Env) (x : D) : R (Env × Option D) :=
  (R.of (t.put x q)).bind fun q1 => (c q1).bind fun (q2, b) =>
    if b then (e q2).bind fun (q3, l, y) => if h ≤ l then .ok (wipeE t.ids q3, some y) else .bad else .ok (wipeE t.ids q2, none)
/-- [e for t in xs], a value of each -/
theorem compT_map {α : Type} {g : α → D} (w : α → D) {t : Tg} {h : Nat} {c : Env → R (Env × Bool)} {e : Env → R (Env × Nat × D)} {r : Env} (l : List α)
    (st : ∀ x ∈ l, compF t h c e r (g x) = .ok (r, some (w x))) (hl : l.length ≤ 16777216) : compT t h c e (l.map g) r = some (r, l.map w) := by
  have q := compLoop_map (F := compF t h c e) (g := g) (w := w) (r := r) l [] st (by simpa using hl)
  exact q
theorem compLoop_filter {α : Type} {g : α → D} {w : α → Option D} {F : Env → D → R (Env × Option D)} {r : Env} : ∀ (l : List α) (acc : List D), (∀ x ∈ l, F r (g x) = .ok (r, w x)) → acc.length + l.length ≤ LN → compLoop F (l.map g) r acc = some (r, acc ++ l.filterMap w)
  | [], acc, _, _ => by simp [compLoop]
  | x :: l, acc, h, hl => by
    rw [List.map_cons, compLoop, h x List.mem_cons_self]
    rw [List.length_cons] at hl
    cases e : w x with
    | none =>
      simp only
      rw [compLoop_filter l acc (fun y hy => h y (List.mem_cons_of_mem _ hy)) (by omega), List.filterMap_cons, e]
    | some d =>
      simp only
      rw [if_pos (by omega), compLoop_filter l (acc ++ [d]) (fun y hy => h y (List.mem_cons_of_mem _ hy)) (by simp; omega), List.filterMap_cons, e]
      simp
/-- [e for t in xs if c] -/
theorem compT_filter {α : Type} {g : α → D} (w : α → Option D) {t : Tg} {h : Nat} {c : Env → R (Env × Bool)} {e : Env → R (Env × Nat × D)} {r : Env} (l : List α)
    (st : ∀ x ∈ l, compF t h c e r (g x) = .ok (r, w x)) (hl : l.length ≤ 16777216) : compT t h c e (l.map g) r = some (r, l.filterMap w) := by
  have q := compLoop_filter (F := compF t h c e) (g := g) (w := w) (r := r) l [] st (by simpa using hl)
  exact q
theorem filterMap_if {α β : Type} (p : α → Bool) (f : α → β) : ∀ l : List α, (l.filterMap fun x => if p x then some (f x) else none) = (l.filter p).map f
  | [] => rfl
  | x :: l => by
    rw [List.filterMap_cons, List.filter_cons]
    cases p x with
    | true => simp only [if_true, List.map_cons]; rw [filterMap_if p f l]
    | false => simp only [Bool.false_eq_true, if_false]; rw [filterMap_if p f l]
theorem cut_from {α : Type} (xs : List α) (lo : Option Int) : cutD xs lo none = xs.drop (HT.sIx xs.length 0 lo) := by
  unfold cutD
  have h : HT.sIx xs.length xs.length none = xs.length := rfl
  rw [h]
  exact List.take_of_length_le (by simp)
theorem cut_to {α : Type} (xs : List α) (hi : Option Int) : cutD xs none hi = xs.take (HT.sIx xs.length xs.length hi) := by
  unfold cutD
  have h : HT.sIx xs.length 0 none = 0 := rfl
  rw [h, List.drop_zero, Nat.sub_zero]
theorem sIx_some (n : Nat) (d : Nat) (i : Int) (h : 0 ≤ i) : HT.sIx n d (some i) = min i.toNat n := by
  unfold HT.sIx
  simp only
  rw [if_neg (by omega)]
theorem at_last {ds : List D} {d : D} : atD (ds ++ [d]) (-1) = some d := by
  unfold atD L2.atI L2.ixN
  have h1 : ¬ (0 : Int) ≤ -1 := by omega
  have h2 : -(((ds ++ [d]).length : Nat) : Int) ≤ -1 := by simp; omega
  have h3 : ((-1 : Int) + (((ds ++ [d]).length : Nat) : Int)).toNat = ds.length := by simp; omega
  rw [if_neg h1, if_pos h2, h3]
  simp
/-! equal data -/
mutual
theorem eqd_refl : ∀ (n : Nat) (d : D), d.okd n = true → eqd d d = true
  | _, .non, _ => by simp [eqd, D.pd, PyData.eqv]
  | _, .bl _, _ => by simp [eqd, D.pd, PyData.eqv]
  | _, .int _, _ => by simp [eqd, D.pd, PyData.eqv]
  | _, .str _, _ => by simp [eqd, D.pd, PyData.eqv]
  | 0, .tup ds, h => by simp [D.okd] at h
  | n + 1, .tup ds, h => by
    have q := eqds_refl n ds (by simpa [D.okd] using h)
    simpa [eqd, D.pd, PyData.eqv] using q
  | 0, .lst ds, h => by simp [D.okd] at h
  | n + 1, .lst ds, h => by
    have q := eqds_refl n ds (by simpa [D.okd] using h)
    simpa [eqd, D.pd, PyData.eqv] using q
  | n, .dic _ _ _, h => by cases n <;> simp [D.okd] at h
  | n, .exn, h => by cases n <;> simp [D.okd] at h
theorem eqds_refl : ∀ (n : Nat) (ds : List D), okds n ds = true → PyData.eqvAll (pds ds) (pds ds) = true
  | _, [], _ => by simp [pds, PyData.eqvAll]
  | n, d :: ds, h => by
    simp only [okds, Bool.and_eq_true] at h
    have q1 := eqd_refl n d h.1
    have q2 := eqds_refl n ds h.2
    simp only [pds, PyData.eqvAll, Bool.and_eq_true]
    exact ⟨q1, q2⟩
end
mutual
theorem okd_up : ∀ {n m : Nat} {d : D}, d.okd n = true → n ≤ m → d.okd m = true
  | _, m, .non, _, _ => by cases m <;> rfl
  | _, m, .bl _, _, _ => by cases m <;> rfl
  | _, m, .int _, _, _ => by cases m <;> rfl
  | n, m, .str _, h, _ => by cases n <;> cases m <;> simpa [D.okd] using h
  | 0, _, .tup ds, h, _ => by simp [D.okd] at h
  | n + 1, 0, .tup ds, h, e => by omega
  | n + 1, m + 1, .tup ds, h, e => by
    simp only [D.okd] at h ⊢
    exact okds_up h (by omega)
  | 0, _, .lst ds, h, _ => by simp [D.okd] at h
  | n + 1, 0, .lst ds, h, e => by omega
  | n + 1, m + 1, .lst ds, h, e => by
    simp only [D.okd] at h ⊢
    exact okds_up h (by omega)
  | n, _, .dic _ _ _, h, _ => by cases n <;> simp [D.okd] at h
  | n, _, .exn, h, _ => by cases n <;> simp [D.okd] at h
theorem okds_up : ∀ {n m : Nat} {ds : List D}, okds n ds = true → n ≤ m → okds m ds = true
  | _, _, [], _, _ => by simp [okds]
  | n, m, d :: ds, h, e => by
    simp only [okds, Bool.and_eq_true] at h ⊢
    exact ⟨okd_up h.1 e, okds_up h.2 e⟩
end
theorem okd_lst {n : Nat} {ds : List D} (h : okds n ds = true) (hn : n ≤ 59) : okd (.lst ds) = true := by
  show D.okd 60 (.lst ds) = true
  simp only [D.okd]
  exact okds_up h hn
theorem okd_tup {n : Nat} {ds : List D} (h : okds n ds = true) (hn : n ≤ 59) : okd (.tup ds) = true := by
  show D.okd 60 (.tup ds) = true
  simp only [D.okd]
  exact okds_up h hn
theorem cmp_nil {ds : List D} (h : okd (.lst ds) = true) : cmpop .eq (.lst ds) (.lst []) = some ds.isEmpty := by
  have h2 : okd (.lst []) = true := by decide
  simp only [cmpop, h, h2, Bool.and_self, if_true]
  cases ds <;> simp [eqd, D.pd, pds, PyData.eqv, PyData.eqvAll]
theorem cmpne_nil {ds : List D} (h : okd (.lst ds) = true) : cmpop .ne (.lst ds) (.lst []) = some (!ds.isEmpty) := by
  have h2 : okd (.lst []) = true := by decide
  simp only [cmpop, h, h2, Bool.and_self, if_true]
  cases ds <;> simp [eqd, D.pd, pds, PyData.eqv, PyData.eqvAll]
/-- .. whatever is in it -/
theorem cmp_nil0 (ds : List D) : cmpop .eq (.lst ds) (.lst []) = some ds.isEmpty := by
  cases ds with
  | nil => exact cmp_nil (by decide)
  | cons d ds =>
    by_cases h : okd (.lst (d :: ds)) = true
    · exact cmp_nil h
    · have h2 : okd (.lst []) = true := by decide
      simp only [cmpop, h, h2, Bool.false_and, nilC]
      simp
theorem cmpne_nil0 (ds : List D) : cmpop .ne (.lst ds) (.lst []) = some (!ds.isEmpty) := by
  cases ds with
  | nil => exact cmpne_nil (by decide)
  | cons d ds =>
    by_cases h : okd (.lst (d :: ds)) = true
    · exact cmpne_nil h
    · have h2 : okd (.lst []) = true := by decide
      simp only [cmpop, h, h2, Bool.false_and, nilC]
      simp
theorem cmp_refl {d : D} (h : okd d = true) : cmpop .eq d d = some true := by
  simp only [cmpop, h, Bool.and_self, if_true, eqd_refl 60 d h]
theorem cmpne_refl {d : D} (h : okd d = true) : cmpop .ne d d = some false := by
  simp only [cmpop, h, Bool.and_self, if_true, eqd_refl 60 d h, Bool.not_true]
theorem cmp_int (i j : Int) : cmpop .eq (.int i) (.int j) = some (i == j) := by
  simp [cmpop, okd, D.okd, eqd, D.pd, PyData.eqv]
theorem cmpne_int (i j : Int) : cmpop .ne (.int i) (.int j) = some (!(i == j)) := by
  simp [cmpop, okd, D.okd, eqd, D.pd, PyData.eqv]
theorem asInts_map {α : Type} (f : α → Int) : ∀ l : List α, asInts (l.map fun x => D.int (f x)) = some (l.map f)
  | [] => rfl
  | x :: l => by rw [List.map_cons, asInts, asInts_map f l]; rfl
/-! steps -/
def seqB (o : O) (k : Env → O) : O :=
  match o with
  | .nx r => k r
  | o => o
def endF (o : O) : CR :=
  match o with
  | .ret l d => .ok l d
  | .nx _ => .ok 0 .non
  | .exc _ c => .exc c
  | _ => .bad
theorem seqB_nx {r : Env} {k : Env → O} : seqB (.nx r) k = k r := rfl
theorem seqB_ret {l : Nat} {d : D} {k : Env → O} : seqB (.ret l d) k = .ret l d := rfl
theorem seqB_exc {r : Env} {c : Nat} {k : Env → O} : seqB (.exc r c) k = .exc r c := rfl
theorem seqB_bk {r : Env} {k : Env → O} : seqB (.bk r) k = .bk r := rfl
theorem seqB_ct {r : Env} {k : Env → O} : seqB (.ct r) k = .ct r := rfl
theorem endF_ret {l : Nat} {d : D} : endF (.ret l d) = .ok l d := rfl
theorem endF_nx {r : Env} : endF (.nx r) = .ok 0 .non := rfl
theorem endF_exc {r : Env} {c : Nat} : endF (.exc r c) = .exc c := rfl
section
variable {G : Nat → Option D} {sub : Nat → Nat → Bool} {cf : Nat → List D → CR} {fu : Nat}
theorem evB_cons {s : S} {b : B} {r : Env} : evB G sub cf fu (.cons s b) r = seqB (evS G sub cf fu s r) (evB G sub cf fu b) := by
  rw [evB]
  unfold seqB
  cases evS G sub cf fu s r <;> rfl
theorem evB_nil {r : Env} : evB G sub cf fu .nil r = .nx r := by rw [evB]
theorem callF_s {T : List Fn} {n f : Nat} {ds : List D} (F : Fn) (h : T[f]? = some F) (hl : ds.length = F.np) : callF G sub T fu (n + 1) f ds = endF (evB G sub (callF G sub T fu n) fu F.body (startE F.nn ds)) := by
  rw [callF, h]
  simp only [hl, if_true]
  unfold endF
  cases evB G sub (callF G sub T fu n) fu F.body (startE F.nn ds) <;> rfl
end
/-! bodies cut -/
def takeB : Nat → B → B
  | 0, _ => .nil
  | _ + 1, .nil => .nil
  | n + 1, .cons s b => .cons s (takeB n b)
def dropB : Nat → B → B
  | 0, b => b
  | _ + 1, .nil => .nil
  | n + 1, .cons _ b => dropB n b
def sAt : Nat → B → S
  | _, .nil => .pass
  | 0, .cons s _ => s
  | n + 1, .cons _ b => sAt n b
theorem seqB_seqB {o : O} {k k' : Env → O} : seqB (seqB o k) k' = seqB o fun r => seqB (k r) k' := by
  cases o <;> rfl
theorem evB_cut {G : Nat → Option D} {sub : Nat → Nat → Bool} {cf : Nat → List D → CR} {fu : Nat} : ∀ (n : Nat) (b : B) (r : Env), evB G sub cf fu b r = seqB (evB G sub cf fu (takeB n b) r) (evB G sub cf fu (dropB n b))
  | 0, b, r => by rw [takeB, evB_nil]; rfl
  | n + 1, .nil, r => by rw [takeB, evB_nil, seqB_nx, dropB, evB_nil]
  | n + 1, .cons s b, r => by
    rw [takeB, dropB, evB_cons, evB_cons, seqB_seqB]
    congr 1
    funext q
    exact evB_cut n b q
theorem bin_add (i j : Int) : binop .add (.int i) (.int j) = some (0, .int (i + j)) := rfl
theorem bin_sub (i j : Int) : binop .sub (.int i) (.int j) = some (0, .int (i - j)) := rfl
theorem bin_mod (i j : Int) (h : 0 < j) : binop .mod (.int i) (.int j) = some (0, .int (i % j)) := by simp [binop, h]
theorem bin_div (i j : Int) (h : 0 < j) (h2 : j.natAbs < 2 ^ 64) : binop .div (.int i) (.int j) = some (0, .int (i / j)) := by
  have : j.natAbs < 2 ^ 4096 := Nat.lt_trans h2 (Nat.pow_lt_pow_right (by omega) (by omega))
  show (if 0 < j ∧ j.natAbs < 2 ^ 4096 then some (0, D.int (i / j)) else none) = _
  rw [if_pos ⟨h, this⟩]
theorem bin_mul (i j : Int) (h : j.natAbs < 2 ^ 64) : binop .mul (.int i) (.int j) = some (0, .int (i * j)) := by
  show (if i.natAbs < 2 ^ 64 ∨ j.natAbs < 2 ^ 64 ∨ (i.natAbs < 2 ^ 4096 ∧ j.natAbs < 2 ^ 4096) then some (0, D.int (i * j)) else none) = _
  rw [if_pos (.inr (.inl h))]
theorem bin_cat (a b : List D) (h : a.length + b.length ≤ 16777216) : binop .add (.lst a) (.lst b) = some (1, .lst (a ++ b)) := by
  show (if a.length + b.length ≤ LN then some (1, D.lst (a ++ b)) else none) = _
  rw [if_pos h]
theorem bin_catT (a b : List D) (h : a.length + b.length ≤ 16777216) : binop .add (.tup a) (.tup b) = some (0, .tup (a ++ b)) := by
  show (if a.length + b.length ≤ LN then some (0, D.tup (a ++ b)) else none) = _
  rw [if_pos h]
theorem cmp_lt (i j : Int) : cmpop .lt (.int i) (.int j) = some (decide (i < j)) := rfl
theorem cmp_le (i j : Int) : cmpop .le (.int i) (.int j) = some (decide (i ≤ j)) := rfl
theorem cmp_gt (i j : Int) : cmpop .gt (.int i) (.int j) = some (decide (j < i)) := rfl
theorem cmp_ge (i j : Int) : cmpop .ge (.int i) (.int j) = some (decide (j ≤ i)) := rfl
theorem cmp_isb (a b : Bool) : cmpop .isn (.bl a) (.bl b) = some (decide (a = b)) := rfl
theorem cmp_nisb (a b : Bool) : cmpop .nisn (.bl a) (.bl b) = some (!decide (a = b)) := rfl
theorem cmp_str (a b : Str) (h : PyData.strOk a = true) (h2 : PyData.strOk b = true) : cmpop .eq (.str a) (.str b) = some (a == b) := by
  simp [cmpop, okd, D.okd, eqd, D.pd, PyData.eqv, h, h2]
theorem cmpne_str (a b : Str) (h : PyData.strOk a = true) (h2 : PyData.strOk b = true) : cmpop .ne (.str a) (.str b) = some (!(a == b)) := by
  simp [cmpop, okd, D.okd, eqd, D.pd, PyData.eqv, h, h2]
theorem R_ok {α β : Type} (a : α) (f : α → R β) : (R.ok a).bind f = f a := rfl
theorem R_exc {α β : Type} (r : Env) (c : Nat) (f : α → R β) : (R.exc r c : R α).bind f = .exc r c := rfl
theorem R_some {α : Type} (a : α) : R.of (some a) = .ok a := rfl
theorem O_ok {α : Type} (a : α) (f : α → O) : (R.ok a).toO f = f a := rfl
theorem O_exc {α : Type} (r : Env) (c : Nat) (f : α → O) : (R.exc r c : R α).toO f = .exc r c := rfl
theorem ints_okd : ∀ (k : Nat) (p : List Int), okds k (p.map D.int) = true
  | k, [] => by simp [okds]
  | k, x :: p => by
    have e : D.okd k (.int x) = true := by cases k <;> rfl
    rw [List.map_cons, okds, e, ints_okd k p]
    rfl
theorem eqv_ints : ∀ a b : List Int, PyData.eqvAll (pds (a.map D.int)) (pds (b.map D.int)) = decide (a = b)
  | [], [] => by simp [pds, PyData.eqvAll]
  | [], _ :: _ => by simp [pds, PyData.eqvAll]
  | _ :: _, [] => by simp [pds, PyData.eqvAll]
  | x :: a, y :: b => by
    simp only [List.map_cons, pds, PyData.eqvAll, eqv_ints a b, D.pd, PyData.eqv]
    by_cases h : x = y
    · subst h
      simp
    · simp [h]
/-- tuples of whole numbers compared -/
theorem cmp_ints (a b : List Int) : cmpop .eq (.tup (a.map D.int)) (.tup (b.map D.int)) = some (decide (a = b)) := by
  have h1 := okd_tup (ints_okd 0 a) (by omega)
  have h2 := okd_tup (ints_okd 0 b) (by omega)
  simp only [cmpop, h1, h2, Bool.and_self, if_true]
  simp [eqd, D.pd, PyData.eqv, eqv_ints]
end Ly

set_option Elab.async false
set_option linter.all false
set_option maxRecDepth 100000
set_option maxHeartbeats 800000
namespace Ly
open PySem
def fn0 : Fn := ⟨1, 1, (.cons (.ret (.bop true (.cons (.isi (.var 0) .int) (.cons (.not (.isi (.var 0) .bool)) .nil)))) .nil)⟩
def bd1_0 : B := (.cons (.set 5 0 (.call false 1 (.cons (.var 4) (.cons (.bin .sub (.var 1) (.cst (.int 1))) .nil)))) (.cons (.ife (.cmp .eq (.var 5) (.cst (.int 0))) (.cons (.ret (.cst (.int 0))) .nil) .nil) (.cons (.aug 3 .add (.var 5)) .nil)))
def fn1 : Fn := ⟨2, 6, (.cons (.ife (.bop false (.cons (.not (.isi (.var 0) .tuple)) (.cons (.cmp .eq (.blt .len (.cons (.var 0) .nil)) (.cst (.int 0))) (.cons (.not (.isi (.ix (.var 0) (.cst (.int 0))) .str)) .nil)))) (.cons (.ret (.cst (.int 0))) .nil) .nil) (.cons (.ife (.bop false (.cons (.cmp .eq (.ix (.var 0) (.cst (.int 0))) (.cst (.str "num"))) (.cons (.cmp .eq (.ix (.var 0) (.cst (.int 0))) (.cst (.str "own"))) .nil))) (.cons (.ret (.blt .int (.cons (.cmp .eq (.blt .len (.cons (.var 0) .nil)) (.cst (.int 1))) .nil))) .nil) .nil) (.cons (.ife (.cmp .ne (.blt .len (.cons (.var 0) .nil)) (.cst (.int 2))) (.cons (.ret (.cst (.int 0))) .nil) .nil) (.cons (.ife (.cmp .eq (.ix (.var 0) (.cst (.int 0))) (.cst (.str "strip"))) (.cons (.ret (.blt .int (.cons (.bop true (.cons (.call false 0 (.cons (.ix (.var 0) (.cst (.int 1))) .nil)) (.cons (.chain .le .le (.cst (.int 1)) (.ix (.var 0) (.cst (.int 1))) (.glb 2)) .nil))) .nil))) .nil) .nil) (.cons (.set 2 0 (.ix (.var 0) (.cst (.int 1)))) (.cons (.ife (.bop false (.cons (.cmp .ne (.ix (.var 0) (.cst (.int 0))) (.cst (.str "rec"))) (.cons (.cmp .eq (.var 1) (.cst (.int 0))) (.cons (.not (.isi (.var 2) .tuple)) (.cons (.not (.chain .le .le (.cst (.int 1)) (.blt .len (.cons (.var 2) .nil)) (.glb 3))) .nil))))) (.cons (.ret (.cst (.int 0))) .nil) .nil) (.cons (.set 3 1 (.cst (.int 0))) (.cons (.for_ (.name 4) (.seq (.var 2)) bd1_0) (.cons (.ife (.cmp .gt (.var 3) (.glb 1)) (.cons (.ret (.cst (.int 0))) .nil) .nil) (.cons (.ret (.mv 3)) .nil))))))))))⟩
def fn2 : Fn := ⟨1, 1, (.cons (.ret (.cmp .gt (.call false 1 (.cons (.var 0) (.cons (.glb 0) .nil))) (.cst (.int 0)))) .nil)⟩
def fn3 : Fn := ⟨1, 2, (.cons (.ife (.bop false (.cons (.not (.chain .le .le (.cst (.int 1)) (.blt .len (.cons (.var 0) .nil)) (.glb 5))) (.cons (.not (.blt .all (.cons (.comp 1 (.cmp .inn (.var 1) (.glb 4)) (.name 1) (.seq (.var 0)) .no) .nil))) .nil))) (.cons (.raise 0 "no number") .nil) .nil) (.cons (.ife (.bop true (.cons (.cmp .eq (.ix (.var 0) (.cst (.int 0))) (.cst (.str "0"))) (.cons (.cmp .ne (.var 0) (.cst (.str "0"))) .nil))) (.cons (.raise 0 "a nought ahead") .nil) .nil) (.cons (.ret (.blt .int (.cons (.var 0) .nil))) .nil)))⟩
def bd4_0 : B := (.cons (.setT [5, 1] (.call false 5 (.cons (.var 0) (.cons (.var 1) (.cons (.var 2) .nil))))) (.cons (.app 3 (.var 5)) (.cons (.set 4 0 (.sl (.var 0) (.yes (.var 1)) (.yes (.bin .add (.var 1) (.cst (.int 1)))))) (.cons (.aug 1 .add (.cst (.int 1))) .nil))))
def fn4 : Fn := ⟨3, 6, (.cons (.set 3 1 (.lst 1 .nil)) (.cons (.set 4 0 (.cst (.str ","))) (.cons (.whl (.cmp .eq (.var 4) (.cst (.str ","))) bd4_0) (.cons (.ife (.cmp .ne (.var 4) (.cst (.str ")"))) (.cons (.raise 0 "a rec without an end") .nil) .nil) (.cons (.ret (.tup 0 (.cons (.tup 0 (.cons (.cst (.str "rec")) (.cons (.blt .tuple (.cons (.var 3) .nil)) .nil))) (.cons (.var 1) .nil)))) .nil)))))⟩
def fn5 : Fn := ⟨3, 4, (.cons (.ife (.bop true (.cons (.cmp .eq (.sl (.var 0) (.yes (.var 1)) (.yes (.bin .add (.var 1) (.cst (.int 1))))) (.cst (.str "("))) (.cons (.cmp .gt (.var 2) (.cst (.int 0))) .nil))) (.cons (.ret (.call false 4 (.cons (.var 0) (.cons (.bin .add (.var 1) (.cst (.int 1))) (.cons (.bin .sub (.var 2) (.cst (.int 1))) .nil))))) .nil) .nil) (.cons (.ife (.cmp .inn (.sl (.var 0) (.yes (.var 1)) (.yes (.bin .add (.var 1) (.cst (.int 3))))) (.tup 0 (.cons (.cst (.str "num")) (.cons (.cst (.str "own")) .nil)))) (.cons (.ret (.tup 0 (.cons (.tup 0 (.cons (.sl (.var 0) (.yes (.var 1)) (.yes (.bin .add (.var 1) (.cst (.int 3))))) .nil)) (.cons (.bin .add (.var 1) (.cst (.int 3))) .nil)))) .nil) .nil) (.cons (.set 3 0 (.meth .find3 (.var 0) (.cons (.cst (.str "]")) (.cons (.var 1) .nil)))) (.cons (.ife (.bop false (.cons (.cmp .ne (.sl (.var 0) (.yes (.var 1)) (.yes (.bin .add (.var 1) (.cst (.int 1))))) (.cst (.str "["))) (.cons (.cmp .lt (.var 3) (.cst (.int 0))) .nil))) (.cons (.raise 0 "no shape") .nil) .nil) (.cons (.ret (.tup 0 (.cons (.tup 0 (.cons (.cst (.str "strip")) (.cons (.call false 3 (.cons (.sl (.var 0) (.yes (.bin .add (.var 1) (.cst (.int 1)))) (.yes (.var 3))) .nil)) .nil))) (.cons (.bin .add (.var 3) (.cst (.int 1))) .nil)))) .nil)))))⟩
def fn6 : Fn := ⟨1, 3, (.cons (.setT [1, 2] (.call false 5 (.cons (.var 0) (.cons (.cst (.int 0)) (.cons (.glb 0) .nil))))) (.cons (.ife (.bop false (.cons (.cmp .ne (.var 2) (.blt .len (.cons (.var 0) .nil))) (.cons (.not (.call false 2 (.cons (.var 1) .nil))) .nil))) (.cons (.raise 0 "no shape") .nil) .nil) (.cons (.ret (.mv 1)) .nil)))⟩
def fn7 : Fn := ⟨1, 2, (.cons (.ife (.cmp .eq (.ix (.var 0) (.cst (.int 0))) (.cst (.str "strip"))) (.cons (.ret (.bin .add (.bin .add (.cst (.str "[")) (.blt .str (.cons (.ix (.var 0) (.cst (.int 1))) .nil))) (.cst (.str "]")))) .nil) .nil) (.cons (.ife (.cmp .eq (.ix (.var 0) (.cst (.int 0))) (.cst (.str "rec"))) (.cons (.ret (.bin .add (.bin .add (.cst (.str "(")) (.meth .join (.cst (.str ",")) (.cons (.comp 1 (.call false 7 (.cons (.var 1) .nil)) (.name 1) (.seq (.ix (.var 0) (.cst (.int 1)))) .no) .nil))) (.cst (.str ")")))) .nil) .nil) (.cons (.ret (.ix (.var 0) (.cst (.int 0)))) .nil)))⟩
def fn8 : Fn := ⟨1, 2, (.cons (.ife (.cmp .eq (.bin .mod (.var 0) (.cst (.int 4))) (.cst (.int 0))) (.cons (.ret (.tup 0 (.cons (.tup 0 (.cons (.cst (.str "num")) .nil)) (.cons (.cst (.int 0)) (.cons (.cst (.int 1)) (.cons (.cst (.str "num")) .nil)))))) .nil) .nil) (.cons (.ife (.cmp .eq (.bin .mod (.var 0) (.cst (.int 4))) (.cst (.int 1))) (.cons (.ret (.tup 0 (.cons (.tup 0 (.cons (.cst (.str "own")) .nil)) (.cons (.cst (.int 0)) (.cons (.cst (.int 1)) (.cons (.cst (.str "own")) .nil)))))) .nil) .nil) (.cons (.set 1 0 (.bin .add (.cst (.int 1)) (.bin .mod (.bin .div (.var 0) (.cst (.int 4))) (.cst (.int 8))))) (.cons (.ret (.tup 0 (.cons (.tup 0 (.cons (.cst (.str "strip")) (.cons (.var 1) .nil))) (.cons (.cst (.int 0)) (.cons (.cst (.int 1)) (.cons (.bin .add (.bin .add (.cst (.str "[")) (.ix (.cst (.str "012345678")) (.var 1))) (.cst (.str "]"))) .nil)))))) .nil))))⟩
def fn9 : Fn := ⟨2, 8, (.cons (.set 2 0 (.sl (.var 0) (.yes (.blt .max2 (.cons (.cst (.int 0)) (.cons (.bin .sub (.bin .sub (.blt .len (.cons (.var 0) .nil)) (.cst (.int 1))) (.bin .mod (.bin .div (.var 1) (.cst (.int 8))) (.cst (.int 4)))) .nil)))) .no)) (.cons (.set 3 0 (.blt .sum (.cons (.comp 1 (.ix (.var 4) (.cst (.int 2))) (.name 4) (.seq (.var 2)) .no) .nil))) (.cons (.set 5 0 (.blt .maxd (.cons (.comp 1 (.ix (.var 4) (.cst (.int 1))) (.name 4) (.seq (.var 2)) .no) (.cons (.cst (.int 0)) .nil)))) (.cons (.ife (.bop false (.cons (.cmp .lt (.bin .mod (.var 1) (.cst (.int 8))) (.cst (.int 3))) (.cons (.cmp .eq (.var 3) (.cst (.int 0))) (.cons (.cmp .eq (.var 5) (.cst (.int 3))) (.cons (.cmp .gt (.var 3) (.cst (.int 8))) .nil))))) (.cons (.ret (.bin .add (.var 0) (.lst 1 (.cons (.call false 8 (.cons (.bin .div (.var 1) (.cst (.int 8))) .nil)) .nil)))) .nil) .nil) (.cons (.set 6 0 (.tup 0 (.cons (.cst (.str "rec")) (.cons (.blt .tuple (.cons (.comp 1 (.ix (.var 4) (.cst (.int 0))) (.name 4) (.seq (.var 2)) .no) .nil)) .nil)))) (.cons (.set 7 0 (.bin .add (.bin .add (.cst (.str "(")) (.meth .join (.cst (.str ",")) (.cons (.comp 1 (.ix (.var 4) (.cst (.int 3))) (.name 4) (.seq (.var 2)) .no) .nil))) (.cst (.str ")")))) (.cons (.ret (.bin .add (.sl (.var 0) .no (.yes (.bin .sub (.blt .len (.cons (.var 0) .nil)) (.blt .len (.cons (.var 2) .nil))))) (.lst 1 (.cons (.tup 0 (.cons (.var 6) (.cons (.bin .add (.cst (.int 1)) (.var 5)) (.cons (.var 3) (.cons (.var 7) .nil))))) .nil)))) .nil)))))))⟩
def fn10 : Fn := ⟨2, 4, (.cons (.ife (.isi (.var 1) .tuple) (.cons (.ife (.bop false (.cons (.not (.isi (.var 0) .tuple)) (.cons (.cmp .ne (.blt .len (.cons (.var 0) .nil)) (.blt .len (.cons (.var 1) .nil))) .nil))) (.cons (.ret (.cst (.bl false))) .nil) .nil) (.cons (.ret (.blt .all (.cons (.comp 1 (.call false 10 (.cons (.var 2) (.cons (.var 3) .nil))) (.tup [2, 3]) (.zip (.var 0) (.var 1)) .no) .nil))) .nil)) .nil) (.cons (.ife (.isi (.var 1) .str) (.cons (.ret (.bop true (.cons (.isi (.var 0) .str) (.cons (.cmp .eq (.var 0) (.var 1)) .nil)))) .nil) .nil) (.cons (.ret (.bop true (.cons (.isi (.var 0) .int) (.cons (.not (.isi (.var 0) .bool)) (.cons (.cmp .eq (.var 0) (.var 1)) .nil))))) .nil)))⟩
def fn11 : Fn := ⟨1, 2, (.cons (.set 1 0 (.lst 1 (.cons (.cst (.str "")) (.cons (.cst (.str "()")) (.cons (.cst (.str "[]")) (.cons (.cst (.str "[0]")) (.cons (.cst (.str "[9]")) (.cons (.cst (.str "[08]")) (.cons (.cst (.str "[-1]")) (.cons (.cst (.str "[+1]")) (.cons (.cst (.str "[1")) (.cons (.cst (.str "(num")) (.cons (.cst (.str "num)")) (.cons (.cst (.str "(num,)")) (.cons (.cst (.str "(,num)")) .nil))))))))))))))) (.cons (.set 1 0 (.bin .add (.var 1) (.lst 1 (.cons (.cst (.str "(num,num,num,num,num)")) (.cons (.cst (.str "nums")) (.cons (.cst (.str "nun")) (.cons (.cst (.str "NUM")) (.cons (.cst (.str "strip")) (.cons (.bin .add (.bin .add (.cst (.str "[")) (.bin .mul (.cst (.str "1")) (.cst (.int 31)))) (.cst (.str "]"))) (.cons (.cst (.str "((num,num),(num,num")) .nil)))))))))) (.cons (.set 1 0 (.bin .add (.var 1) (.lst 1 (.cons (.cst (.str "[8,8]")) (.cons (.cst (.str "(num;num)")) (.cons (.cst (.str "((((num))))")) (.cons (.cst (.str "(num,(num,num),(num,num),((num,num),num,num))")) .nil))))))) (.cons (.ret (.ix (.var 1) (.bin .mod (.var 0) (.cst (.int 24))))) .nil))))⟩
def fn12 : Fn := ⟨2, 3, (.cons (.set 2 0 (.bin .mod (.bin .div (.var 1) (.cst (.int 8))) (.bin .add (.blt .len (.cons (.var 0) .nil)) (.cst (.int 1))))) (.cons (.ife (.cmp .lt (.bin .mod (.var 1) (.cst (.int 8))) (.cst (.int 3))) (.cons (.ret (.bin .add (.bin .add (.sl (.var 0) .no (.yes (.var 2))) (.ix (.cst (.str " :/*.@-+AZabcdefg{}_~\"'")) (.bin .mod (.bin .div (.var 1) (.cst (.int 512))) (.cst (.int 23))))) (.sl (.var 0) (.yes (.var 2)) .no))) .nil) .nil) (.cons (.ife (.cmp .eq (.bin .mod (.var 1) (.cst (.int 8))) (.cst (.int 3))) (.cons (.ret (.sl (.var 0) .no (.yes (.neg (.cst (.int 1)))))) .nil) .nil) (.cons (.ife (.cmp .eq (.bin .mod (.var 1) (.cst (.int 8))) (.cst (.int 4))) (.cons (.ret (.sl (.var 0) (.yes (.cst (.int 1))) .no)) .nil) .nil) (.cons (.ife (.cmp .eq (.bin .mod (.var 1) (.cst (.int 8))) (.cst (.int 5))) (.cons (.ret (.bin .add (.var 0) (.var 0))) .nil) .nil) (.cons (.ife (.cmp .eq (.bin .mod (.var 1) (.cst (.int 8))) (.cst (.int 6))) (.cons (.ret (.ix (.lst 1 (.cons (.bin .add (.cst (.str "(")) (.var 0)) (.cons (.bin .add (.var 0) (.cst (.str ")"))) (.cons (.bin .add (.cst (.str ",")) (.var 0)) (.cons (.bin .add (.var 0) (.cst (.str ","))) .nil))))) (.bin .mod (.bin .div (.var 1) (.cst (.int 8))) (.cst (.int 4))))) .nil) .nil) (.cons (.ret (.call false 11 (.cons (.bin .div (.var 1) (.cst (.int 8))) .nil))) .nil)))))))⟩
def fn13 : Fn := ⟨1, 4, (.cons (.set 1 0 (.cst (.bl false))) (.cons (.set 2 0 (.cst (.bl false))) (.cons (.try_ (.cons (.drop (.call false 6 (.cons (.var 0) .nil))) .nil) 1 (some 3) (.cons (.set 1 0 (.bop true (.cons (.isx 3 0) (.cons (.isx 3 9) .nil)))) (.cons (.set 2 0 (.isxs 3 [2, 3, 4, 5, 6, 7, 8])) .nil))) (.cons (.ret (.bop true (.cons (.var 1) (.cons (.not (.var 2)) .nil)))) .nil))))⟩
def bd14_0 : B := (.cons (.set 0 0 (.tup 0 (.cons (.cst (.str "rec")) (.cons (.tup 0 (.cons (.var 0) .nil)) .nil)))) (.cons (.set 2 0 (.bin .add (.bin .add (.cst (.str "(")) (.var 2)) (.cst (.str ")")))) .nil))
def fn14 : Fn := ⟨4, 5, (.cons (.for_ (.name 4) (.range (.cons (.var 3) .nil)) bd14_0) (.cons (.ife (.cmp .gt (.bin .add (.var 1) (.var 3)) (.cst (.int 3))) (.cons (.ret (.call false 13 (.cons (.var 2) .nil))) .nil) .nil) (.cons (.ret (.bop true (.cons (.call false 10 (.cons (.call false 6 (.cons (.var 2) .nil)) (.cons (.var 0) .nil))) (.cons (.cmp .eq (.call false 7 (.cons (.var 0) .nil)) (.var 2)) .nil)))) .nil)))⟩
def bd15_0 : B := (.cons (.set 1 0 (.call false 9 (.cons (.var 1) (.cons (.var 2) .nil)))) (.cons (.setT [3, 4, 5, 6] (.ix (.var 1) (.neg (.cst (.int 1))))) (.cons (.set 7 0 (.call false 7 (.cons (.var 3) .nil))) (.cons (.ife (.bop false (.cons (.not (.isi (.var 7) .str)) (.cons (.cmp .ne (.var 7) (.var 6)) (.cons (.not (.call false 10 (.cons (.call false 6 (.cons (.var 6) .nil)) (.cons (.var 3) .nil)))) .nil)))) (.cons (.ret (.cst (.bl false))) .nil) .nil) (.cons (.set 8 0 (.bin .mod (.bin .mul (.var 2) (.cst (.int 48271))) (.cst (.int 2147483647)))) (.cons (.ife (.bop false (.cons (.not (.call false 13 (.cons (.call false 12 (.cons (.var 6) (.cons (.var 8) .nil))) .nil))) (.cons (.not (.call false 10 (.cons (.call false 6 (.cons (.var 6) .nil)) (.cons (.var 3) .nil)))) .nil))) (.cons (.ret (.cst (.bl false))) .nil) .nil) (.cons (.ife (.not (.call false 14 (.cons (.var 3) (.cons (.var 4) (.cons (.var 6) (.cons (.bin .add (.cst (.int 1)) (.bin .mod (.bin .div (.var 8) (.cst (.int 16))) (.cst (.int 4)))) .nil)))))) (.cons (.ret (.cst (.bl false))) .nil) .nil) .nil)))))))
def fn15 : Fn := ⟨1, 9, (.cons (.set 1 0 (.lst 1 .nil)) (.cons (.for_ (.name 2) (.seq (.sl (.bin .add (.var 0) (.lst 1 (.cons (.cst (.int 0)) .nil))) .no (.yes (.cst (.int 40))))) bd15_0) (.cons (.ret (.cst (.bl true))) .nil)))⟩
def tab : List Fn := [fn0, fn1, fn2, fn3, fn4, fn5, fn6, fn7, fn8, fn9, fn10, fn11, fn12, fn13, fn14, fn15]
theorem ok_num : PyData.strOk "num" = true := by decide +kernel
theorem ok_own : PyData.strOk "own" = true := by decide +kernel
theorem ok_strip : PyData.strOk "strip" = true := by decide +kernel
theorem ok_rec : PyData.strOk "rec" = true := by decide +kernel
theorem ne1 : (("num" : Str) == "rec") = false := by decide +kernel
theorem ne2 : (("own" : Str) == "rec") = false := by decide +kernel
theorem ne3 : (("strip" : Str) == "rec") = false := by decide +kernel
inductive Sh where
  | num | own | strip (k : Int) | rcd (ps : List Sh)
mutual
def enc : Sh → D
  | .num => .tup [.str "num"]
  | .own => .tup [.str "own"]
  | .strip k => .tup [.str "strip", .int k]
  | .rcd ps => .tup [.str "rec", .tup (encs ps)]
def encs : List Sh → List D
  | [] => []
  | p :: ps => enc p :: encs ps
end
mutual
def cnt : Sh → Nat
  | .rcd ps => cnts ps
  | _ => 1
def cnts : List Sh → Nat
  | [] => 0
  | p :: ps => cnt p + cnts ps
end
theorem encs_map : ∀ ps : List Sh, encs ps = ps.map enc
  | [] => rfl
  | p :: ps => by rw [encs, encs_map ps]; rfl
def eP (p : List Int) : D := .tup (p.map D.int)
/-- a row: path, first leaf, how many, what stands there -/
structure Row where
  p : List Int
  a : Int
  m : Int
  s : Sh
mutual
def rws : Sh → List Row
  | .rcd ps => ⟨[], 0, cnts ps, .rcd ps⟩ :: rwl 0 0 ps
  | .num => [⟨[], 0, 1, .num⟩]
  | .own => [⟨[], 0, 1, .own⟩]
  | .strip k => [⟨[], 0, 1, .strip k⟩]
def rwl : Nat → Int → List Sh → List Row
  | _, _, [] => []
  | k, a, t :: ts => (rws t).map (fun r => ⟨(k : Int) :: r.p, a + r.a, r.m, r.s⟩) ++ rwl (k + 1) (a + cnt t) ts
end
def eR (r : Row) : D := .tup [eP r.p, .int r.a, .int r.m, enc r.s]
def eT (t : Sh) : D := .lst ((rws t).map eR)
theorem rws_head (t : Sh) : ∃ rest, rws t = ⟨[], 0, cnt t, t⟩ :: rest := by
  cases t with
  | num => exact ⟨[], by simp [rws, cnt]⟩
  | own => exact ⟨[], by simp [rws, cnt]⟩
  | strip k => exact ⟨[], by simp [rws, cnt]⟩
  | rcd ts => exact ⟨_, by rw [rws, cnt]⟩
inductive Ok : Sh → Prop where
  | num : Ok .num
  | own : Ok .own
  | strip (k : Int) : Ok (.strip k)
  | rcd {ts : List Sh} : 1 ≤ cnts ts → (∀ t ∈ ts, Ok t) → Ok (.rcd ts)
theorem rwl_mem : ∀ {ts : List Sh} {k : Nat} {a : Int} {r : Row}, r ∈ rwl k a ts → ∃ t ∈ ts, ∃ q ∈ rws t, r.p.length = q.p.length + 1
  | [], k, a, r, h => by simp [rwl] at h
  | t :: ts, k, a, r, h => by
    rw [rwl] at h
    rcases List.mem_append.mp h with h | h
    · obtain ⟨q, hq, rfl⟩ := List.mem_map.mp h
      exact ⟨t, List.mem_cons_self, q, hq, rfl⟩
    · obtain ⟨t', ht, q, hq, e⟩ := rwl_mem h
      exact ⟨t', List.mem_cons_of_mem _ ht, q, hq, e⟩
theorem rwl_few (d : Nat) : ∀ (ts : List Sh) (k : Nat) (a : Int), (∀ t ∈ ts, (rws t).length ≤ cnt t * d) → (rwl k a ts).length ≤ cnts ts * d
  | [], k, a, _ => by simp [rwl]
  | t :: ts, k, a, h => by
    have h1 := h t List.mem_cons_self
    have h2 := rwl_few d ts (k + 1) (a + cnt t) (fun t ht => h t (List.mem_cons_of_mem _ ht))
    rw [rwl, cnts, List.length_append, List.length_map, Nat.add_mul]
    omega
theorem mem_rwl {t : Sh} {q : Row} (hq : q ∈ rws t) : ∀ {ts : List Sh} {k : Nat} {a : Int}, t ∈ ts → ∃ r ∈ rwl k a ts, r.p.length = q.p.length + 1
  | [], k, a, h => by simp at h
  | t' :: ts, k, a, h => by
    rw [rwl]
    rcases List.mem_cons.mp h with rfl | h
    · exact ⟨_, List.mem_append.mpr (.inl (List.mem_map.mpr ⟨q, hq, rfl⟩)), rfl⟩
    · obtain ⟨r, hr, e⟩ := mem_rwl hq (k := k + 1) (a := a + cnt t') h
      exact ⟨r, List.mem_append.mpr (.inr hr), e⟩
theorem rws_few {t : Sh} (h : Ok t) : ∀ d : Nat, (∀ r ∈ rws t, r.p.length ≤ d) → (rws t).length ≤ cnt t * (d + 1) := by
  induction h with
  | num => intro d _; simp [rws, cnt]
  | own => intro d _; simp [rws, cnt]
  | strip => intro d _; simp [rws, cnt]
  | @rcd ts h1 hk ih =>
    intro d hd
    rw [rws, cnt, List.length_cons]
    have hpos : ∃ t, t ∈ ts := by
      cases ts with
      | nil => simp [cnts] at h1
      | cons t ts => exact ⟨t, List.mem_cons_self⟩
    obtain ⟨t0, ht0⟩ := hpos
    obtain ⟨rest, er⟩ := rws_head t0
    obtain ⟨r0, hr0, e0⟩ := mem_rwl (q := ⟨[], 0, cnt t0, t0⟩) (t := t0) (by rw [er]; exact List.mem_cons_self) (k := 0) (a := 0) ht0
    have h0 := hd r0 (by rw [rws]; exact List.mem_cons_of_mem _ hr0)
    obtain ⟨d', rfl⟩ : ∃ d', d = d' + 1 := ⟨d - 1, by omega⟩
    have := rwl_few (d' + 1) ts 0 0 (fun t ht => ih t ht d' (fun q hq => by
      obtain ⟨r, hr, e⟩ := mem_rwl hq (k := 0) (a := 0) ht
      have := hd r (by rw [rws]; exact List.mem_cons_of_mem _ hr)
      omega))
    rw [show cnts ts * (d' + 1 + 1) = cnts ts * (d' + 1) + cnts ts from Nat.mul_succ _ _]
    omega
def Gt (t : Sh) : Prop := Ok t ∧ cnt t ≤ 8 ∧ ∀ r ∈ rws t, r.p.length ≤ 3
theorem Gt.few {t : Sh} (h : Gt t) : (rws t).length ≤ 32 := by
  have h1 := rws_few h.1 3 h.2.2
  have h2 := h.2.1
  have : cnt t * (3 + 1) ≤ 8 * 4 := Nat.mul_le_mul_right 4 h2
  omega
theorem range_map : ∀ (n k : Nat), rangeD (k : Int) n = (List.range' k n).map fun i : Nat => D.int i
  | 0, _ => rfl
  | n + 1, k => by
    rw [rangeD, List.range'_succ, List.map_cons, ← range_map n (k + 1)]
    congr 2
theorem rng_ok {n : Nat} (h : n ≤ 1000) : rng62 (n : Int) = true := by
  have h' : (n : Int).natAbs ≤ 8000000 := by omega
  exact decide_eq_true h'
theorem rngop {m : Nat} (h : m ≤ 1000) : rangeop [.int (m : Int)] = some ((List.range' 0 m).map fun i : Nat => D.int i) := by
  have e : rangeD 0 m = (List.range' 0 m).map fun i : Nat => D.int i := range_map m 0
  have e2 : rangeop [.int (m : Int)] = if rng62 (m : Int) = true then some (rangeD 0 (m : Int).toNat) else none := rfl
  rw [e2, if_pos (rng_ok h), Int.toNat_natCast, e]
theorem sum_cnts : ∀ ts : List Sh, (ts.map fun t => (cnt t : Int)).sum = (cnts ts : Int)
  | [] => rfl
  | t :: ts => by
    rw [List.map_cons, List.sum_cons, sum_cnts ts, cnts]
    omega
/-! a path followed -/
mutual
def walk : Sh → List Int → Option (Nat × Sh)
  | s, [] => some (0, s)
  | .rcd ps, k :: q => if 0 ≤ k then walkL ps 0 k.toNat q else none
  | .num, _ :: _ => none
  | .own, _ :: _ => none
  | .strip _, _ :: _ => none
def walkL : List Sh → Nat → Nat → List Int → Option (Nat × Sh)
  | [], _, _, _ => none
  | p :: ps, a, 0, q => (walk p q).map fun z => (a + z.1, z.2)
  | p :: ps, a, k + 1, q => walkL ps (a + cnt p) k q
end
theorem walk_nil (s : Sh) : walk s [] = some (0, s) := by cases s <;> simp [walk]
theorem walkL_eq : ∀ (ps : List Sh) (a k : Nat) (q : List Int), walkL ps a k q = (ps[k]?).bind fun p => (walk p q).map fun z => (a + cnts (ps.take k) + z.1, z.2)
  | [], a, k, q => by simp [walkL]
  | p :: ps, a, 0, q => by simp [walkL, cnts]
  | p :: ps, a, k + 1, q => by
    rw [walkL, walkL_eq ps (a + cnt p) k q, List.getElem?_cons_succ, List.take_succ_cons, cnts, Nat.add_assoc]
theorem walk_rcd (ps : List Sh) (k : Int) (q : List Int) : walk (.rcd ps) (k :: q) = if 0 ≤ k then (ps[k.toNat]?).bind fun p => (walk p q).map fun z => (cnts (ps.take k.toNat) + z.1, z.2) else none := by
  rw [walk, walkL_eq]
  simp
theorem rwl_walk {F : Sh → Prop} (hF : ∀ t, F t → ∀ r ∈ rws t, ∃ m : Nat, r.a = (m : Int) ∧ walk t r.p = some (m, r.s)) : ∀ (ts : List Sh) (k a : Nat), (∀ t ∈ ts, F t) → ∀ r ∈ rwl k (a : Int) ts, ∃ (i : Nat) (t : Sh) (q : List Int) (m : Nat), ts[i]? = some t ∧ r.p = ((k + i : Nat) : Int) :: q ∧ walk t q = some (m, r.s) ∧ r.a = ((a + cnts (ts.take i) + m : Nat) : Int)
  | [], k, a, _, r, h => by simp [rwl] at h
  | t :: ts, k, a, hf, r, h => by
    rw [rwl] at h
    rcases List.mem_append.mp h with h | h
    · obtain ⟨q, hq, rfl⟩ := List.mem_map.mp h
      obtain ⟨m, h1, h2⟩ := hF t (hf t List.mem_cons_self) q hq
      refine ⟨0, t, q.p, m, rfl, rfl, h2, ?_⟩
      show (a : Int) + q.a = _
      rw [h1]
      simp [cnts]
    · have e : (a : Int) + (cnt t : Int) = ((a + cnt t : Nat) : Int) := by omega
      rw [e] at h
      obtain ⟨i, t', q, m, h1, h2, h3, h4⟩ := rwl_walk hF ts (k + 1) (a + cnt t) (fun t ht => hf t (List.mem_cons_of_mem _ ht)) r h
      refine ⟨i + 1, t', q, m, by simpa using h1, by rw [h2]; congr 2; omega, h3, ?_⟩
      rw [h4, List.take_succ_cons, cnts]
      congr 1
      omega
theorem rws_walk {s : Sh} (h : Ok s) : ∀ r ∈ rws s, ∃ m : Nat, r.a = (m : Int) ∧ walk s r.p = some (m, r.s) := by
  induction h with
  | num => intro r hr; simp [rws] at hr; subst hr; exact ⟨0, rfl, walk_nil _⟩
  | own => intro r hr; simp [rws] at hr; subst hr; exact ⟨0, rfl, walk_nil _⟩
  | strip k => intro r hr; simp [rws] at hr; subst hr; exact ⟨0, rfl, walk_nil _⟩
  | @rcd ts h1 _ ih =>
    intro r hr
    rw [rws] at hr
    rcases List.mem_cons.mp hr with rfl | hr
    · exact ⟨0, rfl, walk_nil _⟩
    · obtain ⟨i, t, q, m, k1, k2, k3, k4⟩ := rwl_walk (F := fun t => t ∈ ts) ih ts 0 0 (fun t ht => ht) r hr
      refine ⟨cnts (ts.take i) + m, by rw [k4]; congr 1; omega, ?_⟩
      rw [k2, walk_rcd, if_pos (by omega)]
      have : (((0 + i : Nat) : Int)).toNat = i := by omega
      rw [this, k1]
      simp [k3]
mutual
def lv : Sh → List D
  | .rcd ps => lvs ps
  | .num => [enc .num]
  | .own => [enc .own]
  | .strip k => [enc (.strip k)]
def lvs : List Sh → List D
  | [] => []
  | p :: ps => lv p ++ lvs ps
end
def lvl : Sh → Nat
  | .rcd _ => 0
  | _ => 1
theorem lvs_append : ∀ a b : List Sh, lvs (a ++ b) = lvs a ++ lvs b
  | [], b => rfl
  | x :: a, b => by rw [List.cons_append, lvs, lvs, lvs_append a b, List.append_assoc]
mutual
theorem lv_len : ∀ s : Sh, (lv s).length = cnt s
  | .num => rfl
  | .own => rfl
  | .strip _ => rfl
  | .rcd ps => by rw [lv, cnt, lvs_len ps]
theorem lvs_len : ∀ ps : List Sh, (lvs ps).length = cnts ps
  | [] => rfl
  | p :: ps => by rw [lvs, cnts, List.length_append, lv_len p, lvs_len ps]
end
theorem cnt_mem {p : Sh} : ∀ {ps : List Sh}, p ∈ ps → cnt p ≤ cnts ps
  | [], h => by simp at h
  | q :: ps, h => by
    rw [cnts]
    rcases List.mem_cons.mp h with rfl | h
    · omega
    · have := cnt_mem h; omega
theorem Ok.part {ts : List Sh} (h : Ok (.rcd ts)) : ∀ t ∈ ts, Ok t := by
  cases h with
  | rcd _ h => exact h
theorem short_part {ts : List Sh} {d : Nat} (h : ∀ r ∈ rws (.rcd ts), r.p.length ≤ d + 1) : ∀ t ∈ ts, ∀ r ∈ rws t, r.p.length ≤ d := fun t ht q hq => by
  obtain ⟨r, hr, e⟩ := mem_rwl hq (k := 0) (a := 0) ht
  have := h r (by rw [rws]; exact List.mem_cons_of_mem _ hr)
  omega
theorem Gt.part {ts : List Sh} (h : Gt (.rcd ts)) : ∀ t ∈ ts, Gt t := fun t ht => by
  refine ⟨h.1.part t ht, ?_, fun r hr => ?_⟩
  · have := cnt_mem ht
    have := h.2.1
    rw [cnt] at this
    omega
  · have := short_part (d := 2) h.2.2 t ht r hr
    omega
section
variable {G : Nat → Option D} {sub : Nat → Nat → Bool} {fu : Nat}
end
/-! names as lists of letters' numbers -/
def cat (l : List Nat) : Str := ⟨(l.map (97 + ·)).toArray⟩
theorem cat_nil : cat [] = Str.ofString "" := by decide +kernel
theorem cat_app (a b : List Nat) : cat a ++ cat b = cat (a ++ b) := by
  show (⟨_⟩ : Str) = _
  unfold cat
  simp
theorem cat_len (a : List Nat) : (cat a).length = a.length := by
  show (cat a).cps.size = _
  simp [cat]
theorem map_inj : ∀ a b : List Nat, a.map (97 + ·) = b.map (97 + ·) → a = b
  | [], [], _ => rfl
  | [], _ :: _, h => by simp at h
  | _ :: _, [], h => by simp at h
  | x :: a, y :: b, h => by
    rw [List.map_cons, List.map_cons] at h
    obtain ⟨h1, h2⟩ := List.cons.inj h
    rw [map_inj a b h2]
    congr 1
    omega
theorem cat_inj {a b : List Nat} : cat a = cat b ↔ a = b := by
  constructor
  · intro h
    unfold cat at h
    have h1 := congrArg (fun s : Str => s.cps.toList) h
    simp only [List.toList_toArray] at h1
    exact map_inj a b h1
  · rintro rfl; rfl
def Sm (l : List Nat) : Prop := ∀ x ∈ l, x < 26
theorem cat_ok {l : List Nat} (h : Sm l) : PyData.strOk (cat l) = true := by
  unfold PyData.strOk cat
  rw [Array.all_eq_true]
  intro i hi
  simp only [List.getElem_toArray, List.getElem_map]
  have := h (l[i]'(by simpa using hi)) (List.getElem_mem _)
  exact decide_eq_true (by omega)
theorem cat_beq (a b : List Nat) : (cat a == cat b) = decide (a = b) := by
  by_cases h : a = b
  · subst h; simp
  · have : cat a ≠ cat b := fun z => h (cat_inj.mp z)
    simp [h, this]
theorem eq_cat {a b : List Nat} (ha : Sm a) (hb : Sm b) : cmpop .eq (.str (cat a)) (.str (cat b)) = some (decide (a = b)) := by
  rw [cmp_str _ _ (cat_ok ha) (cat_ok hb), cat_beq]
theorem Sm.app {a b : List Nat} (ha : Sm a) (hb : Sm b) : Sm (a ++ b) := fun x hx => by
  rcases List.mem_append.mp hx with h | h
  · exact ha x h
  · exact hb x h
theorem Sm.one {x : Nat} (h : x < 26) : Sm [x] := fun y hy => by rw [List.mem_singleton.mp hy]; exact h
def dS (l : List Nat) : D := .str (cat l)
theorem okd_dS {l : List Nat} (h : Sm l) (n : Nat) : (dS l).okd n = true := by
  cases n <;> exact cat_ok h
theorem okds_dS : ∀ {L : List (List Nat)}, (∀ l ∈ L, Sm l) → ∀ n, okds n (L.map dS) = true
  | [], _, n => by simp [okds]
  | l :: L, h, n => by rw [List.map_cons, okds, okd_dS (h l List.mem_cons_self), okds_dS (fun l hl => h l (List.mem_cons_of_mem _ hl)) n]; rfl
theorem any_dS (a : List Nat) : ∀ L : List (List Nat), ((L.map dS).any fun z => eqd z (dS a)) = decide (a ∈ L)
  | [] => by simp
  | l :: L => by
    rw [List.map_cons, List.any_cons, any_dS a L]
    have : eqd (dS l) (dS a) = decide (l = a) := by
      unfold eqd dS
      simp only [D.pd, PyData.eqv]
      exact cat_beq l a
    rw [this]
    by_cases h : l = a
    · simp [h]
    · have h' : a ≠ l := fun z => h z.symm
      simp [h, h']
theorem nin_cat {a : List Nat} {L : List (List Nat)} (ha : Sm a) (hL : ∀ l ∈ L, Sm l) : cmpop .nin (dS a) (.lst (L.map dS)) = some (!decide (a ∈ L)) := by
  have h1 : okd (dS a) = true := okd_dS ha 60
  have h2 := okd_lst (okds_dS hL 0) (by omega)
  simp only [cmpop, h1, h2, Bool.and_self, if_true, any_dS]
def abc : Str := "abcdefghijklmnopqrstuvwxyz"
theorem abc_list : abc.cps.toList = (List.range 26).map (97 + ·) := by decide +kernel
theorem abc_len : abc.length = 26 := by decide +kernel
theorem abc_at (n : Int) : ixop (.str abc) (.int (n % 26)) = some (dS [(n % 26).toNat]) := by
  have h0 : 0 ≤ n % 26 := by omega
  have h1 : n % 26 < 26 := by omega
  have hl : abc.length ≤ LN := by rw [abc_len]; show 26 ≤ 16777216; omega
  show (if abc.length ≤ LN then (L2.atI abc.cps.toList (n % 26)).map fun c => D.str ⟨#[c]⟩ else none) = _
  rw [if_pos hl, abc_list]
  unfold L2.atI L2.ixN
  have hlen : ((List.range 26).map (97 + ·)).length = 26 := rfl
  rw [hlen, if_pos h0, if_pos (by omega)]
  simp only [Option.bind_some, List.getElem?_map]
  rw [List.getElem?_range (by omega)]
  rfl
section
variable {G : Nat → Option D} {sub : Nat → Nat → Bool} {fu : Nat}
theorem rcd_short {ps : List Sh} (ho : Ok (.rcd ps)) (h : ∀ r ∈ rws (.rcd ps), r.p.length ≤ 0) : False := by
  cases ho with
  | rcd h1 h2 =>
    cases ps with
    | nil => simp [cnts] at h1
    | cons t ts =>
      obtain ⟨rest, er⟩ := rws_head t
      obtain ⟨r, hr, e⟩ := mem_rwl (q := ⟨[], 0, cnt t, t⟩) (t := t) (by rw [er]; exact List.mem_cons_self) (k := 0) (a := 0) (ts := t :: ts) List.mem_cons_self
      have := h r (by rw [rws]; exact List.mem_cons_of_mem _ hr)
      omega
theorem cnt_pos {s : Sh} (h : Ok s) : 1 ≤ cnt s := by
  cases h <;> simp [cnt] <;> assumption
theorem few_parts : ∀ {ps : List Sh}, (∀ p ∈ ps, Ok p) → ps.length ≤ cnts ps
  | [], _ => by simp
  | p :: ps, h => by
    have h1 := cnt_pos (h p List.mem_cons_self)
    have h2 := few_parts fun q hq => h q (List.mem_cons_of_mem _ hq)
    rw [List.length_cons, cnts]
    omega
/-- a row of the law's own table -/
def eR3 (r : Row) : D := .tup [eP r.p, .int r.a, enc r.s]
end
end Ly

set_option Elab.async false
set_option linter.all false
set_option maxRecDepth 100000
set_option maxHeartbeats 800000
namespace Ly
open PySem
theorem ok_lent : PyData.strOk "lent" = true := by decide +kernel
theorem ok_sole : PyData.strOk "sole" = true := by decide +kernel
/-! ### kinds -/
inductive Kd where
  | own (s : Sh) | lent (s : Sh) | sole (s : Sh)
def Kd.sh : Kd → Sh
  | .own s => s
  | .lent s => s
  | .sole s => s
def Kd.thr : Kd → Bool
  | .own _ => false
  | _ => true
def hd : Sh → Str
  | .num => "num"
  | .own => "own"
  | .strip _ => "strip"
  | .rcd _ => "rec"
def Kd.w : Kd → Str
  | .own s => hd s
  | .lent _ => "lent"
  | .sole _ => "sole"
def eK : Kd → D
  | .own s => enc s
  | .lent s => .tup [.str "lent", enc s]
  | .sole s => .tup [.str "sole", enc s]
theorem in_hd : ∀ s : Sh, cmpop .inn (.str (hd s)) (.tup [.str "lent", .str "sole"]) = some false
  | .num => by decide +kernel
  | .own => by decide +kernel
  | .strip _ => by
    show cmpop .inn (.str "strip") (.tup [.str "lent", .str "sole"]) = some false
    decide +kernel
  | .rcd _ => by
    show cmpop .inn (.str "rec") (.tup [.str "lent", .str "sole"]) = some false
    decide +kernel
theorem in_lent : cmpop .inn (.str "lent") (.tup [.str "lent", .str "sole"]) = some true := by decide +kernel
theorem in_sole : cmpop .inn (.str "sole") (.tup [.str "lent", .str "sole"]) = some true := by decide +kernel
theorem enc_hd (s : Sh) : ∃ rest, enc s = .tup (.str (hd s) :: rest) := by
  cases s <;> simp [enc, hd]
theorem eK_hd (k : Kd) : ∃ rest, eK k = .tup (.str k.w :: rest) := by
  cases k with
  | own s => exact enc_hd s
  | lent s => exact ⟨_, rfl⟩
  | sole s => exact ⟨_, rfl⟩
theorem in_w (k : Kd) : cmpop .inn (.str k.w) (.tup [.str "lent", .str "sole"]) = some k.thr := by
  cases k with
  | own s => exact in_hd s
  | lent s => exact in_lent
  | sole s => exact in_sole
theorem ok_hd (s : Sh) : PyData.strOk (hd s) = true := by
  cases s
  · exact ok_num
  · exact ok_own
  · exact ok_strip
  · exact ok_rec
theorem ok_w (k : Kd) : PyData.strOk k.w = true := by
  cases k
  · exact ok_hd _
  · exact ok_lent
  · exact ok_sole
structure Nd where
  l : List Nat
  k : Kd
def eN (r : Nd) : D := .tup [dS r.l, eK r.k]
def GN (r : Nd) : Prop := Sm r.l ∧ Gt r.k.sh
def lk (R : List Nd) (a : List Nat) : Option Nd := R.find? fun q => decide (q.l = a)
theorem find_nd : ∀ R : List Nd, (R.map (·.l)).Nodup → ∀ r ∈ R, lk R r.l = some r
  | [], _, r, h => by simp at h
  | q :: R, hn, r, h => by
    rw [List.map_cons, List.nodup_cons] at hn
    unfold lk
    rcases List.mem_cons.mp h with rfl | h
    · simp
    · have hne : ¬ q.l = r.l := fun z => hn.1 (by rw [z]; exact List.mem_map.mpr ⟨r, h, rfl⟩)
      rw [List.find?_cons_of_neg (by simp [hne])]
      exact find_nd R hn.2 r h
/-- a function: what it is called, its params, its result, its lets, its rows -/
def funD (f0 fr f4 : D) (R1 R2 : List Nd) : D := .tup [f0, .tup (R1.map eN), fr, .tup (R2.map eN), f4]
/-! ### acts -/
structure Ac where
  w : Str
  n : List Nat
  t : Bool
  a : Nat
  m : Nat
  k : Str
def acL (x : Ac) : List D := [.str x.w, dS x.n, .bl x.t, .int x.a, .int x.m, .str x.k]
def eA (x : Ac) : D := .tup (acL x)
def GA (x : Ac) : Prop := PyData.strOk x.w = true ∧ Sm x.n ∧ PyData.strOk x.k = true
def e7 (x : Nat × Ac) : D := .tup (.int x.1 :: acL x.2)
/-! ### spots -/
inductive At where
  | non | int (i : Int) | nam (l : List Nat)
def eAt : At → D
  | .non => .non
  | .int i => .int i
  | .nam l => dS l
structure Sp where
  n : List Nat
  t : Bool
  p : List Int
  a : At
def eS (s : Sp) : D := .tup [dS s.n, .bl s.t, eP s.p, eAt s.a]
/-- a spot of some name of R: what stands there -/
structure Sv (R : List Nd) (s : Sp) (nd : Nd) (r : Row) : Prop where
  lk : lk R s.n = some nd
  gn : GN nd
  thr : s.t = nd.k.thr
  row : r ∈ rws nd.k.sh
  p : r.p = s.p
theorem Sv.walk {R : List Nd} {s : Sp} {nd : Nd} {r : Row} (v : Sv R s nd r) : ∃ m : Nat, r.a = (m : Int) ∧ Ly.walk nd.k.sh s.p = some (m, r.s) := by
  rw [← v.p]
  exact rws_walk v.gn.2.1 r v.row
theorem lk_l {R : List Nd} {a : List Nat} {nd : Nd} (h : lk R a = some nd) : nd.l = a ∧ nd ∈ R := by
  unfold lk at h
  have h1 := List.find?_some h
  exact ⟨by simpa using h1, List.mem_of_find?_eq_some h⟩
theorem lk_sm {R : List Nd} {s : Sp} {nd : Nd} {r : Row} (v : Sv R s nd r) : Sm s.n := by
  rw [← (lk_l v.lk).1]
  exact v.gn.1
def acOf (w : Str) (s : Sp) (r : Row) (k : Str) : Ac := ⟨w, s.n, s.t, r.a.toNat, cnt r.s, k⟩
section
variable {G : Nat → Option D} {sub : Nat → Nat → Bool} {fu : Nat}
/-! ### the law's own -/
theorem ints_eq (a b : List Int) : cmpop .eq (eP a) (eP b) = some (decide (a = b)) := cmp_ints a b
end
end Ly

set_option Elab.async false
set_option linter.all false
set_option maxRecDepth 100000
set_option maxHeartbeats 800000
namespace Ly
open PySem
/-! ### names -/
def at1 (B : List Int) (at_ k j : Nat) : Nat := ((B.getD j 0 + k * (if j = at_ then 1 else 0)) % 26).toNat
theorem at1_lt (B : List Int) (at_ k j : Nat) : at1 B at_ k j < 26 := by
  unfold at1
  generalize B.getD j 0 + k * (if j = at_ then 1 else 0) = x
  omega
def stem (B : List Int) (at_ k : Nat) : List Nat := (List.range' 0 B.length).map (at1 B at_ k)
def suf (c : Int) (k : Nat) : List Nat := if c / 49 % 2 = 1 ∧ k % 2 = 1 then [(c / 98 % 26).toNat] else []
def nmk (c : Int) (B : List Int) (at_ k : Nat) : List Nat := stem B at_ k ++ suf c k
theorem nmk_8 (c : Int) (B : List Int) (at_ k : Nat) (h : B.length ≤ 7) : (nmk c B at_ k).length ≤ 8 := by
  unfold nmk stem suf
  rw [List.length_append, List.length_map, List.length_range']
  split
  · rw [List.length_singleton]; omega
  · rw [List.length_nil]; omega
theorem nmk_sm (c : Int) (B : List Int) (at_ k : Nat) : Sm (nmk c B at_ k) := by
  refine Sm.app (fun x hx => ?_) ?_
  · obtain ⟨j, _, rfl⟩ := List.mem_map.mp hx
    exact at1_lt _ _ _ _
  · unfold suf
    split
    · exact Sm.one (by omega)
    · intro x hx; simp at hx
theorem nmk_inj {c : Int} {B : List Int} {at_ k k' : Nat} (h : at_ < B.length) (hk : k < 26) (hk' : k' < 26) (e : nmk c B at_ k = nmk c B at_ k') : k = k' := by
  have h1 : ∀ k, (nmk c B at_ k)[at_]? = some (at1 B at_ k at_) := fun k => by
    unfold nmk stem
    rw [List.getElem?_append_left (by simpa using h), List.getElem?_map, List.getElem?_range' h]
    simp
  have h2 := (h1 k).symm.trans ((congrArg (·[at_]?) e).trans (h1 k'))
  have h3 := Option.some.inj h2
  unfold at1 at h3
  simp only [if_true] at h3
  generalize B.getD at_ 0 = b at h3
  omega
theorem ix_int {B : List Int} {i : Nat} (h : i < B.length) : ixop (.lst (B.map D.int)) (.int i) = some (.int (B.getD i 0)) := by
  have hi : (i : Int) < (B.length : Int) := by omega
  have hg : B.getD i 0 = B[i] := by rw [List.getD_eq_getElem?_getD, List.getElem?_eq_getElem h]; rfl
  simp [ixop, atD, L2.atI, L2.ixN, h, hg]
section
variable {G : Nat → Option D} {sub : Nat → Nat → Bool} {fu : Nat}
end
/-! ### shapes of the menu -/
mutual
def dp : Sh → Nat
  | .rcd ps => 1 + dps ps
  | _ => 0
def dps : List Sh → Nat
  | [] => 0
  | p :: ps => max (dp p) (dps ps)
end
mutual
theorem rws_dp : ∀ (s : Sh) (r : Row), r ∈ rws s → r.p.length ≤ dp s
  | .num, r, h => by simp [rws] at h; subst h; simp
  | .own, r, h => by simp [rws] at h; subst h; simp
  | .strip _, r, h => by simp [rws] at h; subst h; simp
  | .rcd ps, r, h => by
    rw [rws] at h
    rw [dp]
    rcases List.mem_cons.mp h with rfl | h
    · simp
    · exact rwl_dp ps 0 0 r h
theorem rwl_dp : ∀ (ps : List Sh) (k : Nat) (a : Int) (r : Row), r ∈ rwl k a ps → r.p.length ≤ 1 + dps ps
  | [], k, a, r, h => by simp [rwl] at h
  | p :: ps, k, a, r, h => by
    rw [rwl] at h
    rw [dps]
    rcases List.mem_append.mp h with h | h
    · obtain ⟨q, hq, rfl⟩ := List.mem_map.mp h
      have := rws_dp p q hq
      show q.p.length + 1 ≤ _
      omega
    · have := rwl_dp ps (k + 1) (a + cnt p) r h
      omega
end
theorem mkGt {s : Sh} (ok : Ok s) (c : cnt s ≤ 8) (d : dp s ≤ 3) : Gt s := ⟨ok, c, fun r hr => Nat.le_trans (rws_dp s r hr) d⟩
def sTwo : Sh := .rcd [.num, .num]
def sDeep (k : Int) : Sh := .rcd [.rcd [sTwo, .own], .strip k]
theorem ok2 {a b : Sh} (ha : Ok a) (hb : Ok b) : Ok (.rcd [a, b]) := .rcd (by have := cnt_pos ha; simp [cnts]; omega) fun t ht => by
  simp only [List.mem_cons, List.mem_nil_iff, or_false] at ht
  rcases ht with rfl | rfl
  · exact ha
  · exact hb
theorem okTwo : Ok sTwo := ok2 .num .num
theorem gtNum : Gt .num := mkGt .num (by simp [cnt]) (by simp [dp])
theorem gtOwn : Gt .own := mkGt .own (by simp [cnt]) (by simp [dp])
theorem gtStrip (k : Int) : Gt (.strip k) := mkGt (.strip k) (by simp [cnt]) (by simp [dp])
theorem gtTwo : Gt sTwo := mkGt okTwo (by simp [cnt, cnts, sTwo]) (by simp [dp, dps, sTwo])
theorem gtDeep (k : Int) : Gt (sDeep k) := mkGt (ok2 (ok2 okTwo .own) (.strip k)) (by simp [cnt, cnts, sTwo, sDeep]) (by simp [dp, dps, sTwo, sDeep])
theorem gtNO : Gt (.rcd [.num, .own]) := mkGt (ok2 .num .own) (by simp [cnt, cnts]) (by simp [dp, dps])
theorem gtSN (k : Int) : Gt (.rcd [.strip k, .num]) := mkGt (ok2 (.strip k) .num) (by simp [cnt, cnts]) (by simp [dp, dps])
theorem gtTN : Gt (.rcd [sTwo, .num]) := mkGt (ok2 okTwo .num) (by simp [cnt, cnts, sTwo]) (by simp [dp, dps, sTwo])
theorem gtT4 : Gt (.rcd [sTwo, sTwo, sTwo, sTwo]) := mkGt (.rcd (by simp [cnt, cnts, sTwo]) fun t ht => by
  simp only [List.mem_cons, List.mem_nil_iff, or_false] at ht
  rcases ht with rfl | rfl | rfl | rfl <;> exact okTwo) (by simp [cnt, cnts, sTwo]) (by simp [dp, dps, sTwo])
mutual
/-- strips have places -/
def Ps : Sh → Prop
  | .strip k => 0 < k ∧ k ≤ 8
  | .rcd ps => 1 ≤ ps.length ∧ ps.length ≤ 4 ∧ Pss ps
  | _ => True
def Pss : List Sh → Prop
  | [] => True
  | p :: ps => Ps p ∧ Pss ps
end
mutual
theorem rws_ps : ∀ (s : Sh) (r : Row), Ps s → r ∈ rws s → Ps r.s
  | .num, r, _, h => by simp [rws] at h; subst h; trivial
  | .own, r, _, h => by simp [rws] at h; subst h; trivial
  | .strip _, r, g, h => by simp [rws] at h; subst h; exact g
  | .rcd ps, r, g, h => by
    rw [rws] at h
    rcases List.mem_cons.mp h with rfl | h
    · exact g
    · exact rwl_ps ps 0 0 r (by unfold Ps at g; exact g.2.2) h
theorem rwl_ps : ∀ (ps : List Sh) (k : Nat) (a : Int) (r : Row), Pss ps → r ∈ rwl k a ps → Ps r.s
  | [], k, a, r, _, h => by simp [rwl] at h
  | p :: ps, k, a, r, g, h => by
    rw [rwl] at h
    simp only [Pss] at g
    rcases List.mem_append.mp h with h | h
    · obtain ⟨q, hq, rfl⟩ := List.mem_map.mp h
      exact rws_ps p q g.1 hq
    · exact rwl_ps ps (k + 1) (a + cnt p) r g.2 h
end
theorem okd_enc : ∀ (d : Nat) (s : Sh), Ok s → (∀ r ∈ rws s, r.p.length ≤ d) → D.okd (2 * d + 1) (enc s) = true
  | d, .num, _, _ => by simp [enc, D.okd, okds, ok_num]
  | d, .own, _, _ => by simp [enc, D.okd, okds, ok_own]
  | d, .strip k, _, _ => by simp [enc, D.okd, okds, ok_strip]
  | 0, .rcd ps, ho, h => (rcd_short ho h).elim
  | d + 1, .rcd ps, ho, h => by
    have ih : ∀ p ∈ ps, D.okd (2 * d + 1) (enc p) = true := fun p hp => okd_enc d p (ho.part p hp) (short_part h p hp)
    have ih2 : ∀ qs : List Sh, (∀ p ∈ qs, D.okd (2 * d + 1) (enc p) = true) → okds (2 * d + 1) (encs qs) = true := fun qs => by
      induction qs with
      | nil => intro _; simp [encs, okds]
      | cons q qs iq =>
        intro hq
        rw [encs, okds, hq q List.mem_cons_self, iq fun p hp => hq p (List.mem_cons_of_mem _ hp)]
        rfl
    have e : 2 * (d + 1) + 1 = (2 * d + 1) + 1 + 1 := by omega
    rw [e, enc]
    simp [D.okd, okds, ok_rec, ih2 ps ih]
theorem okd_eK {k : Kd} (g : Gt k.sh) : okd (eK k) = true := by
  have h := okd_enc 3 k.sh g.1 g.2.2
  cases k with
  | own s => exact okd_up h (by omega)
  | lent s =>
    have h' : okds 7 [D.str "lent", enc s] = true := by
      simp only [okds]
      rw [show D.okd 7 (enc s) = true from h]
      simp [D.okd, ok_lent]
    exact okd_tup h' (by omega)
  | sole s =>
    have h' : okds 7 [D.str "sole", enc s] = true := by
      simp only [okds]
      rw [show D.okd 7 (enc s) = true from h]
      simp [D.okd, ok_sole]
    exact okd_tup h' (by omega)
def menuK (b s : Sh) : List Kd := [.own .num, .own b, .own s, .sole b, .lent b, .sole s, .lent s, .lent .num]
theorem menu_ps {b s : Sh} (hb : Ps b) (hs : Ps s) : ∀ k ∈ menuK b s, Ps k.sh := fun k hk => by
  simp only [menuK, List.mem_cons, List.mem_nil_iff, or_false] at hk
  rcases hk with rfl | rfl | rfl | rfl | rfl | rfl | rfl | rfl
  · trivial
  · exact hb
  · exact hs
  · exact hb
  · exact hb
  · exact hs
  · exact hs
  · trivial
theorem menu_gt {b s : Sh} (hb : Gt b) (hs : Gt s) : ∀ k ∈ menuK b s, Gt k.sh := fun k hk => by
  simp only [menuK, List.mem_cons, List.mem_nil_iff, or_false] at hk
  rcases hk with rfl | rfl | rfl | rfl | rfl | rfl | rfl | rfl
  · exact gtNum
  · exact hb
  · exact hs
  · exact hb
  · exact hb
  · exact hs
  · exact hs
  · exact gtNum
section
variable {G : Nat → Option D} {sub : Nat → Nat → Bool} {fu : Nat}
theorem ix_list {α : Type} {g : α → D} {L : List α} {i : Int} (h0 : 0 ≤ i) (h1 : i < L.length) : ∃ x ∈ L, ixop (.lst (L.map g)) (.int i) = some (g x) := by
  have hn : i.toNat < L.length := by omega
  refine ⟨L[i.toNat], List.getElem_mem hn, ?_⟩
  simp [ixop, atD, L2.atI, L2.ixN, h0, h1, hn]
end
end Ly

set_option Elab.async false
set_option linter.all false
set_option maxRecDepth 100000
set_option maxHeartbeats 800000
namespace Ly
open PySem
/-! ### texts of at most so many signs -/
def Tx (n : Nat) (s : Str) : Prop := PyData.strOk s = true ∧ s.length ≤ n
theorem str_len_app (a b : Str) : (a ++ b).length = a.length + b.length := by
  show (a.cps ++ b.cps).size = _
  rw [Array.size_append]
  rfl
theorem strOk_app {a b : Str} (h : PyData.strOk a = true) (g : PyData.strOk b = true) : PyData.strOk (a ++ b) = true := by
  unfold PyData.strOk at *
  show (a.cps ++ b.cps).all _ = true
  rw [Array.all_append, h, g]
  rfl
theorem Tx.app {n m : Nat} {a b : Str} (h : Tx n a) (g : Tx m b) : Tx (n + m) (a ++ b) := ⟨strOk_app h.1 g.1, by rw [str_len_app]; have := h.2; have := g.2; omega⟩
theorem Tx.mono {n m : Nat} {a : Str} (h : Tx n a) (k : n ≤ m) : Tx m a := ⟨h.1, Nat.le_trans h.2 k⟩
theorem str_assoc (a b c : Str) : a ++ b ++ c = a ++ (b ++ c) := by
  show Str.mk (a.cps ++ b.cps ++ c.cps) = Str.mk (a.cps ++ (b.cps ++ c.cps))
  rw [Array.append_assoc]
theorem str_e (a : Str) : a ++ ("" : Str) = a := by
  have e : ("" : Str) = ⟨#[]⟩ := by decide +kernel
  rw [e]
  show Str.mk (a.cps ++ #[]) = a
  rw [Array.append_empty]
theorem tx_e : Tx 0 ("" : Str) := ⟨by decide +kernel, by decide +kernel⟩
theorem bstr_add {n m : Nat} {a b : Str} (h : Tx n a) (g : Tx m b) (k : n + m ≤ 16777216) : binop .add (.str a) (.str b) = some (0, .str (a ++ b)) := by
  have := h.2
  have := g.2
  show (if a.length + b.length ≤ LN then _ else _) = _
  rw [if_pos (by show _ ≤ 16777216; omega)]
def jn (sep : Str) (ss : List Str) : Str := Str.join sep ss
theorem jn_tx {b c : Nat} {sep : Str} (hs : Tx c sep) : ∀ {ss : List Str}, (∀ s ∈ ss, Tx b s) → Tx (ss.length * (b + c)) (jn sep ss)
  | [], _ => ⟨by show PyData.strOk Str.empty = true; decide +kernel, by show (0 : Nat) ≤ _; omega⟩
  | [x], h => (h x List.mem_cons_self).mono (by simp)
  | x :: y :: r, h => by
    have h1 := h x List.mem_cons_self
    have h2 := jn_tx hs (ss := y :: r) fun s hs => h s (List.mem_cons_of_mem _ hs)
    have e : jn sep (x :: y :: r) = x ++ sep ++ jn sep (y :: r) := rfl
    rw [e]
    refine ((h1.app hs).app h2).mono ?_
    rw [List.length_cons (a := x), Nat.succ_mul]
    omega
theorem asStrs_map : ∀ ss : List Str, asStrs (ss.map D.str) = some ss
  | [] => rfl
  | s :: ss => by
    rw [List.map_cons, asStrs, asStrs_map ss]
    rfl
theorem sum_tx {b : Nat} : ∀ {ss : List Str}, (∀ s ∈ ss, Tx b s) → (ss.map (·.length)).sum ≤ ss.length * b
  | [], _ => by simp
  | x :: r, h => by
    have h1 := (h x List.mem_cons_self).2
    have h2 := sum_tx (ss := r) fun s hs => h s (List.mem_cons_of_mem _ hs)
    rw [List.map_cons, List.sum_cons, List.length_cons, Nat.succ_mul]
    omega
theorem mjoin {b c : Nat} {sep : Str} {ss : List Str} (hs : Tx c sep) (h : ∀ s ∈ ss, Tx b s) (hl : ss.length * (b + c) ≤ 16777216) : methop .join (.str sep) [.lst (ss.map D.str)] = some (0, .str (jn sep ss)) := by
  have e : methop .join (.str sep) [.lst (ss.map D.str)] = (asStrs (ss.map D.str)).bind fun ss => if (ss.map (·.length)).sum + ss.length * sep.length ≤ 16777216 then some (0, D.str (Txt.join sep ss)) else none := rfl
  rw [e, asStrs_map]
  show (if _ then _ else _) = _
  rw [if_pos]
  · rw [show Txt.join sep ss = jn sep ss from StrLaws.glued_eq_join sep ss]
  · have h1 := sum_tx h
    have h2 : ss.length * sep.length ≤ ss.length * c := Nat.mul_le_mul_left _ hs.2
    rw [Nat.mul_add] at hl
    omega
theorem mty (s : Str) : methTy .join (.str s) = true := rfl
/-! numbers as texts -/
def iT (i : Int) : Str := Str.ofString (toString i)
theorem bstr_int {i : Int} (h0 : 0 ≤ i) (h1 : i < 10 ^ 30) : bltop .str [.int i] = some (0, .str (iT i)) := by
  show (if i.natAbs.log2 < 1920 then some (0, D.str (toString i)) else none) = _
  rw [if_pos]
  · rfl
  · by_cases hz : i.natAbs = 0
    · rw [hz]; decide
    · rw [Nat.log2_lt hz]
      have h2 : i.natAbs < 10 ^ 30 := by omega
      exact Nat.lt_trans h2 (Nat.lt_of_lt_of_le (by decide : 10 ^ 30 < 2 ^ 100) (Nat.pow_le_pow_right (by omega) (by omega)))
theorem bstr_str (s : Str) : bltop .str [.str s] = some (0, .str s) := rfl
theorem iT_tx {i : Int} (h0 : 0 ≤ i) (h1 : i < 10 ^ 30) : Tx 30 (iT i) := by
  obtain ⟨m, rfl⟩ : ∃ m : Nat, i = (m : Int) := ⟨i.toNat, by omega⟩
  have e : iT (m : Int) = ⟨((Nat.toDigits 10 m).map Char.toNat).toArray⟩ := by
    unfold iT
    rw [Str.ofString_eq_toList]
    congr 2
    congr 1
    show (Nat.repr m).toList = _
    exact Nat.toList_repr
  rw [e]
  refine ⟨?_, ?_⟩
  · unfold PyData.strOk
    rw [Array.all_eq_true]
    intro i hi
    simp only [List.getElem_toArray, List.getElem_map]
    have hv := ((Nat.toDigits 10 m)[i]'(by simpa using hi)).valid
    simp only [UInt32.isValidChar, Nat.isValidChar] at hv
    refine decide_eq_true ?_
    show ((Nat.toDigits 10 m)[i]'(by simpa using hi)).val.toNat < 1114112
    omega
  · show ((Nat.toDigits 10 m).map Char.toNat).toArray.size ≤ 30
    rw [List.size_toArray, List.length_map]
    exact (Nat.length_toDigits_le_iff (by omega) (by omega)).mpr (by omega)
/-! shapes and kinds as texts -/
mutual
def shT : Sh → Str
  | .num => "num"
  | .own => "own"
  | .strip k => ("[" : Str) ++ iT k ++ ("]" : Str)
  | .rcd ps => ("(" : Str) ++ jn "," (shTs ps) ++ (")" : Str)
def shTs : List Sh → List Str
  | [] => []
  | p :: ps => shT p :: shTs ps
end
theorem shTs_map : ∀ ps : List Sh, shTs ps = ps.map shT
  | [] => rfl
  | p :: ps => by rw [shTs, shTs_map ps]; rfl
theorem tx_num : Tx 3 ("num" : Str) := ⟨by decide +kernel, by decide +kernel⟩
theorem tx_own : Tx 3 ("own" : Str) := ⟨by decide +kernel, by decide +kernel⟩
theorem tx_b1 : Tx 1 ("[" : Str) := ⟨by decide +kernel, by decide +kernel⟩
theorem tx_b2 : Tx 1 ("]" : Str) := ⟨by decide +kernel, by decide +kernel⟩
theorem tx_p1 : Tx 1 ("(" : Str) := ⟨by decide +kernel, by decide +kernel⟩
theorem tx_p2 : Tx 1 (")" : Str) := ⟨by decide +kernel, by decide +kernel⟩
theorem tx_c : Tx 1 ("," : Str) := ⟨by decide +kernel, by decide +kernel⟩
theorem rwl_len : ∀ (ps : List Sh) (k : Nat) (a : Int), (rwl k a ps).length = (ps.map fun p => (rws p).length).sum
  | [], k, a => rfl
  | p :: ps, k, a => by rw [rwl, List.length_append, List.length_map, rwl_len ps, List.map_cons, List.sum_cons]
theorem sum_mem {α : Type} (f : α → Nat) : ∀ {l : List α} {x : α}, x ∈ l → f x ≤ (l.map f).sum
  | y :: l, x, h => by
    rw [List.map_cons, List.sum_cons]
    rcases List.mem_cons.mp h with rfl | h
    · omega
    · have := sum_mem f h; omega
theorem Pss.mem : ∀ {ps : List Sh}, Pss ps → ∀ p ∈ ps, Ps p
  | [], _, p, h => by cases h
  | q :: ps, h, p, hp => by
    rcases List.mem_cons.mp hp with rfl | hp
    · exact h.1
    · exact Pss.mem h.2 p hp
/-- a shape's text is no longer than its parts allow -/
theorem shT_len : ∀ (d : Nat) (s : Sh), Ok s → Ps s → (∀ r ∈ rws s, r.p.length ≤ d) → PyData.strOk (shT s) = true ∧ (shT s).length + 1 ≤ 40 * (rws s).length
  | d, .num, _, _, _ => ⟨by unfold shT; decide +kernel, by unfold shT; simp only [rws]; decide +kernel⟩
  | d, .own, _, _, _ => ⟨by unfold shT; decide +kernel, by unfold shT; simp only [rws]; decide +kernel⟩
  | d, .strip k, _, hp, _ => by
    have h := (tx_b1.app (iT_tx (show 0 ≤ k by have := hp.1; omega) (by have := hp.2; omega))).app tx_b2
    unfold shT
    refine ⟨h.1, ?_⟩
    have := h.2
    simp only [rws, List.length_singleton]
    omega
  | 0, .rcd ps, ho, _, h => (rcd_short ho h).elim
  | d + 1, .rcd ps, ho, hp, h => by
    obtain ⟨_, _, hpp⟩ := hp
    have ih : ∀ p ∈ ps, PyData.strOk (shT p) = true ∧ (shT p).length + 1 ≤ 40 * (rws p).length := fun p hq => shT_len d p (ho.part p hq) (Pss.mem hpp p hq) (short_part h p hq)
    have key : ∀ ps : List Sh, (∀ p ∈ ps, PyData.strOk (shT p) = true ∧ (shT p).length + 1 ≤ 40 * (rws p).length) → PyData.strOk (jn "," (ps.map shT)) = true ∧ (jn "," (ps.map shT)).length ≤ 40 * (ps.map fun p => (rws p).length).sum := fun ps => by
      induction ps with
      | nil => intro _; exact ⟨by show PyData.strOk Str.empty = true; decide +kernel, by show (0 : Nat) ≤ _; omega⟩
      | cons a ps ih2 =>
        intro h
        obtain ⟨a1, a2⟩ := h a List.mem_cons_self
        obtain ⟨b1, b2⟩ := ih2 fun p hp => h p (List.mem_cons_of_mem _ hp)
        rw [List.map_cons, List.map_cons, List.sum_cons]
        cases ps with
        | nil => exact ⟨a1, by show (shT a).length ≤ _; omega⟩
        | cons c ps =>
          have e : jn "," (shT a :: (c :: ps).map shT) = shT a ++ ("," : Str) ++ jn "," ((c :: ps).map shT) := rfl
          rw [e]
          refine ⟨strOk_app (strOk_app a1 tx_c.1) b1, ?_⟩
          rw [str_len_app, str_len_app]
          have := tx_c.2
          omega
    obtain ⟨k1, k2⟩ := key ps ih
    unfold shT
    rw [shTs_map]
    refine ⟨strOk_app (strOk_app tx_p1.1 k1) tx_p2.1, ?_⟩
    rw [str_len_app, str_len_app, rws, List.length_cons, rwl_len]
    have := tx_p1.2
    have := tx_p2.2
    omega
theorem shT_tx {s : Sh} (g : Gt s) (p : Ps s) : Tx 1300 (shT s) := by
  obtain ⟨h1, h2⟩ := shT_len 3 s g.1 p g.2.2
  have := g.few
  exact ⟨h1, by omega⟩
section
variable {G : Nat → Option D} {sub : Nat → Nat → Bool} {fu : Nat}
theorem show_all : ∀ (d n : Nat) (s : Sh), Ok s → (∀ r ∈ rws s, r.p.length ≤ d) → d < n → Ps s → (rws s).length ≤ 32 → callF G sub tab fu n 7 [enc s] = .ok 0 (.str (shT s))
  | d, 0, s, _, _, hk, _, _ => by omega
  | d, n + 1, .num, _, _, _, _, _ => by
    rw [callF_s fn7 rfl rfl]
    have c1 : cmpop .eq (.str "num") (.str "strip") = some false := by decide +kernel
    have c2 : cmpop .eq (.str "num") (.str "rec") = some false := by decide +kernel
    have i0 : ixop (enc .num) (.int 0) = some (.str "num") := rfl
    unfold shT
    generalize enc .num = EN at *
    simp [evB_cons, evB_nil, seqB_nx, seqB_ret, seqB_exc, seqB_bk, seqB_ct, endF_ret, endF_nx, endF_exc, evS, ev, evs, evBop, evo, evc, evSr, R_ok, R_exc, R_some, O_ok, O_exc, startE, getv, lower, cmp_int, cmpne_int, cmp_lt, cmp_le, cmp_gt, cmp_ge, cmp_str, cmpne_str, bin_add, bin_sub, bin_mod, bin_div, bin_mul, bltop, slop, isaop, itemsOf, seqOf, enumOf, zipOf, Tg.put, Tg.ids, setAll, wipeE, fn7, i0, c1, c2]
  | d, n + 1, .own, _, _, _, _, _ => by
    rw [callF_s fn7 rfl rfl]
    have c1 : cmpop .eq (.str "own") (.str "strip") = some false := by decide +kernel
    have c2 : cmpop .eq (.str "own") (.str "rec") = some false := by decide +kernel
    have i0 : ixop (enc .own) (.int 0) = some (.str "own") := rfl
    unfold shT
    generalize enc .own = EN at *
    simp [evB_cons, evB_nil, seqB_nx, seqB_ret, seqB_exc, seqB_bk, seqB_ct, endF_ret, endF_nx, endF_exc, evS, ev, evs, evBop, evo, evc, evSr, R_ok, R_exc, R_some, O_ok, O_exc, startE, getv, lower, cmp_int, cmpne_int, cmp_lt, cmp_le, cmp_gt, cmp_ge, cmp_str, cmpne_str, bin_add, bin_sub, bin_mod, bin_div, bin_mul, bltop, slop, isaop, itemsOf, seqOf, enumOf, zipOf, Tg.put, Tg.ids, setAll, wipeE, fn7, i0, c1, c2]
  | d, n + 1, .strip j, _, _, _, hp, _ => by
    rw [callF_s fn7 rfl rfl]
    have c1 : cmpop .eq (.str "strip") (.str "strip") = some true := by decide +kernel
    have i0 : ixop (enc (.strip j)) (.int 0) = some (.str "strip") := rfl
    have i1 : ixop (enc (.strip j)) (.int 1) = some (.int j) := rfl
    have j0 : 0 ≤ j := by have := hp.1; omega
    have j1 : j < 10 ^ 30 := by have := hp.2; omega
    have hs := bstr_int j0 j1
    have b1 := bstr_add tx_b1 (iT_tx j0 j1) (by omega)
    have b2 := bstr_add (tx_b1.app (iT_tx j0 j1)) tx_b2 (by omega)
    unfold shT
    generalize enc (.strip j) = EN at *
    simp [evB_cons, evB_nil, seqB_nx, seqB_ret, seqB_exc, seqB_bk, seqB_ct, endF_ret, endF_nx, endF_exc, evS, ev, evs, evBop, evo, evc, evSr, R_ok, R_exc, R_some, O_ok, O_exc, startE, getv, lower, cmp_int, cmpne_int, cmp_lt, cmp_le, cmp_gt, cmp_ge, cmp_str, cmpne_str, bin_add, bin_sub, bin_mod, bin_div, bin_mul, slop, isaop, itemsOf, seqOf, enumOf, zipOf, Tg.put, Tg.ids, setAll, wipeE, fn7, i0, i1, c1, hs, b1, b2]
  | 0, n + 1, .rcd ps, ho, h, hk, _, _ => (rcd_short ho h).elim
  | d + 1, n + 1, .rcd ps, ho, h, hk, hp, hr => by
    obtain ⟨_, hp4, hpp⟩ := hp
    rw [rws, List.length_cons, rwl_len] at hr
    have hfew : ∀ p ∈ ps, (rws p).length ≤ 31 := fun p hq => by
      have := sum_mem (fun p => (rws p).length) hq
      omega
    have ih : ∀ p ∈ ps, callF G sub tab fu n 7 [enc p] = .ok 0 (.str (shT p)) := fun p hq => show_all d n p (ho.part p hq) (short_part h p hq) (by omega) (Pss.mem hpp p hq) (by have := hfew p hq; omega)
    have tx : ∀ s ∈ shTs ps, Tx 1300 s := fun s hs => by
      rw [shTs_map] at hs
      obtain ⟨p, hq, rfl⟩ := List.mem_map.mp hs
      obtain ⟨h1, h2⟩ := shT_len d p (ho.part p hq) (Pss.mem hpp p hq) (short_part h p hq)
      have := hfew p hq
      exact ⟨h1, by omega⟩
    have hl : (shTs ps).length ≤ 4 := by rw [shTs_map, List.length_map]; exact hp4
    have hj := mjoin tx_c tx (by have : (shTs ps).length * (1300 + 1) ≤ 4 * (1300 + 1) := Nat.mul_le_mul_right _ hl; omega)
    have jx : Tx 5204 (jn "," (shTs ps)) := (jn_tx tx_c tx).mono (by have : (shTs ps).length * (1300 + 1) ≤ 4 * (1300 + 1) := Nat.mul_le_mul_right _ hl; omega)
    have b1 := bstr_add tx_p1 jx (by omega)
    have b2 := bstr_add (tx_p1.app jx) tx_p2 (by omega)
    have c1 : cmpop .eq (.str "rec") (.str "strip") = some false := by decide +kernel
    have c2 : cmpop .eq (.str "rec") (.str "rec") = some true := by decide +kernel
    have i0 : ixop (enc (.rcd ps)) (.int 0) = some (.str "rec") := rfl
    have i1 : ixop (enc (.rcd ps)) (.int 1) = some (.tup (ps.map enc)) := by
      show some (D.tup (encs ps)) = _
      rw [encs_map]
    rw [callF_s fn7 rfl rfl]
    unfold shT
    have em : (shTs ps).map D.str = ps.map fun p => D.str (shT p) := by rw [shTs_map, List.map_map]; rfl
    rw [em] at hj
    generalize enc (.rcd ps) = EN at *
    simp [evB_cons, evB_nil, seqB_nx, seqB_ret, seqB_exc, seqB_bk, seqB_ct, endF_ret, endF_nx, endF_exc, evS, ev, evs, evBop, evo, evc, evSr, R_ok, R_exc, R_some, O_ok, O_exc, startE, getv, lower, cmp_int, cmpne_int, cmp_lt, cmp_le, cmp_gt, cmp_ge, cmp_str, cmpne_str, bin_add, bin_sub, bin_mod, bin_div, bin_mul, bltop, slop, isaop, itemsOf, seqOf, enumOf, zipOf, Tg.put, Tg.ids, setAll, wipeE, fn7, i0, i1, c1, c2]
    rw [compT_map (g := enc) (fun p => D.str (shT p)) ps (fun p hq => by
      have q := ih p hq
      generalize enc p = EP at *
      simp [compF, evB_cons, evB_nil, seqB_nx, seqB_ret, seqB_exc, seqB_bk, seqB_ct, endF_ret, endF_nx, endF_exc, evS, ev, evs, evBop, evo, evc, evSr, R_ok, R_exc, R_some, O_ok, O_exc, startE, getv, lower, cmp_int, cmpne_int, cmp_lt, cmp_le, cmp_gt, cmp_ge, cmp_str, cmpne_str, bin_add, bin_sub, bin_mod, bin_div, bin_mul, bltop, slop, isaop, itemsOf, seqOf, enumOf, zipOf, Tg.put, Tg.ids, setAll, wipeE, q]) (by omega)]
    simp [evB_cons, evB_nil, seqB_nx, seqB_ret, seqB_exc, seqB_bk, seqB_ct, endF_ret, endF_nx, endF_exc, evS, ev, evs, evBop, evo, evc, evSr, R_ok, R_exc, R_some, O_ok, O_exc, startE, getv, lower, cmp_int, cmpne_int, cmp_lt, cmp_le, cmp_gt, cmp_ge, cmp_str, cmpne_str, bin_add, bin_sub, bin_mod, bin_div, bin_mul, bltop, slop, isaop, itemsOf, seqOf, enumOf, zipOf, Tg.put, Tg.ids, setAll, wipeE, mty, hj, b1, b2]
end
end Ly

set_option Elab.async false
set_option linter.all false
set_option maxRecDepth 100000
set_option maxHeartbeats 800000
namespace Ly
open PySem
/-! ### shapes as lists of signs, and the reader as a function of these -/
def glue : List (List Nat) → List Nat
  | [] => []
  | [x] => x
  | x :: y :: r => x ++ 44 :: glue (y :: r)
mutual
def shL : Sh → List Nat
  | .num => [110, 117, 109]
  | .own => [111, 119, 110]
  | .strip k => [91, 48 + k.toNat, 93]
  | .rcd ps => 40 :: (glue (shLs ps) ++ [41])
def shLs : List Sh → List (List Nat)
  | [] => []
  | p :: ps => shL p :: shLs ps
end
theorem shLs_map : ∀ ps : List Sh, shLs ps = ps.map shL
  | [] => rfl
  | p :: ps => by rw [shLs, shLs_map ps]; rfl
/-- so deep at most, of parts and strips that may be -/
def Fit : Nat → Sh → Prop
  | _, .num => True
  | _, .own => True
  | _, .strip k => 1 ≤ k ∧ k ≤ 8
  | 0, .rcd _ => False
  | d + 1, .rcd ps => 1 ≤ ps.length ∧ ps.length ≤ 4 ∧ ∀ p ∈ ps, Fit d p
theorem Fit.up : ∀ {d : Nat} {s : Sh}, Fit d s → Fit (d + 1) s
  | _, .num, _ => trivial
  | _, .own, _ => trivial
  | 0, .strip _, h => h
  | _ + 1, .strip _, h => h
  | 0, .rcd _, h => h.elim
  | d + 1, .rcd ps, h => ⟨h.1, h.2.1, fun p hp => Fit.up (h.2.2 p hp)⟩
theorem Fit.upk {d : Nat} {s : Sh} (h : Fit d s) : ∀ k, Fit (d + k) s
  | 0 => h
  | k + 1 => (Fit.upk h k).up
def rdN (w : List Nat) : Option Int := if (1 ≤ w.length ∧ w.length ≤ 30 ∧ (w.all fun c => decide (48 ≤ c ∧ c ≤ 57)) = true) ∧ ¬ (w.headD 0 = 48 ∧ w ≠ [48]) then some ((w.foldl (fun acc c => acc * 10 + (c - 48)) 0 : Nat) : Int) else none
def leafP (r : List Nat) : Option (Sh × List Nat) :=
  if r.take 3 = [110, 117, 109] then some (.num, r.drop 3) else if r.take 3 = [111, 119, 110] then some (.own, r.drop 3) else
  if r.take 1 = [91] ∧ 93 ∈ r then (rdN ((r.drop 1).takeWhile (· != 93))).map fun n => (.strip n, ((r.drop 1).dropWhile (· != 93)).drop 1) else none
def pL (f : List Nat → Option (Sh × List Nat)) : Nat → List Nat → Option (List Sh × List Nat)
  | 0, _ => none
  | n + 1, r => match f r with
    | none => none
    | some (s, r1) => if r1.take 1 = [44] then (pL f n (r1.drop 1)).map fun z => (s :: z.1, z.2) else if r1.take 1 = [41] then some ([s], r1.drop 1) else none
def pS : Nat → List Nat → Option (Sh × List Nat)
  | 0, r => leafP r
  | d + 1, r => if r.take 1 = [40] then (pL (pS d) (r.length + 1) (r.drop 1)).map fun z => (.rcd z.1, z.2) else leafP r
def lc : Nat → Sh → Nat
  | _, .num => 1
  | _, .own => 1
  | _, .strip k => if 1 ≤ k ∧ k ≤ 8 then 1 else 0
  | 0, .rcd _ => 0
  | d + 1, .rcd ps => if (1 ≤ ps.length ∧ ps.length ≤ 4) ∧ (∀ p ∈ ps, lc d p ≠ 0) ∧ (ps.map (lc d)).sum ≤ 8 then (ps.map (lc d)).sum else 0
def rdS (L : List Nat) : Option Sh := match pS 3 L with
  | some (s, []) => if lc 3 s = 0 then none else some s
  | _ => none
/-! a shape's signs are read as it -/
theorem sgn_k {k : Int} (h : 1 ≤ k ∧ k ≤ 8) : k = 1 ∨ k = 2 ∨ k = 3 ∨ k = 4 ∨ k = 5 ∨ k = 6 ∨ k = 7 ∨ k = 8 := by omega
theorem leaf_strip {k : Int} (h : 1 ≤ k ∧ k ≤ 8) (x : List Nat) : leafP (shL (.strip k) ++ x) = some (.strip k, x) := by
  rcases sgn_k h with rfl | rfl | rfl | rfl | rfl | rfl | rfl | rfl <;> simp [shL, leafP, rdN]
theorem leaf_num (x : List Nat) : leafP (shL .num ++ x) = some (.num, x) := by simp [shL, leafP]
theorem leaf_own (x : List Nat) : leafP (shL .own ++ x) = some (.own, x) := by simp [shL, leafP]
theorem pL_show {f : List Nat → Option (Sh × List Nat)} : ∀ (ps : List Sh) (n : Nat) (x : List Nat), ps ≠ [] → (∀ p ∈ ps, ∀ x, f (shL p ++ x) = some (p, x)) → ps.length ≤ n → pL f n (glue (ps.map shL) ++ 41 :: x) = some (ps, x)
  | [], _, _, h, _, _ => absurd rfl h
  | _ :: _, 0, _, _, _, h => by simp at h
  | [p], n + 1, x, _, h, _ => by
    rw [List.map_cons, List.map_nil, glue, pL, h p List.mem_cons_self]
    simp
  | p :: q :: ps, n + 1, x, _, h, hn => by
    rw [List.map_cons, List.map_cons, glue, List.append_assoc, pL, h p List.mem_cons_self]
    have ih := pL_show (q :: ps) n x (by simp) (fun z hz => h z (List.mem_cons_of_mem _ hz)) (by rw [List.length_cons] at hn; omega)
    rw [List.map_cons] at ih
    simp [ih]
theorem shL_pos (s : Sh) : 1 ≤ (shL s).length := by cases s <;> simp [shL]
theorem glue_len : ∀ ps : List Sh, ps.length ≤ (glue (ps.map shL)).length + 1
  | [] => by simp
  | [p] => by have := shL_pos p; simp [glue]
  | p :: q :: ps => by
    have ih := glue_len (q :: ps)
    have := shL_pos p
    rw [List.map_cons] at ih
    rw [List.map_cons, List.map_cons, glue, List.length_append, List.length_cons, List.length_cons, List.length_cons]
    rw [List.length_cons] at ih
    omega
theorem pS_show : ∀ (d : Nat) (s : Sh) (x : List Nat), Fit d s → pS d (shL s ++ x) = some (s, x)
  | 0, .num, x, _ => leaf_num x
  | 0, .own, x, _ => leaf_own x
  | 0, .strip k, x, h => leaf_strip h x
  | 0, .rcd ps, x, h => h.elim
  | d + 1, .num, x, _ => by rw [pS, if_neg (by simp [shL]), leaf_num]
  | d + 1, .own, x, _ => by rw [pS, if_neg (by simp [shL]), leaf_own]
  | d + 1, .strip k, x, h => by rw [pS, if_neg (by simp [shL]), leaf_strip h]
  | d + 1, .rcd ps, x, h => by
    have e : shL (.rcd ps) ++ x = 40 :: (glue (ps.map shL) ++ 41 :: x) := by
      rw [shL, shLs_map]
      simp
    rw [e, pS, if_pos (by simp), List.drop_one, List.tail_cons, pL_show ps _ x (by intro e; have := h.1; rw [e] at this; simp at this) (fun p hp x => pS_show d p x (h.2.2 p hp)) (by
      have := glue_len ps
      rw [List.length_cons, List.length_append]
      omega)]
    rfl
/-! what is read is shown so -/
theorem foldl_ge : ∀ (w : List Nat) (a : Nat), a ≤ w.foldl (fun acc c => acc * 10 + (c - 48)) a
  | [], a => Nat.le_refl _
  | c :: w, a => by
    rw [List.foldl_cons]
    refine Nat.le_trans ?_ (foldl_ge w _)
    omega
theorem rdN_inv {w : List Nat} {k : Int} (h : rdN w = some k) (hk : 1 ≤ k ∧ k ≤ 8) : w = [48 + k.toNat] := by
  unfold rdN at h
  split at h
  · rename_i hc
    obtain ⟨⟨h1, h2, h3⟩, h4⟩ := hc
    have e := Option.some.inj h
    match w, h1, h3, h4, e with
    | [c], _, h3, _, e =>
      simp at h3 e
      congr 1
      omega
    | c :: b :: w, _, h3, h4, e =>
      exfalso
      rw [List.all_eq_true] at h3
      have hc := h3 c List.mem_cons_self
      have hb := h3 b (List.mem_cons_of_mem _ List.mem_cons_self)
      rw [decide_eq_true_eq] at hc hb
      have hne : c ≠ 48 := fun e => h4 ⟨by rw [e]; rfl, by simp⟩
      rw [List.foldl_cons, List.foldl_cons] at e
      have := foldl_ge w ((0 * 10 + (c - 48)) * 10 + (b - 48))
      omega
  · cases h
theorem take3 {r : List Nat} {a b c : Nat} (h : r.take 3 = [a, b, c]) : r = a :: b :: c :: r.drop 3 := by
  match r, h with
  | [], h => simp at h
  | [_], h => simp at h
  | [_, _], h => simp at h
  | x :: y :: z :: r, h => simp at h; obtain ⟨rfl, rfl, rfl⟩ := h; rfl
theorem take1 {r : List Nat} {a : Nat} (h : r.take 1 = [a]) : r = a :: r.drop 1 := by
  match r, h with
  | [], h => simp at h
  | x :: r, h => simp at h; rw [h]; rfl
theorem until93 : ∀ (r : List Nat), 93 ∈ r → r = r.takeWhile (· != 93) ++ 93 :: (r.dropWhile (· != 93)).drop 1
  | [], h => by cases h
  | c :: r, h => by
    by_cases e : c = 93
    · subst e; simp
    · have h' : 93 ∈ r := by
        rcases List.mem_cons.mp h with h | h
        · exact absurd h.symm e
        · exact h
      have ih := until93 r h'
      simp only [List.takeWhile_cons, List.dropWhile_cons, bne_iff_ne, ne_eq, e, not_false_eq_true, if_true, List.cons_append]
      rw [← ih]
/-- what is left is what stood behind -/
theorem leafP_suf {r r' : List Nat} {s : Sh} (h : leafP r = some (s, r')) : ∃ k, 1 ≤ k ∧ k ≤ r.length ∧ r' = r.drop k ∧ (Fit 0 s → r = shL s ++ r') := by
  unfold leafP at h
  split at h
  · rename_i h3
    cases h
    have e := take3 h3
    have hl := congrArg List.length e
    simp only [List.length_cons, List.length_drop] at hl
    exact ⟨3, by omega, by omega, rfl, fun _ => e⟩
  · split at h
    · rename_i h3
      cases h
      have e := take3 h3
      have hl := congrArg List.length e
      simp only [List.length_cons, List.length_drop] at hl
      exact ⟨3, by omega, by omega, rfl, fun _ => e⟩
    · split at h
      · rename_i hc
        obtain ⟨h1, h2⟩ := hc
        have e := take1 h1
        have h2' : 93 ∈ r.drop 1 := by
          rw [e] at h2
          rcases List.mem_cons.mp h2 with h | h
          · cases h
          · exact h
        have eu := until93 _ h2'
        rw [Option.map_eq_some_iff] at h
        obtain ⟨n, hn, hz⟩ := h
        cases hz
        generalize hw : (r.drop 1).takeWhile (· != 93) = w at *
        generalize hv : ((r.drop 1).dropWhile (· != 93)).drop 1 = v at *
        rw [eu] at e
        refine ⟨w.length + 2, by omega, ?_, ?_, fun hf => ?_⟩
        · rw [e]; simp
        · rw [e]; simp [← List.drop_drop]
        · rw [rdN_inv hn hf] at e
          exact e
      · cases h
theorem pL_suf {f : List Nat → Option (Sh × List Nat)} {P : Sh → Prop} (hf : ∀ {r r' s}, f r = some (s, r') → ∃ k, 1 ≤ k ∧ k ≤ r.length ∧ r' = r.drop k ∧ (P s → r = shL s ++ r')) : ∀ (n : Nat) (r r' : List Nat) (ss : List Sh), pL f n r = some (ss, r') → ∃ k, 1 ≤ k ∧ k ≤ r.length ∧ r' = r.drop k ∧ ss ≠ [] ∧ ((∀ s ∈ ss, P s) → r = glue (ss.map shL) ++ 41 :: r')
  | 0, r, r', ss, h => by cases h
  | n + 1, r, r', ss, h => by
    rw [pL] at h
    split at h
    · cases h
    · rename_i s r1 e
      obtain ⟨k, k1, k2, k3, k4⟩ := hf e
      split at h
      · rename_i h1
        rw [Option.map_eq_some_iff] at h
        obtain ⟨⟨zs, z2⟩, hz, e2⟩ := h
        cases e2
        obtain ⟨j, j1, j2, j3, j4, j5⟩ := pL_suf hf n _ _ _ hz
        have et := take1 h1
        rw [List.length_drop, k3, List.length_drop] at j2
        refine ⟨k + 1 + j, by omega, by omega, ?_, by simp, fun hp => ?_⟩
        · rw [j3, k3, List.drop_drop, List.drop_drop, Nat.add_assoc]
        · have a1 := k4 (hp s List.mem_cons_self)
          have a2 := j5 fun q hq => hp q (List.mem_cons_of_mem _ hq)
          rw [et, a2] at a1
          obtain ⟨z, zr, rfl⟩ : ∃ z zr, zs = z :: zr := by
            cases zs with
            | nil => exact absurd rfl j4
            | cons z zr => exact ⟨z, zr, rfl⟩
          rw [List.map_cons, List.map_cons, glue, List.append_assoc, List.cons_append]
          rw [List.map_cons] at a1
          exact a1
      · split at h
        · rename_i h1
          cases h
          have et := take1 h1
          have hl := congrArg List.length et
          rw [List.length_cons, List.length_drop, k3, List.length_drop] at hl
          refine ⟨k + 1, by omega, by omega, ?_, by simp, fun hp => ?_⟩
          · rw [k3, List.drop_drop]
          · have a1 := k4 (hp s List.mem_cons_self)
            rw [et] at a1
            exact a1
        · cases h
theorem pS_suf : ∀ (d : Nat) {r r' : List Nat} {s : Sh}, pS d r = some (s, r') → ∃ k, 1 ≤ k ∧ k ≤ r.length ∧ r' = r.drop k ∧ (Fit d s → r = shL s ++ r')
  | 0, r, r', s, h => by
    rw [pS] at h
    exact leafP_suf h
  | d + 1, r, r', s, h => by
    rw [pS] at h
    split at h
    · rename_i h1
      rw [Option.map_eq_some_iff] at h
      obtain ⟨⟨zs, z2⟩, hz, e2⟩ := h
      cases e2
      obtain ⟨j, j1, j2, j3, j4, j5⟩ := pL_suf (P := Fit d) (fun h => pS_suf d h) _ _ _ _ hz
      rw [List.length_drop] at j2
      have et := take1 h1
      refine ⟨1 + j, by omega, by omega, by rw [j3, List.drop_drop], fun hf => ?_⟩
      have a := j5 hf.2.2
      rw [a] at et
      rw [et, shL, shLs_map]
      simp
    · obtain ⟨k, k1, k2, k3, k4⟩ := leafP_suf h
      refine ⟨k, k1, k2, k3, fun hf => ?_⟩
      cases s with
      | num => exact k4 trivial
      | own => exact k4 trivial
      | strip n => exact k4 hf
      | rcd ps =>
        exfalso
        unfold leafP at h
        split at h
        · cases h
        · split at h
          · cases h
          · split at h
            · rw [Option.map_eq_some_iff] at h
              obtain ⟨n, _, hz⟩ := h
              cases hz
            · cases h
/-! leaves counted -/
theorem lc_fit : ∀ (d : Nat) (s : Sh), lc d s ≠ 0 → Fit d s ∧ lc d s = cnt s ∧ cnt s ≤ 8
  | 0, .num, _ => ⟨trivial, by simp [lc, cnt], by simp [cnt]⟩
  | 0, .own, _ => ⟨trivial, by simp [lc, cnt], by simp [cnt]⟩
  | 0, .strip k, h => by
    unfold lc at h ⊢
    split at h
    · rename_i hk; exact ⟨hk, by simp [cnt, hk], by simp [cnt]⟩
    · exact absurd rfl h
  | 0, .rcd ps, h => absurd (by simp [lc]) h
  | d + 1, .num, _ => ⟨trivial, by simp [lc, cnt], by simp [cnt]⟩
  | d + 1, .own, _ => ⟨trivial, by simp [lc, cnt], by simp [cnt]⟩
  | d + 1, .strip k, h => by
    unfold lc at h ⊢
    split at h
    · rename_i hk; exact ⟨hk, by simp [cnt, hk], by simp [cnt]⟩
    · exact absurd rfl h
  | d + 1, .rcd ps, h => by
    unfold lc at h ⊢
    split at h
    · rename_i hc
      rw [if_pos hc]
      obtain ⟨⟨h1, h2⟩, h3, h4⟩ := hc
      have key : ∀ qs : List Sh, (∀ p ∈ qs, lc d p = cnt p) → (qs.map (lc d)).sum = cnts qs := fun qs => by
        induction qs with
        | nil => intro _; simp [cnts]
        | cons q qs ih =>
          intro hq
          rw [List.map_cons, List.sum_cons, cnts, hq q List.mem_cons_self, ih fun p hp => hq p (List.mem_cons_of_mem _ hp)]
      have e := key ps fun p hp => (lc_fit d p (h3 p hp)).2.1
      refine ⟨⟨h1, h2, fun p hp => (lc_fit d p (h3 p hp)).1⟩, by rw [e, cnt], by rw [cnt, ← e]; exact h4⟩
    · exact absurd rfl h
theorem fit_cnt : ∀ (d : Nat) (s : Sh), Fit d s → 1 ≤ cnt s
  | _, .num, _ => by simp [cnt]
  | _, .own, _ => by simp [cnt]
  | _, .strip _, _ => by simp [cnt]
  | 0, .rcd _, h => h.elim
  | d + 1, .rcd ps, h => by
    rw [cnt]
    cases ps with
    | nil => have := h.1; simp at this
    | cons p ps => have := fit_cnt d p (h.2.2 p List.mem_cons_self); rw [cnts]; omega
theorem fit_lc : ∀ (d : Nat) (s : Sh), Fit d s → cnt s ≤ 8 → lc d s = cnt s
  | 0, .num, _, _ => by simp [lc, cnt]
  | 0, .own, _, _ => by simp [lc, cnt]
  | 0, .strip k, h, _ => by unfold lc; rw [if_pos (show 1 ≤ k ∧ k ≤ 8 from h)]; simp [cnt]
  | 0, .rcd _, h, _ => h.elim
  | d + 1, .num, _, _ => by simp [lc, cnt]
  | d + 1, .own, _, _ => by simp [lc, cnt]
  | d + 1, .strip k, h, _ => by unfold lc; rw [if_pos (show 1 ≤ k ∧ k ≤ 8 from h)]; simp [cnt]
  | d + 1, .rcd ps, h, hc => by
    rw [cnt] at hc ⊢
    have ep : ∀ p ∈ ps, lc d p = cnt p := fun p hp => fit_lc d p (h.2.2 p hp) (by have := cnt_mem hp; omega)
    have key : ∀ qs : List Sh, (∀ p ∈ qs, lc d p = cnt p) → (qs.map (lc d)).sum = cnts qs := fun qs => by
      induction qs with
      | nil => intro _; simp [cnts]
      | cons q qs ih =>
        intro hq
        rw [List.map_cons, List.sum_cons, cnts, hq q List.mem_cons_self, ih fun p hp => hq p (List.mem_cons_of_mem _ hp)]
    have e := key ps ep
    unfold lc
    rw [if_pos ⟨⟨h.1, h.2.1⟩, fun p hp => by rw [ep p hp]; have := fit_cnt d p (h.2.2 p hp); omega, by rw [e]; exact hc⟩, e]
/-- a shape that may be -/
def Wf (s : Sh) : Prop := Fit 3 s ∧ cnt s ≤ 8
theorem rdS_show {s : Sh} (h : Wf s) : rdS (shL s) = some s := by
  have e := pS_show 3 s [] h.1
  rw [List.append_nil] at e
  unfold rdS
  rw [e]
  simp only
  rw [fit_lc 3 s h.1 h.2, if_neg (by have := fit_cnt 3 s h.1; omega)]
theorem rdS_inv {L : List Nat} {s : Sh} (h : rdS L = some s) : Wf s ∧ L = shL s := by
  unfold rdS at h
  split at h
  · rename_i s' e
    split at h
    · cases h
    · rename_i hl
      cases h
      obtain ⟨h1, _, h3⟩ := lc_fit 3 _ hl
      obtain ⟨k, _, _, _, h4⟩ := pS_suf 3 e
      have := h4 h1
      rw [List.append_nil] at this
      exact ⟨⟨h1, h3⟩, this⟩
  · cases h
/-! texts that are none -/
theorem rdS_none {L : List Nat} (h : ∀ s, Wf s → L ≠ shL s) : rdS L = none := by
  cases e : rdS L with
  | none => rfl
  | some s => exact absurd (rdS_inv e).2 (h s (rdS_inv e).1)
def sigs : List Nat := [40, 41, 44, 91, 93, 49, 50, 51, 52, 53, 54, 55, 56, 110, 117, 109, 111, 119]
theorem glue_mem {c : Nat} : ∀ {xs : List (List Nat)}, c ∈ glue xs → c = 44 ∨ ∃ x ∈ xs, c ∈ x
  | [], h => by cases h
  | [x], h => .inr ⟨x, List.mem_singleton.mpr rfl, h⟩
  | x :: y :: r, h => by
    rw [glue] at h
    rcases List.mem_append.mp h with h | h
    · exact .inr ⟨x, List.mem_cons_self, h⟩
    · rcases List.mem_cons.mp h with h | h
      · exact .inl h
      · rcases glue_mem h with h | ⟨z, hz, h⟩
        · exact .inl h
        · exact .inr ⟨z, List.mem_cons_of_mem _ hz, h⟩
theorem shL_sig : ∀ (d : Nat) (s : Sh), Fit d s → ∀ c ∈ shL s, c ∈ sigs
  | _, .num, _, c, h => by revert c; simp [shL, sigs]
  | _, .own, _, c, h => by revert c; simp [shL, sigs]
  | d, .strip k, hf, c, h => by
    have hk : 1 ≤ k ∧ k ≤ 8 := by cases d <;> exact hf
    rcases sgn_k hk with rfl | rfl | rfl | rfl | rfl | rfl | rfl | rfl <;> revert c <;> simp [shL, sigs]
  | 0, .rcd _, hf, _, _ => hf.elim
  | d + 1, .rcd ps, hf, c, h => by
    rw [shL, shLs_map] at h
    rcases List.mem_cons.mp h with rfl | h
    · simp [sigs]
    · rcases List.mem_append.mp h with h | h
      · rcases glue_mem h with rfl | ⟨x, hx, h⟩
        · simp [sigs]
        · obtain ⟨p, hp, rfl⟩ := List.mem_map.mp hx
          exact shL_sig d p (hf.2.2 p hp) c h
      · rw [List.mem_singleton.mp h]; simp [sigs]
theorem cnt_glue {c : Nat} (hc : c ≠ 44) : ∀ xs : List (List Nat), (glue xs).count c = (xs.map (·.count c)).sum
  | [] => rfl
  | [x] => by simp [glue]
  | x :: y :: r => by
    have ih := cnt_glue hc (y :: r)
    rw [glue, List.count_append, List.count_cons, ih, List.map_cons, List.sum_cons]
    have : ¬ (44 == c) = true := by simpa using fun e => hc e.symm
    simp [this]
theorem shL_bal : ∀ (d : Nat) (s : Sh), Fit d s → (shL s).count 40 = (shL s).count 41
  | _, .num, _ => by decide
  | _, .own, _ => by decide
  | d, .strip k, hf => by
    have hk : 1 ≤ k ∧ k ≤ 8 := by cases d <;> exact hf
    rcases sgn_k hk with rfl | rfl | rfl | rfl | rfl | rfl | rfl | rfl <;> decide
  | 0, .rcd _, hf => hf.elim
  | d + 1, .rcd ps, hf => by
    have key : ∀ qs : List Sh, (∀ p ∈ qs, Fit d p) → ((qs.map shL).map (·.count 40)).sum = ((qs.map shL).map (·.count 41)).sum := fun qs => by
      induction qs with
      | nil => intro _; rfl
      | cons q qs ih =>
        intro hq
        rw [List.map_cons, List.map_cons, List.map_cons, List.sum_cons, List.sum_cons, shL_bal d q (hq q List.mem_cons_self), ih fun p hp => hq p (List.mem_cons_of_mem _ hp)]
    have e := key ps hf.2.2
    rw [shL, shLs_map, List.count_cons, List.count_cons, List.count_append, List.count_append, cnt_glue (by omega), cnt_glue (by omega), e]
    simp
theorem shL_hd (s : Sh) : (shL s).headD 0 = 110 ∨ (shL s).headD 0 = 111 ∨ (shL s).headD 0 = 91 ∨ (shL s).headD 0 = 40 := by cases s <;> simp [shL]
theorem none_ins {a b : List Nat} {c : Nat} (hc : c ∉ sigs) : rdS (a ++ c :: b) = none := rdS_none fun s hs e => hc (shL_sig 3 s hs.1 c (by rw [← e]; simp))
theorem none_bal {L : List Nat} (h : L.count 40 ≠ L.count 41) : rdS L = none := rdS_none fun s hs e => h (by rw [e]; exact shL_bal 3 s hs.1)
theorem none_hd {L : List Nat} (h : ¬ (L.headD 0 = 110 ∨ L.headD 0 = 111 ∨ L.headD 0 = 91 ∨ L.headD 0 = 40)) : rdS L = none := rdS_none fun s hs e => h (by rw [e]; exact shL_hd s)
/-- no shape's signs begin another's -/
theorem none_pre {s : Sh} (h : Wf s) {x : List Nat} (hx : x ≠ []) : rdS (shL s ++ x) = none := rdS_none fun s' hs e => by
  have e1 := pS_show 3 s x h.1
  have e2 := pS_show 3 s' [] hs.1
  rw [List.append_nil, ← e, e1] at e2
  have := congrArg Prod.snd (Option.some.inj e2)
  exact hx this
theorem none_last {s : Sh} (h : Wf s) : rdS (shL s).dropLast = none := rdS_none fun s' hs e => by
  have hne : shL s ≠ [] := fun z => by have := shL_pos s; rw [z] at this; simp at this
  have ec := List.dropLast_concat_getLast hne
  rw [e] at ec
  have := none_pre hs (x := [(shL s).getLast hne]) (by simp)
  rw [ec, rdS_show h] at this
  cases this
theorem none_first {s : Sh} (h : Wf s) : rdS ((shL s).drop 1) = none := by
  cases s with
  | num => exact none_hd (by decide)
  | own => exact none_hd (by decide)
  | strip k =>
    have hk : 1 ≤ k ∧ k ≤ 8 := h.1
    rcases sgn_k hk with rfl | rfl | rfl | rfl | rfl | rfl | rfl | rfl <;> exact none_hd (by decide)
  | rcd ps =>
    refine none_bal ?_
    have hb := shL_bal 3 _ h.1
    rw [shL] at hb ⊢
    rw [List.count_cons, List.count_cons] at hb
    rw [List.drop_one, List.tail_cons]
    simp at hb ⊢
    omega
/-- brackets round it -/
def wrap : Nat → Sh → Sh
  | 0, s => s
  | m + 1, s => wrap m (.rcd [s])
theorem wrap_fit : ∀ (m d : Nat) (s : Sh), Fit d s → Fit (d + m) (wrap m s)
  | 0, d, s, h => h
  | m + 1, d, s, h => by
    have := wrap_fit m (d + 1) (.rcd [s]) ⟨by simp, by simp, fun p hp => by rw [List.mem_singleton.mp hp]; exact h⟩
    rw [show d + (m + 1) = d + 1 + m by omega]
    exact this
theorem wrap_cnt : ∀ (m : Nat) (s : Sh), cnt (wrap m s) = cnt s
  | 0, s => rfl
  | m + 1, s => by
    have := wrap_cnt m (.rcd [s])
    rw [wrap, this]
    simp [cnt, cnts]
end Ly

set_option Elab.async false
set_option linter.all false
set_option maxRecDepth 100000
set_option maxHeartbeats 800000
namespace Ly
open PySem
theorem w_on : (("own" : Str) == "num") = false := by decide +kernel
theorem w_sn : (("strip" : Str) == "num") = false := by decide +kernel
theorem w_so : (("strip" : Str) == "own") = false := by decide +kernel
theorem w_rn : (("rec" : Str) == "num") = false := by decide +kernel
theorem w_ro : (("rec" : Str) == "own") = false := by decide +kernel
theorem w_rs : (("rec" : Str) == "strip") = false := by decide +kernel
section
variable (G : Nat → Option D)
structure G80 : Prop where
  g0 : G 0 = some (.int 3)
  g1 : G 1 = some (.int 8)
  g2 : G 2 = some (.int 8)
  g3 : G 3 = some (.int 4)
  g4 : G 4 = some (.str "0123456789")
  g5 : G 5 = some (.int 30)
end
section
variable {G : Nat → Option D} {sub : Nat → Nat → Bool} {fu : Nat}
/-! leaves counted -/
theorem wholeI (n : Nat) (s : Int) : callF G sub tab fu (n + 1) 0 [.int s] = .ok 0 (.bl true) := by
  rw [callF_s fn0 rfl rfl]
  simp [fn0, evB_cons, evB_nil, seqB_nx, seqB_ret, seqB_exc, seqB_bk, seqB_ct, endF_ret, endF_nx, endF_exc, evS, ev, evs, evBop, evo, evc, evSr, R_ok, R_exc, R_some, O_ok, O_exc, startE, getv, lower, ixop, atD, L2.atI, L2.ixN, cmp_int, cmpne_int, cmp_lt, cmp_le, cmp_gt, cmp_ge, cmp_str, cmpne_str, bin_add, bin_sub, bin_mod, bin_div, bin_mul, bltop, slop, isaop, itemsOf, seqOf, enumOf, zipOf, Tg.put, Tg.ids, setAll, wipeE]
theorem lc_in (n k : Nat) (o0 o2 : Option (Nat × D)) : ∀ (es : List Sh) (acc : Int) (o4 o5 : Option (Nat × D)), (∀ e ∈ es, callF G sub tab fu (n + k + 2) 1 [enc e, .int k] = .ok 0 (.int (lc k e))) →
    ((∀ e ∈ es, lc k e ≠ 0) ∧ ∃ o4' o5', forT (.name 4) (evB G sub (callF G sub tab fu (n + k + 2)) fu bd1_0) (es.map enc) [o0, some (0, .int (k + 1)), o2, some (0, .int acc), o4, o5] = .nx [o0, some (0, .int (k + 1)), o2, some (0, .int (acc + (es.map (lc k)).sum)), o4', o5']) ∨
    ((∃ e ∈ es, lc k e = 0) ∧ forT (.name 4) (evB G sub (callF G sub tab fu (n + k + 2)) fu bd1_0) (es.map enc) [o0, some (0, .int (k + 1)), o2, some (0, .int acc), o4, o5] = .ret 0 (.int 0))
  | [], acc, o4, o5, _ => .inl ⟨by simp, o4, o5, by simp [forT, forLoop]⟩
  | e :: es, acc, o4, o5, h => by
    have h1 := h e List.mem_cons_self
    have step : ∀ f, forT (.name 4) f ((e :: es).map enc) [o0, some (0, .int (k + 1)), o2, some (0, .int acc), o4, o5] = match f [o0, some (0, .int (k + 1)), o2, some (0, .int acc), some (0, enc e), o5] with
      | .nx r1 => forT (.name 4) f (es.map enc) r1
      | .ct r1 => forT (.name 4) f (es.map enc) r1
      | .bk r1 => .nx r1
      | .ret l d => .ret l d
      | .exc r1 c => .exc r1 c
      | .bad => .bad := fun f => rfl
    rw [step]
    have hk : (k : Int) + 1 - 1 = k := by omega
    by_cases hv : lc k e = 0
    · right
      rw [hv] at h1
      refine ⟨⟨e, List.mem_cons_self, hv⟩, ?_⟩
      generalize enc e = EE at *
      simp [bd1_0, evB_cons, evB_nil, seqB_nx, seqB_ret, seqB_exc, seqB_bk, seqB_ct, endF_ret, endF_nx, endF_exc, evS, ev, evs, evBop, evo, evc, evSr, R_ok, R_exc, R_some, O_ok, O_exc, startE, getv, lower, ixop, atD, L2.atI, L2.ixN, cmp_int, cmpne_int, cmp_lt, cmp_le, cmp_gt, cmp_ge, cmp_str, cmpne_str, bin_add, bin_sub, bin_mod, bin_div, bin_mul, bltop, slop, isaop, itemsOf, seqOf, enumOf, zipOf, Tg.put, Tg.ids, setAll, wipeE, hk, h1]
    · have hv' : ((lc k e : Int) == 0) = false := by simp; omega
      have e1 : evB G sub (callF G sub tab fu (n + k + 2)) fu bd1_0 [o0, some (0, .int (k + 1)), o2, some (0, .int acc), some (0, enc e), o5] = .nx [o0, some (0, .int (k + 1)), o2, some (0, .int (acc + lc k e)), some (0, enc e), some (0, .int (lc k e))] := by
        generalize enc e = EE at *
        simp [bd1_0, evB_cons, evB_nil, seqB_nx, seqB_ret, seqB_exc, seqB_bk, seqB_ct, endF_ret, endF_nx, endF_exc, evS, ev, evs, evBop, evo, evc, evSr, R_ok, R_exc, R_some, O_ok, O_exc, startE, getv, lower, ixop, atD, L2.atI, L2.ixN, cmp_int, cmpne_int, cmp_lt, cmp_le, cmp_gt, cmp_ge, cmp_str, cmpne_str, bin_add, bin_sub, bin_mod, bin_div, bin_mul, bltop, slop, isaop, itemsOf, seqOf, enumOf, zipOf, Tg.put, Tg.ids, setAll, wipeE, hk, h1, hv']
      rw [e1]
      have hs : acc + (lc k e : Int) + (((es.map (lc k)).sum : Nat) : Int) = acc + ((((e :: es).map (lc k)).sum : Nat) : Int) := by rw [List.map_cons, List.sum_cons]; omega
      rcases lc_in n k o0 o2 es (acc + lc k e) (some (0, enc e)) (some (0, .int (lc k e))) (fun e he => h e (List.mem_cons_of_mem _ he)) with ⟨q1, o4', o5', q2⟩ | ⟨⟨e', q1, q2⟩, q3⟩
      · left
        refine ⟨fun e' he => ?_, o4', o5', ?_⟩
        · rcases List.mem_cons.mp he with rfl | he
          · exact hv
          · exact q1 e' he
        · rw [hs] at q2
          exact q2
      · right
        exact ⟨⟨e', List.mem_cons_of_mem _ q1, q2⟩, q3⟩
theorem lc_num (n k : Nat) : callF G sub tab fu (n + 1) 1 [enc .num, .int k] = .ok 0 (.int 1) := by
  rw [callF_s fn1 rfl rfl]
  simp [fn1, evB_cons, evB_nil, seqB_nx, seqB_ret, seqB_exc, seqB_bk, seqB_ct, endF_ret, endF_nx, endF_exc, evS, ev, evs, evBop, evo, evc, evSr, R_ok, R_exc, R_some, O_ok, O_exc, startE, getv, lower, ixop, atD, L2.atI, L2.ixN, cmp_int, cmpne_int, cmp_lt, cmp_le, cmp_gt, cmp_ge, cmp_str, cmpne_str, bin_add, bin_sub, bin_mod, bin_div, bin_mul, bltop, slop, isaop, itemsOf, seqOf, enumOf, zipOf, Tg.put, Tg.ids, setAll, wipeE, ok_num, enc]
theorem lc_own (n k : Nat) : callF G sub tab fu (n + 1) 1 [enc .own, .int k] = .ok 0 (.int 1) := by
  rw [callF_s fn1 rfl rfl]
  simp [fn1, evB_cons, evB_nil, seqB_nx, seqB_ret, seqB_exc, seqB_bk, seqB_ct, endF_ret, endF_nx, endF_exc, evS, ev, evs, evBop, evo, evc, evSr, R_ok, R_exc, R_some, O_ok, O_exc, startE, getv, lower, ixop, atD, L2.atI, L2.ixN, cmp_int, cmpne_int, cmp_lt, cmp_le, cmp_gt, cmp_ge, cmp_str, cmpne_str, bin_add, bin_sub, bin_mod, bin_div, bin_mul, bltop, slop, isaop, itemsOf, seqOf, enumOf, zipOf, Tg.put, Tg.ids, setAll, wipeE, ok_num, ok_own, w_on, enc]
theorem lc_strip (g : G80 G) (n k : Nat) (s : Int) : callF G sub tab fu (n + 2) 1 [enc (.strip s), .int k] = .ok 0 (.int ((if 1 ≤ s ∧ s ≤ 8 then 1 else 0 : Nat) : Int)) := by
  rw [callF_s fn1 rfl rfl]
  by_cases h1 : 1 ≤ s
  · have h1' : decide (1 ≤ s) = true := decide_eq_true h1
    by_cases h2 : s ≤ 8
    · have h2' : decide (s ≤ 8) = true := decide_eq_true h2
      simp [fn1, evB_cons, evB_nil, seqB_nx, seqB_ret, seqB_exc, seqB_bk, seqB_ct, endF_ret, endF_nx, endF_exc, evS, ev, evs, evBop, evo, evc, evSr, R_ok, R_exc, R_some, O_ok, O_exc, startE, getv, lower, ixop, atD, L2.atI, L2.ixN, cmp_int, cmpne_int, cmp_lt, cmp_le, cmp_gt, cmp_ge, cmp_str, cmpne_str, bin_add, bin_sub, bin_mod, bin_div, bin_mul, bltop, slop, isaop, itemsOf, seqOf, enumOf, zipOf, Tg.put, Tg.ids, setAll, wipeE, ok_num, ok_own, ok_strip, w_sn, w_so, wholeI, g.g2, h1', h2', h1, h2, enc]
    · have h2' : decide (s ≤ 8) = false := decide_eq_false h2
      simp [fn1, evB_cons, evB_nil, seqB_nx, seqB_ret, seqB_exc, seqB_bk, seqB_ct, endF_ret, endF_nx, endF_exc, evS, ev, evs, evBop, evo, evc, evSr, R_ok, R_exc, R_some, O_ok, O_exc, startE, getv, lower, ixop, atD, L2.atI, L2.ixN, cmp_int, cmpne_int, cmp_lt, cmp_le, cmp_gt, cmp_ge, cmp_str, cmpne_str, bin_add, bin_sub, bin_mod, bin_div, bin_mul, bltop, slop, isaop, itemsOf, seqOf, enumOf, zipOf, Tg.put, Tg.ids, setAll, wipeE, ok_num, ok_own, ok_strip, w_sn, w_so, wholeI, g.g2, h1', h2', h1, h2, enc]
  · have h1' : decide (1 ≤ s) = false := decide_eq_false h1
    simp [fn1, evB_cons, evB_nil, seqB_nx, seqB_ret, seqB_exc, seqB_bk, seqB_ct, endF_ret, endF_nx, endF_exc, evS, ev, evs, evBop, evo, evc, evSr, R_ok, R_exc, R_some, O_ok, O_exc, startE, getv, lower, ixop, atD, L2.atI, L2.ixN, cmp_int, cmpne_int, cmp_lt, cmp_le, cmp_gt, cmp_ge, cmp_str, cmpne_str, bin_add, bin_sub, bin_mod, bin_div, bin_mul, bltop, slop, isaop, itemsOf, seqOf, enumOf, zipOf, Tg.put, Tg.ids, setAll, wipeE, ok_num, ok_own, ok_strip, w_sn, w_so, wholeI, g.g2, h1', h1, enc]
theorem lc_fn (g : G80 G) : ∀ (d n : Nat) (s : Sh), callF G sub tab fu (n + d + 2) 1 [enc s, .int d] = .ok 0 (.int (lc d s))
  | 0, n, .num => by rw [lc_num]; simp [lc]
  | 0, n, .own => by rw [lc_own]; simp [lc]
  | 0, n, .strip k => by rw [lc_strip g]; simp [lc]
  | 0, n, .rcd ps => by
    rw [callF_s fn1 rfl rfl]
    simp [fn1, evB_cons, evB_nil, seqB_nx, seqB_ret, seqB_exc, seqB_bk, seqB_ct, endF_ret, endF_nx, endF_exc, evS, ev, evs, evBop, evo, evc, evSr, R_ok, R_exc, R_some, O_ok, O_exc, startE, getv, lower, ixop, atD, L2.atI, L2.ixN, cmp_int, cmpne_int, cmp_lt, cmp_le, cmp_gt, cmp_ge, cmp_str, cmpne_str, bin_add, bin_sub, bin_mod, bin_div, bin_mul, bltop, slop, isaop, itemsOf, seqOf, enumOf, zipOf, Tg.put, Tg.ids, setAll, wipeE, ok_num, ok_own, ok_strip, ok_rec, w_rn, w_ro, w_rs, enc, lc]
  | d + 1, n, .num => by rw [lc_num]; simp [lc]
  | d + 1, n, .own => by rw [lc_own]; simp [lc]
  | d + 1, n, .strip k => by rw [show n + (d + 1) + 2 = (n + d + 1) + 2 by omega, lc_strip g]; simp [lc]
  | d + 1, n, .rcd ps => by
    have ih : ∀ e ∈ ps, callF G sub tab fu (n + d + 2) 1 [enc e, .int d] = .ok 0 (.int (lc d e)) := fun e _ => lc_fn g d n e
    rw [show n + (d + 1) + 2 = (n + d + 2) + 1 by omega, callF_s fn1 rfl rfl]
    have hk : ((d : Int) + 1 == 0) = false := by simp; omega
    have ee : enc (.rcd ps) = .tup [.str "rec", .tup (ps.map enc)] := by rw [enc, encs_map]
    rw [ee]
    by_cases h1 : 1 ≤ ps.length ∧ ps.length ≤ 4
    · have d1 : decide ((1 : Int) ≤ (ps.length : Int)) = true := decide_eq_true (by omega)
      have d2 : decide ((ps.length : Int) ≤ 4) = true := decide_eq_true (by omega)
      rcases lc_in (G := G) (sub := sub) (fu := fu) n d (some (0, .tup [.str "rec", .tup (ps.map enc)])) (some (0, .tup (ps.map enc))) ps 0 none none ih with ⟨q1, o4, o5, q2⟩ | ⟨⟨e0, q1, q2⟩, q3⟩
      · simp [fn1, evB_cons, evB_nil, seqB_nx, seqB_ret, seqB_exc, seqB_bk, seqB_ct, endF_ret, endF_nx, endF_exc, evS, ev, evs, evBop, evo, evc, evSr, R_ok, R_exc, R_some, O_ok, O_exc, startE, getv, lower, ixop, atD, L2.atI, L2.ixN, cmp_int, cmpne_int, cmp_lt, cmp_le, cmp_gt, cmp_ge, cmp_str, cmpne_str, bin_add, bin_sub, bin_mod, bin_div, bin_mul, bltop, slop, isaop, itemsOf, seqOf, enumOf, zipOf, Tg.put, Tg.ids, setAll, wipeE, ok_num, ok_own, ok_strip, ok_rec, w_rn, w_ro, w_rs, hk, g.g3, d1, d2]
        try simp at q2
        rw [q2]
        by_cases h8 : (ps.map (lc d)).sum ≤ 8
        · have d3 : decide ((8 : Int) < (((ps.map (lc d)).sum : Nat) : Int)) = false := decide_eq_false (by omega)
          rw [show lc (d + 1) (.rcd ps) = (ps.map (lc d)).sum from by rw [lc, if_pos ⟨h1, q1, h8⟩]]
          generalize (ps.map (lc d)).sum = SM at *
          simp [evB_cons, evB_nil, seqB_nx, seqB_ret, seqB_exc, seqB_bk, seqB_ct, endF_ret, endF_nx, endF_exc, evS, ev, evs, evBop, evo, evc, evSr, R_ok, R_exc, R_some, O_ok, O_exc, startE, getv, lower, ixop, atD, L2.atI, L2.ixN, cmp_int, cmpne_int, cmp_lt, cmp_le, cmp_gt, cmp_ge, cmp_str, cmpne_str, bin_add, bin_sub, bin_mod, bin_div, bin_mul, bltop, slop, isaop, itemsOf, seqOf, enumOf, zipOf, Tg.put, Tg.ids, setAll, wipeE, g.g1, d3]
        · have d3 : decide ((8 : Int) < (((ps.map (lc d)).sum : Nat) : Int)) = true := decide_eq_true (by omega)
          rw [show lc (d + 1) (.rcd ps) = 0 from by rw [lc, if_neg (fun z => h8 z.2.2)]]
          generalize (ps.map (lc d)).sum = SM at *
          simp [evB_cons, evB_nil, seqB_nx, seqB_ret, seqB_exc, seqB_bk, seqB_ct, endF_ret, endF_nx, endF_exc, evS, ev, evs, evBop, evo, evc, evSr, R_ok, R_exc, R_some, O_ok, O_exc, startE, getv, lower, ixop, atD, L2.atI, L2.ixN, cmp_int, cmpne_int, cmp_lt, cmp_le, cmp_gt, cmp_ge, cmp_str, cmpne_str, bin_add, bin_sub, bin_mod, bin_div, bin_mul, bltop, slop, isaop, itemsOf, seqOf, enumOf, zipOf, Tg.put, Tg.ids, setAll, wipeE, g.g1, d3]
      · rw [show lc (d + 1) (.rcd ps) = 0 from by rw [lc, if_neg (fun z => z.2.1 e0 q1 q2)]]
        simp [fn1, evB_cons, evB_nil, seqB_nx, seqB_ret, seqB_exc, seqB_bk, seqB_ct, endF_ret, endF_nx, endF_exc, evS, ev, evs, evBop, evo, evc, evSr, R_ok, R_exc, R_some, O_ok, O_exc, startE, getv, lower, ixop, atD, L2.atI, L2.ixN, cmp_int, cmpne_int, cmp_lt, cmp_le, cmp_gt, cmp_ge, cmp_str, cmpne_str, bin_add, bin_sub, bin_mod, bin_div, bin_mul, bltop, slop, isaop, itemsOf, seqOf, enumOf, zipOf, Tg.put, Tg.ids, setAll, wipeE, ok_num, ok_own, ok_strip, ok_rec, w_rn, w_ro, w_rs, hk, g.g3, d1, d2]
        try simp at q3
        rw [q3]
        simp [evB_cons, evB_nil, seqB_nx, seqB_ret, seqB_exc, seqB_bk, seqB_ct, endF_ret, endF_nx, endF_exc, evS, ev, evs, evBop, evo, evc, evSr, R_ok, R_exc, R_some, O_ok, O_exc, startE, getv, lower, ixop, atD, L2.atI, L2.ixN, cmp_int, cmpne_int, cmp_lt, cmp_le, cmp_gt, cmp_ge, cmp_str, cmpne_str, bin_add, bin_sub, bin_mod, bin_div, bin_mul, bltop, slop, isaop, itemsOf, seqOf, enumOf, zipOf, Tg.put, Tg.ids, setAll, wipeE]
    · rw [show lc (d + 1) (.rcd ps) = 0 from by rw [lc, if_neg (fun z => h1 z.1)]]
      by_cases h2 : 1 ≤ ps.length
      · have d1 : decide ((1 : Int) ≤ (ps.length : Int)) = true := decide_eq_true (by omega)
        have d2 : decide ((ps.length : Int) ≤ 4) = false := decide_eq_false (by omega)
        simp [fn1, evB_cons, evB_nil, seqB_nx, seqB_ret, seqB_exc, seqB_bk, seqB_ct, endF_ret, endF_nx, endF_exc, evS, ev, evs, evBop, evo, evc, evSr, R_ok, R_exc, R_some, O_ok, O_exc, startE, getv, lower, ixop, atD, L2.atI, L2.ixN, cmp_int, cmpne_int, cmp_lt, cmp_le, cmp_gt, cmp_ge, cmp_str, cmpne_str, bin_add, bin_sub, bin_mod, bin_div, bin_mul, bltop, slop, isaop, itemsOf, seqOf, enumOf, zipOf, Tg.put, Tg.ids, setAll, wipeE, ok_num, ok_own, ok_strip, ok_rec, w_rn, w_ro, w_rs, hk, g.g3, d1, d2]
      · have d1 : decide ((1 : Int) ≤ (ps.length : Int)) = false := decide_eq_false (by omega)
        simp [fn1, evB_cons, evB_nil, seqB_nx, seqB_ret, seqB_exc, seqB_bk, seqB_ct, endF_ret, endF_nx, endF_exc, evS, ev, evs, evBop, evo, evc, evSr, R_ok, R_exc, R_some, O_ok, O_exc, startE, getv, lower, ixop, atD, L2.atI, L2.ixN, cmp_int, cmpne_int, cmp_lt, cmp_le, cmp_gt, cmp_ge, cmp_str, cmpne_str, bin_add, bin_sub, bin_mod, bin_div, bin_mul, bltop, slop, isaop, itemsOf, seqOf, enumOf, zipOf, Tg.put, Tg.ids, setAll, wipeE, ok_num, ok_own, ok_strip, ok_rec, w_rn, w_ro, w_rs, hk, g.g3, d1]
theorem is_shape_fn (g : G80 G) (n : Nat) (s : Sh) : callF G sub tab fu (n + 6) 2 [enc s] = .ok 0 (.bl (decide (lc 3 s ≠ 0))) := by
  have e : callF G sub tab fu (n + 5) 1 [enc s, .int 3] = .ok 0 (.int (lc 3 s)) := lc_fn g 3 n s
  have c : cmpop .gt (.int (lc 3 s : Int)) (.int 0) = some (decide (lc 3 s ≠ 0)) := by
    show some (decide ((0 : Int) < (lc 3 s : Int))) = _
    congr 1
    rw [decide_eq_decide]
    omega
  rw [callF_s fn2 rfl rfl]
  generalize enc s = X at *
  simp [evB_cons, evB_nil, seqB_nx, seqB_ret, seqB_exc, seqB_bk, seqB_ct, endF_ret, endF_nx, endF_exc, evS, ev, evs, evBop, evo, evc, evSr, R_ok, R_exc, R_some, O_ok, O_exc, startE, getv, lower, cmp_int, cmpne_int, cmp_lt, cmp_le, cmp_gt, cmp_ge, cmp_str, cmpne_str, bin_add, bin_sub, bin_mod, bin_div, bin_mul, bltop, slop, isaop, itemsOf, seqOf, enumOf, zipOf, Tg.put, Tg.ids, setAll, wipeE, fn2, g.g0, e, c]
end
/-! texts as lists of signs -/
def stS (L : List Nat) : Str := ⟨L.toArray⟩
def Vd (L : List Nat) : Prop := ∀ c ∈ L, c < 1114112
theorem stS_ok {L : List Nat} (h : Vd L) : PyData.strOk (stS L) = true := by
  unfold PyData.strOk stS
  rw [Array.all_eq_true]
  intro i hi
  simp only [List.getElem_toArray]
  exact decide_eq_true (h _ (List.getElem_mem _))
theorem stS_len (L : List Nat) : (stS L).length = L.length := by
  show L.toArray.size = _
  simp
theorem stS_app (a b : List Nat) : stS a ++ stS b = stS (a ++ b) := by
  show Str.mk (a.toArray ++ b.toArray) = Str.mk (a ++ b).toArray
  simp
theorem stS_inj {a b : List Nat} : stS a = stS b ↔ a = b := by
  constructor
  · intro h
    have := congrArg (fun s : Str => s.cps.toList) h
    simpa [stS] using this
  · rintro rfl; rfl
theorem stS_beq (a b : List Nat) : (stS a == stS b) = decide (a = b) := by
  rw [Bool.eq_iff_iff, beq_iff_eq, decide_eq_true_eq, stS_inj]
theorem Vd.sub {L M : List Nat} (h : Vd L) (k : ∀ c ∈ M, c ∈ L) : Vd M := fun c hc => h c (k c hc)
theorem eq_st {a b : List Nat} (ha : Vd a) (hb : Vd b) : cmpop .eq (.str (stS a)) (.str (stS b)) = some (decide (a = b)) := by
  rw [cmp_str _ _ (stS_ok ha) (stS_ok hb), stS_beq]
theorem ne_st {a b : List Nat} (ha : Vd a) (hb : Vd b) : cmpop .ne (.str (stS a)) (.str (stS b)) = some (!decide (a = b)) := by
  rw [cmpne_str _ _ (stS_ok ha) (stS_ok hb), stS_beq]
theorem cut_ab {α : Type} (L : List α) (a b : Nat) (h : a ≤ b) : cutD L (some (a : Int)) (some (b : Int)) = (L.drop a).take (b - a) := by
  unfold cutD
  rw [sIx_some _ _ _ (by omega), sIx_some _ _ _ (by omega), Int.toNat_natCast, Int.toNat_natCast]
  by_cases ha : a ≤ L.length
  · rw [Nat.min_eq_left ha]
    by_cases hb : b ≤ L.length
    · rw [Nat.min_eq_left hb]
    · rw [Nat.min_eq_right (by omega), List.take_of_length_le (by rw [List.length_drop]; omega), List.take_of_length_le (by rw [List.length_drop]; omega)]
  · rw [Nat.min_eq_right (show L.length ≤ a by omega), Nat.min_eq_right (show L.length ≤ b by omega), List.drop_of_length_le (Nat.le_refl _), List.drop_of_length_le (show L.length ≤ a by omega)]
    simp
theorem sl_st {L : List Nat} (hl : L.length ≤ 16777216) (a b : Nat) (h : a ≤ b) : slop (.str (stS L)) (some (a : Int)) (some (b : Int)) = some (0, .str (stS ((L.drop a).take (b - a)))) := by
  show (if (stS L).length ≤ LN then some (0, D.str ⟨(cutD (stS L).cps.toList (some (a : Int)) (some (b : Int))).toArray⟩) else none) = _
  rw [if_pos (by rw [stS_len]; exact hl)]
  have : (stS L).cps.toList = L := by simp [stS]
  rw [this, cut_ab L a b h]
  rfl
theorem in_two {a b c : List Nat} (ha : Vd a) (hb : Vd b) (hc : Vd c) : cmpop .inn (.str (stS a)) (.tup [.str (stS b), .str (stS c)]) = some (decide (a = b) || decide (a = c)) := by
  have h1 : okd (.str (stS a)) = true := stS_ok ha
  have h2 : okd (.tup [.str (stS b), .str (stS c)]) = true := by
    refine okd_tup (n := 0) ?_ (by omega)
    simp only [okds]
    rw [show D.okd 0 (.str (stS b)) = true from stS_ok hb, show D.okd 0 (.str (stS c)) = true from stS_ok hc]
    rfl
  simp only [cmpop, h1, h2, Bool.and_self, if_true, List.any_cons, List.any_nil, eqd, D.pd, PyData.eqv, stS_beq, Bool.or_false]
  rw [show decide (b = a) = decide (a = b) from decide_eq_decide.mpr eq_comm, show decide (c = a) = decide (a = c) from decide_eq_decide.mpr eq_comm]
/-! a sign found from a place on -/
theorem find_st (L : List Nat) (c at_ : Nat) (h : at_ ≤ L.length) : Txt.find3 (stS L) ⟨#[c]⟩ (at_ : Int) = if c ∈ L.drop at_ then ((at_ + ((L.drop at_).takeWhile (· != c)).length : Nat) : Int) else -1 := by
  have hf : fromIndex (stS L).length (at_ : Int) = at_ := by
    unfold fromIndex
    rw [if_neg (by omega)]
    omega
  have hgd : ∀ v, (stS L).cps.getD v 0 = L.getD v 0 := fun v => by simp [stS]
  have hsp := StrLaws.find3_spec (stS L) c (at_ : Int)
  rw [hf, stS_len] at hsp
  simp only [hgd] at hsp
  have mem_iff : c ∈ L.drop at_ ↔ ∃ v, at_ ≤ v ∧ v < L.length ∧ L.getD v 0 = c := by
    constructor
    · intro hm
      obtain ⟨i, hi, e⟩ := List.mem_iff_getElem.mp hm
      rw [List.length_drop] at hi
      rw [List.getElem_drop] at e
      refine ⟨at_ + i, by omega, by omega, ?_⟩
      rw [List.getD_eq_getElem?_getD, List.getElem?_eq_getElem (by omega)]
      exact e
    · rintro ⟨v, h1, h2, e⟩
      rw [List.getD_eq_getElem?_getD, List.getElem?_eq_getElem h2] at e
      refine List.mem_iff_getElem.mpr ⟨v - at_, by rw [List.length_drop]; omega, ?_⟩
      rw [List.getElem_drop]
      simp only [show at_ + (v - at_) = v by omega]
      exact e
  rcases hsp with ⟨e, hn⟩ | ⟨k, e, k1, k2, k3, kn⟩
  · rw [e, if_neg]
    intro hm
    obtain ⟨v, h1, h2, h3⟩ := mem_iff.mp hm
    exact hn v h1 h2 h3
  · rw [e, if_pos (mem_iff.mpr ⟨k, k1, k2, k3⟩)]
    congr 1
    have key : ∀ (M : List Nat) (j : Nat), j < M.length → M.getD j 0 = c → (∀ i, i < j → M.getD i 0 ≠ c) → (M.takeWhile (· != c)).length = j := fun M => by
      induction M with
      | nil => intro j h; simp at h
      | cons x M ih =>
        intro j hj e hn
        cases j with
        | zero =>
          have : x = c := by simpa using e
          simp [this]
        | succ j =>
          have hx : x ≠ c := by have := hn 0 (by omega); simpa using this
          have := ih j (by simpa using hj) (by simpa using e) fun i hi => by have := hn (i + 1) (by omega); simpa using this
          simp [hx, this]
    have hg : ∀ i, (L.drop at_).getD i 0 = L.getD (at_ + i) 0 := fun i => by
      rw [List.getD_eq_getElem?_getD, List.getD_eq_getElem?_getD, List.getElem?_drop]
    have := key (L.drop at_) (k - at_) (by rw [List.length_drop]; omega) (by rw [hg, show at_ + (k - at_) = k by omega]; exact k3) fun i hi => by rw [hg]; exact kn _ (by omega) (by omega)
    omega
/-! figures -/
theorem fig_in (c : Nat) : cmpop .inn (.str ⟨#[c]⟩) (.str "0123456789") = some (decide (48 ≤ c ∧ c ≤ 57)) := by
  have hl : ("0123456789" : Str).length = 10 := by decide +kernel
  have e : ("0123456789" : Str) = stS [48, 49, 50, 51, 52, 53, 54, 55, 56, 57] := by decide +kernel
  have hf := find_st [48, 49, 50, 51, 52, 53, 54, 55, 56, 57] c 0 (by simp)
  rw [← e] at hf
  show some (!(Builtin.Str.occurrences ("0123456789" : Str) ⟨#[c]⟩ 0 ("0123456789" : Str).length 1).isEmpty) = _
  congr 1
  have hi : fromIndex ("0123456789" : Str).length ((0 : Nat) : Int) = 0 := by decide +kernel
  unfold Txt.find3 at hf
  rw [hi] at hf
  have hm : c ∈ List.drop 0 [48, 49, 50, 51, 52, 53, 54, 55, 56, 57] ↔ 48 ≤ c ∧ c ≤ 57 := by
    simp only [List.drop_zero, List.mem_cons, List.not_mem_nil, or_false]
    omega
  cases ho : Builtin.Str.occurrences ("0123456789" : Str) ⟨#[c]⟩ 0 ("0123456789" : Str).length 1 with
  | nil =>
    rw [ho] at hf
    simp only at hf
    by_cases hc : 48 ≤ c ∧ c ≤ 57
    · rw [if_pos (hm.mpr hc)] at hf
      omega
    · rw [decide_eq_false hc]; rfl
  | cons k r =>
    rw [ho] at hf
    simp only at hf
    by_cases hc : 48 ≤ c ∧ c ≤ 57
    · rw [decide_eq_true hc]; rfl
    · rw [if_neg (fun z => hc (hm.mp z))] at hf
      omega
end Ly

set_option Elab.async false
set_option linter.all false
set_option maxRecDepth 100000
set_option maxHeartbeats 800000
namespace Ly
open PySem
theorem asBls_map {α : Type} (f : α → Bool) : ∀ l : List α, asBls (l.map fun x => D.bl (f x)) = some (l.map f)
  | [] => rfl
  | x :: l => by rw [List.map_cons, asBls, asBls_map f l]; rfl
theorem all_blt {α : Type} (f : α → Bool) (l : List α) : bltop .all [.lst (l.map fun x => D.bl (f x))] = some (0, .bl (l.all f)) := by
  show (asBls (l.map fun x => D.bl (f x))).map _ = _
  rw [asBls_map]
  show some (0, D.bl ((l.map f).all id)) = _
  rw [List.all_map]
  rfl
theorem len_st {L : List Nat} (h : L.length ≤ 16777216) : bltop .len [.str (stS L)] = some (0, .int (L.length : Int)) := by
  show (if (stS L).length ≤ LN then some (0, D.int ((stS L).length : Int)) else none) = _
  rw [stS_len, if_pos h]
theorem seq_st (L : List Nat) : seqOf (.str (stS L)) = some (L.map fun c => D.str ⟨#[c]⟩) := rfl
theorem ix_st {c : Nat} {w : List Nat} (h : (c :: w).length ≤ 16777216) : ixop (.str (stS (c :: w))) (.int 0) = some (.str (stS [c])) := by
  show (if (stS (c :: w)).length ≤ LN then (L2.atI (stS (c :: w)).cps.toList 0).map fun c => D.str ⟨#[c]⟩ else none) = _
  rw [stS_len, if_pos h]
  simp [stS, L2.atI, L2.ixN]
theorem st_0 : ("0" : Str) = stS [48] := by decide +kernel
theorem st_p1 : ("(" : Str) = stS [40] := by decide +kernel
theorem st_p2 : (")" : Str) = stS [41] := by decide +kernel
theorem st_b1 : ("[" : Str) = stS [91] := by decide +kernel
theorem st_b2 : ("]" : Str) = ⟨#[93]⟩ := by decide +kernel
theorem st_c : ("," : Str) = stS [44] := by decide +kernel
theorem st_num : ("num" : Str) = stS [110, 117, 109] := by decide +kernel
theorem st_own : ("own" : Str) = stS [111, 119, 110] := by decide +kernel
theorem vd_lit {L : List Nat} (h : L.all (fun c => decide (c < 1114112)) = true) : Vd L := fun c hc => by
  rw [List.all_eq_true] at h
  simpa using h c hc
def fgB (c : Nat) : Bool := decide (48 ≤ c ∧ c ≤ 57)
theorem fig_fg (c : Nat) : cmpop .inn (.str ⟨#[c]⟩) (.str "0123456789") = some (fgB c) := fig_in c
def resN : Option Int → CR
  | some k => .ok 0 (.int k)
  | none => .exc 0
def resP (L : List Nat) : Option (Sh × List Nat) → CR
  | none => .exc 0
  | some (s, r') => .ok 1 (.tup [enc s, .int ((L.length - r'.length : Nat) : Int)])
section
variable {G : Nat → Option D} {sub : Nat → Nat → Bool} {fu : Nat}
theorem rdN_fn (g : G80 G) (n : Nat) (w : List Nat) (hw : Vd w) (hl : w.length ≤ 1000000) : callF G sub tab fu (n + 1) 3 [.str (stS w)] = resN (rdN w) := by
  have e1 := len_st (L := w) (by omega)
  have hsq := seq_st w
  have ha := all_blt fgB w
  have hwl : w.length ≤ 16777216 := by omega
  rw [callF_s fn3 rfl rfl]
  by_cases h1 : 1 ≤ w.length
  · have d1 : decide ((1 : Int) ≤ (w.length : Int)) = true := decide_eq_true (by omega)
    by_cases h2 : w.length ≤ 30
    · have d2 : decide ((w.length : Int) ≤ 30) = true := decide_eq_true (by omega)
      cases h3 : w.all fgB with
      | false =>
        have er : rdN w = none := by unfold rdN; rw [if_neg (fun z => by have z2 : w.all fgB = true := z.1.2.2; rw [h3] at z2; cases z2)]
        rw [er]
        rw [h3] at ha
        show _ = CR.exc 0
        generalize stS w = S at *
        generalize (w.length : Int) = WL at *
        simp [evB_cons, evB_nil, seqB_nx, seqB_ret, seqB_exc, seqB_bk, seqB_ct, endF_ret, endF_nx, endF_exc, evS, ev, evs, evBop, evo, evc, evSr, R_ok, R_exc, R_some, O_ok, O_exc, startE, getv, lower, cmp_int, cmpne_int, cmp_lt, cmp_le, cmp_gt, cmp_ge, cmp_str, cmpne_str, bin_add, bin_sub, bin_mod, bin_div, bin_mul, itemsOf, enumOf, zipOf, Tg.put, Tg.ids, setAll, wipeE, fn3, e1, g.g5, d1, d2, hsq]
        rw [compT_map (g := fun c => D.str ⟨#[c]⟩) (fun c => D.bl (fgB c)) w (fun c hc => by
          have q := fig_fg c
          generalize (⟨#[c]⟩ : Str) = X at *
          simp [compF, evB_cons, evB_nil, seqB_nx, seqB_ret, seqB_exc, seqB_bk, seqB_ct, endF_ret, endF_nx, endF_exc, evS, ev, evs, evBop, evo, evc, evSr, R_ok, R_exc, R_some, O_ok, O_exc, startE, getv, lower, cmp_int, cmpne_int, cmp_lt, cmp_le, cmp_gt, cmp_ge, cmp_str, cmpne_str, bin_add, bin_sub, bin_mod, bin_div, bin_mul, itemsOf, enumOf, zipOf, Tg.put, Tg.ids, setAll, wipeE, g.g4, q]) hwl]
        simp [evB_cons, evB_nil, seqB_nx, seqB_ret, seqB_exc, seqB_bk, seqB_ct, endF_ret, endF_nx, endF_exc, evS, ev, evs, evBop, evo, evc, evSr, R_ok, R_exc, R_some, O_ok, O_exc, startE, getv, lower, cmp_int, cmpne_int, cmp_lt, cmp_le, cmp_gt, cmp_ge, cmp_str, cmpne_str, bin_add, bin_sub, bin_mod, bin_div, bin_mul, itemsOf, enumOf, zipOf, Tg.put, Tg.ids, setAll, wipeE, ha]
      | true =>
        rw [h3] at ha
        obtain ⟨c, v, rfl⟩ : ∃ c v, w = c :: v := by
          cases w with
          | nil => simp at h1
          | cons c v => exact ⟨c, v, rfl⟩
        have hx := ix_st (c := c) (w := v) (by omega)
        have vc : Vd [c] := hw.sub fun x hx => by rw [List.mem_singleton.mp hx]; exact List.mem_cons_self
        have c1 := eq_st vc (vd_lit (L := [48]) rfl)
        have c2 := ne_st hw (vd_lit (L := [48]) rfl)
        rw [← st_0] at c1 c2
        by_cases h4 : c = 48 ∧ c :: v ≠ [48]
        · have er : rdN (c :: v) = none := by unfold rdN; rw [if_neg (fun z => z.2 ⟨h4.1, h4.2⟩)]
          rw [er]
          rw [decide_eq_true (show [c] = [48] by rw [h4.1])] at c1
          rw [decide_eq_false h4.2] at c2
          show _ = CR.exc 0
          generalize stS (c :: v) = S at *
          generalize stS [c] = S0 at *
          generalize hWL : ((c :: v).length : Int) = WL at *
          simp [evB_cons, evB_nil, seqB_nx, seqB_ret, seqB_exc, seqB_bk, seqB_ct, endF_ret, endF_nx, endF_exc, evS, ev, evs, evBop, evo, evc, evSr, R_ok, R_exc, R_some, O_ok, O_exc, startE, getv, lower, cmp_int, cmpne_int, cmp_lt, cmp_le, cmp_gt, cmp_ge, cmp_str, cmpne_str, bin_add, bin_sub, bin_mod, bin_div, bin_mul, itemsOf, enumOf, zipOf, Tg.put, Tg.ids, setAll, wipeE, fn3, e1, g.g5, d1, d2, hsq]
          try rw [← List.map_cons (f := fun c => D.str ⟨#[c]⟩)]
          rw [compT_map (g := fun c => D.str ⟨#[c]⟩) (fun c => D.bl (fgB c)) (c :: v) (fun c hc => by
            have q := fig_fg c
            generalize (⟨#[c]⟩ : Str) = X at *
            simp [compF, evB_cons, evB_nil, seqB_nx, seqB_ret, seqB_exc, seqB_bk, seqB_ct, endF_ret, endF_nx, endF_exc, evS, ev, evs, evBop, evo, evc, evSr, R_ok, R_exc, R_some, O_ok, O_exc, startE, getv, lower, cmp_int, cmpne_int, cmp_lt, cmp_le, cmp_gt, cmp_ge, cmp_str, cmpne_str, bin_add, bin_sub, bin_mod, bin_div, bin_mul, itemsOf, enumOf, zipOf, Tg.put, Tg.ids, setAll, wipeE, g.g4, q]) hwl]
          generalize ((c :: v).map fun c => D.bl (fgB c)) = BL at *
          simp [evB_cons, evB_nil, seqB_nx, seqB_ret, seqB_exc, seqB_bk, seqB_ct, endF_ret, endF_nx, endF_exc, evS, ev, evs, evBop, evo, evc, evSr, R_ok, R_exc, R_some, O_ok, O_exc, startE, getv, lower, cmp_int, cmpne_int, cmp_lt, cmp_le, cmp_gt, cmp_ge, cmp_str, cmpne_str, bin_add, bin_sub, bin_mod, bin_div, bin_mul, itemsOf, enumOf, zipOf, Tg.put, Tg.ids, setAll, wipeE, ha, hx, c1, c2]
        · have hd : NumText.AllDigits (stS (c :: v)).cps.toList := fun x hx => by
            rw [List.all_eq_true] at h3
            have : x ∈ c :: v := by simpa [stS] using hx
            have := h3 x this
            unfold fgB at this
            simpa using this
          have hi := intText_digits (x := stS (c :: v)) hd (by simp [stS]) (by rw [stS_len]; omega)
          have hb : bltop .int [.str (stS (c :: v))] = some (0, .int (((c :: v).foldl (fun acc c => acc * 10 + (c - 48)) 0 : Nat) : Int)) := by
            show (if (stS (c :: v)).length ≤ 640 then (intText? (stS (c :: v))).map fun i => (0, D.int i) else none) = _
            rw [stS_len, if_pos (by omega), hi]
            rfl
          have er : rdN (c :: v) = some (((c :: v).foldl (fun acc c => acc * 10 + (c - 48)) 0 : Nat) : Int) := by
            unfold rdN
            rw [if_pos ⟨⟨h1, h2, h3⟩, fun z => h4 ⟨z.1, z.2⟩⟩]
          rw [er]
          show _ = CR.ok 0 (.int _)
          generalize (((c :: v).foldl (fun acc c => acc * 10 + (c - 48)) 0 : Nat) : Int) = VV at *
          generalize hS : stS (c :: v) = S at *
          generalize hS0 : stS [c] = S0 at *
          generalize hWL : ((c :: v).length : Int) = WL at *
          simp [evB_cons, evB_nil, seqB_nx, seqB_ret, seqB_exc, seqB_bk, seqB_ct, endF_ret, endF_nx, endF_exc, evS, ev, evs, evBop, evo, evc, evSr, R_ok, R_exc, R_some, O_ok, O_exc, startE, getv, lower, cmp_int, cmpne_int, cmp_lt, cmp_le, cmp_gt, cmp_ge, cmp_str, cmpne_str, bin_add, bin_sub, bin_mod, bin_div, bin_mul, itemsOf, enumOf, zipOf, Tg.put, Tg.ids, setAll, wipeE, fn3, e1, g.g5, d1, d2, hsq]
          try rw [← List.map_cons (f := fun c => D.str ⟨#[c]⟩)]
          rw [compT_map (g := fun c => D.str ⟨#[c]⟩) (fun c => D.bl (fgB c)) (c :: v) (fun c hc => by
            have q := fig_fg c
            generalize (⟨#[c]⟩ : Str) = X at *
            simp [compF, evB_cons, evB_nil, seqB_nx, seqB_ret, seqB_exc, seqB_bk, seqB_ct, endF_ret, endF_nx, endF_exc, evS, ev, evs, evBop, evo, evc, evSr, R_ok, R_exc, R_some, O_ok, O_exc, startE, getv, lower, cmp_int, cmpne_int, cmp_lt, cmp_le, cmp_gt, cmp_ge, cmp_str, cmpne_str, bin_add, bin_sub, bin_mod, bin_div, bin_mul, itemsOf, enumOf, zipOf, Tg.put, Tg.ids, setAll, wipeE, g.g4, q]) hwl]
          generalize ((c :: v).map fun c => D.bl (fgB c)) = BL at *
          by_cases h5 : c = 48
          · have h6 : c :: v = [48] := Classical.byContradiction fun z => h4 ⟨h5, z⟩
            rw [decide_eq_true (show [c] = [48] by rw [h5])] at c1
            rw [decide_eq_true h6] at c2
            simp [evB_cons, evB_nil, seqB_nx, seqB_ret, seqB_exc, seqB_bk, seqB_ct, endF_ret, endF_nx, endF_exc, evS, ev, evs, evBop, evo, evc, evSr, R_ok, R_exc, R_some, O_ok, O_exc, startE, getv, lower, cmp_int, cmpne_int, cmp_lt, cmp_le, cmp_gt, cmp_ge, cmp_str, cmpne_str, bin_add, bin_sub, bin_mod, bin_div, bin_mul, itemsOf, enumOf, zipOf, Tg.put, Tg.ids, setAll, wipeE, ha, hx, c1, c2, hb]
          · rw [decide_eq_false (show ¬ [c] = [48] from fun z => h5 (by simpa using z))] at c1
            simp [evB_cons, evB_nil, seqB_nx, seqB_ret, seqB_exc, seqB_bk, seqB_ct, endF_ret, endF_nx, endF_exc, evS, ev, evs, evBop, evo, evc, evSr, R_ok, R_exc, R_some, O_ok, O_exc, startE, getv, lower, cmp_int, cmpne_int, cmp_lt, cmp_le, cmp_gt, cmp_ge, cmp_str, cmpne_str, bin_add, bin_sub, bin_mod, bin_div, bin_mul, itemsOf, enumOf, zipOf, Tg.put, Tg.ids, setAll, wipeE, ha, hx, c1, hb]
    · have d2 : decide ((w.length : Int) ≤ 30) = false := decide_eq_false (by omega)
      have er : rdN w = none := by unfold rdN; rw [if_neg (fun z => h2 z.1.2.1)]
      rw [er]
      show _ = CR.exc 0
      generalize stS w = S at *
      generalize (w.length : Int) = WL at *
      simp [evB_cons, evB_nil, seqB_nx, seqB_ret, seqB_exc, seqB_bk, seqB_ct, endF_ret, endF_nx, endF_exc, evS, ev, evs, evBop, evo, evc, evSr, R_ok, R_exc, R_some, O_ok, O_exc, startE, getv, lower, cmp_int, cmpne_int, cmp_lt, cmp_le, cmp_gt, cmp_ge, cmp_str, cmpne_str, bin_add, bin_sub, bin_mod, bin_div, bin_mul, itemsOf, enumOf, zipOf, Tg.put, Tg.ids, setAll, wipeE, fn3, e1, g.g5, d1, d2]
  · have d1 : decide ((1 : Int) ≤ (w.length : Int)) = false := decide_eq_false (by omega)
    have er : rdN w = none := by unfold rdN; rw [if_neg (fun z => h1 z.1.1)]
    rw [er]
    show _ = CR.exc 0
    generalize stS w = S at *
    generalize (w.length : Int) = WL at *
    simp [evB_cons, evB_nil, seqB_nx, seqB_ret, seqB_exc, seqB_bk, seqB_ct, endF_ret, endF_nx, endF_exc, evS, ev, evs, evBop, evo, evc, evSr, R_ok, R_exc, R_some, O_ok, O_exc, startE, getv, lower, cmp_int, cmpne_int, cmp_lt, cmp_le, cmp_gt, cmp_ge, cmp_str, cmpne_str, bin_add, bin_sub, bin_mod, bin_div, bin_mul, itemsOf, enumOf, zipOf, Tg.put, Tg.ids, setAll, wipeE, fn3, e1, g.g5, d1]
end
end Ly

set_option Elab.async false
set_option linter.all false
set_option maxRecDepth 100000
set_option maxHeartbeats 800000
namespace Ly
open PySem
theorem leafP_cut {r r' : List Nat} {s : Sh} (h : leafP r = some (s, r')) : r'.length ≤ r.length := by
  obtain ⟨k, _, _, e, _⟩ := leafP_suf h
  rw [e, List.length_drop]
  omega
section
variable {G : Nat → Option D} {sub : Nat → Nat → Bool} {fu : Nat}
theorem sf_leaf (g : G80 G) (n : Nat) (L : List Nat) (hL : Vd L) (hl : L.length ≤ 50000) (at_ : Nat) (ha : at_ ≤ L.length) (d : Int) (b1 b2 : Bool) (c1 : cmpop .eq (.str (stS ((L.drop at_).take 1))) (.str "(") = some b1) (c0 : cmpop .gt (.int d) (.int 0) = some b2) (hb : (b1 && b2) = false) :
    callF G sub tab fu (n + 2) 5 [.str (stS L), .int (at_ : Int), .int d] = resP L (leafP (L.drop at_)) := by
  have e1 : ((at_ + 1 : Nat) : Int) = (at_ : Int) + 1 := by omega
  have e3 : ((at_ + 3 : Nat) : Int) = (at_ : Int) + 3 := by omega
  have s1 := sl_st (L := L) (by omega) at_ (at_ + 1) (by omega)
  have s3 := sl_st (L := L) (by omega) at_ (at_ + 3) (by omega)
  rw [e1, show at_ + 1 - at_ = 1 by omega] at s1
  rw [e3, show at_ + 3 - at_ = 3 by omega] at s3
  have vr : Vd (L.drop at_) := hL.sub fun c hc => List.mem_of_mem_drop hc
  have v1 : Vd ((L.drop at_).take 1) := vr.sub fun c hc => List.mem_of_mem_take hc
  have v3 : Vd ((L.drop at_).take 3) := vr.sub fun c hc => List.mem_of_mem_take hc
  have cn := in_two v3 (vd_lit (L := [110, 117, 109]) rfl) (vd_lit (L := [111, 119, 110]) rfl)
  rw [← st_num, ← st_own] at cn
  have hfirst : ∀ (X : CR), endF (seqB (O.nx [some (0, D.str (stS L)), some (0, .int (at_ : Int)), some (0, .int d), none]) fun r => O.nx r) = X → True := fun _ _ => trivial
  rw [callF_s fn5 rfl rfl]
  by_cases hn : (L.drop at_).take 3 = [110, 117, 109]
  · have hr := take3 hn
    have hlen : 3 ≤ (L.drop at_).length := by rw [hr]; simp
    have el : leafP (L.drop at_) = some (.num, (L.drop at_).drop 3) := by unfold leafP; rw [if_pos hn]
    have ep : ((L.length - ((L.drop at_).drop 3).length : Nat) : Int) = (at_ : Int) + 3 := by
      rw [List.length_drop, List.length_drop]
      rw [List.length_drop] at hlen
      omega
    rw [el]
    show _ = CR.ok 1 (.tup [enc .num, .int ((L.length - ((L.drop at_).drop 3).length : Nat) : Int)])
    rw [ep]
    rw [decide_eq_true hn, Bool.true_or] at cn
    have ee : enc .num = .tup [.str (stS ((L.drop at_).take 3))] := by rw [hn, ← st_num]; rfl
    rw [ee]
    generalize stS ((L.drop at_).take 3) = S3 at *
    generalize stS ((L.drop at_).take 1) = S1 at *
    generalize stS L = S at *
    cases b1 with
    | true =>
      have : b2 = false := by simpa using hb
      subst this
      simp [evB_cons, evB_nil, seqB_nx, seqB_ret, seqB_exc, seqB_bk, seqB_ct, endF_ret, endF_nx, endF_exc, evS, ev, evs, evBop, evo, evc, evSr, R_ok, R_exc, R_some, O_ok, O_exc, startE, getv, lower, cmp_int, cmpne_int, cmp_lt, cmp_le, cmp_gt, cmp_ge, cmp_str, cmpne_str, bin_add, bin_sub, bin_mod, bin_div, bin_mul, itemsOf, enumOf, zipOf, Tg.put, Tg.ids, setAll, wipeE, fn5, s1, s3, c1, c0, cn]
    | false => simp [evB_cons, evB_nil, seqB_nx, seqB_ret, seqB_exc, seqB_bk, seqB_ct, endF_ret, endF_nx, endF_exc, evS, ev, evs, evBop, evo, evc, evSr, R_ok, R_exc, R_some, O_ok, O_exc, startE, getv, lower, cmp_int, cmpne_int, cmp_lt, cmp_le, cmp_gt, cmp_ge, cmp_str, cmpne_str, bin_add, bin_sub, bin_mod, bin_div, bin_mul, itemsOf, enumOf, zipOf, Tg.put, Tg.ids, setAll, wipeE, fn5, s1, s3, c1, c0, cn]
  · by_cases ho : (L.drop at_).take 3 = [111, 119, 110]
    · have hr := take3 ho
      have hlen : 3 ≤ (L.drop at_).length := by rw [hr]; simp
      have el : leafP (L.drop at_) = some (.own, (L.drop at_).drop 3) := by unfold leafP; rw [if_neg hn, if_pos ho]
      have ep : ((L.length - ((L.drop at_).drop 3).length : Nat) : Int) = (at_ : Int) + 3 := by
        rw [List.length_drop, List.length_drop]
        rw [List.length_drop] at hlen
        omega
      rw [el]
      show _ = CR.ok 1 (.tup [enc .own, .int ((L.length - ((L.drop at_).drop 3).length : Nat) : Int)])
      rw [ep]
      rw [decide_eq_false hn, decide_eq_true ho, Bool.false_or] at cn
      have ee : enc .own = .tup [.str (stS ((L.drop at_).take 3))] := by rw [ho, ← st_own]; rfl
      rw [ee]
      generalize stS ((L.drop at_).take 3) = S3 at *
      generalize stS ((L.drop at_).take 1) = S1 at *
      generalize stS L = S at *
      cases b1 with
      | true =>
        have : b2 = false := by simpa using hb
        subst this
        simp [evB_cons, evB_nil, seqB_nx, seqB_ret, seqB_exc, seqB_bk, seqB_ct, endF_ret, endF_nx, endF_exc, evS, ev, evs, evBop, evo, evc, evSr, R_ok, R_exc, R_some, O_ok, O_exc, startE, getv, lower, cmp_int, cmpne_int, cmp_lt, cmp_le, cmp_gt, cmp_ge, cmp_str, cmpne_str, bin_add, bin_sub, bin_mod, bin_div, bin_mul, itemsOf, enumOf, zipOf, Tg.put, Tg.ids, setAll, wipeE, fn5, s1, s3, c1, c0, cn]
      | false => simp [evB_cons, evB_nil, seqB_nx, seqB_ret, seqB_exc, seqB_bk, seqB_ct, endF_ret, endF_nx, endF_exc, evS, ev, evs, evBop, evo, evc, evSr, R_ok, R_exc, R_some, O_ok, O_exc, startE, getv, lower, cmp_int, cmpne_int, cmp_lt, cmp_le, cmp_gt, cmp_ge, cmp_str, cmpne_str, bin_add, bin_sub, bin_mod, bin_div, bin_mul, itemsOf, enumOf, zipOf, Tg.put, Tg.ids, setAll, wipeE, fn5, s1, s3, c1, c0, cn]
    · rw [decide_eq_false hn, decide_eq_false ho, Bool.false_or] at cn
      have hm : methop .find3 (.str (stS L)) [.str "]", .int (at_ : Int)] = some (0, .int (Txt.find3 (stS L) "]" (at_ : Int))) := rfl
      have hm0 : Txt.find3 (stS L) "]" (at_ : Int) = if 93 ∈ L.drop at_ then ((at_ + ((L.drop at_).takeWhile (· != 93)).length : Nat) : Int) else -1 := by
        rw [st_b2]
        exact find_st L 93 at_ ha
      rw [hm0] at hm
      clear hm0
      have c2 := ne_st v1 (vd_lit (L := [91]) rfl)
      rw [← st_b1] at c2
      have mt : methTy .find3 (.str (stS L)) = true := rfl
      by_cases h1 : (L.drop at_).take 1 = [91]
      · rw [decide_eq_true h1] at c2
        by_cases h2 : 93 ∈ L.drop at_
        · rw [if_pos h2] at hm
          have hr := take1 h1
          have h2' : 93 ∈ (L.drop at_).drop 1 := by
            rw [hr] at h2
            rcases List.mem_cons.mp h2 with h | h
            · cases h
            · exact h
          have eu := until93 _ h2'
          have el : leafP (L.drop at_) = (rdN (((L.drop at_).drop 1).takeWhile (· != 93))).map fun n => (.strip n, (((L.drop at_).drop 1).dropWhile (· != 93)).drop 1) := by
            unfold leafP
            rw [if_neg hn, if_neg ho, if_pos ⟨h1, h2⟩]
          have etw : (L.drop at_).takeWhile (· != 93) = 91 :: ((L.drop at_).drop 1).takeWhile (· != 93) := by
            conv => lhs; rw [hr]
            simp
          rw [etw] at hm
          rw [el]
          have hdd : (L.drop at_).drop 1 = L.drop (at_ + 1) := by rw [List.drop_drop]
          generalize hw : ((L.drop at_).drop 1).takeWhile (· != 93) = w at *
          generalize hv : (((L.drop at_).drop 1).dropWhile (· != 93)).drop 1 = v at *
          have hlen := congrArg List.length eu
          rw [List.length_append, List.length_cons, List.length_drop, List.length_drop] at hlen
          have hLr := congrArg List.length hr
          rw [List.length_cons, List.length_drop, List.length_drop, List.length_drop] at hLr
          have sw := sl_st (L := L) (by omega) (at_ + 1) (at_ + 1 + w.length) (by omega)
          rw [← hdd, eu, show at_ + 1 + w.length - (at_ + 1) = w.length by omega, List.take_left'] at sw
          · have ei : ((at_ + (91 :: w).length : Nat) : Int) = (at_ : Int) + 1 + (w.length : Int) := by rw [List.length_cons]; omega
            have ej : ((at_ + 1 + w.length : Nat) : Int) = (at_ : Int) + 1 + (w.length : Int) := by omega
            rw [ei] at hm
            rw [e1, ej] at sw
            have vw : Vd w := vr.sub fun c hc => by
              have : c ∈ (L.drop at_).drop 1 := by rw [eu]; exact List.mem_append_left _ hc
              exact List.mem_of_mem_drop this
            have er := rdN_fn (G := G) (sub := sub) (fu := fu) g n w vw (by omega)
            have ep : ((L.length - v.length : Nat) : Int) = (at_ : Int) + 1 + (w.length : Int) + 1 := by omega
            have c3 : cmpop .lt (.int ((at_ : Int) + 1 + (w.length : Int))) (.int 0) = some false := by
              show some (decide (_ < (0 : Int))) = _
              rw [decide_eq_false (by omega)]
            have key : endF (evB G sub (callF G sub tab fu (n + 1)) fu fn5.body (startE fn5.nn [.str (stS L), .int (at_ : Int), .int d])) = match resN (rdN w) with
              | .ok _ x => .ok 1 (.tup [.tup [.str "strip", x], .int ((at_ : Int) + 1 + (w.length : Int) + 1)])
              | .exc c => .exc c
              | .bad => .bad := by
              clear ep hlen hLr eu hr hw hv etw el
              clear hdd
              cases hrd : rdN w with
              | none =>
                rw [hrd] at er
                have er : callF G sub tab fu (n + 1) 3 [.str (stS w)] = .exc 0 := er
                show _ = CR.exc 0
                generalize (at_ : Int) + 1 + (w.length : Int) = EN at *
                generalize stS w = SW at *
                generalize stS ((L.drop at_).take 3) = S3 at *
                generalize stS ((L.drop at_).take 1) = S1 at *
                generalize stS L = S at *
                cases b1 with
                | true =>
                  have : b2 = false := by simpa using hb
                  subst this
                  simp [evB_cons, evB_nil, seqB_nx, seqB_ret, seqB_exc, seqB_bk, seqB_ct, endF_ret, endF_nx, endF_exc, evS, ev, evs, evBop, evo, evc, evSr, R_ok, R_exc, R_some, O_ok, O_exc, startE, getv, lower, cmp_int, cmpne_int, cmp_lt, cmp_le, cmp_gt, cmp_ge, cmp_str, cmpne_str, bin_add, bin_sub, bin_mod, bin_div, bin_mul, itemsOf, enumOf, zipOf, Tg.put, Tg.ids, setAll, wipeE, fn5, s1, s3, c1, c0, cn, mt, hm, c2, c3, sw, er]
                | false => simp [evB_cons, evB_nil, seqB_nx, seqB_ret, seqB_exc, seqB_bk, seqB_ct, endF_ret, endF_nx, endF_exc, evS, ev, evs, evBop, evo, evc, evSr, R_ok, R_exc, R_some, O_ok, O_exc, startE, getv, lower, cmp_int, cmpne_int, cmp_lt, cmp_le, cmp_gt, cmp_ge, cmp_str, cmpne_str, bin_add, bin_sub, bin_mod, bin_div, bin_mul, itemsOf, enumOf, zipOf, Tg.put, Tg.ids, setAll, wipeE, fn5, s1, s3, c1, c0, cn, mt, hm, c2, c3, sw, er]
              | some k =>
                rw [hrd] at er
                have er : callF G sub tab fu (n + 1) 3 [.str (stS w)] = .ok 0 (.int k) := er
                show _ = CR.ok 1 (.tup [.tup [.str "strip", .int k], .int ((at_ : Int) + 1 + (w.length : Int) + 1)])
                generalize (at_ : Int) + 1 + (w.length : Int) = EN at *
                generalize stS w = SW at *
                generalize stS ((L.drop at_).take 3) = S3 at *
                generalize stS ((L.drop at_).take 1) = S1 at *
                generalize stS L = S at *
                cases b1 with
                | true =>
                  have : b2 = false := by simpa using hb
                  subst this
                  simp [evB_cons, evB_nil, seqB_nx, seqB_ret, seqB_exc, seqB_bk, seqB_ct, endF_ret, endF_nx, endF_exc, evS, ev, evs, evBop, evo, evc, evSr, R_ok, R_exc, R_some, O_ok, O_exc, startE, getv, lower, cmp_int, cmpne_int, cmp_lt, cmp_le, cmp_gt, cmp_ge, cmp_str, cmpne_str, bin_add, bin_sub, bin_mod, bin_div, bin_mul, itemsOf, enumOf, zipOf, Tg.put, Tg.ids, setAll, wipeE, fn5, s1, s3, c1, c0, cn, mt, hm, c2, c3, sw, er]
                | false => simp [evB_cons, evB_nil, seqB_nx, seqB_ret, seqB_exc, seqB_bk, seqB_ct, endF_ret, endF_nx, endF_exc, evS, ev, evs, evBop, evo, evc, evSr, R_ok, R_exc, R_some, O_ok, O_exc, startE, getv, lower, cmp_int, cmpne_int, cmp_lt, cmp_le, cmp_gt, cmp_ge, cmp_str, cmpne_str, bin_add, bin_sub, bin_mod, bin_div, bin_mul, itemsOf, enumOf, zipOf, Tg.put, Tg.ids, setAll, wipeE, fn5, s1, s3, c1, c0, cn, mt, hm, c2, c3, sw, er]
            rw [key]
            cases rdN w with
            | none => rfl
            | some k =>
              show CR.ok 1 _ = CR.ok 1 (.tup [enc (.strip k), .int ((L.length - v.length : Nat) : Int)])
              rw [ep]
              rfl
          · rfl
        · rw [if_neg h2] at hm
          have el : leafP (L.drop at_) = none := by
            unfold leafP
            rw [if_neg hn, if_neg ho, if_neg (fun z => h2 z.2)]
          rw [el]
          have c3 : cmpop .lt (.int (-1)) (.int 0) = some true := rfl
          show _ = CR.exc 0
          generalize stS ((L.drop at_).take 3) = S3 at *
          generalize stS ((L.drop at_).take 1) = S1 at *
          generalize stS L = S at *
          cases b1 with
          | true =>
            have : b2 = false := by simpa using hb
            subst this
            simp [evB_cons, evB_nil, seqB_nx, seqB_ret, seqB_exc, seqB_bk, seqB_ct, endF_ret, endF_nx, endF_exc, evS, ev, evs, evBop, evo, evc, evSr, R_ok, R_exc, R_some, O_ok, O_exc, startE, getv, lower, cmp_int, cmpne_int, cmp_lt, cmp_le, cmp_gt, cmp_ge, cmp_str, cmpne_str, bin_add, bin_sub, bin_mod, bin_div, bin_mul, itemsOf, enumOf, zipOf, Tg.put, Tg.ids, setAll, wipeE, fn5, s1, s3, c1, c0, cn, mt, hm, c2, c3]
          | false => simp [evB_cons, evB_nil, seqB_nx, seqB_ret, seqB_exc, seqB_bk, seqB_ct, endF_ret, endF_nx, endF_exc, evS, ev, evs, evBop, evo, evc, evSr, R_ok, R_exc, R_some, O_ok, O_exc, startE, getv, lower, cmp_int, cmpne_int, cmp_lt, cmp_le, cmp_gt, cmp_ge, cmp_str, cmpne_str, bin_add, bin_sub, bin_mod, bin_div, bin_mul, itemsOf, enumOf, zipOf, Tg.put, Tg.ids, setAll, wipeE, fn5, s1, s3, c1, c0, cn, mt, hm, c2, c3]
      · rw [decide_eq_false h1] at c2
        have el : leafP (L.drop at_) = none := by
          unfold leafP
          rw [if_neg hn, if_neg ho, if_neg (fun z => h1 z.1)]
        rw [el]
        show _ = CR.exc 0
        generalize (if 93 ∈ L.drop at_ then ((at_ + ((L.drop at_).takeWhile (· != 93)).length : Nat) : Int) else -1) = FI at *
        generalize stS ((L.drop at_).take 3) = S3 at *
        generalize stS ((L.drop at_).take 1) = S1 at *
        generalize stS L = S at *
        cases b1 with
        | true =>
          have : b2 = false := by simpa using hb
          subst this
          simp [evB_cons, evB_nil, seqB_nx, seqB_ret, seqB_exc, seqB_bk, seqB_ct, endF_ret, endF_nx, endF_exc, evS, ev, evs, evBop, evo, evc, evSr, R_ok, R_exc, R_some, O_ok, O_exc, startE, getv, lower, cmp_int, cmpne_int, cmp_lt, cmp_le, cmp_gt, cmp_ge, cmp_str, cmpne_str, bin_add, bin_sub, bin_mod, bin_div, bin_mul, itemsOf, enumOf, zipOf, Tg.put, Tg.ids, setAll, wipeE, fn5, s1, s3, c1, c0, cn, mt, hm, c2]
        | false => simp [evB_cons, evB_nil, seqB_nx, seqB_ret, seqB_exc, seqB_bk, seqB_ct, endF_ret, endF_nx, endF_exc, evS, ev, evs, evBop, evo, evc, evSr, R_ok, R_exc, R_some, O_ok, O_exc, startE, getv, lower, cmp_int, cmpne_int, cmp_lt, cmp_le, cmp_gt, cmp_ge, cmp_str, cmpne_str, bin_add, bin_sub, bin_mod, bin_div, bin_mul, itemsOf, enumOf, zipOf, Tg.put, Tg.ids, setAll, wipeE, fn5, s1, s3, c1, c0, cn, mt, hm, c2]
end
end Ly

set_option Elab.async false
set_option linter.all false
set_option maxRecDepth 100000
set_option maxHeartbeats 800000
namespace Ly
open PySem
section
variable {G : Nat → Option D} {sub : Nat → Nat → Bool} {fu : Nat}
theorem rf_cond (cf : Nat → List D → CR) (S : Str) (X : List Nat) (hX : Vd X) (q1 q2 q3 q5 : Option (Nat × D)) : ev G sub cf 9 (.cmp .eq (.var 4) (.cst (.str ","))) [some (0, .str S), q1, q2, q3, some (0, .str (stS X)), q5] = .ok ([some (0, .str S), q1, q2, q3, some (0, .str (stS X)), q5], 0, .bl (decide (X = [44]))) := by
  have c := eq_st hX (vd_lit (L := [44]) rfl)
  rw [← st_c] at c
  generalize stS X = SX at *
  simp [evB_cons, evB_nil, seqB_nx, seqB_ret, seqB_exc, seqB_bk, seqB_ct, endF_ret, endF_nx, endF_exc, evS, ev, evs, evBop, evo, evc, evSr, R_ok, R_exc, R_some, O_ok, O_exc, startE, getv, lower, cmp_int, cmpne_int, cmp_lt, cmp_le, cmp_gt, cmp_ge, cmp_str, cmpne_str, bin_add, bin_sub, bin_mod, bin_div, bin_mul, itemsOf, enumOf, zipOf, Tg.put, Tg.ids, setAll, wipeE, c]
theorem rf_body (n : Nat) (d : Int) (L : List Nat) (hl : L.length ≤ 50000) (at_ a : Nat) (s : Sh) (fs : List Sh) (hf : fs.length ≤ 50000) (o5 : Option (Nat × D)) (hs : callF G sub tab fu n 5 [.str (stS L), .int (at_ : Int), .int d] = .ok 1 (.tup [enc s, .int (a : Int)])) :
    evB G sub (callF G sub tab fu n) fu bd4_0 [some (0, .str (stS L)), some (0, .int (at_ : Int)), some (0, .int d), some (1, .lst (fs.map enc)), some (0, .str (stS [44])), o5] =
      .nx [some (0, .str (stS L)), some (0, .int ((a + 1 : Nat) : Int)), some (0, .int d), some (1, .lst ((fs ++ [s]).map enc)), some (0, .str (stS ((L.drop a).take 1))), some (0, enc s)] := by
  have e1 : ((a + 1 : Nat) : Int) = (a : Int) + 1 := by omega
  have s1 := sl_st (L := L) (by omega) a (a + 1) (by omega)
  rw [e1, show a + 1 - a = 1 by omega] at s1
  rw [e1, List.map_append, List.map_cons, List.map_nil]
  have hal : (fs.map enc).length < LN := by rw [List.length_map]; show _ < 16777216; omega
  generalize stS ((L.drop a).take 1) = S1 at *
  generalize stS L = S at *
  generalize stS [44] = S4 at *
  generalize enc s = EE at *
  generalize fs.map enc = FS at *
  simp [evB_cons, evB_nil, seqB_nx, seqB_ret, seqB_exc, seqB_bk, seqB_ct, endF_ret, endF_nx, endF_exc, evS, ev, evs, evBop, evo, evc, evSr, R_ok, R_exc, R_some, O_ok, O_exc, startE, getv, lower, cmp_int, cmpne_int, cmp_lt, cmp_le, cmp_gt, cmp_ge, cmp_str, cmpne_str, bin_add, bin_sub, bin_mod, bin_div, bin_mul, itemsOf, enumOf, zipOf, Tg.put, Tg.ids, setAll, wipeE, bd4_0, hs, hal, s1]
theorem rf_loop (n d : Nat) (L : List Nat) (hL : Vd L) (hl : L.length ≤ 50000) (hs : ∀ at_, at_ ≤ L.length → callF G sub tab fu n 5 [.str (stS L), .int (at_ : Int), .int (d : Int)] = resP L (pS d (L.drop at_))) : ∀ (m fu' at_ : Nat) (fs : List Sh) (o5 : Option (Nat × D)), at_ ≤ L.length → (L.drop at_).length < m → m + 1 ≤ fu' → fs.length + (L.drop at_).length ≤ 50000 →
    match pL (pS d) m (L.drop at_) with
    | none => (∃ r5, whlLoop (ev G sub (callF G sub tab fu n) 9 (.cmp .eq (.var 4) (.cst (.str ",")))) (evB G sub (callF G sub tab fu n) fu bd4_0) fu' [some (0, .str (stS L)), some (0, .int (at_ : Int)), some (0, .int (d : Int)), some (1, .lst (fs.map enc)), some (0, .str (stS [44])), o5] = .exc r5 0) ∨
        ∃ q1 q3 q5 X, Vd X ∧ X ≠ [41] ∧ whlLoop (ev G sub (callF G sub tab fu n) 9 (.cmp .eq (.var 4) (.cst (.str ",")))) (evB G sub (callF G sub tab fu n) fu bd4_0) fu' [some (0, .str (stS L)), some (0, .int (at_ : Int)), some (0, .int (d : Int)), some (1, .lst (fs.map enc)), some (0, .str (stS [44])), o5] = .nx [some (0, .str (stS L)), q1, some (0, .int (d : Int)), q3, some (0, .str (stS X)), q5]
    | some (ss, r') => ∃ q5, whlLoop (ev G sub (callF G sub tab fu n) 9 (.cmp .eq (.var 4) (.cst (.str ",")))) (evB G sub (callF G sub tab fu n) fu bd4_0) fu' [some (0, .str (stS L)), some (0, .int (at_ : Int)), some (0, .int (d : Int)), some (1, .lst (fs.map enc)), some (0, .str (stS [44])), o5] = .nx [some (0, .str (stS L)), some (0, .int ((L.length - r'.length : Nat) : Int)), some (0, .int (d : Int)), some (1, .lst ((fs ++ ss).map enc)), some (0, .str (stS [41])), q5]
  | 0, fu', at_, fs, o5, _, h, _, _ => by omega
  | m + 1, 0, at_, fs, o5, _, _, h, _ => by omega
  | m + 1, fu' + 1, at_, fs, o5, ha, hm, hfu, hfl => by
    have hc := rf_cond (G := G) (sub := sub) (callF G sub tab fu n) (stS L) [44] (vd_lit rfl) (some (0, .int (at_ : Int))) (some (0, .int (d : Int))) (some (1, .lst (fs.map enc))) o5
    rw [decide_eq_true rfl] at hc
    have hcall := hs at_ ha
    have step : ∀ f r, ev G sub (callF G sub tab fu n) 9 (.cmp .eq (.var 4) (.cst (.str ","))) r = .ok (r, 0, .bl true) → whlLoop (ev G sub (callF G sub tab fu n) 9 (.cmp .eq (.var 4) (.cst (.str ",")))) f (fu' + 1) r = match f r with
      | .nx r2 => whlLoop (ev G sub (callF G sub tab fu n) 9 (.cmp .eq (.var 4) (.cst (.str ",")))) f fu' r2
      | .ct r2 => whlLoop (ev G sub (callF G sub tab fu n) 9 (.cmp .eq (.var 4) (.cst (.str ",")))) f fu' r2
      | .bk r2 => .nx r2
      | .ret l d => .ret l d
      | .exc r2 c => .exc r2 c
      | .bad => .bad := fun f r h => by rw [whlLoop, h]; rfl
    rw [step _ _ hc, pL]
    cases hp : pS d (L.drop at_) with
    | none =>
      rw [hp] at hcall
      have hcall : callF G sub tab fu n 5 [.str (stS L), .int (at_ : Int), .int (d : Int)] = .exc 0 := hcall
      left
      have : ∃ r5, evB G sub (callF G sub tab fu n) fu bd4_0 [some (0, .str (stS L)), some (0, .int (at_ : Int)), some (0, .int (d : Int)), some (1, .lst (fs.map enc)), some (0, .str (stS [44])), o5] = .exc r5 0 := by
        refine ⟨[some (0, .str (stS L)), some (0, .int (at_ : Int)), some (0, .int (d : Int)), some (1, .lst (fs.map enc)), some (0, .str (stS [44])), o5], ?_⟩
        generalize stS L = S at *
        generalize stS [44] = S4 at *
        generalize fs.map enc = FS at *
        simp [evB_cons, evB_nil, seqB_nx, seqB_ret, seqB_exc, seqB_bk, seqB_ct, endF_ret, endF_nx, endF_exc, evS, ev, evs, evBop, evo, evc, evSr, R_ok, R_exc, R_some, O_ok, O_exc, startE, getv, lower, cmp_int, cmpne_int, cmp_lt, cmp_le, cmp_gt, cmp_ge, cmp_str, cmpne_str, bin_add, bin_sub, bin_mod, bin_div, bin_mul, itemsOf, enumOf, zipOf, Tg.put, Tg.ids, setAll, wipeE, bd4_0, hcall]
      obtain ⟨r5, e⟩ := this
      rw [e]
      exact ⟨r5, rfl⟩
    | some z =>
      obtain ⟨s, r1⟩ := z
      rw [hp] at hcall
      obtain ⟨k, k1, k2, k3, _⟩ := pS_suf d hp
      rw [List.length_drop] at k2 hm hfl
      have er1 : r1 = L.drop (at_ + k) := by rw [k3, List.drop_drop]
      have hlen : L.length - r1.length = at_ + k := by rw [er1, List.length_drop]; omega
      have hcall : callF G sub tab fu n 5 [.str (stS L), .int (at_ : Int), .int (d : Int)] = .ok 1 (.tup [enc s, .int ((at_ + k : Nat) : Int)]) := by
        rw [hcall]
        show CR.ok 1 (.tup [enc s, .int ((L.length - r1.length : Nat) : Int)]) = _
        rw [hlen]
      have hb := rf_body (G := G) (sub := sub) (fu := fu) n (d : Int) L hl at_ (at_ + k) s fs (by omega) o5 hcall
      rw [← er1] at hb
      rw [hb]
      have vX : Vd (r1.take 1) := hL.sub fun c hc => by
        have := List.mem_of_mem_take hc
        rw [er1] at this
        exact List.mem_of_mem_drop this
      simp only
      by_cases h44 : r1.take 1 = [44]
      · rw [if_pos h44, h44]
        have et := take1 h44
        have hl1 := congrArg List.length et
        rw [List.length_cons, List.length_drop, er1, List.length_drop] at hl1
        have ed : r1.drop 1 = L.drop (at_ + k + 1) := by rw [er1, List.drop_drop]
        have ih := rf_loop n d L hL hl hs m fu' (at_ + k + 1) (fs ++ [s]) (some (0, enc s)) (by omega) (by rw [List.length_drop]; omega) (by omega) (by rw [List.length_append, List.length_singleton, List.length_drop]; omega)
        rw [← ed] at ih
        cases hq : pL (pS d) m (r1.drop 1) with
        | none =>
          rw [hq] at ih
          exact ih
        | some z =>
          obtain ⟨ss, r2⟩ := z
          rw [hq] at ih
          obtain ⟨q5, e⟩ := ih
          refine ⟨q5, ?_⟩
          rw [e, List.append_assoc]
          rfl
      · rw [if_neg h44]
        have hc2 := rf_cond (G := G) (sub := sub) (callF G sub tab fu n) (stS L) (r1.take 1) vX (some (0, .int ((at_ + k + 1 : Nat) : Int))) (some (0, .int (d : Int))) (some (1, .lst ((fs ++ [s]).map enc))) (some (0, enc s))
        rw [decide_eq_false h44] at hc2
        have out : ∀ f r, 1 ≤ fu' → ev G sub (callF G sub tab fu n) 9 (.cmp .eq (.var 4) (.cst (.str ","))) r = .ok (r, 0, .bl false) → whlLoop (ev G sub (callF G sub tab fu n) 9 (.cmp .eq (.var 4) (.cst (.str ",")))) f fu' r = .nx r := fun f r h1 h => by
          obtain ⟨z, rfl⟩ : ∃ z, fu' = z + 1 := ⟨fu' - 1, by omega⟩
          rw [whlLoop, h]
          rfl
        rw [out _ _ (by omega) hc2]
        by_cases h41 : r1.take 1 = [41]
        · rw [if_pos h41]
          have et := take1 h41
          have hl1 := congrArg List.length et
          rw [List.length_cons, List.length_drop, er1, List.length_drop] at hl1
          refine ⟨some (0, enc s), ?_⟩
          rw [h41]
          have : L.length - (r1.drop 1).length = at_ + k + 1 := by rw [List.length_drop, er1, List.length_drop]; omega
          rw [this]
        · rw [if_neg h41]
          right
          exact ⟨_, _, _, r1.take 1, vX, h41, rfl⟩
theorem rec_fn (hfu : 100000 < fu) (n d : Nat) (L : List Nat) (hL : Vd L) (hl : L.length ≤ 50000) (hs : ∀ at_, at_ ≤ L.length → callF G sub tab fu n 5 [.str (stS L), .int (at_ : Int), .int (d : Int)] = resP L (pS d (L.drop at_))) (at_ m : Nat) (ha : at_ ≤ L.length) (hm : (L.drop at_).length < m) (hm2 : m ≤ 60000) :
    callF G sub tab fu (n + 1) 4 [.str (stS L), .int (at_ : Int), .int (d : Int)] = resP L ((pL (pS d) m (L.drop at_)).map fun z => (.rcd z.1, z.2)) := by
  have h := rf_loop (G := G) (sub := sub) (fu := fu) n d L hL hl hs m fu at_ [] none ha hm (by omega) (by rw [List.length_drop, List.length_nil]; omega)
  rw [callF_s fn4 rfl rfl]
  rw [List.map_nil, ← st_c] at h
  have a1 : evB G sub (callF G sub tab fu n) fu (takeB 2 fn4.body) (startE fn4.nn [.str (stS L), .int (at_ : Int), .int (d : Int)]) = .nx [some (0, .str (stS L)), some (0, .int (at_ : Int)), some (0, .int (d : Int)), some (1, .lst []), some (0, .str ","), none] := by
    generalize stS L = S at *
    simp [evB_cons, evB_nil, seqB_nx, seqB_ret, seqB_exc, seqB_bk, seqB_ct, endF_ret, endF_nx, endF_exc, evS, ev, evs, evBop, evo, evc, evSr, R_ok, R_exc, R_some, O_ok, O_exc, startE, getv, lower, cmp_int, cmpne_int, cmp_lt, cmp_le, cmp_gt, cmp_ge, cmp_str, cmpne_str, bin_add, bin_sub, bin_mod, bin_div, bin_mul, itemsOf, enumOf, zipOf, Tg.put, Tg.ids, setAll, wipeE, fn4, takeB]
  have a2 : dropB 2 fn4.body = .cons (.whl (.cmp .eq (.var 4) (.cst (.str ","))) bd4_0) (dropB 3 fn4.body) := rfl
  have a3 : ∀ r, evS G sub (callF G sub tab fu n) fu (.whl (.cmp .eq (.var 4) (.cst (.str ","))) bd4_0) r = whlLoop (ev G sub (callF G sub tab fu n) 9 (.cmp .eq (.var 4) (.cst (.str ",")))) (evB G sub (callF G sub tab fu n) fu bd4_0) fu r := fun r => by rw [evS]
  rw [evB_cut 2, a1, seqB_nx, a2, evB_cons, a3]
  cases hp : pL (pS d) m (L.drop at_) with
  | none =>
    rw [hp] at h
    show _ = CR.exc 0
    rcases h with ⟨r5, e⟩ | ⟨q1, q3, q5, X, vX, hX, e⟩
    · rw [e]
      simp [evB_cons, evB_nil, seqB_nx, seqB_ret, seqB_exc, seqB_bk, seqB_ct, endF_ret, endF_nx, endF_exc, evS, ev, evs, evBop, evo, evc, evSr, R_ok, R_exc, R_some, O_ok, O_exc, startE, getv, lower, cmp_int, cmpne_int, cmp_lt, cmp_le, cmp_gt, cmp_ge, cmp_str, cmpne_str, bin_add, bin_sub, bin_mod, bin_div, bin_mul, itemsOf, enumOf, zipOf, Tg.put, Tg.ids, setAll, wipeE]
    · have c := ne_st vX (vd_lit (L := [41]) rfl)
      rw [decide_eq_false hX, ← st_p2] at c
      rw [e]
      generalize stS L = S at *
      generalize stS X = SX at *
      simp [evB_cons, evB_nil, seqB_nx, seqB_ret, seqB_exc, seqB_bk, seqB_ct, endF_ret, endF_nx, endF_exc, evS, ev, evs, evBop, evo, evc, evSr, R_ok, R_exc, R_some, O_ok, O_exc, startE, getv, lower, cmp_int, cmpne_int, cmp_lt, cmp_le, cmp_gt, cmp_ge, cmp_str, cmpne_str, bin_add, bin_sub, bin_mod, bin_div, bin_mul, itemsOf, enumOf, zipOf, Tg.put, Tg.ids, setAll, wipeE, fn4, dropB, c]
  | some z =>
    obtain ⟨ss, r'⟩ := z
    rw [hp] at h
    obtain ⟨q5, e⟩ := h
    rw [List.nil_append] at e
    show _ = CR.ok 1 (.tup [enc (.rcd ss), .int ((L.length - r'.length : Nat) : Int)])
    have c := ne_st (vd_lit (L := [41]) rfl) (vd_lit (L := [41]) rfl)
    rw [decide_eq_true rfl, ← st_p2] at c
    rw [← st_p2] at e
    have ee : enc (.rcd ss) = .tup [.str "rec", .tup (ss.map enc)] := by rw [enc, encs_map]
    have bt : bltop .tuple [.lst (ss.map enc)] = some (0, .tup (ss.map enc)) := rfl
    rw [ee, e]
    generalize ((L.length - r'.length : Nat) : Int) = EN at *
    generalize stS L = S at *
    generalize ss.map enc = SS at *
    simp [evB_cons, evB_nil, seqB_nx, seqB_ret, seqB_exc, seqB_bk, seqB_ct, endF_ret, endF_nx, endF_exc, evS, ev, evs, evBop, evo, evc, evSr, R_ok, R_exc, R_some, O_ok, O_exc, startE, getv, lower, cmp_int, cmpne_int, cmp_lt, cmp_le, cmp_gt, cmp_ge, cmp_str, cmpne_str, bin_add, bin_sub, bin_mod, bin_div, bin_mul, itemsOf, enumOf, zipOf, Tg.put, Tg.ids, setAll, wipeE, fn4, dropB, c, bt]
theorem sfrom_fn (g : G80 G) (hfu : 100000 < fu) (L : List Nat) (hL : Vd L) (hl : L.length ≤ 50000) : ∀ (d n at_ : Nat), at_ ≤ L.length → callF G sub tab fu (n + 2 * d + 2) 5 [.str (stS L), .int (at_ : Int), .int (d : Int)] = resP L (pS d (L.drop at_))
  | 0, n, at_, ha => by
    have v1 : Vd ((L.drop at_).take 1) := hL.sub fun c hc => List.mem_of_mem_drop (List.mem_of_mem_take hc)
    have c1 := eq_st v1 (vd_lit (L := [40]) rfl)
    rw [← st_p1] at c1
    have c0 : cmpop .gt (.int ((0 : Nat) : Int)) (.int 0) = some false := rfl
    exact sf_leaf g n L hL hl at_ ha ((0 : Nat) : Int) _ _ c1 c0 (Bool.and_false _)
  | d + 1, n, at_, ha => by
    have v1 : Vd ((L.drop at_).take 1) := hL.sub fun c hc => List.mem_of_mem_drop (List.mem_of_mem_take hc)
    have c1 := eq_st v1 (vd_lit (L := [40]) rfl)
    rw [← st_p1] at c1
    have c0 : cmpop .gt (.int ((d + 1 : Nat) : Int)) (.int 0) = some true := by
      show some (decide ((0 : Int) < ((d + 1 : Nat) : Int))) = _
      rw [decide_eq_true (by omega)]
    rw [pS]
    by_cases h : (L.drop at_).take 1 = [40]
    · rw [if_pos h]
      rw [decide_eq_true h] at c1
      have et := take1 h
      have hlen := congrArg List.length et
      rw [List.length_cons, List.length_drop, List.length_drop, List.length_drop] at hlen
      have ih : ∀ at_, at_ ≤ L.length → callF G sub tab fu (n + 2 * d + 2) 5 [.str (stS L), .int (at_ : Int), .int (d : Int)] = resP L (pS d (L.drop at_)) := fun at_ ha => sfrom_fn g hfu L hL hl d n at_ ha
      have er := rec_fn (G := G) (sub := sub) (fu := fu) hfu (n + 2 * d + 2) d L hL hl ih (at_ + 1) ((L.drop at_).length + 1) (by omega) (by rw [List.length_drop, List.length_drop]; omega) (by rw [List.length_drop]; omega)
      have ed : L.drop (at_ + 1) = (L.drop at_).drop 1 := by rw [List.drop_drop]
      rw [ed] at er
      have e1 : ((at_ + 1 : Nat) : Int) = (at_ : Int) + 1 := by omega
      rw [e1] at er
      have s1 := sl_st (L := L) (by omega) at_ (at_ + 1) (by omega)
      rw [e1, show at_ + 1 - at_ = 1 by omega] at s1
      have e2 : ((d + 1 : Nat) : Int) = (d : Int) + 1 := by omega
      rw [e2] at c0
      rw [e2, show n + 2 * (d + 1) + 2 = (n + 2 * d + 2 + 1) + 1 by omega, callF_s fn5 rfl rfl]
      have em : (d : Int) + 1 - 1 = d := by omega
      generalize (pL (pS d) ((L.drop at_).length + 1) ((L.drop at_).drop 1)).map (fun z => ((.rcd z.1 : Sh), z.2)) = RR at *
      cases RR with
      | none =>
        have er : callF G sub tab fu (n + 2 * d + 2 + 1) 4 [.str (stS L), .int ((at_ : Int) + 1), .int (d : Int)] = .exc 0 := er
        show _ = CR.exc 0
        generalize stS ((L.drop at_).take 1) = S1 at *
        generalize stS L = S at *
        simp [evB_cons, evB_nil, seqB_nx, seqB_ret, seqB_exc, seqB_bk, seqB_ct, endF_ret, endF_nx, endF_exc, evS, ev, evs, evBop, evo, evc, evSr, R_ok, R_exc, R_some, O_ok, O_exc, startE, getv, lower, cmp_int, cmpne_int, cmp_lt, cmp_le, cmp_gt, cmp_ge, cmp_str, cmpne_str, bin_add, bin_sub, bin_mod, bin_div, bin_mul, itemsOf, enumOf, zipOf, Tg.put, Tg.ids, setAll, wipeE, fn5, s1, c1, c0, em, er]
      | some z =>
        obtain ⟨s, r'⟩ := z
        have er : callF G sub tab fu (n + 2 * d + 2 + 1) 4 [.str (stS L), .int ((at_ : Int) + 1), .int (d : Int)] = .ok 1 (.tup [enc s, .int ((L.length - r'.length : Nat) : Int)]) := er
        show _ = CR.ok 1 (.tup [enc s, .int ((L.length - r'.length : Nat) : Int)])
        generalize ((L.length - r'.length : Nat) : Int) = EN at *
        generalize stS ((L.drop at_).take 1) = S1 at *
        generalize stS L = S at *
        generalize enc s = EE at *
        simp [evB_cons, evB_nil, seqB_nx, seqB_ret, seqB_exc, seqB_bk, seqB_ct, endF_ret, endF_nx, endF_exc, evS, ev, evs, evBop, evo, evc, evSr, R_ok, R_exc, R_some, O_ok, O_exc, startE, getv, lower, cmp_int, cmpne_int, cmp_lt, cmp_le, cmp_gt, cmp_ge, cmp_str, cmpne_str, bin_add, bin_sub, bin_mod, bin_div, bin_mul, itemsOf, enumOf, zipOf, Tg.put, Tg.ids, setAll, wipeE, fn5, s1, c1, c0, em, er]
    · rw [if_neg h]
      rw [decide_eq_false h] at c1
      exact sf_leaf g (n + 2 * (d + 1)) L hL hl at_ ha _ _ _ c1 c0 rfl
/-- what is read of a text -/
theorem read_fn (g : G80 G) (hfu : 100000 < fu) (n : Nat) (L : List Nat) (hL : Vd L) (hl : L.length ≤ 50000) : match rdS L with
    | some s => callF G sub tab fu (n + 9) 6 [.str (stS L)] = .ok 0 (enc s)
    | none => callF G sub tab fu (n + 9) 6 [.str (stS L)] = .exc 0 := by
  have e : callF G sub tab fu (n + 8) 5 [.str (stS L), .int 0, .int 3] = resP L (pS 3 L) := by
    have := sfrom_fn (G := G) (sub := sub) (fu := fu) g hfu L hL hl 3 n 0 (by omega)
    rw [List.drop_zero] at this
    exact this
  have e1 := len_st (L := L) (by omega)
  unfold rdS
  cases hp : pS 3 L with
  | none =>
    rw [hp] at e
    have e : callF G sub tab fu (n + 8) 5 [.str (stS L), .int 0, .int 3] = .exc 0 := e
    simp only
    rw [callF_s fn6 rfl rfl]
    generalize stS L = S at *
    simp [evB_cons, evB_nil, seqB_nx, seqB_ret, seqB_exc, seqB_bk, seqB_ct, endF_ret, endF_nx, endF_exc, evS, ev, evs, evBop, evo, evc, evSr, R_ok, R_exc, R_some, O_ok, O_exc, startE, getv, lower, cmp_int, cmpne_int, cmp_lt, cmp_le, cmp_gt, cmp_ge, cmp_str, cmpne_str, bin_add, bin_sub, bin_mod, bin_div, bin_mul, itemsOf, enumOf, zipOf, Tg.put, Tg.ids, setAll, wipeE, fn6, g.g0, e]
  | some z =>
    obtain ⟨s, r'⟩ := z
    rw [hp] at e
    have e : callF G sub tab fu (n + 8) 5 [.str (stS L), .int 0, .int 3] = .ok 1 (.tup [enc s, .int ((L.length - r'.length : Nat) : Int)]) := e
    obtain ⟨k, k1, k2, k3, _⟩ := pS_suf 3 hp
    have hrl : r'.length + k = L.length := by rw [k3, List.length_drop]; omega
    have es := is_shape_fn (G := G) (sub := sub) (fu := fu) g (n + 2) s
    have cn : cmpop .ne (.int ((L.length - r'.length : Nat) : Int)) (.int (L.length : Int)) = some (!decide (r' = [])) := by
      rw [cmpne_int]
      congr 2
      rw [Bool.eq_iff_iff, beq_iff_eq, decide_eq_true_eq]
      constructor
      · intro h
        exact List.eq_nil_of_length_eq_zero (by omega)
      · rintro rfl
        simp
    rw [callF_s fn6 rfl rfl]
    cases r' with
    | nil =>
      simp only
      rw [decide_eq_true rfl] at cn
      by_cases hz : lc 3 s = 0
      · rw [if_pos hz]
        rw [decide_eq_false (fun z => z hz)] at es
        generalize ((L.length - ([] : List Nat).length : Nat) : Int) = EN at *
        generalize (L.length : Int) = LI at *
        generalize stS L = S at *
        generalize enc s = EE at *
        simp [evB_cons, evB_nil, seqB_nx, seqB_ret, seqB_exc, seqB_bk, seqB_ct, endF_ret, endF_nx, endF_exc, evS, ev, evs, evBop, evo, evc, evSr, R_ok, R_exc, R_some, O_ok, O_exc, startE, getv, lower, cmp_int, cmpne_int, cmp_lt, cmp_le, cmp_gt, cmp_ge, cmp_str, cmpne_str, bin_add, bin_sub, bin_mod, bin_div, bin_mul, itemsOf, enumOf, zipOf, Tg.put, Tg.ids, setAll, wipeE, fn6, g.g0, e, e1, cn, es]
      · rw [if_neg hz]
        rw [decide_eq_true hz] at es
        simp only
        generalize ((L.length - ([] : List Nat).length : Nat) : Int) = EN at *
        generalize (L.length : Int) = LI at *
        generalize stS L = S at *
        generalize enc s = EE at *
        simp [evB_cons, evB_nil, seqB_nx, seqB_ret, seqB_exc, seqB_bk, seqB_ct, endF_ret, endF_nx, endF_exc, evS, ev, evs, evBop, evo, evc, evSr, R_ok, R_exc, R_some, O_ok, O_exc, startE, getv, lower, cmp_int, cmpne_int, cmp_lt, cmp_le, cmp_gt, cmp_ge, cmp_str, cmpne_str, bin_add, bin_sub, bin_mod, bin_div, bin_mul, itemsOf, enumOf, zipOf, Tg.put, Tg.ids, setAll, wipeE, fn6, g.g0, e, e1, cn, es]
    | cons c r =>
      simp only
      rw [decide_eq_false (by simp)] at cn
      generalize ((L.length - (c :: r).length : Nat) : Int) = EN at *
      generalize (L.length : Int) = LI at *
      generalize stS L = S at *
      generalize enc s = EE at *
      simp [evB_cons, evB_nil, seqB_nx, seqB_ret, seqB_exc, seqB_bk, seqB_ct, endF_ret, endF_nx, endF_exc, evS, ev, evs, evBop, evo, evc, evSr, R_ok, R_exc, R_some, O_ok, O_exc, startE, getv, lower, cmp_int, cmpne_int, cmp_lt, cmp_le, cmp_gt, cmp_ge, cmp_str, cmpne_str, bin_add, bin_sub, bin_mod, bin_div, bin_mul, itemsOf, enumOf, zipOf, Tg.put, Tg.ids, setAll, wipeE, fn6, g.g0, e, e1, cn, es]
end
end Ly

set_option Elab.async false
set_option linter.all false
set_option maxRecDepth 100000
set_option maxHeartbeats 800000
namespace Ly
open PySem
/-! ### texts shown, compared, refused -/
theorem stS_tx {L : List Nat} {n : Nat} (h : Vd L) (k : L.length ≤ n) : Tx n (stS L) := ⟨stS_ok h, by rw [stS_len]; exact k⟩
theorem shL_vd {d : Nat} {s : Sh} (h : Fit d s) : Vd (shL s) := fun c hc => by
  have h1 := shL_sig d s h c hc
  have key : ∀ x ∈ sigs, x < 1114112 := by decide
  exact key c h1
def lb : Nat → Nat
  | 0 => 3
  | d + 1 => 2 + 4 * (lb d + 1)
theorem lb_ge (d : Nat) : 3 ≤ lb d := by
  induction d with
  | zero => exact Nat.le_refl _
  | succ d ih => rw [lb]; omega
theorem glue_le {b : Nat} : ∀ xs : List (List Nat), (∀ x ∈ xs, x.length ≤ b) → (glue xs).length ≤ xs.length * (b + 1)
  | [], _ => by simp [glue]
  | [x], h => by have := h x List.mem_cons_self; simp [glue]; omega
  | x :: y :: r, h => by
    have h1 := h x List.mem_cons_self
    have h2 := glue_le (y :: r) fun z hz => h z (List.mem_cons_of_mem _ hz)
    rw [glue, List.length_append, List.length_cons, List.length_cons (a := x), Nat.succ_mul]
    omega
theorem shL_le : ∀ (d : Nat) (s : Sh), Fit d s → (shL s).length ≤ lb d
  | d, .num, _ => lb_ge d
  | d, .own, _ => lb_ge d
  | d, .strip k, _ => lb_ge d
  | 0, .rcd _, h => h.elim
  | d + 1, .rcd ps, h => by
    have h1 := glue_le (b := lb d) (ps.map shL) fun x hx => by
      obtain ⟨p, hp, rfl⟩ := List.mem_map.mp hx
      exact shL_le d p (h.2.2 p hp)
    rw [List.length_map] at h1
    have h2 : ps.length * (lb d + 1) ≤ 4 * (lb d + 1) := Nat.mul_le_mul_right _ h.2.1
    rw [shL, shLs_map, lb, List.length_cons, List.length_append, List.length_singleton]
    omega
theorem jn_st : ∀ xs : List (List Nat), jn "," (xs.map stS) = stS (glue xs)
  | [] => by decide +kernel
  | [x] => rfl
  | x :: y :: r => by
    have ih := jn_st (y :: r)
    have e : jn "," ((x :: y :: r).map stS) = stS x ++ ("," : Str) ++ jn "," ((y :: r).map stS) := rfl
    rw [e, ih, st_c, stS_app, stS_app, glue]
    simp
theorem iT_st {k : Int} (h : 1 ≤ k ∧ k ≤ 8) : iT k = stS [48 + k.toNat] := by
  rcases sgn_k h with rfl | rfl | rfl | rfl | rfl | rfl | rfl | rfl <;> decide +kernel
section
variable {G : Nat → Option D} {sub : Nat → Nat → Bool} {fu : Nat}
theorem show_fit : ∀ (d n : Nat) (s : Sh), Fit d s → d < n → lb d ≤ 100000 → callF G sub tab fu n 7 [enc s] = .ok 0 (.str (stS (shL s)))
  | d, 0, s, _, hk, _ => by omega
  | d, n + 1, .num, _, _, _ => by
    rw [callF_s fn7 rfl rfl]
    have c1 : cmpop .eq (.str "num") (.str "strip") = some false := by decide +kernel
    have c2 : cmpop .eq (.str "num") (.str "rec") = some false := by decide +kernel
    have i0 : ixop (enc .num) (.int 0) = some (.str "num") := rfl
    rw [show stS (shL .num) = ("num" : Str) from st_num.symm]
    generalize enc .num = EN at *
    simp [evB_cons, evB_nil, seqB_nx, seqB_ret, seqB_exc, seqB_bk, seqB_ct, endF_ret, endF_nx, endF_exc, evS, ev, evs, evBop, evo, evc, evSr, R_ok, R_exc, R_some, O_ok, O_exc, startE, getv, lower, cmp_int, cmpne_int, cmp_lt, cmp_le, cmp_gt, cmp_ge, cmp_str, cmpne_str, bin_add, bin_sub, bin_mod, bin_div, bin_mul, bltop, slop, isaop, itemsOf, seqOf, enumOf, zipOf, Tg.put, Tg.ids, setAll, wipeE, fn7, i0, c1, c2]
  | d, n + 1, .own, _, _, _ => by
    rw [callF_s fn7 rfl rfl]
    have c1 : cmpop .eq (.str "own") (.str "strip") = some false := by decide +kernel
    have c2 : cmpop .eq (.str "own") (.str "rec") = some false := by decide +kernel
    have i0 : ixop (enc .own) (.int 0) = some (.str "own") := rfl
    rw [show stS (shL .own) = ("own" : Str) from st_own.symm]
    generalize enc .own = EN at *
    simp [evB_cons, evB_nil, seqB_nx, seqB_ret, seqB_exc, seqB_bk, seqB_ct, endF_ret, endF_nx, endF_exc, evS, ev, evs, evBop, evo, evc, evSr, R_ok, R_exc, R_some, O_ok, O_exc, startE, getv, lower, cmp_int, cmpne_int, cmp_lt, cmp_le, cmp_gt, cmp_ge, cmp_str, cmpne_str, bin_add, bin_sub, bin_mod, bin_div, bin_mul, bltop, slop, isaop, itemsOf, seqOf, enumOf, zipOf, Tg.put, Tg.ids, setAll, wipeE, fn7, i0, c1, c2]
  | d, n + 1, .strip j, hf, _, _ => by
    have hk : 1 ≤ j ∧ j ≤ 8 := by cases d <;> exact hf
    rw [callF_s fn7 rfl rfl]
    have c1 : cmpop .eq (.str "strip") (.str "strip") = some true := by decide +kernel
    have i0 : ixop (enc (.strip j)) (.int 0) = some (.str "strip") := rfl
    have i1 : ixop (enc (.strip j)) (.int 1) = some (.int j) := rfl
    have hs := bstr_int (i := j) (by omega) (by omega)
    rw [iT_st hk] at hs
    have v1 : Vd [48 + j.toNat] := fun c hc => by rw [List.mem_singleton.mp hc]; omega
    have b1 := bstr_add tx_b1 (stS_tx (n := 1) v1 (by simp)) (by omega)
    have b2 := bstr_add (tx_b1.app (stS_tx (n := 1) v1 (by simp))) tx_b2 (by omega)
    have ef : ("[" : Str) ++ stS [48 + j.toNat] ++ ("]" : Str) = stS (shL (.strip j)) := by
      rw [st_b1, st_b2, stS_app, show (⟨#[93]⟩ : Str) = stS [93] from rfl, stS_app, shL]
      rfl
    rw [ef] at b2
    generalize stS (shL (.strip j)) = RS at *
    generalize ("[" : Str) ++ stS [48 + j.toNat] = R1 at *
    generalize stS [48 + j.toNat] = R0 at *
    generalize enc (.strip j) = EN at *
    simp [evB_cons, evB_nil, seqB_nx, seqB_ret, seqB_exc, seqB_bk, seqB_ct, endF_ret, endF_nx, endF_exc, evS, ev, evs, evBop, evo, evc, evSr, R_ok, R_exc, R_some, O_ok, O_exc, startE, getv, lower, cmp_int, cmpne_int, cmp_lt, cmp_le, cmp_gt, cmp_ge, cmp_str, cmpne_str, bin_add, bin_sub, bin_mod, bin_div, bin_mul, slop, isaop, itemsOf, seqOf, enumOf, zipOf, Tg.put, Tg.ids, setAll, wipeE, fn7, i0, i1, c1, hs, b1, b2]
  | 0, n + 1, .rcd ps, h, _, _ => h.elim
  | d + 1, n + 1, .rcd ps, h, hk, hb => by
    rw [lb] at hb
    have ih : ∀ p ∈ ps, callF G sub tab fu n 7 [enc p] = .ok 0 (.str (stS (shL p))) := fun p hq => show_fit d n p (h.2.2 p hq) (by omega) (by omega)
    have tx : ∀ s ∈ (ps.map shL).map stS, Tx (lb d) s := fun s hs => by
      obtain ⟨x, hx, rfl⟩ := List.mem_map.mp hs
      obtain ⟨p, hq, rfl⟩ := List.mem_map.mp hx
      exact stS_tx (shL_vd (h.2.2 p hq)) (shL_le d p (h.2.2 p hq))
    have hl : ((ps.map shL).map stS).length ≤ 4 := by rw [List.length_map, List.length_map]; exact h.2.1
    have hfit : ((ps.map shL).map stS).length * (lb d + 1) ≤ 4 * (lb d + 1) := Nat.mul_le_mul_right _ hl
    have hj := mjoin tx_c tx (by omega)
    have jx : Tx (4 * (lb d + 1)) (jn "," ((ps.map shL).map stS)) := (jn_tx tx_c tx).mono hfit
    rw [jn_st] at hj jx
    have b1 := bstr_add tx_p1 jx (by omega)
    have b2 := bstr_add (tx_p1.app jx) tx_p2 (by omega)
    have ef : ("(" : Str) ++ stS (glue (ps.map shL)) ++ (")" : Str) = stS (shL (.rcd ps)) := by
      rw [st_p1, st_p2, stS_app, stS_app, shL, shLs_map]
      rfl
    rw [ef] at b2
    have c1 : cmpop .eq (.str "rec") (.str "strip") = some false := by decide +kernel
    have c2 : cmpop .eq (.str "rec") (.str "rec") = some true := by decide +kernel
    have i0 : ixop (enc (.rcd ps)) (.int 0) = some (.str "rec") := rfl
    have i1 : ixop (enc (.rcd ps)) (.int 1) = some (.tup (ps.map enc)) := by
      show some (D.tup (encs ps)) = _
      rw [encs_map]
    have em : ((ps.map shL).map stS).map D.str = ps.map fun p => D.str (stS (shL p)) := by rw [List.map_map, List.map_map]; rfl
    rw [em] at hj
    rw [callF_s fn7 rfl rfl]
    have hpl := h.2.1
    generalize stS (shL (.rcd ps)) = RS at *
    generalize ("(" : Str) ++ stS (glue (ps.map shL)) = R1 at *
    generalize stS (glue (ps.map shL)) = R0 at *
    generalize enc (.rcd ps) = EN at *
    simp [evB_cons, evB_nil, seqB_nx, seqB_ret, seqB_exc, seqB_bk, seqB_ct, endF_ret, endF_nx, endF_exc, evS, ev, evs, evBop, evo, evc, evSr, R_ok, R_exc, R_some, O_ok, O_exc, startE, getv, lower, cmp_int, cmpne_int, cmp_lt, cmp_le, cmp_gt, cmp_ge, cmp_str, cmpne_str, bin_add, bin_sub, bin_mod, bin_div, bin_mul, bltop, slop, isaop, itemsOf, seqOf, enumOf, zipOf, Tg.put, Tg.ids, setAll, wipeE, fn7, i0, i1, c1, c2]
    rw [compT_map (g := enc) (fun p => D.str (stS (shL p))) ps (fun p hq => by
      have q := ih p hq
      generalize enc p = EP at *
      simp [compF, evB_cons, evB_nil, seqB_nx, seqB_ret, seqB_exc, seqB_bk, seqB_ct, endF_ret, endF_nx, endF_exc, evS, ev, evs, evBop, evo, evc, evSr, R_ok, R_exc, R_some, O_ok, O_exc, startE, getv, lower, cmp_int, cmpne_int, cmp_lt, cmp_le, cmp_gt, cmp_ge, cmp_str, cmpne_str, bin_add, bin_sub, bin_mod, bin_div, bin_mul, bltop, slop, isaop, itemsOf, seqOf, enumOf, zipOf, Tg.put, Tg.ids, setAll, wipeE, q]) (by omega)]
    simp [evB_cons, evB_nil, seqB_nx, seqB_ret, seqB_exc, seqB_bk, seqB_ct, endF_ret, endF_nx, endF_exc, evS, ev, evs, evBop, evo, evc, evSr, R_ok, R_exc, R_some, O_ok, O_exc, startE, getv, lower, cmp_int, cmpne_int, cmp_lt, cmp_le, cmp_gt, cmp_ge, cmp_str, cmpne_str, bin_add, bin_sub, bin_mod, bin_div, bin_mul, bltop, slop, isaop, itemsOf, seqOf, enumOf, zipOf, Tg.put, Tg.ids, setAll, wipeE, mty, hj, b1, b2]
end
/-! the law's comparing -/
mutual
def smp : Nat → D → Bool
  | _, .int _ => true
  | _, .str s => PyData.strOk s
  | n + 1, .tup ds => smps n ds && (decide (ds.length ≤ 1000) && ds.all fun d => !isPr d)
  | _, _ => false
def smps : Nat → List D → Bool
  | _, [] => true
  | n, d :: ds => smp n d && smps n ds
end
theorem smps_mem {n : Nat} : ∀ {ds : List D}, smps n ds = true → ∀ d ∈ ds, smp n d = true
  | [], _, _, h => by simp at h
  | e :: ds, h, d, hd => by
    simp only [smps, Bool.and_eq_true] at h
    rcases List.mem_cons.mp hd with rfl | hd
    · exact h.1
    · exact smps_mem h.2 d hd
theorem smps_of {n : Nat} : ∀ {ds : List D}, (∀ d ∈ ds, smp n d = true) → smps n ds = true
  | [], _ => rfl
  | e :: ds, h => by
    simp only [smps, Bool.and_eq_true]
    exact ⟨h e List.mem_cons_self, smps_of fun d hd => h d (List.mem_cons_of_mem _ hd)⟩
theorem isPr_enc (s : Sh) : isPr (enc s) = false := by
  cases s with
  | num => rfl
  | own => rfl
  | strip k => rfl
  | rcd ps =>
    cases ps with
    | nil => rfl
    | cons p ps => cases p <;> rfl
theorem isPr_encs (ps : List Sh) : isPr (.tup (ps.map enc)) = false := by
  cases ps with
  | nil => rfl
  | cons p ps => cases p <;> cases ps <;> rfl
theorem smp_sh : ∀ (d : Nat) (s : Sh), Fit d s → smp (2 * d + 1) (enc s) = true
  | d, .num, _ => by simp [enc, smp, smps, ok_num, isPr]
  | d, .own, _ => by simp [enc, smp, smps, ok_own, isPr]
  | d, .strip k, _ => by simp [enc, smp, smps, ok_strip, isPr]
  | 0, .rcd ps, h => h.elim
  | d + 1, .rcd ps, h => by
    have h1 : smps (2 * d + 1) (ps.map enc) = true := smps_of fun x hx => by
      obtain ⟨t, ht, rfl⟩ := List.mem_map.mp hx
      exact smp_sh d t (h.2.2 t ht)
    have h2 : ps.length ≤ 1000 := by have := h.2.1; omega
    have h3 : ((ps.map enc).all fun d => !isPr d) = true := by
      rw [List.all_eq_true]
      intro x hx
      obtain ⟨t, ht, rfl⟩ := List.mem_map.mp hx
      rw [isPr_enc]; rfl
    have h4 := isPr_encs ps
    rw [show 2 * (d + 1) + 1 = (2 * d + 1) + 1 + 1 by omega, enc, encs_map]
    generalize hX : ps.map enc = X at *
    have hl : X.length ≤ 1000 := by rw [← hX, List.length_map]; exact h2
    simp only [smp, smps, ok_rec, h1, h3, hl, decide_true, Bool.and_true, Bool.true_and, List.all_cons, List.all_nil, h4, List.length_cons, List.length_nil]
    rfl
theorem zip_self : ∀ ds : List D, zipD ds ds = ds.map fun d => .tup [d, d]
  | [] => rfl
  | d :: ds => by rw [zipD, zip_self ds]; rfl
theorem zipOk_self : ∀ ds : List D, (ds.all fun d => !isPr d) = true → zipOk ds ds = true
  | [], _ => rfl
  | d :: ds, h => by
    rw [List.all_cons, Bool.and_eq_true] at h
    rw [zipOk, zipOk_self ds h.2]
    have := h.1
    cases hp : isPr d with
    | true => rw [hp] at this; cases this
    | false => rfl
section
variable {G : Nat → Option D} {sub : Nat → Nat → Bool} {fu : Nat}
theorem same_fn : ∀ (k n : Nat) (d : D), smp k d = true → k < n → callF G sub tab fu n 10 [d, d] = .ok 0 (.bl true)
  | k, 0, d, _, h => by omega
  | k, n + 1, .int i, _, _ => by
    rw [callF_s fn10 rfl rfl]
    simp [evB_cons, evB_nil, seqB_nx, seqB_ret, seqB_exc, seqB_bk, seqB_ct, endF_ret, endF_nx, endF_exc, evS, ev, evs, evBop, evo, evc, evSr, R_ok, R_exc, R_some, O_ok, O_exc, startE, getv, lower, ixop, atD, L2.atI, L2.ixN, cmp_int, cmpne_int, cmp_lt, cmp_le, cmp_gt, cmp_ge, cmp_str, cmpne_str, bin_add, bin_sub, bin_mod, bin_div, bin_mul, bltop, slop, isaop, itemsOf, seqOf, enumOf, zipOf, Tg.put, Tg.ids, setAll, wipeE, fn10]
  | k, n + 1, .str s, h, _ => by
    have h' : PyData.strOk s = true := by cases k <;> simpa [smp] using h
    rw [callF_s fn10 rfl rfl]
    simp [evB_cons, evB_nil, seqB_nx, seqB_ret, seqB_exc, seqB_bk, seqB_ct, endF_ret, endF_nx, endF_exc, evS, ev, evs, evBop, evo, evc, evSr, R_ok, R_exc, R_some, O_ok, O_exc, startE, getv, lower, ixop, atD, L2.atI, L2.ixN, cmp_int, cmpne_int, cmp_lt, cmp_le, cmp_gt, cmp_ge, cmp_str, cmpne_str, bin_add, bin_sub, bin_mod, bin_div, bin_mul, bltop, slop, isaop, itemsOf, seqOf, enumOf, zipOf, Tg.put, Tg.ids, setAll, wipeE, fn10, h']
  | 0, n + 1, .tup ds, h, _ => by simp [smp] at h
  | k + 1, n + 1, .tup ds, h, hn => by
    simp only [smp, Bool.and_eq_true, decide_eq_true_eq] at h
    have hm := smps_mem h.1
    have hl : ds.length ≤ 16777216 := by have := h.2.1; omega
    have hz : zipOf (.tup ds) (.tup ds) = some (ds.map fun d => .tup [d, d]) := by
      show (if zipOk ds ds then some (zipD ds ds) else none) = _
      rw [if_pos (zipOk_self ds h.2.2), zip_self]
    have ha : bltop .all [.lst (ds.map fun _ => D.bl true)] = some (0, .bl true) := by
      rw [all_blt (fun _ => true) ds]
      congr 3
      rw [List.all_eq_true]
      intro _ _
      rfl
    have hne : cmpop .ne (.int (ds.length : Int)) (.int (ds.length : Int)) = some false := by rw [cmpne_int]; simp
    have hbl : bltop .len [.tup ds] = some (0, .int (ds.length : Int)) := rfl
    have ist : isaop (.tup ds) .tuple = some true := rfl
    rw [callF_s fn10 rfl rfl]
    simp [evB_cons, evB_nil, seqB_nx, seqB_ret, seqB_exc, seqB_bk, seqB_ct, endF_ret, endF_nx, endF_exc, evS, ev, evs, evBop, evo, evc, evSr, R_ok, R_exc, R_some, O_ok, O_exc, startE, getv, lower, cmp_int, cmpne_int, cmp_lt, cmp_le, cmp_gt, cmp_ge, cmp_str, cmpne_str, bin_add, bin_sub, bin_mod, bin_div, bin_mul, itemsOf, enumOf, Tg.put, Tg.ids, setAll, wipeE, fn10, ist, hbl, hne, hz]
    rw [compT_map (g := fun d => .tup [d, d]) (fun _ => D.bl true) ds (fun d hd => by
      have q := same_fn k n d (hm d hd) (by omega)
      simp [compF, evB_cons, evB_nil, seqB_nx, seqB_ret, seqB_exc, seqB_bk, seqB_ct, endF_ret, endF_nx, endF_exc, evS, ev, evs, evBop, evo, evc, evSr, R_ok, R_exc, R_some, O_ok, O_exc, startE, getv, lower, cmp_int, cmpne_int, cmp_lt, cmp_le, cmp_gt, cmp_ge, cmp_str, cmpne_str, bin_add, bin_sub, bin_mod, bin_div, bin_mul, itemsOf, enumOf, Tg.put, Tg.ids, setAll, wipeE, q]) hl]
    simp [evB_cons, evB_nil, seqB_nx, seqB_ret, seqB_exc, seqB_bk, seqB_ct, endF_ret, endF_nx, endF_exc, evS, ev, evs, evBop, evo, evc, evSr, R_ok, R_exc, R_some, O_ok, O_exc, startE, getv, lower, cmp_int, cmpne_int, cmp_lt, cmp_le, cmp_gt, cmp_ge, cmp_str, cmpne_str, bin_add, bin_sub, bin_mod, bin_div, bin_mul, itemsOf, enumOf, Tg.put, Tg.ids, setAll, wipeE, ha]
  | k, n + 1, .non, h, _ => by cases k <;> simp [smp] at h
  | k, n + 1, .bl _, h, _ => by cases k <;> simp [smp] at h
  | k, n + 1, .lst _, h, _ => by cases k <;> simp [smp] at h
  | k, n + 1, .dic _ _ _, h, _ => by cases k <;> simp [smp] at h
  | k, n + 1, .exn, h, _ => by cases k <;> simp [smp] at h
end
section
variable (sub : Nat → Nat → Bool)
structure SF : Prop where
  s0 : sub 0 0 = true
  s1 : sub 0 1 = true
  s2 : sub 0 2 = false
  s3 : sub 0 3 = false
  s4 : sub 0 4 = false
  s5 : sub 0 5 = false
  s6 : sub 0 6 = false
  s7 : sub 0 7 = false
  s8 : sub 0 8 = false
  s9 : sub 0 9 = true
end
section
variable {G : Nat → Option D} {sub : Nat → Nat → Bool} {fu : Nat}
theorem refused_fn (g : G80 G) (sf : SF sub) (hfu : 100000 < fu) (n : Nat) (L : List Nat) (hL : Vd L) (hl : L.length ≤ 50000) (h : rdS L = none) : callF G sub tab fu (n + 10) 13 [.str (stS L)] = .ok 0 (.bl true) := by
  have e := read_fn (G := G) (sub := sub) (fu := fu) g hfu n L hL hl
  rw [h] at e
  have e : callF G sub tab fu (n + 9) 6 [.str (stS L)] = .exc 0 := e
  rw [callF_s fn13 rfl rfl]
  generalize stS L = S at *
  simp [evB_cons, evB_nil, seqB_nx, seqB_ret, seqB_exc, seqB_bk, seqB_ct, endF_ret, endF_nx, endF_exc, evS, ev, evs, evBop, evo, evc, evSr, R_ok, R_exc, R_some, O_ok, O_exc, startE, getv, lower, ixop, atD, L2.atI, L2.ixN, cmp_int, cmpne_int, cmp_lt, cmp_le, cmp_gt, cmp_ge, cmp_str, cmpne_str, bin_add, bin_sub, bin_mod, bin_div, bin_mul, bltop, slop, isaop, itemsOf, seqOf, enumOf, zipOf, Tg.put, Tg.ids, setAll, wipeE, fn13, e, sf.s0, sf.s1, sf.s2, sf.s3, sf.s4, sf.s5, sf.s6, sf.s7, sf.s8, sf.s9, noX]
theorem read_ok (g : G80 G) (hfu : 100000 < fu) (n : Nat) (s : Sh) (h : Wf s) : callF G sub tab fu (n + 9) 6 [.str (stS (shL s))] = .ok 0 (enc s) := by
  have e := read_fn (G := G) (sub := sub) (fu := fu) g hfu n (shL s) (shL_vd h.1) (by have := shL_le 3 s h.1; have : lb 3 = 318 := rfl; omega)
  rw [rdS_show h] at e
  exact e
end
end Ly

set_option Elab.async false
set_option linter.all false
set_option maxRecDepth 100000
set_option maxHeartbeats 800000
namespace Ly
open PySem
/-! ### texts that are none -/
def odX : Str := stS (91 :: (List.replicate 31 49 ++ [93]))
def od1 : List Str := ["", "()", "[]", "[0]", "[9]", "[08]", "[-1]", "[+1]", "[1", "(num", "num)", "(num,)", "(,num)"]
def od2 : List Str := ["(num,num,num,num,num)", "nums", "nun", "NUM", "strip", odX, "((num,num),(num,num"]
def od3 : List Str := ["[8,8]", "(num;num)", "((((num))))", "(num,(num,num),(num,num),((num,num),num,num))"]
def oddS : List Str := od1 ++ od2 ++ od3
theorem odd_none : (oddS.all fun s => (rdS s.cps.toList).isNone && (s.cps.toList.all (fun c => decide (c < 1114112)) && decide (s.cps.toList.length ≤ 100))) = true := by decide +kernel
theorem st_self (s : Str) : stS s.cps.toList = s := by
  show Str.mk s.cps.toList.toArray = s
  rw [Array.toArray_toList]
def sgs : List Nat := [32, 58, 47, 42, 46, 64, 45, 43, 65, 90, 97, 98, 99, 100, 101, 102, 103, 123, 125, 95, 126, 34, 39]
theorem sgs_st : (" :/*.@-+AZabcdefg{}_~\"'" : Str) = stS sgs := by decide +kernel
theorem sgs_no : ∀ c ∈ sgs, c ∉ sigs ∧ c < 1114112 := by decide
theorem cut_m1 {α : Type} (L : List α) : cutD L none (some (-1)) = L.dropLast := by
  rw [cut_to]
  have : HT.sIx L.length L.length (some (-1)) = L.length - 1 := by
    unfold HT.sIx
    simp only
    rw [if_pos (by omega)]
    omega
  rw [this, List.dropLast_eq_take]
theorem cut_from1 {α : Type} (L : List α) (a : Nat) : cutD L (some (a : Int)) none = L.drop a := by
  unfold cutD
  rw [sIx_some _ _ _ (by omega), Int.toNat_natCast]
  have h : HT.sIx L.length L.length none = L.length := rfl
  rw [h]
  by_cases ha : a ≤ L.length
  · rw [Nat.min_eq_left ha, List.take_of_length_le (by rw [List.length_drop]; omega)]
  · rw [Nat.min_eq_right (by omega), List.drop_of_length_le (Nat.le_refl _), List.drop_of_length_le (show L.length ≤ a by omega)]
    simp
theorem cut_take {α : Type} (xs : List α) (j : Nat) : cutD xs none (some (j : Int)) = xs.take j := by
  rw [cut_to, sIx_some _ _ _ (by omega), Int.toNat_natCast, ← List.take_take, List.take_length]
theorem slS {L : List Nat} (hl : L.length ≤ 16777216) (lo hi : Option Int) : slop (.str (stS L)) lo hi = some (0, .str (stS (cutD L lo hi))) := by
  show (if (stS L).length ≤ LN then some (0, D.str ⟨(cutD (stS L).cps.toList lo hi).toArray⟩) else none) = _
  rw [if_pos (by rw [stS_len]; exact hl)]
  have : (stS L).cps.toList = L := by simp [stS]
  rw [this]
  rfl
theorem bst_add {a b : List Nat} (h : a.length + b.length ≤ 16777216) : binop .add (.str (stS a)) (.str (stS b)) = some (0, .str (stS (a ++ b))) := by
  show (if (stS a).length + (stS b).length ≤ LN then some (0, D.str (stS a ++ stS b)) else none) = _
  rw [stS_len, stS_len, if_pos h, stS_app]
theorem ix_mod {α : Type} (f : α → D) (xs : List α) (x : Int) (h : 0 < xs.length) : ∃ y ∈ xs, ixop (.lst (xs.map f)) (.int (x % (xs.length : Int))) = some (f y) := by
  have h0 : 0 ≤ x % (xs.length : Int) := Int.emod_nonneg _ (by omega)
  have h1 : x % (xs.length : Int) < (xs.length : Int) := Int.emod_lt_of_pos _ (by omega)
  have hk : (x % (xs.length : Int)).toNat < xs.length := by omega
  refine ⟨xs[(x % (xs.length : Int)).toNat], List.getElem_mem hk, ?_⟩
  show L2.atI (xs.map f) _ = _
  unfold L2.atI L2.ixN
  rw [if_pos h0, List.length_map, if_pos (by omega)]
  simp only [Option.bind_some, List.getElem?_map, List.getElem?_eq_getElem hk]
  rfl
section
variable {G : Nat → Option D} {sub : Nat → Nat → Bool} {fu : Nat}
theorem odd_fn (n : Nat) (c : Int) : ∃ s ∈ oddS, callF G sub tab fu (n + 1) 11 [.int c] = .ok 0 (.str s) := by
  have hm : binop .mul (.str "1") (.int 31) = some (0, .str (stS (List.replicate 31 49))) := by
    show (if 2 ≤ (31 : Int) ∧ (31 : Int) ≤ 1000 ∧ 1 ≤ ("1" : Str).length ∧ ("1" : Str).length ≤ 1000 then some (0, D.str ⟨(List.replicate (31 : Int).toNat ("1" : Str).cps).foldl (· ++ ·) #[]⟩) else none) = _
    rw [if_pos ⟨by omega, by omega, by decide +kernel, by decide +kernel⟩]
    exact congrArg (fun s => some (0, D.str s)) (by decide +kernel : (⟨(List.replicate (31 : Int).toNat ("1" : Str).cps).foldl (· ++ ·) #[]⟩ : Str) = stS (List.replicate 31 49))
  have hb1 : binop .add (.str "[") (.str (stS (List.replicate 31 49))) = some (0, .str (stS (91 :: List.replicate 31 49))) := by
    rw [st_b1]
    exact bst_add (by simp)
  have hb2 : binop .add (.str (stS (91 :: List.replicate 31 49))) (.str "]") = some (0, .str odX) := by
    rw [st_b2]
    exact bst_add (b := [93]) (by simp)
  have h1 : binop .add (.lst [.str "", .str "()", .str "[]", .str "[0]", .str "[9]", .str "[08]", .str "[-1]", .str "[+1]", .str "[1", .str "(num", .str "num)", .str "(num,)", .str "(,num)"]) (.lst [.str "(num,num,num,num,num)", .str "nums", .str "nun", .str "NUM", .str "strip", .str odX, .str "((num,num),(num,num"]) = some (1, .lst ((od1 ++ od2).map D.str)) := bin_cat _ _ (by simp)
  have h2 : binop .add (.lst ((od1 ++ od2).map D.str)) (.lst [.str "[8,8]", .str "(num;num)", .str "((((num))))", .str "(num,(num,num),(num,num),((num,num),num,num))"]) = some (1, .lst (oddS.map D.str)) := by
    unfold oddS
    rw [List.map_append (l₁ := od1 ++ od2)]
    exact bin_cat _ _ (by simp [od1, od2])
  obtain ⟨s, hs, hx⟩ := ix_mod D.str oddS c (by decide)
  have hlen : (oddS.length : Int) = 24 := rfl
  rw [hlen] at hx
  refine ⟨s, hs, ?_⟩
  have bm := bin_mod c 24 (by decide)
  rw [callF_s fn11 rfl rfl]
  generalize oddS.map D.str = O3 at *
  generalize (od1 ++ od2).map D.str = O2 at *
  generalize odX = OX at *
  generalize stS (91 :: List.replicate 31 49) = R2 at *
  generalize stS (List.replicate 31 49) = R1 at *
  simp [evB_cons, evB_nil, seqB_nx, seqB_ret, seqB_exc, seqB_bk, seqB_ct, endF_ret, endF_nx, endF_exc, evS, ev, evs, evBop, evo, evc, evSr, R_ok, R_exc, R_some, O_ok, O_exc, startE, getv, lower, cmp_int, cmpne_int, cmp_lt, cmp_le, cmp_gt, cmp_ge, cmp_str, cmpne_str, bltop, slop, isaop, itemsOf, seqOf, enumOf, zipOf, Tg.put, Tg.ids, setAll, wipeE, fn11, hm, hb1, hb2, h1, h2, bm, hx]
/-- what is spoiled is no shape's text -/
theorem spoiled_fn (n : Nat) (s : Sh) (h : Wf s) (c : Int) : ∃ L, Vd L ∧ L.length ≤ 10000 ∧ rdS L = none ∧ callF G sub tab fu (n + 2) 12 [.str (stS (shL s)), .int c] = .ok 0 (.str (stS L)) := by
  have hv := shL_vd h.1
  have hl := shL_le 3 s h.1
  have hl3 : lb 3 = 318 := rfl
  rw [hl3] at hl
  have hpos := shL_pos s
  have hln := len_st (L := shL s) (by omega)
  have b8 := bin_mod c 8 (by decide)
  have d8 := bin_div c 8 (by decide)
  have d5 := bin_div c 512 (by decide)
  have m5 := bin_mod (c / 512) 23 (by decide)
  have m4 := bin_mod (c / 8) 4 (by decide)
  have ba : binop .add (.int ((shL s).length : Int)) (.int 1) = some (0, .int (((shL s).length + 1 : Nat) : Int)) := by rw [bin_add]; rfl
  have bt := bin_mod (c / 8) (((shL s).length + 1 : Nat) : Int) (by omega)
  obtain ⟨a, ha⟩ : ∃ a : Nat, c / 8 % (((shL s).length + 1 : Nat) : Int) = (a : Int) := ⟨(c / 8 % (((shL s).length + 1 : Nat) : Int)).toNat, by
    have := Int.emod_nonneg (c / 8) (show (((shL s).length + 1 : Nat) : Int) ≠ 0 by omega)
    omega⟩
  rw [ha] at bt
  have vsub : ∀ {M : List Nat}, (∀ x ∈ M, x ∈ shL s) → Vd M := fun k => hv.sub k
  have hc8 : c % 8 < 3 ∨ c % 8 = 3 ∨ c % 8 = 4 ∨ c % 8 = 5 ∨ c % 8 = 6 ∨ c % 8 = 7 := by omega
  rw [callF_s fn12 rfl rfl]
  rcases hc8 with hc | hc | hc | hc | hc | hc
  · -- a sign put in
    have c1 : cmpop .lt (.int (c % 8)) (.int 3) = some true := by
      show some (decide (c % 8 < 3)) = _
      rw [decide_eq_true hc]
    have hx : ∃ y ∈ sgs, ixop (.str " :/*.@-+AZabcdefg{}_~\"'") (.int (c / 512 % 23)) = some (.str (stS [y])) := by
      obtain ⟨y, hy, e⟩ := ix_mod (fun c => D.str (stS [c])) sgs (c / 512) (by decide)
      refine ⟨y, hy, ?_⟩
      rw [sgs_st]
      show (if (stS sgs).length ≤ LN then (L2.atI (stS sgs).cps.toList (c / 512 % 23)).map fun c => D.str ⟨#[c]⟩ else none) = _
      rw [if_pos (by rw [stS_len]; decide)]
      have e2 : L2.atI (sgs.map fun c => D.str (stS [c])) (c / 512 % 23) = (L2.atI sgs (c / 512 % 23)).map fun c => D.str (stS [c]) := by
        unfold L2.atI
        rw [List.length_map]
        cases L2.ixN sgs.length (c / 512 % 23) with
        | none => rfl
        | some k => simp
      have e3 : L2.atI (sgs.map fun c => D.str (stS [c])) (c / 512 % 23) = some (.str (stS [y])) := e
      rw [e2] at e3
      have e4 : (stS sgs).cps.toList = sgs := by simp [stS]
      rw [e4]
      exact e3
    obtain ⟨y, hy, hx⟩ := hx
    obtain ⟨y1, y2⟩ := sgs_no y hy
    have s1 := slS (L := shL s) (by omega) none (some (a : Int))
    have s2 := slS (L := shL s) (by omega) (some (a : Int)) none
    rw [cut_take] at s1
    rw [cut_from1] at s2
    have b1 := bst_add (a := (shL s).take a) (b := [y]) (by simp; omega)
    have b2 := bst_add (a := (shL s).take a ++ [y]) (b := (shL s).drop a) (by simp; omega)
    refine ⟨(shL s).take a ++ y :: (shL s).drop a, fun x hx => ?_, by simp; omega, none_ins y1, ?_⟩
    · rcases List.mem_append.mp hx with hx | hx
      · exact hv x (List.mem_of_mem_take hx)
      · rcases List.mem_cons.mp hx with rfl | hx
        · exact y2
        · exact hv x (List.mem_of_mem_drop hx)
    · have ef : (shL s).take a ++ [y] ++ (shL s).drop a = (shL s).take a ++ y :: (shL s).drop a := by simp
      rw [ef] at b2
      generalize stS ((shL s).take a ++ y :: (shL s).drop a) = RS at *
      generalize stS ((shL s).take a ++ [y]) = R1 at *
      generalize stS ((shL s).take a) = T1 at *
      generalize stS ((shL s).drop a) = T2 at *
      generalize stS (shL s) = SS at *
      generalize stS [y] = SY at *
      generalize ((shL s).length : Int) = LI at *
      generalize (((shL s).length + 1 : Nat) : Int) = LI1 at *
      clear ha hv
      generalize c / 8 = C8 at *
      generalize c / 512 % 23 = C5 at *
      generalize c / 512 = C51 at *
      generalize c % 8 = CM at *
      simp [evB_cons, evB_nil, seqB_nx, seqB_ret, seqB_exc, seqB_bk, seqB_ct, endF_ret, endF_nx, endF_exc, evS, ev, evs, evBop, evo, evc, evSr, R_ok, R_exc, R_some, O_ok, O_exc, startE, getv, lower, cmp_str, cmpne_str, itemsOf, seqOf, enumOf, zipOf, Tg.put, Tg.ids, setAll, wipeE, fn12, hln, b8, d8, ba, bt, c1, s1, s2, d5, m5, hx, b1, b2]
  · have c1 : cmpop .lt (.int (c % 8)) (.int 3) = some false := by rw [hc]; rfl
    have c3 : cmpop .eq (.int (c % 8)) (.int 3) = some true := by rw [hc]; rfl
    have s1 := slS (L := shL s) (by omega) none (some (-1))
    rw [cut_m1] at s1
    refine ⟨(shL s).dropLast, vsub fun x hx => (by rw [List.dropLast_eq_take] at hx; exact List.mem_of_mem_take hx), by rw [List.length_dropLast]; omega, none_last h, ?_⟩
    generalize stS (shL s).dropLast = RS at *
    generalize stS (shL s) = SS at *
    generalize ((shL s).length : Int) = LI at *
    generalize (((shL s).length + 1 : Nat) : Int) = LI1 at *
    clear ha hv hc
    generalize c / 8 = C8 at *
    generalize c % 8 = CM at *
    simp [evB_cons, evB_nil, seqB_nx, seqB_ret, seqB_exc, seqB_bk, seqB_ct, endF_ret, endF_nx, endF_exc, evS, ev, evs, evBop, evo, evc, evSr, R_ok, R_exc, R_some, O_ok, O_exc, startE, getv, lower, cmp_str, cmpne_str, itemsOf, seqOf, enumOf, zipOf, Tg.put, Tg.ids, setAll, wipeE, fn12, hln, b8, d8, ba, bt, c1, c3, s1]
  · have c1 : cmpop .lt (.int (c % 8)) (.int 3) = some false := by rw [hc]; rfl
    have c3 : cmpop .eq (.int (c % 8)) (.int 3) = some false := by rw [hc]; rfl
    have c4 : cmpop .eq (.int (c % 8)) (.int 4) = some true := by rw [hc]; rfl
    have s1 := slS (L := shL s) (by omega) (some 1) none
    rw [show (1 : Int) = ((1 : Nat) : Int) from rfl, cut_from1] at s1
    rw [show ((1 : Nat) : Int) = 1 from rfl] at s1
    refine ⟨(shL s).drop 1, vsub fun x hx => List.mem_of_mem_drop hx, by rw [List.length_drop]; omega, none_first h, ?_⟩
    generalize stS ((shL s).drop 1) = RS at *
    generalize stS (shL s) = SS at *
    generalize ((shL s).length : Int) = LI at *
    generalize (((shL s).length + 1 : Nat) : Int) = LI1 at *
    clear ha hv hc
    generalize c / 8 = C8 at *
    generalize c % 8 = CM at *
    simp [evB_cons, evB_nil, seqB_nx, seqB_ret, seqB_exc, seqB_bk, seqB_ct, endF_ret, endF_nx, endF_exc, evS, ev, evs, evBop, evo, evc, evSr, R_ok, R_exc, R_some, O_ok, O_exc, startE, getv, lower, cmp_str, cmpne_str, itemsOf, seqOf, enumOf, zipOf, Tg.put, Tg.ids, setAll, wipeE, fn12, hln, b8, d8, ba, bt, c1, c3, c4, s1]
  · have c1 : cmpop .lt (.int (c % 8)) (.int 3) = some false := by rw [hc]; rfl
    have c3 : cmpop .eq (.int (c % 8)) (.int 3) = some false := by rw [hc]; rfl
    have c4 : cmpop .eq (.int (c % 8)) (.int 4) = some false := by rw [hc]; rfl
    have c5 : cmpop .eq (.int (c % 8)) (.int 5) = some true := by rw [hc]; rfl
    have b1 := bst_add (a := shL s) (b := shL s) (by omega)
    refine ⟨shL s ++ shL s, vsub fun x hx => (List.mem_append.mp hx).elim id id, by rw [List.length_append]; omega, none_pre h (fun z => by rw [z] at hpos; simp at hpos), ?_⟩
    generalize stS (shL s ++ shL s) = RS at *
    generalize stS (shL s) = SS at *
    generalize ((shL s).length : Int) = LI at *
    generalize (((shL s).length + 1 : Nat) : Int) = LI1 at *
    clear ha hv hc
    generalize c / 8 = C8 at *
    generalize c % 8 = CM at *
    simp [evB_cons, evB_nil, seqB_nx, seqB_ret, seqB_exc, seqB_bk, seqB_ct, endF_ret, endF_nx, endF_exc, evS, ev, evs, evBop, evo, evc, evSr, R_ok, R_exc, R_some, O_ok, O_exc, startE, getv, lower, cmp_str, cmpne_str, itemsOf, seqOf, enumOf, zipOf, Tg.put, Tg.ids, setAll, wipeE, fn12, hln, b8, d8, ba, bt, c1, c3, c4, c5, b1]
  · have c1 : cmpop .lt (.int (c % 8)) (.int 3) = some false := by rw [hc]; rfl
    have c3 : cmpop .eq (.int (c % 8)) (.int 3) = some false := by rw [hc]; rfl
    have c4 : cmpop .eq (.int (c % 8)) (.int 4) = some false := by rw [hc]; rfl
    have c5 : cmpop .eq (.int (c % 8)) (.int 5) = some false := by rw [hc]; rfl
    have c6 : cmpop .eq (.int (c % 8)) (.int 6) = some true := by rw [hc]; rfl
    have b1 : binop .add (.str "(") (.str (stS (shL s))) = some (0, .str (stS ([40] ++ shL s))) := by rw [st_p1]; exact bst_add (by simp; omega)
    have b2 : binop .add (.str (stS (shL s))) (.str ")") = some (0, .str (stS (shL s ++ [41]))) := by rw [st_p2]; exact bst_add (by simp; omega)
    have b3 : binop .add (.str ",") (.str (stS (shL s))) = some (0, .str (stS ([44] ++ shL s))) := by rw [st_c]; exact bst_add (by simp; omega)
    have b4 : binop .add (.str (stS (shL s))) (.str ",") = some (0, .str (stS (shL s ++ [44]))) := by rw [st_c]; exact bst_add (by simp; omega)
    obtain ⟨L, hL, hx⟩ := ix_mod (fun L => D.str (stS L)) [[40] ++ shL s, shL s ++ [41], [44] ++ shL s, shL s ++ [44]] (c / 8) (by simp)
    have hx : ixop (.lst [.str (stS ([40] ++ shL s)), .str (stS (shL s ++ [41])), .str (stS ([44] ++ shL s)), .str (stS (shL s ++ [44]))]) (.int (c / 8 % 4)) = some (.str (stS L)) := hx
    have hprop : Vd L ∧ L.length ≤ 10000 ∧ rdS L = none := by
      have v1 : ∀ x, x < 1114112 → Vd ([x] ++ shL s) ∧ Vd (shL s ++ [x]) := fun x hx => ⟨fun y hy => by
        rcases List.mem_append.mp hy with hy | hy
        · rw [List.mem_singleton.mp hy]; exact hx
        · exact hv y hy, fun y hy => by
        rcases List.mem_append.mp hy with hy | hy
        · exact hv y hy
        · rw [List.mem_singleton.mp hy]; exact hx⟩
      rcases List.mem_cons.mp hL with rfl | hL
      · refine ⟨(v1 40 (by omega)).1, by simp; omega, none_bal ?_⟩
        have := shL_bal 3 s h.1
        rw [List.count_append, List.count_append, this]
        simp
      rcases List.mem_cons.mp hL with rfl | hL
      · exact ⟨(v1 41 (by omega)).2, by simp; omega, none_pre h (by simp)⟩
      rcases List.mem_cons.mp hL with rfl | hL
      · exact ⟨(v1 44 (by omega)).1, by simp; omega, none_hd (by simp)⟩
      · rw [List.mem_singleton.mp hL]
        exact ⟨(v1 44 (by omega)).2, by simp; omega, none_pre h (by simp)⟩
    refine ⟨L, hprop.1, hprop.2.1, hprop.2.2, ?_⟩
    generalize stS L = RS at *
    generalize stS ([40] ++ shL s) = R1 at *
    generalize stS (shL s ++ [41]) = R2 at *
    generalize stS ([44] ++ shL s) = R3 at *
    generalize stS (shL s ++ [44]) = R4 at *
    generalize stS (shL s) = SS at *
    generalize ((shL s).length : Int) = LI at *
    generalize (((shL s).length + 1 : Nat) : Int) = LI1 at *
    clear ha hv hc hprop hL
    generalize hC84 : c / 8 % 4 = C84 at *
    generalize c / 8 = C8 at *
    generalize c % 8 = CM at *
    simp [evB_cons, evB_nil, seqB_nx, seqB_ret, seqB_exc, seqB_bk, seqB_ct, endF_ret, endF_nx, endF_exc, evS, ev, evs, evBop, evo, evc, evSr, R_ok, R_exc, R_some, O_ok, O_exc, startE, getv, lower, cmp_str, cmpne_str, itemsOf, seqOf, enumOf, zipOf, Tg.put, Tg.ids, setAll, wipeE, fn12, hln, b8, d8, ba, bt, c1, c3, c4, c5, c6, b1, b2, b3, b4, m4, hx]
  · have c1 : cmpop .lt (.int (c % 8)) (.int 3) = some false := by rw [hc]; rfl
    have c3 : cmpop .eq (.int (c % 8)) (.int 3) = some false := by rw [hc]; rfl
    have c4 : cmpop .eq (.int (c % 8)) (.int 4) = some false := by rw [hc]; rfl
    have c5 : cmpop .eq (.int (c % 8)) (.int 5) = some false := by rw [hc]; rfl
    have c6 : cmpop .eq (.int (c % 8)) (.int 6) = some false := by rw [hc]; rfl
    obtain ⟨t, ht, e⟩ := odd_fn (G := G) (sub := sub) (fu := fu) n (c / 8)
    have hp := odd_none
    rw [List.all_eq_true] at hp
    have hp := hp t ht
    rw [Bool.and_eq_true, Bool.and_eq_true, decide_eq_true_eq] at hp
    refine ⟨t.cps.toList, vd_lit hp.2.1, by omega, Option.isNone_iff_eq_none.mp hp.1, ?_⟩
    rw [st_self]
    generalize stS (shL s) = SS at *
    generalize ((shL s).length : Int) = LI at *
    generalize (((shL s).length + 1 : Nat) : Int) = LI1 at *
    clear ha hv hc hp ht
    generalize c / 8 = C8 at *
    generalize c % 8 = CM at *
    simp [evB_cons, evB_nil, seqB_nx, seqB_ret, seqB_exc, seqB_bk, seqB_ct, endF_ret, endF_nx, endF_exc, evS, ev, evs, evBop, evo, evc, evSr, R_ok, R_exc, R_some, O_ok, O_exc, startE, getv, lower, cmp_str, cmpne_str, itemsOf, seqOf, enumOf, zipOf, Tg.put, Tg.ids, setAll, wipeE, fn12, hln, b8, d8, ba, bt, c1, c3, c4, c5, c6, e]
end
end Ly

set_option Elab.async false
set_option linter.all false
set_option maxRecDepth 100000
set_option maxHeartbeats 800000
namespace Ly
open PySem
/-! ### how deep -/
mutual
def dpt : Sh → Nat
  | .rcd ps => 1 + dptL ps
  | _ => 0
def dptL : List Sh → Nat
  | [] => 0
  | p :: ps => max (dpt p) (dptL ps)
end
theorem dps_le {d : Nat} : ∀ {ps : List Sh}, (∀ p ∈ ps, dpt p ≤ d) → dptL ps ≤ d
  | [], _ => by simp [dptL]
  | p :: ps, h => by
    have h1 := h p List.mem_cons_self
    have h2 := dps_le (ps := ps) fun q hq => h q (List.mem_cons_of_mem _ hq)
    rw [dptL]
    omega
theorem le_dps {p : Sh} : ∀ {ps : List Sh}, p ∈ ps → dpt p ≤ dptL ps
  | q :: ps, h => by
    rw [dptL]
    rcases List.mem_cons.mp h with rfl | h
    · omega
    · have := le_dps h; omega
theorem fit_dpt : ∀ (d : Nat) (s : Sh), Fit d s → dpt s ≤ d
  | d, .num, _ => by simp [dpt]
  | d, .own, _ => by simp [dpt]
  | d, .strip k, _ => by simp [dpt]
  | 0, .rcd _, h => h.elim
  | d + 1, .rcd ps, h => by
    have := dps_le fun p hp => fit_dpt d p (h.2.2 p hp)
    rw [dpt]
    omega
theorem fit_lo : ∀ (d e : Nat) (s : Sh), Fit d s → dpt s ≤ e → Fit e s
  | _, e, .num, _, _ => by cases e <;> trivial
  | _, e, .own, _, _ => by cases e <;> trivial
  | d, e, .strip k, h, _ => by
    have hk : 1 ≤ k ∧ k ≤ 8 := by cases d <;> exact h
    cases e <;> exact hk
  | 0, _, .rcd _, h, _ => h.elim
  | d + 1, 0, .rcd ps, h, he => by rw [dpt] at he; omega
  | d + 1, e + 1, .rcd ps, h, he => by
    rw [dpt] at he
    exact ⟨h.1, h.2.1, fun p hp => fit_lo d e p (h.2.2 p hp) (by have := le_dps hp; omega)⟩
theorem wrap_dpt : ∀ (m : Nat) (s : Sh), dpt (wrap m s) = m + dpt s
  | 0, s => by rw [wrap]; omega
  | m + 1, s => by
    rw [wrap, wrap_dpt m (.rcd [s])]
    simp [dpt, dptL]
    omega
/-- too deep to be read -/
theorem none_deep {s : Sh} (h : Wf s) {m : Nat} (hm : 3 < dpt s + m) : rdS (shL (wrap m s)) = none := by
  cases e : rdS (shL (wrap m s)) with
  | none => rfl
  | some s' =>
    exfalso
    obtain ⟨h1, h2⟩ := rdS_inv e
    have f1 := wrap_fit m 3 s h.1
    have f2 : Fit (3 + m) s' := h1.1.upk m
    have a1 := pS_show (3 + m) _ [] f1
    have a2 := pS_show (3 + m) _ [] f2
    rw [h2, a2] at a1
    have e1 : s' = wrap m s := congrArg Prod.fst (Option.some.inj a1)
    have := fit_dpt 3 s' h1.1
    rw [e1, wrap_dpt] at this
    omega
theorem wrap_wf {s : Sh} (h : Wf s) {m : Nat} (hm : dpt s + m ≤ 3) : Wf (wrap m s) := by
  refine ⟨?_, by rw [wrap_cnt]; exact h.2⟩
  have f := wrap_fit m (dpt s) s (fit_lo 3 (dpt s) s h.1 (Nat.le_refl _))
  exact fit_lo _ 3 _ f (by rw [wrap_dpt]; omega)
/-- an entry of the law's list -/
def eE (s : Sh) : D := .tup [enc s, .int (dpt s : Int), .int (cnt s : Int), .str (stS (shL s))]
theorem dig9 {k : Int} (h : 1 ≤ k ∧ k ≤ 8) : ixop (.str "012345678") (.int k) = some (.str (stS [48 + k.toNat])) := by
  have hl : ("012345678" : Str).length ≤ LN := by
    have : ("012345678" : Str).length = 9 := by decide +kernel
    rw [this]; show 9 ≤ 16777216; omega
  have e : ("012345678" : Str).cps.toList = [48, 49, 50, 51, 52, 53, 54, 55, 56] := by decide +kernel
  show (if ("012345678" : Str).length ≤ LN then (L2.atI ("012345678" : Str).cps.toList k).map fun c => D.str ⟨#[c]⟩ else none) = _
  rw [if_pos hl, e]
  rcases sgn_k h with rfl | rfl | rfl | rfl | rfl | rfl | rfl | rfl <;> rfl
section
variable {G : Nat → Option D} {sub : Nat → Nat → Bool} {fu : Nat}
theorem leaf_fn (n : Nat) (c : Int) : ∃ s, Wf s ∧ callF G sub tab fu (n + 1) 8 [.int c] = .ok 1 (eE s) := by
  have b4 := bin_mod c 4 (by decide)
  have d4 := bin_div c 4 (by decide)
  have m8 := bin_mod (c / 4) 8 (by decide)
  have hc : c % 4 = 0 ∨ c % 4 = 1 ∨ (c % 4 ≠ 0 ∧ c % 4 ≠ 1) := by omega
  rw [callF_s fn8 rfl rfl]
  rcases hc with hc | hc | hc
  · refine ⟨.num, ⟨trivial, by simp [cnt]⟩, ?_⟩
    have c1 : cmpop .eq (.int (c % 4)) (.int 0) = some true := by rw [hc]; rfl
    have ee : eE .num = .tup [.tup [.str "num"], .int 0, .int 1, .str "num"] := by
      show D.tup [.tup [.str "num"], .int 0, .int 1, .str (stS (shL .num))] = _
      rw [show stS (shL .num) = ("num" : Str) from st_num.symm]
    rw [ee]
    clear hc
    generalize c % 4 = CM at *
    simp [evB_cons, evB_nil, seqB_nx, seqB_ret, seqB_exc, seqB_bk, seqB_ct, endF_ret, endF_nx, endF_exc, evS, ev, evs, evBop, evo, evc, evSr, R_ok, R_exc, R_some, O_ok, O_exc, startE, getv, lower, cmp_str, cmpne_str, itemsOf, seqOf, enumOf, zipOf, Tg.put, Tg.ids, setAll, wipeE, fn8, b4, c1]
  · refine ⟨.own, ⟨trivial, by simp [cnt]⟩, ?_⟩
    have c1 : cmpop .eq (.int (c % 4)) (.int 0) = some false := by rw [hc]; rfl
    have c2 : cmpop .eq (.int (c % 4)) (.int 1) = some true := by rw [hc]; rfl
    have ee : eE .own = .tup [.tup [.str "own"], .int 0, .int 1, .str "own"] := by
      show D.tup [.tup [.str "own"], .int 0, .int 1, .str (stS (shL .own))] = _
      rw [show stS (shL .own) = ("own" : Str) from st_own.symm]
    rw [ee]
    clear hc
    generalize c % 4 = CM at *
    simp [evB_cons, evB_nil, seqB_nx, seqB_ret, seqB_exc, seqB_bk, seqB_ct, endF_ret, endF_nx, endF_exc, evS, ev, evs, evBop, evo, evc, evSr, R_ok, R_exc, R_some, O_ok, O_exc, startE, getv, lower, cmp_str, cmpne_str, itemsOf, seqOf, enumOf, zipOf, Tg.put, Tg.ids, setAll, wipeE, fn8, b4, c1, c2]
  · have hk : 1 ≤ 1 + c / 4 % 8 ∧ 1 + c / 4 % 8 ≤ 8 := by omega
    refine ⟨.strip (1 + c / 4 % 8), ⟨hk, by simp [cnt]⟩, ?_⟩
    have c1 : cmpop .eq (.int (c % 4)) (.int 0) = some false := by rw [cmp_int, beq_eq_false_iff_ne.mpr hc.1]
    have c2 : cmpop .eq (.int (c % 4)) (.int 1) = some false := by rw [cmp_int, beq_eq_false_iff_ne.mpr hc.2]
    have ba := bin_add 1 (c / 4 % 8)
    have hx := dig9 hk
    have b1 : binop .add (.str "[") (.str (stS [48 + (1 + c / 4 % 8).toNat])) = some (0, .str (stS ([91] ++ [48 + (1 + c / 4 % 8).toNat]))) := by rw [st_b1]; exact bst_add (by simp)
    have b2 : binop .add (.str (stS ([91] ++ [48 + (1 + c / 4 % 8).toNat]))) (.str "]") = some (0, .str (stS (shL (.strip (1 + c / 4 % 8))))) := by rw [st_b2]; exact bst_add (b := [93]) (by simp)
    have ee : eE (.strip (1 + c / 4 % 8)) = .tup [.tup [.str "strip", .int (1 + c / 4 % 8)], .int 0, .int 1, .str (stS (shL (.strip (1 + c / 4 % 8))))] := rfl
    rw [ee]
    clear hk hc
    generalize stS (shL (.strip (1 + c / 4 % 8))) = RS at *
    generalize stS ([91] ++ [48 + (1 + c / 4 % 8).toNat]) = R1 at *
    generalize stS [48 + (1 + c / 4 % 8).toNat] = R0 at *
    generalize 1 + c / 4 % 8 = K at *
    generalize c / 4 % 8 = K8 at *
    generalize c / 4 = C4 at *
    generalize c % 4 = CM at *
    simp [evB_cons, evB_nil, seqB_nx, seqB_ret, seqB_exc, seqB_bk, seqB_ct, endF_ret, endF_nx, endF_exc, evS, ev, evs, evBop, evo, evc, evSr, R_ok, R_exc, R_some, O_ok, O_exc, startE, getv, lower, cmp_str, cmpne_str, itemsOf, seqOf, enumOf, zipOf, Tg.put, Tg.ids, setAll, wipeE, fn8, b4, d4, m8, c1, c2, ba, hx, b1, b2]
theorem fold_dps : ∀ (es : List Sh) (x : Nat), (es.map fun e => (dpt e : Int)).foldl (fun a b => if b > a then b else a) (x : Int) = ((max x (dptL es) : Nat) : Int)
  | [], x => by simp [dptL]
  | e :: es, x => by
    rw [List.map_cons, List.foldl_cons, dptL]
    have : (if (dpt e : Int) > (x : Int) then (dpt e : Int) else (x : Int)) = ((max x (dpt e) : Nat) : Int) := by
      split <;> omega
    rw [this, fold_dps es]
    congr 1
    omega
theorem max_dpt : ∀ es : List Sh, maxOr 0 (es.map fun e => (dpt e : Int)) = (dptL es : Int)
  | [] => rfl
  | e :: es => by
    rw [List.map_cons]
    show (es.map fun e => (dpt e : Int)).foldl (fun a b => if b > a then b else a) (dpt e : Int) = _
    rw [fold_dps, dptL]
theorem cnts_sum : ∀ es : List Sh, (es.map fun e => (cnt e : Int)).sum = (cnts es : Int)
  | [] => by simp [cnts]
  | e :: es => by rw [List.map_cons, List.sum_cons, cnts_sum es, cnts]; omega
end
end Ly

set_option Elab.async false
set_option linter.all false
set_option maxRecDepth 100000
set_option maxHeartbeats 800000
namespace Ly
open PySem
theorem eE_i (s : Sh) : ixop (eE s) (.int 0) = some (enc s) ∧ ixop (eE s) (.int 1) = some (.int (dpt s : Int)) ∧ ixop (eE s) (.int 2) = some (.int (cnt s : Int)) ∧ ixop (eE s) (.int 3) = some (.str (stS (shL s))) := ⟨rfl, rfl, rfl, rfl⟩
theorem cnts_pos : ∀ {ss : List Sh}, (∀ s ∈ ss, Wf s) → ss.length ≤ cnts ss
  | [], _ => by simp
  | s :: ss, h => by
    have h1 := fit_cnt 3 s (h s List.mem_cons_self).1
    have h2 := cnts_pos fun t ht => h t (List.mem_cons_of_mem _ ht)
    rw [cnts, List.length_cons]
    omega
section
variable {G : Nat → Option D} {sub : Nat → Nat → Bool} {fu : Nat}
theorem nxt_fn (n : Nat) (es : List Sh) (hw : ∀ s ∈ es, Wf s) (hl : es.length ≤ 1000) (c : Int) : ∃ es' : List Sh, es' ≠ [] ∧ (∀ s ∈ es', Wf s) ∧ es'.length ≤ es.length + 1 ∧ callF G sub tab fu (n + 2) 9 [.lst (es.map eE), .int c] = .ok 1 (.lst (es'.map eE)) := by
  have d8 := bin_div c 8 (by decide)
  have m4 := bin_mod (c / 8) 4 (by decide)
  have b8 := bin_mod c 8 (by decide)
  have hln : ∀ xs : List Sh, bltop .len [.lst (xs.map eE)] = some (0, .int (xs.length : Int)) := fun xs => by
    show some (0, D.int ((xs.map eE).length : Int)) = _
    rw [List.length_map]
  have s1 := bin_sub (es.length : Int) 1
  have s2 := bin_sub ((es.length : Int) - 1) (c / 8 % 4)
  obtain ⟨k, hk, hk4, hkl⟩ : ∃ k : Nat, bltop .max2 [.int 0, .int ((es.length : Int) - 1 - c / 8 % 4)] = some (0, .int (k : Int)) ∧ es.length ≤ k + 4 ∧ (es ≠ [] → k < es.length) := by
    refine ⟨((es.length : Int) - 1 - c / 8 % 4).toNat, ?_, by omega, fun hne => by have := List.length_pos_iff.mpr hne; omega⟩
    show some (0, D.int (if (es.length : Int) - 1 - c / 8 % 4 > 0 then (es.length : Int) - 1 - c / 8 % 4 else 0)) = _
    congr 3
    split <;> omega
  obtain ⟨so, hso⟩ : ∃ so, so = es.drop k := ⟨_, rfl⟩
  have sl1 : slop (.lst (es.map eE)) (some (k : Int)) none = some (1, .lst (so.map eE)) := by
    show some (1, D.lst (cutD (es.map eE) (some (k : Int)) none)) = _
    rw [cut_from1, hso, List.map_drop]
  have hso4 : so.length ≤ 4 := by rw [hso, List.length_drop]; omega
  have hwo : ∀ s ∈ so, Wf s := fun s hs => hw s (List.mem_of_mem_drop (hso ▸ hs))
  have bsum : bltop .sum [.lst (so.map fun e => D.int (cnt e : Int))] = some (0, .int (cnts so : Int)) := by
    show (asInts (so.map fun e => D.int (cnt e : Int))).map _ = _
    rw [asInts_map]
    show some (0, D.int (so.map fun e => (cnt e : Int)).sum) = _
    rw [cnts_sum]
  have bmax : bltop .maxd [.lst (so.map fun e => D.int (dpt e : Int)), .int 0] = some (0, .int (dptL so : Int)) := by
    show (asInts (so.map fun e => D.int (dpt e : Int))).map _ = _
    rw [asInts_map]
    show some (0, D.int (maxOr 0 (so.map fun e => (dpt e : Int)))) = _
    rw [max_dpt]
  have a1 : evB G sub (callF G sub tab fu (n + 1)) fu (takeB 3 fn9.body) (startE fn9.nn [.lst (es.map eE), .int c]) = .nx [some (0, .lst (es.map eE)), some (0, .int c), some (0, .lst (so.map eE)), some (0, .int (cnts so : Int)), none, some (0, .int (dptL so : Int)), none, none] := by
    have h1 := hln es
    generalize es.map eE = ES at *
    generalize hX : (es.length : Int) - 1 - c / 8 % 4 = X at *
    generalize hX1 : (es.length : Int) - 1 = X1 at *
    generalize (es.length : Int) = EL at *
    clear hX hX1
    generalize c / 8 % 4 = C84 at *
    generalize c / 8 = C8 at *
    generalize (cnts so : Int) = CS at *
    generalize (dptL so : Int) = DS at *
    simp [evB_cons, evB_nil, seqB_nx, seqB_ret, seqB_exc, seqB_bk, seqB_ct, endF_ret, endF_nx, endF_exc, evS, ev, evs, evBop, evo, evc, evSr, R_ok, R_exc, R_some, O_ok, O_exc, startE, getv, lower, cmp_str, cmpne_str, itemsOf, seqOf, enumOf, zipOf, Tg.put, Tg.ids, setAll, wipeE, fn9, takeB, h1, s1, d8, m4, s2, hk, sl1]
    rw [compT_map (g := eE) (fun e => D.int (cnt e : Int)) so (fun e he => by
      have q := (eE_i e).2.2.1
      generalize eE e = EE at *
      generalize (cnt e : Int) = CE at *
      simp [compF, evB_cons, evB_nil, seqB_nx, seqB_ret, seqB_exc, seqB_bk, seqB_ct, endF_ret, endF_nx, endF_exc, evS, ev, evs, evBop, evo, evc, evSr, R_ok, R_exc, R_some, O_ok, O_exc, startE, getv, lower, cmp_str, cmpne_str, itemsOf, seqOf, enumOf, zipOf, Tg.put, Tg.ids, setAll, wipeE, q]) (by omega)]
    simp [evB_cons, evB_nil, seqB_nx, seqB_ret, seqB_exc, seqB_bk, seqB_ct, endF_ret, endF_nx, endF_exc, evS, ev, evs, evBop, evo, evc, evSr, R_ok, R_exc, R_some, O_ok, O_exc, startE, getv, lower, cmp_str, cmpne_str, itemsOf, seqOf, enumOf, zipOf, Tg.put, Tg.ids, setAll, wipeE, bsum]
    rw [compT_map (g := eE) (fun e => D.int (dpt e : Int)) so (fun e he => by
      have q := (eE_i e).2.1
      generalize eE e = EE at *
      generalize (dpt e : Int) = CE at *
      simp [compF, evB_cons, evB_nil, seqB_nx, seqB_ret, seqB_exc, seqB_bk, seqB_ct, endF_ret, endF_nx, endF_exc, evS, ev, evs, evBop, evo, evc, evSr, R_ok, R_exc, R_some, O_ok, O_exc, startE, getv, lower, cmp_str, cmpne_str, itemsOf, seqOf, enumOf, zipOf, Tg.put, Tg.ids, setAll, wipeE, q]) (by omega)]
    simp [evB_cons, evB_nil, seqB_nx, seqB_ret, seqB_exc, seqB_bk, seqB_ct, endF_ret, endF_nx, endF_exc, evS, ev, evs, evBop, evo, evc, evSr, R_ok, R_exc, R_some, O_ok, O_exc, startE, getv, lower, cmp_str, cmpne_str, itemsOf, seqOf, enumOf, zipOf, Tg.put, Tg.ids, setAll, wipeE, bmax]
  rw [callF_s fn9 rfl rfl, evB_cut 3, a1, seqB_nx]
  obtain ⟨s, hs, el⟩ := leaf_fn (G := G) (sub := sub) (fu := fu) n (c / 8)
  have leafcase : ∀ b1 b2 b3 b4 : Bool, cmpop .lt (.int (c % 8)) (.int 3) = some b1 → cmpop .eq (.int (cnts so : Int)) (.int 0) = some b2 → cmpop .eq (.int (dptL so : Int)) (.int 3) = some b3 → cmpop .gt (.int (cnts so : Int)) (.int 8) = some b4 → (b1 || b2 || b3 || b4) = true →
      endF (evB G sub (callF G sub tab fu (n + 1)) fu (dropB 3 fn9.body) [some (0, .lst (es.map eE)), some (0, .int c), some (0, .lst (so.map eE)), some (0, .int (cnts so : Int)), none, some (0, .int (dptL so : Int)), none, none]) = .ok 1 (.lst ((es ++ [s]).map eE)) := fun b1 b2 b3 b4 c1 c2 c3 c4 hb => by
    have bc := bin_cat (es.map eE) [eE s] (by simp; omega)
    rw [List.map_append, List.map_cons, List.map_nil]
    clear a1 hk hk4 hkl
    generalize es.map eE = ES at *
    generalize so.map eE = SO at *
    generalize eE s = EE at *
    generalize (cnts so : Int) = CS at *
    generalize (dptL so : Int) = DS at *
    generalize c / 8 = C8 at *
    generalize c % 8 = CM at *
    cases b1 with
    | true => simp [evB_cons, evB_nil, seqB_nx, seqB_ret, seqB_exc, seqB_bk, seqB_ct, endF_ret, endF_nx, endF_exc, evS, ev, evs, evBop, evo, evc, evSr, R_ok, R_exc, R_some, O_ok, O_exc, startE, getv, lower, cmp_str, cmpne_str, itemsOf, seqOf, enumOf, zipOf, Tg.put, Tg.ids, setAll, wipeE, fn9, dropB, b8, c1, d8, el, bc]
    | false =>
      cases b2 with
      | true => simp [evB_cons, evB_nil, seqB_nx, seqB_ret, seqB_exc, seqB_bk, seqB_ct, endF_ret, endF_nx, endF_exc, evS, ev, evs, evBop, evo, evc, evSr, R_ok, R_exc, R_some, O_ok, O_exc, startE, getv, lower, cmp_str, cmpne_str, itemsOf, seqOf, enumOf, zipOf, Tg.put, Tg.ids, setAll, wipeE, fn9, dropB, b8, c1, c2, d8, el, bc]
      | false =>
        cases b3 with
        | true => simp [evB_cons, evB_nil, seqB_nx, seqB_ret, seqB_exc, seqB_bk, seqB_ct, endF_ret, endF_nx, endF_exc, evS, ev, evs, evBop, evo, evc, evSr, R_ok, R_exc, R_some, O_ok, O_exc, startE, getv, lower, cmp_str, cmpne_str, itemsOf, seqOf, enumOf, zipOf, Tg.put, Tg.ids, setAll, wipeE, fn9, dropB, b8, c1, c2, c3, d8, el, bc]
        | false =>
          cases b4 with
          | true => simp [evB_cons, evB_nil, seqB_nx, seqB_ret, seqB_exc, seqB_bk, seqB_ct, endF_ret, endF_nx, endF_exc, evS, ev, evs, evBop, evo, evc, evSr, R_ok, R_exc, R_some, O_ok, O_exc, startE, getv, lower, cmp_str, cmpne_str, itemsOf, seqOf, enumOf, zipOf, Tg.put, Tg.ids, setAll, wipeE, fn9, dropB, b8, c1, c2, c3, c4, d8, el, bc]
          | false => cases hb
  have leafres : ∀ b1 b2 b3 b4 : Bool, cmpop .lt (.int (c % 8)) (.int 3) = some b1 → cmpop .eq (.int (cnts so : Int)) (.int 0) = some b2 → cmpop .eq (.int (dptL so : Int)) (.int 3) = some b3 → cmpop .gt (.int (cnts so : Int)) (.int 8) = some b4 → (b1 || b2 || b3 || b4) = true →
      ∃ es' : List Sh, es' ≠ [] ∧ (∀ s ∈ es', Wf s) ∧ es'.length ≤ es.length + 1 ∧ endF (evB G sub (callF G sub tab fu (n + 1)) fu (dropB 3 fn9.body) [some (0, .lst (es.map eE)), some (0, .int c), some (0, .lst (so.map eE)), some (0, .int (cnts so : Int)), none, some (0, .int (dptL so : Int)), none, none]) = .ok 1 (.lst (es'.map eE)) := fun b1 b2 b3 b4 c1 c2 c3 c4 hb =>
    ⟨es ++ [s], by simp, fun t ht => by
      rcases List.mem_append.mp ht with ht | ht
      · exact hw t ht
      · rw [List.mem_singleton.mp ht]; exact hs, by simp, leafcase b1 b2 b3 b4 c1 c2 c3 c4 hb⟩
  have g1 : cmpop .lt (.int (c % 8)) (.int 3) = some (decide (c % 8 < 3)) := rfl
  have g2 : cmpop .eq (.int (cnts so : Int)) (.int 0) = some ((cnts so : Int) == 0) := cmp_int _ _
  have g3 : cmpop .eq (.int (dptL so : Int)) (.int 3) = some ((dptL so : Int) == 3) := cmp_int _ _
  have g4 : cmpop .gt (.int (cnts so : Int)) (.int 8) = some (decide ((8 : Int) < (cnts so : Int))) := rfl
  cases hall : (decide (c % 8 < 3) || ((cnts so : Int) == 0) || ((dptL so : Int) == 3) || decide ((8 : Int) < (cnts so : Int))) with
  | true => exact leafres _ _ _ _ g1 g2 g3 g4 hall
  | false =>
    rw [Bool.or_eq_false_iff, Bool.or_eq_false_iff, Bool.or_eq_false_iff] at hall
    obtain ⟨⟨⟨h1, h2⟩, h3⟩, h4⟩ := hall
    rw [h1] at g1
    rw [h2] at g2
    rw [h3] at g3
    rw [h4] at g4
    rw [beq_eq_false_iff_ne] at h2 h3
    rw [decide_eq_false_iff_not] at h4
    have hne : so ≠ [] := fun e => h2 (by rw [e]; rfl)
    have hsop := List.length_pos_iff.mpr hne
    have hdp : dptL so ≤ 3 := dps_le fun p hp => fit_dpt 3 p (hwo p hp).1
    have hfit : Fit 3 (.rcd so) := ⟨hsop, hso4, fun p hp => fit_lo 3 2 p (hwo p hp).1 (by have := le_dps hp; omega)⟩
    have hwn : Wf (.rcd so) := ⟨hfit, by rw [cnt]; omega⟩
    have tx : ∀ s ∈ (so.map shL).map stS, Tx 318 s := fun s hs => by
      obtain ⟨x, hx, rfl⟩ := List.mem_map.mp hs
      obtain ⟨p, hq, rfl⟩ := List.mem_map.mp hx
      exact stS_tx (shL_vd (hwo p hq).1) (shL_le 3 p (hwo p hq).1)
    have hll : ((so.map shL).map stS).length ≤ 4 := by rw [List.length_map, List.length_map]; exact hso4
    have hj := mjoin tx_c tx (by have : ((so.map shL).map stS).length * (318 + 1) ≤ 4 * (318 + 1) := Nat.mul_le_mul_right _ hll; omega)
    have hg : (glue (so.map shL)).length ≤ 1276 := by
      have := glue_le (b := 318) (so.map shL) fun x hx => by
        obtain ⟨p, hq, rfl⟩ := List.mem_map.mp hx
        exact shL_le 3 p (hwo p hq).1
      rw [List.length_map] at this
      have h : so.length * (318 + 1) ≤ 4 * (318 + 1) := Nat.mul_le_mul_right _ hso4
      omega
    rw [jn_st, List.map_map, List.map_map] at hj
    have hj : methop .join (.str ",") [.lst (so.map fun e => D.str (stS (shL e)))] = some (0, .str (stS (glue (so.map shL)))) := hj
    have b1 : binop .add (.str "(") (.str (stS (glue (so.map shL)))) = some (0, .str (stS ([40] ++ glue (so.map shL)))) := by rw [st_p1]; exact bst_add (by simp; omega)
    have b2 : binop .add (.str (stS ([40] ++ glue (so.map shL)))) (.str ")") = some (0, .str (stS (shL (.rcd so)))) := by
      rw [st_p2, bst_add (by simp; omega), shL, shLs_map]
      rfl
    have bt : bltop .tuple [.lst (so.map enc)] = some (0, .tup (so.map enc)) := rfl
    have s3 := bin_sub (es.length : Int) (so.length : Int)
    have hnat : (es.length : Int) - (so.length : Int) = ((es.length - so.length : Nat) : Int) := by
      have : so.length ≤ es.length := by rw [hso, List.length_drop]; omega
      omega
    rw [hnat] at s3
    have sl2 : slop (.lst (es.map eE)) none (some ((es.length - so.length : Nat) : Int)) = some (1, .lst ((es.take (es.length - so.length)).map eE)) := by
      show some (1, D.lst (cutD (es.map eE) none (some ((es.length - so.length : Nat) : Int)))) = _
      rw [cut_take, List.map_take]
    have ba := bin_add 1 (dptL so : Int)
    have ee : eE (.rcd so) = .tup [.tup [.str "rec", .tup (so.map enc)], .int (1 + (dptL so : Int)), .int (cnts so : Int), .str (stS (shL (.rcd so)))] := by
      show D.tup [enc (.rcd so), .int (dpt (.rcd so) : Int), .int (cnt (.rcd so) : Int), .str (stS (shL (.rcd so)))] = _
      rw [enc, encs_map, dpt, cnt]
      congr 3
    have bc := bin_cat ((es.take (es.length - so.length)).map eE) [eE (.rcd so)] (by rw [List.length_map, List.length_take, List.length_singleton]; omega)
    have m1 := hln es
    have m2 := hln so
    refine ⟨es.take (es.length - so.length) ++ [.rcd so], by simp, fun t ht => ?_, by rw [List.length_append, List.length_take, List.length_singleton]; omega, ?_⟩
    · rcases List.mem_append.mp ht with ht | ht
      · exact hw t (List.mem_of_mem_take ht)
      · rw [List.mem_singleton.mp ht]; exact hwn
    · rw [List.map_append, List.map_cons, List.map_nil]
      rw [ee] at bc ⊢
      clear a1 hk hk4 hkl leafcase leafres hnat ee
      generalize stS (shL (.rcd so)) = RS at *
      generalize stS ([40] ++ glue (so.map shL)) = R1 at *
      generalize stS (glue (so.map shL)) = R0 at *
      generalize (es.take (es.length - so.length)).map eE = ET at *
      generalize ((es.length - so.length : Nat) : Int) = EL2 at *
      generalize (es.length : Int) = EL at *
      generalize (so.length : Int) = SL at *
      generalize es.map eE = ES at *
      generalize 1 + (dptL so : Int) = DS1 at *
      generalize (cnts so : Int) = CS at *
      generalize (dptL so : Int) = DS at *
      generalize c / 8 = C8 at *
      generalize c % 8 = CM at *
      simp [evB_cons, evB_nil, seqB_nx, seqB_ret, seqB_exc, seqB_bk, seqB_ct, endF_ret, endF_nx, endF_exc, evS, ev, evs, evBop, evo, evc, evSr, R_ok, R_exc, R_some, O_ok, O_exc, startE, getv, lower, cmp_str, cmpne_str, itemsOf, seqOf, enumOf, zipOf, Tg.put, Tg.ids, setAll, wipeE, fn9, dropB, b8, g1, g2, g3, g4]
      rw [compT_map (g := eE) enc so (fun e he => by
        have q := (eE_i e).1
        generalize eE e = EE at *
        generalize enc e = CE at *
        simp [compF, evB_cons, evB_nil, seqB_nx, seqB_ret, seqB_exc, seqB_bk, seqB_ct, endF_ret, endF_nx, endF_exc, evS, ev, evs, evBop, evo, evc, evSr, R_ok, R_exc, R_some, O_ok, O_exc, startE, getv, lower, cmp_str, cmpne_str, itemsOf, seqOf, enumOf, zipOf, Tg.put, Tg.ids, setAll, wipeE, q]) (by omega)]
      simp [evB_cons, evB_nil, seqB_nx, seqB_ret, seqB_exc, seqB_bk, seqB_ct, endF_ret, endF_nx, endF_exc, evS, ev, evs, evBop, evo, evc, evSr, R_ok, R_exc, R_some, O_ok, O_exc, startE, getv, lower, cmp_str, cmpne_str, itemsOf, seqOf, enumOf, zipOf, Tg.put, Tg.ids, setAll, wipeE, bt]
      rw [compT_map (g := eE) (fun e => D.str (stS (shL e))) so (fun e he => by
        have q := (eE_i e).2.2.2
        generalize eE e = EE at *
        generalize stS (shL e) = CE at *
        simp [compF, evB_cons, evB_nil, seqB_nx, seqB_ret, seqB_exc, seqB_bk, seqB_ct, endF_ret, endF_nx, endF_exc, evS, ev, evs, evBop, evo, evc, evSr, R_ok, R_exc, R_some, O_ok, O_exc, startE, getv, lower, cmp_str, cmpne_str, itemsOf, seqOf, enumOf, zipOf, Tg.put, Tg.ids, setAll, wipeE, q]) (by omega)]
      simp [evB_cons, evB_nil, seqB_nx, seqB_ret, seqB_exc, seqB_bk, seqB_ct, endF_ret, endF_nx, endF_exc, evS, ev, evs, evBop, evo, evc, evSr, R_ok, R_exc, R_some, O_ok, O_exc, startE, getv, lower, cmp_str, cmpne_str, itemsOf, seqOf, enumOf, zipOf, Tg.put, Tg.ids, setAll, wipeE, mty, hj, b1, b2, m1, m2, s3, sl2, ba, bc]
/-! brackets round it -/
theorem wr_loop (n : Nat) (o1 o3 : Option (Nat × D)) : ∀ (m j : Nat) (s : Sh) (d : Nat) (o4 : Option (Nat × D)), Fit d s → (shL s).length + 2 * m ≤ 10000 → ∃ o4',
    forT (.name 4) (evB G sub (callF G sub tab fu n) fu bd14_0) ((List.range' j m).map fun i : Nat => D.int i) [some (0, enc s), o1, some (0, .str (stS (shL s))), o3, o4] = .nx [some (0, enc (wrap m s)), o1, some (0, .str (stS (shL (wrap m s)))), o3, o4']
  | 0, j, s, d, o4, _, _ => ⟨o4, by simp [forT, forLoop, wrap]⟩
  | m + 1, j, s, d, o4, hf, hl => by
    have step : ∀ f q0 q2, forT (.name 4) f ((List.range' j (m + 1)).map fun i : Nat => D.int i) [q0, o1, q2, o3, o4] = match f [q0, o1, q2, o3, some (0, .int (j : Int))] with
      | .nx r1 => forT (.name 4) f ((List.range' (j + 1) m).map fun i : Nat => D.int i) r1
      | .ct r1 => forT (.name 4) f ((List.range' (j + 1) m).map fun i : Nat => D.int i) r1
      | .bk r1 => .nx r1
      | .ret l d => .ret l d
      | .exc r1 c => .exc r1 c
      | .bad => .bad := fun f q0 q2 => rfl
    have b1 : binop .add (.str "(") (.str (stS (shL s))) = some (0, .str (stS ([40] ++ shL s))) := by rw [st_p1]; exact bst_add (by simp; omega)
    have b2 : binop .add (.str (stS ([40] ++ shL s))) (.str ")") = some (0, .str (stS (shL (.rcd [s])))) := by
      rw [st_p2, bst_add (by simp; omega)]
      rfl
    have ee : enc (.rcd [s]) = .tup [.str "rec", .tup [enc s]] := rfl
    have e1 : evB G sub (callF G sub tab fu n) fu bd14_0 [some (0, enc s), o1, some (0, .str (stS (shL s))), o3, some (0, .int (j : Int))] = .nx [some (0, enc (.rcd [s])), o1, some (0, .str (stS (shL (.rcd [s])))), o3, some (0, .int (j : Int))] := by
      rw [ee]
      generalize stS (shL (.rcd [s])) = R2 at *
      generalize stS ([40] ++ shL s) = R1 at *
      generalize stS (shL s) = R0 at *
      generalize enc s = ES at *
      simp [evB_cons, evB_nil, seqB_nx, seqB_ret, seqB_exc, seqB_bk, seqB_ct, endF_ret, endF_nx, endF_exc, evS, ev, evs, evBop, evo, evc, evSr, R_ok, R_exc, R_some, O_ok, O_exc, startE, getv, lower, cmp_str, cmpne_str, itemsOf, seqOf, enumOf, zipOf, Tg.put, Tg.ids, setAll, wipeE, bd14_0, b1, b2]
    have hlen : (shL (.rcd [s])).length = (shL s).length + 2 := by
      rw [shL, shLs, shLs, glue]
      simp
    obtain ⟨o4', e2⟩ := wr_loop n o1 o3 m (j + 1) (.rcd [s]) (d + 1) (some (0, .int (j : Int))) ⟨by simp, by simp, fun p hp => by rw [List.mem_singleton.mp hp]; exact hf⟩ (by rw [hlen]; omega)
    refine ⟨o4', ?_⟩
    rw [step, e1, wrap]
    exact e2
theorem wrapped_fn (g : G80 G) (sf : SF sub) (hfu : 100000 < fu) (n : Nat) (s : Sh) (h : Wf s) (m : Nat) (hm : m ≤ 4) : callF G sub tab fu (n + 11) 14 [enc s, .int (dpt s : Int), .str (stS (shL s)), .int (m : Int)] = .ok 0 (.bl true) := by
  have hsl := shL_le 3 s h.1
  have hl3 : lb 3 = 318 := rfl
  obtain ⟨o4, e⟩ := wr_loop (G := G) (sub := sub) (fu := fu) (n + 10) (some (0, .int (dpt s : Int))) (some (0, .int (m : Int))) m 0 s 3 none h.1 (by omega)
  have hr := rngop (m := m) (by omega)
  have ba := bin_add (dpt s : Int) (m : Int)
  have hwlen : (shL (wrap m s)).length ≤ 400 := by
    have key : ∀ (m : Nat) (s : Sh), (shL (wrap m s)).length = (shL s).length + 2 * m := fun m => by
      induction m with
      | zero => intro s; rfl
      | succ m ih =>
        intro s
        rw [wrap, ih, shL, shLs, shLs, glue]
        simp
        omega
    rw [key]
    omega
  rw [callF_s fn14 rfl rfl]
  by_cases hd : 3 < dpt s + m
  · have c1 : cmpop .gt (.int ((dpt s : Int) + (m : Int))) (.int 3) = some true := by
      show some (decide ((3 : Int) < _)) = _
      rw [decide_eq_true (by omega)]
    have er := refused_fn (G := G) (sub := sub) (fu := fu) g sf hfu n (shL (wrap m s)) (shL_vd (wrap_fit m 3 s h.1)) (by omega) (none_deep h hd)
    generalize stS (shL (wrap m s)) = R2 at *
    generalize stS (shL s) = R0 at *
    generalize enc (wrap m s) = EW at *
    generalize enc s = ES at *
    generalize (dpt s : Int) + (m : Int) = DM at *
    generalize (dpt s : Int) = DD at *
    generalize (m : Int) = MM at *
    generalize (List.range' 0 m).map (fun i : Nat => D.int i) = RM at *
    simp [evB_cons, evB_nil, seqB_nx, seqB_ret, seqB_exc, seqB_bk, seqB_ct, endF_ret, endF_nx, endF_exc, evS, ev, evs, evBop, evo, evc, evSr, R_ok, R_exc, R_some, O_ok, O_exc, startE, getv, lower, cmp_str, cmpne_str, itemsOf, seqOf, enumOf, zipOf, Tg.put, Tg.ids, setAll, wipeE, fn14, hr]
    rw [e]
    simp [evB_cons, evB_nil, seqB_nx, seqB_ret, seqB_exc, seqB_bk, seqB_ct, endF_ret, endF_nx, endF_exc, evS, ev, evs, evBop, evo, evc, evSr, R_ok, R_exc, R_some, O_ok, O_exc, startE, getv, lower, cmp_str, cmpne_str, itemsOf, seqOf, enumOf, zipOf, Tg.put, Tg.ids, setAll, wipeE, ba, c1, er]
  · have c1 : cmpop .gt (.int ((dpt s : Int) + (m : Int))) (.int 3) = some false := by
      show some (decide ((3 : Int) < _)) = _
      rw [decide_eq_false (by omega)]
    have hw := wrap_wf h (m := m) (by omega)
    have er := read_ok (G := G) (sub := sub) (fu := fu) g hfu (n + 1) (wrap m s) hw
    have es := same_fn (G := G) (sub := sub) (fu := fu) 7 (n + 10) (enc (wrap m s)) (smp_sh 3 _ hw.1) (by omega)
    have eh := show_fit (G := G) (sub := sub) (fu := fu) 3 (n + 10) (wrap m s) hw.1 (by omega) (by omega)
    have ce := eq_st (shL_vd hw.1) (shL_vd hw.1)
    rw [decide_eq_true rfl] at ce
    generalize stS (shL (wrap m s)) = R2 at *
    generalize stS (shL s) = R0 at *
    generalize enc (wrap m s) = EW at *
    generalize enc s = ES at *
    generalize (dpt s : Int) + (m : Int) = DM at *
    generalize (dpt s : Int) = DD at *
    generalize (m : Int) = MM at *
    generalize (List.range' 0 m).map (fun i : Nat => D.int i) = RM at *
    simp [evB_cons, evB_nil, seqB_nx, seqB_ret, seqB_exc, seqB_bk, seqB_ct, endF_ret, endF_nx, endF_exc, evS, ev, evs, evBop, evo, evc, evSr, R_ok, R_exc, R_some, O_ok, O_exc, startE, getv, lower, cmp_str, cmpne_str, itemsOf, seqOf, enumOf, zipOf, Tg.put, Tg.ids, setAll, wipeE, fn14, hr]
    rw [e]
    simp [evB_cons, evB_nil, seqB_nx, seqB_ret, seqB_exc, seqB_bk, seqB_ct, endF_ret, endF_nx, endF_exc, evS, ev, evs, evBop, evo, evc, evSr, R_ok, R_exc, R_some, O_ok, O_exc, startE, getv, lower, cmp_str, cmpne_str, itemsOf, seqOf, enumOf, zipOf, Tg.put, Tg.ids, setAll, wipeE, ba, c1, er, es, eh, ce]
end
end Ly

set_option Elab.async false
set_option linter.all false
set_option maxRecDepth 100000
set_option maxHeartbeats 800000
namespace Ly
open PySem
section
variable {G : Nat → Option D} {sub : Nat → Nat → Bool} {fu : Nat}
theorem ix_end (es : List Sh) (s : Sh) (hl : es.length ≤ 100000) : ixop (.lst ((es ++ [s]).map eE)) (.int (-1)) = some (eE s) := by
  rw [List.map_append, List.map_cons, List.map_nil]
  exact at_last
theorem cells_loop (g : G80 G) (sf : SF sub) (hfu : 100000 < fu) (o0 : Option (Nat × D)) : ∀ (cs : List Int) (es : List Sh) (l1 : Nat) (o2 o3 o4 o5 o6 o7 o8 : Option (Nat × D)), l1 < 100 → (∀ s ∈ es, Wf s) → es.length + cs.length ≤ 900 → ∃ q,
    forT (.name 2) (evB G sub (callF G sub tab fu 59) fu bd15_0) (cs.map D.int) [o0, some (l1, .lst (es.map eE)), o2, o3, o4, o5, o6, o7, o8] = .nx q
  | [], es, l1, o2, o3, o4, o5, o6, o7, o8, _, _, _ => ⟨_, rfl⟩
  | c :: cs, es, l1, o2, o3, o4, o5, o6, o7, o8, hlv, hw, hl => by
    have step : ∀ f q1, forT (.name 2) f ((c :: cs).map D.int) [o0, q1, o2, o3, o4, o5, o6, o7, o8] = match f [o0, q1, some (0, .int c), o3, o4, o5, o6, o7, o8] with
      | .nx r1 => forT (.name 2) f (cs.map D.int) r1
      | .ct r1 => forT (.name 2) f (cs.map D.int) r1
      | .bk r1 => .nx r1
      | .ret l d => .ret l d
      | .exc r1 c => .exc r1 c
      | .bad => .bad := fun f q1 => rfl
    rw [List.length_cons] at hl
    obtain ⟨es', hne, hw', hl', en⟩ := nxt_fn (G := G) (sub := sub) (fu := fu) 57 es hw (by omega) c
    obtain ⟨es0, s, rfl⟩ : ∃ es0 s, es' = es0 ++ [s] := ⟨es'.dropLast, es'.getLast hne, (List.dropLast_concat_getLast hne).symm⟩
    have hs : Wf s := hw' s (by simp)
    have hix := ix_end es0 s (by rw [List.length_append, List.length_singleton] at hl'; omega)
    have hsl := shL_le 3 s hs.1
    have hl3 : lb 3 = 318 := rfl
    have e1 := show_fit (G := G) (sub := sub) (fu := fu) 3 59 s hs.1 (by omega) (by omega)
    have e2 := read_ok (G := G) (sub := sub) (fu := fu) g hfu 50 s hs
    have e3 := same_fn (G := G) (sub := sub) (fu := fu) 7 59 (enc s) (smp_sh 3 _ hs.1) (by omega)
    obtain ⟨L, vL, lL, nL, e4⟩ := spoiled_fn (G := G) (sub := sub) (fu := fu) 57 s hs (c * 48271 % 2147483647)
    have e5 := refused_fn (G := G) (sub := sub) (fu := fu) g sf hfu 49 L vL (by omega) nL
    obtain ⟨m, hm4, hm⟩ : ∃ m : Nat, m ≤ 4 ∧ 1 + c * 48271 % 2147483647 / 16 % 4 = (m : Int) := ⟨(1 + c * 48271 % 2147483647 / 16 % 4).toNat, by omega, by omega⟩
    have e6 := wrapped_fn (G := G) (sub := sub) (fu := fu) g sf hfu 48 s hs m hm4
    have cn := ne_st (shL_vd hs.1) (shL_vd hs.1)
    rw [decide_eq_true rfl] at cn
    have b1 := bin_mul c 48271 (by decide)
    have b2 := bin_mod (c * 48271) 2147483647 (by decide)
    have b3 := bin_div (c * 48271 % 2147483647) 16 (by decide)
    have b4 := bin_mod (c * 48271 % 2147483647 / 16) 4 (by decide)
    have b5 := bin_add 1 (c * 48271 % 2147483647 / 16 % 4)
    rw [hm] at b5
    have ed : eE s = .tup [enc s, .int (dpt s : Int), .int (cnt s : Int), .str (stS (shL s))] := rfl
    rw [ed] at hix
    have is : isaop (.str (stS (shL s))) .str = some true := rfl
    have eb : evB G sub (callF G sub tab fu 59) fu bd15_0 [o0, some (l1, .lst (es.map eE)), some (0, .int c), o3, o4, o5, o6, o7, o8] = .nx [o0, some (0, .lst ((es0 ++ [s]).map eE)), some (0, .int c), some (0, enc s), some (0, .int (dpt s : Int)), some (0, .int (cnt s : Int)), some (0, .str (stS (shL s))), some (0, .str (stS (shL s))), some (0, .int (c * 48271 % 2147483647))] := by
      clear hm
      generalize (es0 ++ [s]).map eE = ES2 at *
      generalize es.map eE = ES1 at *
      generalize stS (shL s) = S0 at *
      generalize stS L = SL at *
      generalize enc s = EE at *
      generalize (dpt s : Int) = DD at *
      generalize (cnt s : Int) = CC at *
      generalize (m : Int) = MM at *
      generalize c * 48271 % 2147483647 / 16 % 4 = X4 at *
      generalize c * 48271 % 2147483647 / 16 = X3 at *
      generalize c * 48271 % 2147483647 = X2 at *
      generalize c * 48271 = X1 at *
      simp [evB_cons, evB_nil, seqB_nx, seqB_ret, seqB_exc, seqB_bk, seqB_ct, endF_ret, endF_nx, endF_exc, evS, ev, evs, evBop, evo, evc, evSr, R_ok, R_exc, R_some, O_ok, O_exc, startE, getv, lower, cmp_str, cmpne_str, itemsOf, seqOf, enumOf, zipOf, Tg.put, Tg.ids, setAll, wipeE, bd15_0, hlv, en, hix, e1, is, cn, e2, e3, b1, b2, e4, e5, b3, b4, b5, e6]
    rw [step, eb]
    rw [List.length_append, List.length_singleton] at hl'
    exact cells_loop g sf hfu o0 cs (es0 ++ [s]) 0 _ _ _ _ _ _ _ (by omega) hw' (by rw [List.length_append, List.length_singleton]; omega)
theorem law_fn (g : G80 G) (sf : SF sub) (hfu : 100000 < fu) (ns : List Int) (hl : ns.length ≤ 63) : ∃ l, callF G sub tab fu 60 15 [.lst (ns.map D.int)] = .ok l (.bl true) := by
  refine ⟨0, ?_⟩
  have bc : binop .add (.lst (ns.map D.int)) (.lst [.int 0]) = some (1, .lst ((ns ++ [0]).map D.int)) := by
    rw [List.map_append]
    exact bin_cat _ _ (by simp; omega)
  have sl : slop (.lst ((ns ++ [0]).map D.int)) none (some 40) = some (1, .lst (((ns ++ [0]).take 40).map D.int)) := by
    show some (1, D.lst (cutD ((ns ++ [0]).map D.int) none (some ((40 : Nat) : Int)))) = _
    rw [cut_take, List.map_take]
  obtain ⟨q, e⟩ := cells_loop (G := G) (sub := sub) (fu := fu) g sf hfu (some (0, .lst (ns.map D.int))) ((ns ++ [0]).take 40) [] 0 none none none none none none none (by omega) (by simp) (by simp; omega)
  rw [List.map_nil] at e
  rw [callF_s fn15 rfl rfl]
  generalize ((ns ++ [0]).take 40).map D.int = CS at *
  generalize (ns ++ [0]).map D.int = NS0 at *
  generalize ns.map D.int = NS at *
  simp [evB_cons, evB_nil, seqB_nx, seqB_ret, seqB_exc, seqB_bk, seqB_ct, endF_ret, endF_nx, endF_exc, evS, ev, evs, evBop, evo, evc, evSr, R_ok, R_exc, R_some, O_ok, O_exc, startE, getv, lower, cmp_str, cmpne_str, itemsOf, seqOf, enumOf, zipOf, Tg.put, Tg.ids, setAll, wipeE, fn15, bc, sl]
  rw [e]
  simp [evB_cons, evB_nil, seqB_nx, seqB_ret, seqB_exc, seqB_bk, seqB_ct, endF_ret, endF_nx, endF_exc, evS, ev, evs, evBop, evo, evc, evSr, R_ok, R_exc, R_some, O_ok, O_exc, startE, getv, lower, cmp_str, cmpne_str, itemsOf, seqOf, enumOf, zipOf, Tg.put, Tg.ids, setAll, wipeE]
end
/-! LAWARGS: ⟨rfl, rfl, rfl, rfl, rfl, rfl⟩ ⟨rfl, rfl, rfl, rfl, rfl, rfl, rfl, rfl, rfl, rfl⟩ (by decide) -/
end Ly

namespace Ly
open PySem PySem.Spec PyProof.Rows L2
abbrev fuel : Nat := 60
abbrev wfuel : Nat := 1000000
/-! ### the program, in the small language (printed by gen.py) -/
def cfg : Cfg := { fns := ["is_whole", "leaf_count", "is_shape", "read_number", "rec_from", "shape_from", "read_shape", "show_shape", "_law_leaf", "_law_next", "_law_same", "_law_odd", "_law_spoiled", "_law_refused", "_law_wrapped", "law"], exs := ["NoText", "LendError", "Against", "Misfit", "NoName", "NoPart", "NotSole", "NoWay", "Stale", "ValueError"], gls := [("DEEPEST", (.int 3)), ("MOST_LEAVES", (.int 8)), ("LONGEST_STRIP", (.int 8)), ("MOST_PARTS", (.int 4)), ("FIGURES", (.str "0123456789")), ("MOST_FIGURES", (.int 30))], sub := fun c k => (([[true, true, false, false, false, false, false, false, false, true]] : List (List Bool)).getD c [true, true, false, false, false, false, false, false, false, true]).getD k false, nown := 1, dfl := [] }
def top (i : Nat) : Stmt := PySem.Challenge.pw_lendrule_k80_shapes_as_texts.main.body.getD i (.Pass ⟨0, 0, 0, 0⟩)
abbrev st0 : Stmt := top 15
def nm0 : List Str := ["thing"]
theorem sc0 : FnScope nm0 ["thing"] (defScope st0) := ⟨rfl, rfl, rfl, by decide +kernel, rfl, by decide +kernel, by decide +kernel⟩
theorem mb0 : mB cfg nm0 (defScope st0) true fn0.body (defBody st0) = true := by decide +kernel
abbrev st1 : Stmt := top 16
def nm1 : List Str := ["thing", "deep", "parts", "many", "one", "count"]
theorem sc1 : FnScope nm1 ["thing", "deep"] (defScope st1) := ⟨rfl, rfl, rfl, by decide +kernel, rfl, by decide +kernel, by decide +kernel⟩
theorem mb1 : mB cfg nm1 (defScope st1) true fn1.body (defBody st1) = true := by decide +kernel
abbrev st2 : Stmt := top 17
def nm2 : List Str := ["thing"]
theorem sc2 : FnScope nm2 ["thing"] (defScope st2) := ⟨rfl, rfl, rfl, by decide +kernel, rfl, by decide +kernel, by decide +kernel⟩
theorem mb2 : mB cfg nm2 (defScope st2) true fn2.body (defBody st2) = true := by decide +kernel
abbrev st3 : Stmt := top 21
def nm3 : List Str := ["word", "sign"]
theorem sc3 : FnScope nm3 ["word"] (defScope st3) := ⟨rfl, rfl, rfl, by decide +kernel, rfl, by decide +kernel, by decide +kernel⟩
theorem mb3 : mB cfg nm3 (defScope st3) true fn3.body (defBody st3) = true := by decide +kernel
abbrev st4 : Stmt := top 22
def nm4 : List Str := ["text", "at", "deep", "found", "sign", "one"]
theorem sc4 : FnScope nm4 ["text", "at", "deep"] (defScope st4) := ⟨rfl, rfl, rfl, by decide +kernel, rfl, by decide +kernel, by decide +kernel⟩
theorem mb4 : mB cfg nm4 (defScope st4) true fn4.body (defBody st4) = true := by decide +kernel
abbrev st5 : Stmt := top 23
def nm5 : List Str := ["text", "at", "deep", "end"]
theorem sc5 : FnScope nm5 ["text", "at", "deep"] (defScope st5) := ⟨rfl, rfl, rfl, by decide +kernel, rfl, by decide +kernel, by decide +kernel⟩
theorem mb5 : mB cfg nm5 (defScope st5) true fn5.body (defBody st5) = true := by decide +kernel
abbrev st6 : Stmt := top 24
def nm6 : List Str := ["text", "shape", "end"]
theorem sc6 : FnScope nm6 ["text"] (defScope st6) := ⟨rfl, rfl, rfl, by decide +kernel, rfl, by decide +kernel, by decide +kernel⟩
theorem mb6 : mB cfg nm6 (defScope st6) true fn6.body (defBody st6) = true := by decide +kernel
abbrev st7 : Stmt := top 26
def nm7 : List Str := ["shape", "one"]
theorem sc7 : FnScope nm7 ["shape"] (defScope st7) := ⟨rfl, rfl, rfl, by decide +kernel, rfl, by decide +kernel, by decide +kernel⟩
theorem mb7 : mB cfg nm7 (defScope st7) true fn7.body (defBody st7) = true := by decide +kernel
abbrev st8 : Stmt := top 28
def nm8 : List Str := ["_law_cell", "_law_size"]
theorem sc8 : FnScope nm8 ["_law_cell"] (defScope st8) := ⟨rfl, rfl, rfl, by decide +kernel, rfl, by decide +kernel, by decide +kernel⟩
theorem mb8 : mB cfg nm8 (defScope st8) true fn8.body (defBody st8) = true := by decide +kernel
abbrev st9 : Stmt := top 29
def nm9 : List Str := ["_law_shapes", "_law_cell", "_law_some", "_law_many", "_law_one", "_law_deep", "_law_shape", "_law_due"]
theorem sc9 : FnScope nm9 ["_law_shapes", "_law_cell"] (defScope st9) := ⟨rfl, rfl, rfl, by decide +kernel, rfl, by decide +kernel, by decide +kernel⟩
theorem mb9 : mB cfg nm9 (defScope st9) true fn9.body (defBody st9) = true := by decide +kernel
abbrev st10 : Stmt := top 30
def nm10 : List Str := ["_law_found", "_law_due", "_law_one", "_law_other"]
theorem sc10 : FnScope nm10 ["_law_found", "_law_due"] (defScope st10) := ⟨rfl, rfl, rfl, by decide +kernel, rfl, by decide +kernel, by decide +kernel⟩
theorem mb10 : mB cfg nm10 (defScope st10) true fn10.body (defBody st10) = true := by decide +kernel
abbrev st11 : Stmt := top 31
def nm11 : List Str := ["_law_cell", "_law_some"]
theorem sc11 : FnScope nm11 ["_law_cell"] (defScope st11) := ⟨rfl, rfl, rfl, by decide +kernel, rfl, by decide +kernel, by decide +kernel⟩
theorem mb11 : mB cfg nm11 (defScope st11) true fn11.body (defBody st11) = true := by decide +kernel
abbrev st12 : Stmt := top 32
def nm12 : List Str := ["_law_shown_so", "_law_cell", "_law_at"]
theorem sc12 : FnScope nm12 ["_law_shown_so", "_law_cell"] (defScope st12) := ⟨rfl, rfl, rfl, by decide +kernel, rfl, by decide +kernel, by decide +kernel⟩
theorem mb12 : mB cfg nm12 (defScope st12) true fn12.body (defBody st12) = true := by decide +kernel
abbrev st13 : Stmt := top 33
def nm13 : List Str := ["_law_some", "_law_named", "_law_other", "e"]
theorem sc13 : FnScope nm13 ["_law_some"] (defScope st13) := ⟨rfl, rfl, rfl, by decide +kernel, rfl, by decide +kernel, by decide +kernel⟩
theorem mb13 : mB cfg nm13 (defScope st13) true fn13.body (defBody st13) = true := by decide +kernel
abbrev st14 : Stmt := top 34
def nm14 : List Str := ["_law_shape", "_law_deep", "_law_due", "_law_many", "_law_k"]
theorem sc14 : FnScope nm14 ["_law_shape", "_law_deep", "_law_due", "_law_many"] (defScope st14) := ⟨rfl, rfl, rfl, by decide +kernel, rfl, by decide +kernel, by decide +kernel⟩
theorem mb14 : mB cfg nm14 (defScope st14) true fn14.body (defBody st14) = true := by decide +kernel
abbrev st15 : Stmt := top 35
def nm15 : List Str := ["_law_script", "_law_shapes", "_law_cell", "_law_shape", "_law_deep", "_law_many", "_law_due", "_law_found", "_law_number"]
theorem sc15 : FnScope nm15 ["_law_script"] (defScope st15) := ⟨rfl, rfl, rfl, by decide +kernel, rfl, by decide +kernel, by decide +kernel⟩
theorem mb15 : mB cfg nm15 (defScope st15) true fn15.body (defBody st15) = true := by decide +kernel
def exOwn : List Str := ["NoText"]
def caA (K : PySem.W.Frag) (c : Nat) : Addr := match PySem.W.nsIn K mainGlobals (exOwn.getD c "NoText") with
  | some (some (.ref a)) => a
  | _ => 0
theorem kit_own {K : PySem.W.Frag} {C D : Addr} {b : Bool} (h1 : PySem.W.subIn K (.ref D) (.type "BaseException") = some true) (hd : PySem.W.hasDictIn K D = true) (ht : PySem.W.typeIn K (.ref D) = some (.type "type")) (hs : PySem.W.subIn K (.ref C) (.ref C) = some true) (h : PySem.W.subIn K (.ref C) (.ref D) = some b) : PySem.W.kitOne K (.ref C) (.ref D) = some b := by
  obtain ⟨cd, hc, _⟩ := PySem.W.any_some hd
  have e2 : ((PySem.W.clsIn K D).isSome && PySem.W.typeIn K (.ref D) == some (.type "type")) = true := by rw [hc, ht] <;> rfl
  unfold PySem.W.kitOne
  split
  · rename_i q
    have e : Value.ref C = Value.ref D := beq_iff_eq.mp q
    cases e
    rw [hs] at h
    exact h
  · show (if ((PySem.W.clsIn K D).isSome && PySem.W.typeIn K (.ref D) == some (.type "type")) = true then PySem.W.subIn K (.ref C) (.ref D) else none) = some b
    rw [if_pos e2]
    exact h
theorem kit_ty {K : PySem.W.Frag} {C : Addr} {T : String} {b : Bool} (hm : PySem.W.kitMeta T = true) (h : PySem.W.subIn K (.ref C) (.type T) = some b) : PySem.W.kitOne K (.ref C) (.type T) = some b := by
  unfold PySem.W.kitOne
  split
  · rename_i q
    exact absurd (beq_iff_eq.mp q) (fun z => by cases z)
  · show (if PySem.W.kitMeta T = true then PySem.W.subIn K (.ref C) (.type T) else none) = some b
    rw [if_pos hm]
    exact h
theorem exm_ty {K : PySem.W.Frag} {C : Addr} {T : String} {b : Bool} (h1 : (PySem.fastBuiltinMro T).map (·.contains (.type "BaseException")) = some true) (hm : PySem.W.kitMeta T = true) (h : PySem.W.subIn K (.ref C) (.type T) = some b) : PySem.W.exmOne K (.ref C) (.type T) = some b := by
  have e1 : (PySem.W.subIn K (.type T) (.type "BaseException") == some true) = true := by
    show ((PySem.fastBuiltinMro T).map (·.contains (.type "BaseException")) == some true) = true
    rw [h1]
    rfl
  show (if (PySem.W.subIn K (.type T) (.type "BaseException") == some true) = true then (if PySem.W.kitMeta T = true then PySem.W.subIn K (.ref C) (.type T) else none) else none) = some b
  rw [if_pos e1, if_pos hm]
  exact h
abbrev spA (K : PySem.W.Frag) (cf : Nat → List D → CR) (f : Nat) : L2.Sp := spF K (caA K) cf f
theorem law_true (ns : List Int) (hl : ns.length ≤ 63) : ∃ l, callF cfg.G cfg.sub tab wfuel fuel 15 [.lst (ns.map D.int)] = .ok l (.bl true) := law_fn ⟨rfl, rfl, rfl, rfl, rfl, rfl⟩ ⟨rfl, rfl, rfl, rfl, rfl, rfl, rfl, rfl, rfl, rfl⟩ (by decide) ns hl
theorem all_mk {l : PySem.W.OpenLaw} {w : World} {K : PySem.W.Frag} {h : Heap} {mg : Str → Option Value} {fa f0 f1 f2 f3 f4 f5 f6 f7 f8 f9 f10 f11 f12 f13 f14 f15 : Addr} (X : K.In h) (G : h.Ns mainGlobals mg) (hfa : mg "law" = some (.ref fa))
    {od0 an0 : Option Addr} {sl0 : Array (Option Value)} {oc0 kV0 dc0 pm0 cd0 ct0 : Value}
    {od1 an1 : Option Addr} {sl1 : Array (Option Value)} {oc1 kV1 dc1 pm1 cd1 ct1 : Value}
    {od2 an2 : Option Addr} {sl2 : Array (Option Value)} {oc2 kV2 dc2 pm2 cd2 ct2 : Value}
    {od3 an3 : Option Addr} {sl3 : Array (Option Value)} {oc3 kV3 dc3 pm3 cd3 ct3 : Value}
    {od4 an4 : Option Addr} {sl4 : Array (Option Value)} {oc4 kV4 dc4 pm4 cd4 ct4 : Value}
    {od5 an5 : Option Addr} {sl5 : Array (Option Value)} {oc5 kV5 dc5 pm5 cd5 ct5 : Value}
    {od6 an6 : Option Addr} {sl6 : Array (Option Value)} {oc6 kV6 dc6 pm6 cd6 ct6 : Value}
    {od7 an7 : Option Addr} {sl7 : Array (Option Value)} {oc7 kV7 dc7 pm7 cd7 ct7 : Value}
    {od8 an8 : Option Addr} {sl8 : Array (Option Value)} {oc8 kV8 dc8 pm8 cd8 ct8 : Value}
    {od9 an9 : Option Addr} {sl9 : Array (Option Value)} {oc9 kV9 dc9 pm9 cd9 ct9 : Value}
    {od10 an10 : Option Addr} {sl10 : Array (Option Value)} {oc10 kV10 dc10 pm10 cd10 ct10 : Value}
    {od11 an11 : Option Addr} {sl11 : Array (Option Value)} {oc11 kV11 dc11 pm11 cd11 ct11 : Value}
    {od12 an12 : Option Addr} {sl12 : Array (Option Value)} {oc12 kV12 dc12 pm12 cd12 ct12 : Value}
    {od13 an13 : Option Addr} {sl13 : Array (Option Value)} {oc13 kV13 dc13 pm13 cd13 ct13 : Value}
    {od14 an14 : Option Addr} {sl14 : Array (Option Value)} {oc14 kV14 dc14 pm14 cd14 ct14 : Value}
    {od15 an15 : Option Addr} {sl15 : Array (Option Value)} {oc15 kV15 dc15 pm15 cd15 ct15 : Value}
    (a0 : PySem.W.nsIn K mainGlobals "is_whole" = some (some (.ref f0))) (l0 : K.lookup f0 = some ⟨oc0, od0, .func (PySem.W.fnOf "is_whole" "is_whole" (defArgs st0) (defBody st0) (defScope st0) .none kV0 dc0 pm0 an0 cd0 ct0), sl0⟩) (c0 : PySem.W.codeIn K cd0 "is_whole" = true) (k0 : PySem.W.keepIn K (.ref f0) = true)
    (a1 : PySem.W.nsIn K mainGlobals "leaf_count" = some (some (.ref f1))) (l1 : K.lookup f1 = some ⟨oc1, od1, .func (PySem.W.fnOf "leaf_count" "leaf_count" (defArgs st1) (defBody st1) (defScope st1) .none kV1 dc1 pm1 an1 cd1 ct1), sl1⟩) (c1 : PySem.W.codeIn K cd1 "leaf_count" = true) (k1 : PySem.W.keepIn K (.ref f1) = true)
    (a2 : PySem.W.nsIn K mainGlobals "is_shape" = some (some (.ref f2))) (l2 : K.lookup f2 = some ⟨oc2, od2, .func (PySem.W.fnOf "is_shape" "is_shape" (defArgs st2) (defBody st2) (defScope st2) .none kV2 dc2 pm2 an2 cd2 ct2), sl2⟩) (c2 : PySem.W.codeIn K cd2 "is_shape" = true) (k2 : PySem.W.keepIn K (.ref f2) = true)
    (a3 : PySem.W.nsIn K mainGlobals "read_number" = some (some (.ref f3))) (l3 : K.lookup f3 = some ⟨oc3, od3, .func (PySem.W.fnOf "read_number" "read_number" (defArgs st3) (defBody st3) (defScope st3) .none kV3 dc3 pm3 an3 cd3 ct3), sl3⟩) (c3 : PySem.W.codeIn K cd3 "read_number" = true) (k3 : PySem.W.keepIn K (.ref f3) = true)
    (a4 : PySem.W.nsIn K mainGlobals "rec_from" = some (some (.ref f4))) (l4 : K.lookup f4 = some ⟨oc4, od4, .func (PySem.W.fnOf "rec_from" "rec_from" (defArgs st4) (defBody st4) (defScope st4) .none kV4 dc4 pm4 an4 cd4 ct4), sl4⟩) (c4 : PySem.W.codeIn K cd4 "rec_from" = true) (k4 : PySem.W.keepIn K (.ref f4) = true)
    (a5 : PySem.W.nsIn K mainGlobals "shape_from" = some (some (.ref f5))) (l5 : K.lookup f5 = some ⟨oc5, od5, .func (PySem.W.fnOf "shape_from" "shape_from" (defArgs st5) (defBody st5) (defScope st5) .none kV5 dc5 pm5 an5 cd5 ct5), sl5⟩) (c5 : PySem.W.codeIn K cd5 "shape_from" = true) (k5 : PySem.W.keepIn K (.ref f5) = true)
    (a6 : PySem.W.nsIn K mainGlobals "read_shape" = some (some (.ref f6))) (l6 : K.lookup f6 = some ⟨oc6, od6, .func (PySem.W.fnOf "read_shape" "read_shape" (defArgs st6) (defBody st6) (defScope st6) .none kV6 dc6 pm6 an6 cd6 ct6), sl6⟩) (c6 : PySem.W.codeIn K cd6 "read_shape" = true) (k6 : PySem.W.keepIn K (.ref f6) = true)
    (a7 : PySem.W.nsIn K mainGlobals "show_shape" = some (some (.ref f7))) (l7 : K.lookup f7 = some ⟨oc7, od7, .func (PySem.W.fnOf "show_shape" "show_shape" (defArgs st7) (defBody st7) (defScope st7) .none kV7 dc7 pm7 an7 cd7 ct7), sl7⟩) (c7 : PySem.W.codeIn K cd7 "show_shape" = true) (k7 : PySem.W.keepIn K (.ref f7) = true)
    (a8 : PySem.W.nsIn K mainGlobals "_law_leaf" = some (some (.ref f8))) (l8 : K.lookup f8 = some ⟨oc8, od8, .func (PySem.W.fnOf "_law_leaf" "_law_leaf" (defArgs st8) (defBody st8) (defScope st8) .none kV8 dc8 pm8 an8 cd8 ct8), sl8⟩) (c8 : PySem.W.codeIn K cd8 "_law_leaf" = true) (k8 : PySem.W.keepIn K (.ref f8) = true)
    (a9 : PySem.W.nsIn K mainGlobals "_law_next" = some (some (.ref f9))) (l9 : K.lookup f9 = some ⟨oc9, od9, .func (PySem.W.fnOf "_law_next" "_law_next" (defArgs st9) (defBody st9) (defScope st9) .none kV9 dc9 pm9 an9 cd9 ct9), sl9⟩) (c9 : PySem.W.codeIn K cd9 "_law_next" = true) (k9 : PySem.W.keepIn K (.ref f9) = true)
    (a10 : PySem.W.nsIn K mainGlobals "_law_same" = some (some (.ref f10))) (l10 : K.lookup f10 = some ⟨oc10, od10, .func (PySem.W.fnOf "_law_same" "_law_same" (defArgs st10) (defBody st10) (defScope st10) .none kV10 dc10 pm10 an10 cd10 ct10), sl10⟩) (c10 : PySem.W.codeIn K cd10 "_law_same" = true) (k10 : PySem.W.keepIn K (.ref f10) = true)
    (a11 : PySem.W.nsIn K mainGlobals "_law_odd" = some (some (.ref f11))) (l11 : K.lookup f11 = some ⟨oc11, od11, .func (PySem.W.fnOf "_law_odd" "_law_odd" (defArgs st11) (defBody st11) (defScope st11) .none kV11 dc11 pm11 an11 cd11 ct11), sl11⟩) (c11 : PySem.W.codeIn K cd11 "_law_odd" = true) (k11 : PySem.W.keepIn K (.ref f11) = true)
    (a12 : PySem.W.nsIn K mainGlobals "_law_spoiled" = some (some (.ref f12))) (l12 : K.lookup f12 = some ⟨oc12, od12, .func (PySem.W.fnOf "_law_spoiled" "_law_spoiled" (defArgs st12) (defBody st12) (defScope st12) .none kV12 dc12 pm12 an12 cd12 ct12), sl12⟩) (c12 : PySem.W.codeIn K cd12 "_law_spoiled" = true) (k12 : PySem.W.keepIn K (.ref f12) = true)
    (a13 : PySem.W.nsIn K mainGlobals "_law_refused" = some (some (.ref f13))) (l13 : K.lookup f13 = some ⟨oc13, od13, .func (PySem.W.fnOf "_law_refused" "_law_refused" (defArgs st13) (defBody st13) (defScope st13) .none kV13 dc13 pm13 an13 cd13 ct13), sl13⟩) (c13 : PySem.W.codeIn K cd13 "_law_refused" = true) (k13 : PySem.W.keepIn K (.ref f13) = true)
    (a14 : PySem.W.nsIn K mainGlobals "_law_wrapped" = some (some (.ref f14))) (l14 : K.lookup f14 = some ⟨oc14, od14, .func (PySem.W.fnOf "_law_wrapped" "_law_wrapped" (defArgs st14) (defBody st14) (defScope st14) .none kV14 dc14 pm14 an14 cd14 ct14), sl14⟩) (c14 : PySem.W.codeIn K cd14 "_law_wrapped" = true) (k14 : PySem.W.keepIn K (.ref f14) = true)
    (a15 : PySem.W.nsIn K mainGlobals "law" = some (some (.ref f15))) (l15 : K.lookup f15 = some ⟨oc15, od15, .func (PySem.W.fnOf "law" "law" (defArgs st15) (defBody st15) (defScope st15) .none kV15 dc15 pm15 an15 cd15 ct15), sl15⟩) (c15 : PySem.W.codeIn K cd15 "law" = true) (k15 : PySem.W.keepIn K (.ref f15) = true)
    (zb0 : PySem.W.nsIn K mainGlobals "len" = some none)
    (zb1 : PySem.W.nsIn K mainGlobals "tuple" = some none)
    (zb2 : PySem.W.nsIn K mainGlobals "list" = some none)
    (zb3 : PySem.W.nsIn K mainGlobals "int" = some none)
    (zb4 : PySem.W.nsIn K mainGlobals "bool" = some none)
    (zb5 : PySem.W.nsIn K mainGlobals "max" = some none)
    (zb6 : PySem.W.nsIn K mainGlobals "min" = some none)
    (zb7 : PySem.W.nsIn K mainGlobals "sum" = some none)
    (zb8 : PySem.W.nsIn K mainGlobals "all" = some none)
    (zb9 : PySem.W.nsIn K mainGlobals "any" = some none)
    (zb10 : PySem.W.nsIn K mainGlobals "sorted" = some none)
    (zb11 : PySem.W.nsIn K mainGlobals "str" = some none)
    (zb12 : PySem.W.nsIn K mainGlobals "isinstance" = some none)
    (zb13 : PySem.W.nsIn K mainGlobals "range" = some none)
    (zb14 : PySem.W.nsIn K mainGlobals "enumerate" = some none)
    (zb15 : PySem.W.nsIn K mainGlobals "zip" = some none)
    (zb16 : PySem.W.nsIn K mainGlobals "set" = some none)
    (zb17 : PySem.W.nsIn K mainGlobals "dict" = some none)
    (zb18 : PySem.W.nsIn K mainGlobals "reversed" = some none)
    {tg0 : Tok} {tg1 : Tok} {tg2 : Tok} {tg3 : Tok} {tg4 : Tok} {tg5 : Tok} {C0 : Addr} {C1 : Addr} {C2 : Addr} {C3 : Addr} {C4 : Addr} {C5 : Addr} {C6 : Addr} {C7 : Addr} {C8 : Addr}
    (q0 : PySem.W.nsIn K mainGlobals "DEEPEST" = some (some (Value.int 3 tg0)))
    (q1 : PySem.W.nsIn K mainGlobals "MOST_LEAVES" = some (some (Value.int 8 tg1)))
    (q2 : PySem.W.nsIn K mainGlobals "LONGEST_STRIP" = some (some (Value.int 8 tg2)))
    (q3 : PySem.W.nsIn K mainGlobals "MOST_PARTS" = some (some (Value.int 4 tg3)))
    (q4 : PySem.W.nsIn K mainGlobals "FIGURES" = some (some (Value.str "0123456789" tg4)))
    (q5 : PySem.W.nsIn K mainGlobals "MOST_FIGURES" = some (some (Value.int 30 tg5)))
    (en : PySem.W.specialIn K (.builtin "object.__class__") "__get__" = some (some (.builtin "getset_descriptor.__get__")))
    (eh : PySem.W.takesIn K (.builtin "object.__class__") = some true)
    (ga0 : PySem.W.nsIn K mainGlobals "NoText" = some (some (.ref C0)))
    (es0 : PySem.W.subIn K (.ref C0) (.type "BaseException") = some true)
    (ed0 : PySem.W.hasDictIn K C0 = true)
    (et0 : PySem.W.typeIn K (.ref C0) = some (.type "type"))
    (ga1 : PySem.W.nsIn K mainGlobals "LendError" = some (some (.ref C1)))
    (es1 : PySem.W.subIn K (.ref C1) (.type "BaseException") = some true)
    (ed1 : PySem.W.hasDictIn K C1 = true)
    (et1 : PySem.W.typeIn K (.ref C1) = some (.type "type"))
    (ga2 : PySem.W.nsIn K mainGlobals "Against" = some (some (.ref C2)))
    (es2 : PySem.W.subIn K (.ref C2) (.type "BaseException") = some true)
    (ed2 : PySem.W.hasDictIn K C2 = true)
    (et2 : PySem.W.typeIn K (.ref C2) = some (.type "type"))
    (ga3 : PySem.W.nsIn K mainGlobals "Misfit" = some (some (.ref C3)))
    (es3 : PySem.W.subIn K (.ref C3) (.type "BaseException") = some true)
    (ed3 : PySem.W.hasDictIn K C3 = true)
    (et3 : PySem.W.typeIn K (.ref C3) = some (.type "type"))
    (ga4 : PySem.W.nsIn K mainGlobals "NoName" = some (some (.ref C4)))
    (es4 : PySem.W.subIn K (.ref C4) (.type "BaseException") = some true)
    (ed4 : PySem.W.hasDictIn K C4 = true)
    (et4 : PySem.W.typeIn K (.ref C4) = some (.type "type"))
    (ga5 : PySem.W.nsIn K mainGlobals "NoPart" = some (some (.ref C5)))
    (es5 : PySem.W.subIn K (.ref C5) (.type "BaseException") = some true)
    (ed5 : PySem.W.hasDictIn K C5 = true)
    (et5 : PySem.W.typeIn K (.ref C5) = some (.type "type"))
    (ga6 : PySem.W.nsIn K mainGlobals "NotSole" = some (some (.ref C6)))
    (es6 : PySem.W.subIn K (.ref C6) (.type "BaseException") = some true)
    (ed6 : PySem.W.hasDictIn K C6 = true)
    (et6 : PySem.W.typeIn K (.ref C6) = some (.type "type"))
    (ga7 : PySem.W.nsIn K mainGlobals "NoWay" = some (some (.ref C7)))
    (es7 : PySem.W.subIn K (.ref C7) (.type "BaseException") = some true)
    (ed7 : PySem.W.hasDictIn K C7 = true)
    (et7 : PySem.W.typeIn K (.ref C7) = some (.type "type"))
    (ga8 : PySem.W.nsIn K mainGlobals "Stale" = some (some (.ref C8)))
    (es8 : PySem.W.subIn K (.ref C8) (.type "BaseException") = some true)
    (ed8 : PySem.W.hasDictIn K C8 = true)
    (et8 : PySem.W.typeIn K (.ref C8) = some (.type "type"))
    (gb9 : PySem.W.nsIn K mainGlobals "ValueError" = some none)
    (eg0 : PySem.W.findIn K (.ref C0) "__getattribute__" = some (some (.builtin "BaseException.__getattribute__")))
    (ek0 : PySem.W.findIn K (.ref C0) "__getattr__" = some none)
    (ea0 : PySem.W.findIn K (.ref C0) "__class__" = some (some (.builtin "object.__class__")))
    (em0 : PySem.W.mroIn K C0 (.type "object") = some true)
    (ei0 : PySem.W.excIn K C0 [.type "ValueError", .type "Exception", .type "BaseException", .type "object"] "ValueError.__new__" = true)
    (ep0 : PySem.W.keepIn K (.ref C0) = true)
    (x0_0 : PySem.W.subIn K (.ref C0) (.ref C0) = some true)
    (x0_1 : PySem.W.subIn K (.ref C0) (.ref C1) = some true)
    (x0_2 : PySem.W.subIn K (.ref C0) (.ref C2) = some false)
    (x0_3 : PySem.W.subIn K (.ref C0) (.ref C3) = some false)
    (x0_4 : PySem.W.subIn K (.ref C0) (.ref C4) = some false)
    (x0_5 : PySem.W.subIn K (.ref C0) (.ref C5) = some false)
    (x0_6 : PySem.W.subIn K (.ref C0) (.ref C6) = some false)
    (x0_7 : PySem.W.subIn K (.ref C0) (.ref C7) = some false)
    (x0_8 : PySem.W.subIn K (.ref C0) (.ref C8) = some false)
    (x0_9 : PySem.W.subIn K (.ref C0) (.type "ValueError") = some true) :
    ∃ fd : FuncData, (∀ (s : Shared) (v : Value), BindsTo s fd ⟨[v], []⟩ [("_law_script", v)]) ∧ ∀ base : Heap, K.In base → base.Ns mainGlobals mg → FnOk l.prog w K mg base (L2.CX l.prog w) fuel fa fd ["_law_script"] (spF K (caA K) (callF cfg.G cfg.sub tab wfuel fuel) 15) := by
  have e := hfa.symm.trans (PySem.W.mg_of X G a15)
  cases e
  have F0 := fun_mk (st := st0) l0 c0 k0
  have b0 := F0.binds (ps := ["thing"]) fun _ _ _ _ _ _ us hl => match us, hl with | [_], _ => rfl
  have X0 := FunX.of F0
  have e0 : ∀ ss, (0, ss) ∈ cfg.dfl → ∃ dsv, Vals (ss.map V.str) dsv ∧ Binds K (PySem.W.fnOf "is_whole" "is_whole" (defArgs st0) (defBody st0) (defScope st0) .none kV0 dc0 pm0 an0 cd0 ct0) ["thing"] dsv := fun ss h => by simp [cfg] at h
  have F1 := fun_mk (st := st1) l1 c1 k1
  have b1 := F1.binds (ps := ["thing", "deep"]) fun _ _ _ _ _ _ us hl => match us, hl with | [_, _], _ => rfl
  have X1 := FunX.of F1
  have e1 : ∀ ss, (1, ss) ∈ cfg.dfl → ∃ dsv, Vals (ss.map V.str) dsv ∧ Binds K (PySem.W.fnOf "leaf_count" "leaf_count" (defArgs st1) (defBody st1) (defScope st1) .none kV1 dc1 pm1 an1 cd1 ct1) ["thing", "deep"] dsv := fun ss h => by simp [cfg] at h
  have F2 := fun_mk (st := st2) l2 c2 k2
  have b2 := F2.binds (ps := ["thing"]) fun _ _ _ _ _ _ us hl => match us, hl with | [_], _ => rfl
  have X2 := FunX.of F2
  have e2 : ∀ ss, (2, ss) ∈ cfg.dfl → ∃ dsv, Vals (ss.map V.str) dsv ∧ Binds K (PySem.W.fnOf "is_shape" "is_shape" (defArgs st2) (defBody st2) (defScope st2) .none kV2 dc2 pm2 an2 cd2 ct2) ["thing"] dsv := fun ss h => by simp [cfg] at h
  have F3 := fun_mk (st := st3) l3 c3 k3
  have b3 := F3.binds (ps := ["word"]) fun _ _ _ _ _ _ us hl => match us, hl with | [_], _ => rfl
  have X3 := FunX.of F3
  have e3 : ∀ ss, (3, ss) ∈ cfg.dfl → ∃ dsv, Vals (ss.map V.str) dsv ∧ Binds K (PySem.W.fnOf "read_number" "read_number" (defArgs st3) (defBody st3) (defScope st3) .none kV3 dc3 pm3 an3 cd3 ct3) ["word"] dsv := fun ss h => by simp [cfg] at h
  have F4 := fun_mk (st := st4) l4 c4 k4
  have b4 := F4.binds (ps := ["text", "at", "deep"]) fun _ _ _ _ _ _ us hl => match us, hl with | [_, _, _], _ => rfl
  have X4 := FunX.of F4
  have e4 : ∀ ss, (4, ss) ∈ cfg.dfl → ∃ dsv, Vals (ss.map V.str) dsv ∧ Binds K (PySem.W.fnOf "rec_from" "rec_from" (defArgs st4) (defBody st4) (defScope st4) .none kV4 dc4 pm4 an4 cd4 ct4) ["text", "at", "deep"] dsv := fun ss h => by simp [cfg] at h
  have F5 := fun_mk (st := st5) l5 c5 k5
  have b5 := F5.binds (ps := ["text", "at", "deep"]) fun _ _ _ _ _ _ us hl => match us, hl with | [_, _, _], _ => rfl
  have X5 := FunX.of F5
  have e5 : ∀ ss, (5, ss) ∈ cfg.dfl → ∃ dsv, Vals (ss.map V.str) dsv ∧ Binds K (PySem.W.fnOf "shape_from" "shape_from" (defArgs st5) (defBody st5) (defScope st5) .none kV5 dc5 pm5 an5 cd5 ct5) ["text", "at", "deep"] dsv := fun ss h => by simp [cfg] at h
  have F6 := fun_mk (st := st6) l6 c6 k6
  have b6 := F6.binds (ps := ["text"]) fun _ _ _ _ _ _ us hl => match us, hl with | [_], _ => rfl
  have X6 := FunX.of F6
  have e6 : ∀ ss, (6, ss) ∈ cfg.dfl → ∃ dsv, Vals (ss.map V.str) dsv ∧ Binds K (PySem.W.fnOf "read_shape" "read_shape" (defArgs st6) (defBody st6) (defScope st6) .none kV6 dc6 pm6 an6 cd6 ct6) ["text"] dsv := fun ss h => by simp [cfg] at h
  have F7 := fun_mk (st := st7) l7 c7 k7
  have b7 := F7.binds (ps := ["shape"]) fun _ _ _ _ _ _ us hl => match us, hl with | [_], _ => rfl
  have X7 := FunX.of F7
  have e7 : ∀ ss, (7, ss) ∈ cfg.dfl → ∃ dsv, Vals (ss.map V.str) dsv ∧ Binds K (PySem.W.fnOf "show_shape" "show_shape" (defArgs st7) (defBody st7) (defScope st7) .none kV7 dc7 pm7 an7 cd7 ct7) ["shape"] dsv := fun ss h => by simp [cfg] at h
  have F8 := fun_mk (st := st8) l8 c8 k8
  have b8 := F8.binds (ps := ["_law_cell"]) fun _ _ _ _ _ _ us hl => match us, hl with | [_], _ => rfl
  have X8 := FunX.of F8
  have e8 : ∀ ss, (8, ss) ∈ cfg.dfl → ∃ dsv, Vals (ss.map V.str) dsv ∧ Binds K (PySem.W.fnOf "_law_leaf" "_law_leaf" (defArgs st8) (defBody st8) (defScope st8) .none kV8 dc8 pm8 an8 cd8 ct8) ["_law_cell"] dsv := fun ss h => by simp [cfg] at h
  have F9 := fun_mk (st := st9) l9 c9 k9
  have b9 := F9.binds (ps := ["_law_shapes", "_law_cell"]) fun _ _ _ _ _ _ us hl => match us, hl with | [_, _], _ => rfl
  have X9 := FunX.of F9
  have e9 : ∀ ss, (9, ss) ∈ cfg.dfl → ∃ dsv, Vals (ss.map V.str) dsv ∧ Binds K (PySem.W.fnOf "_law_next" "_law_next" (defArgs st9) (defBody st9) (defScope st9) .none kV9 dc9 pm9 an9 cd9 ct9) ["_law_shapes", "_law_cell"] dsv := fun ss h => by simp [cfg] at h
  have F10 := fun_mk (st := st10) l10 c10 k10
  have b10 := F10.binds (ps := ["_law_found", "_law_due"]) fun _ _ _ _ _ _ us hl => match us, hl with | [_, _], _ => rfl
  have X10 := FunX.of F10
  have e10 : ∀ ss, (10, ss) ∈ cfg.dfl → ∃ dsv, Vals (ss.map V.str) dsv ∧ Binds K (PySem.W.fnOf "_law_same" "_law_same" (defArgs st10) (defBody st10) (defScope st10) .none kV10 dc10 pm10 an10 cd10 ct10) ["_law_found", "_law_due"] dsv := fun ss h => by simp [cfg] at h
  have F11 := fun_mk (st := st11) l11 c11 k11
  have b11 := F11.binds (ps := ["_law_cell"]) fun _ _ _ _ _ _ us hl => match us, hl with | [_], _ => rfl
  have X11 := FunX.of F11
  have e11 : ∀ ss, (11, ss) ∈ cfg.dfl → ∃ dsv, Vals (ss.map V.str) dsv ∧ Binds K (PySem.W.fnOf "_law_odd" "_law_odd" (defArgs st11) (defBody st11) (defScope st11) .none kV11 dc11 pm11 an11 cd11 ct11) ["_law_cell"] dsv := fun ss h => by simp [cfg] at h
  have F12 := fun_mk (st := st12) l12 c12 k12
  have b12 := F12.binds (ps := ["_law_shown_so", "_law_cell"]) fun _ _ _ _ _ _ us hl => match us, hl with | [_, _], _ => rfl
  have X12 := FunX.of F12
  have e12 : ∀ ss, (12, ss) ∈ cfg.dfl → ∃ dsv, Vals (ss.map V.str) dsv ∧ Binds K (PySem.W.fnOf "_law_spoiled" "_law_spoiled" (defArgs st12) (defBody st12) (defScope st12) .none kV12 dc12 pm12 an12 cd12 ct12) ["_law_shown_so", "_law_cell"] dsv := fun ss h => by simp [cfg] at h
  have F13 := fun_mk (st := st13) l13 c13 k13
  have b13 := F13.binds (ps := ["_law_some"]) fun _ _ _ _ _ _ us hl => match us, hl with | [_], _ => rfl
  have X13 := FunX.of F13
  have e13 : ∀ ss, (13, ss) ∈ cfg.dfl → ∃ dsv, Vals (ss.map V.str) dsv ∧ Binds K (PySem.W.fnOf "_law_refused" "_law_refused" (defArgs st13) (defBody st13) (defScope st13) .none kV13 dc13 pm13 an13 cd13 ct13) ["_law_some"] dsv := fun ss h => by simp [cfg] at h
  have F14 := fun_mk (st := st14) l14 c14 k14
  have b14 := F14.binds (ps := ["_law_shape", "_law_deep", "_law_due", "_law_many"]) fun _ _ _ _ _ _ us hl => match us, hl with | [_, _, _, _], _ => rfl
  have X14 := FunX.of F14
  have e14 : ∀ ss, (14, ss) ∈ cfg.dfl → ∃ dsv, Vals (ss.map V.str) dsv ∧ Binds K (PySem.W.fnOf "_law_wrapped" "_law_wrapped" (defArgs st14) (defBody st14) (defScope st14) .none kV14 dc14 pm14 an14 cd14 ct14) ["_law_shape", "_law_deep", "_law_due", "_law_many"] dsv := fun ss h => by simp [cfg] at h
  have F15 := fun_mk (st := st15) l15 c15 k15
  have b15 := F15.binds (ps := ["_law_script"]) fun _ _ _ _ _ _ us hl => match us, hl with | [_], _ => rfl
  have X15 := FunX.of F15
  have e15 : ∀ ss, (15, ss) ∈ cfg.dfl → ∃ dsv, Vals (ss.map V.str) dsv ∧ Binds K (PySem.W.fnOf "law" "law" (defArgs st15) (defBody st15) (defScope st15) .none kV15 dc15 pm15 an15 cd15 ct15) ["_law_script"] dsv := fun ss h => by simp [cfg] at h
  have D : ∀ f x, cfg.fns[f]? = some x → DefOk K mg cfg tab f x := fun f x h => by
    match f, h with
    | 0, h => cases h; exact ⟨_, _, _, st0, nm0, fn0, PySem.W.mg_of X G a0, k0, X0, b0, e0, sc0, rfl, rfl, rfl, mb0⟩
    | 1, h => cases h; exact ⟨_, _, _, st1, nm1, fn1, PySem.W.mg_of X G a1, k1, X1, b1, e1, sc1, rfl, rfl, rfl, mb1⟩
    | 2, h => cases h; exact ⟨_, _, _, st2, nm2, fn2, PySem.W.mg_of X G a2, k2, X2, b2, e2, sc2, rfl, rfl, rfl, mb2⟩
    | 3, h => cases h; exact ⟨_, _, _, st3, nm3, fn3, PySem.W.mg_of X G a3, k3, X3, b3, e3, sc3, rfl, rfl, rfl, mb3⟩
    | 4, h => cases h; exact ⟨_, _, _, st4, nm4, fn4, PySem.W.mg_of X G a4, k4, X4, b4, e4, sc4, rfl, rfl, rfl, mb4⟩
    | 5, h => cases h; exact ⟨_, _, _, st5, nm5, fn5, PySem.W.mg_of X G a5, k5, X5, b5, e5, sc5, rfl, rfl, rfl, mb5⟩
    | 6, h => cases h; exact ⟨_, _, _, st6, nm6, fn6, PySem.W.mg_of X G a6, k6, X6, b6, e6, sc6, rfl, rfl, rfl, mb6⟩
    | 7, h => cases h; exact ⟨_, _, _, st7, nm7, fn7, PySem.W.mg_of X G a7, k7, X7, b7, e7, sc7, rfl, rfl, rfl, mb7⟩
    | 8, h => cases h; exact ⟨_, _, _, st8, nm8, fn8, PySem.W.mg_of X G a8, k8, X8, b8, e8, sc8, rfl, rfl, rfl, mb8⟩
    | 9, h => cases h; exact ⟨_, _, _, st9, nm9, fn9, PySem.W.mg_of X G a9, k9, X9, b9, e9, sc9, rfl, rfl, rfl, mb9⟩
    | 10, h => cases h; exact ⟨_, _, _, st10, nm10, fn10, PySem.W.mg_of X G a10, k10, X10, b10, e10, sc10, rfl, rfl, rfl, mb10⟩
    | 11, h => cases h; exact ⟨_, _, _, st11, nm11, fn11, PySem.W.mg_of X G a11, k11, X11, b11, e11, sc11, rfl, rfl, rfl, mb11⟩
    | 12, h => cases h; exact ⟨_, _, _, st12, nm12, fn12, PySem.W.mg_of X G a12, k12, X12, b12, e12, sc12, rfl, rfl, rfl, mb12⟩
    | 13, h => cases h; exact ⟨_, _, _, st13, nm13, fn13, PySem.W.mg_of X G a13, k13, X13, b13, e13, sc13, rfl, rfl, rfl, mb13⟩
    | 14, h => cases h; exact ⟨_, _, _, st14, nm14, fn14, PySem.W.mg_of X G a14, k14, X14, b14, e14, sc14, rfl, rfl, rfl, mb14⟩
    | 15, h => cases h; exact ⟨_, _, _, st15, nm15, fn15, PySem.W.mg_of X G a15, k15, X15, b15, e15, sc15, rfl, rfl, rfl, mb15⟩
    | n + 16, h => simp [cfg] at h
  have hca : ∀ c, caA K c = ([C0] : List Addr).getD c C0 := fun c => match c with
    | 0 => by show (match PySem.W.nsIn K mainGlobals "NoText" with | some (some (.ref a)) => a | _ => 0) = C0; rw [ga0]
    | n + 1 => by show (match PySem.W.nsIn K mainGlobals "NoText" with | some (some (.ref a)) => a | _ => 0) = C0; rw [ga0]
  have Tp : Tops K mg cfg (caA K) :=
    { bl := fun x hx => by
        simp only [bNames, List.mem_cons, List.mem_nil_iff, or_false] at hx
        rcases hx with rfl | rfl | rfl | rfl | rfl | rfl | rfl | rfl | rfl | rfl | rfl | rfl | rfl | rfl | rfl | rfl | rfl | rfl | rfl
        · exact PySem.W.mg_none_of X G zb0
        · exact PySem.W.mg_none_of X G zb1
        · exact PySem.W.mg_none_of X G zb2
        · exact PySem.W.mg_none_of X G zb3
        · exact PySem.W.mg_none_of X G zb4
        · exact PySem.W.mg_none_of X G zb5
        · exact PySem.W.mg_none_of X G zb6
        · exact PySem.W.mg_none_of X G zb7
        · exact PySem.W.mg_none_of X G zb8
        · exact PySem.W.mg_none_of X G zb9
        · exact PySem.W.mg_none_of X G zb10
        · exact PySem.W.mg_none_of X G zb11
        · exact PySem.W.mg_none_of X G zb12
        · exact PySem.W.mg_none_of X G zb13
        · exact PySem.W.mg_none_of X G zb14
        · exact PySem.W.mg_none_of X G zb15
        · exact PySem.W.mg_none_of X G zb16
        · exact PySem.W.mg_none_of X G zb17
        · exact PySem.W.mg_none_of X G zb18
      gls := fun g p h => match g, h with
        | 0, h => by cases h; exact ⟨_, (.int 3), PySem.W.mg_of X G q0, ⟨_, rfl⟩, fun H hot => .int 0 _⟩
        | 1, h => by cases h; exact ⟨_, (.int 8), PySem.W.mg_of X G q1, ⟨_, rfl⟩, fun H hot => .int 0 _⟩
        | 2, h => by cases h; exact ⟨_, (.int 8), PySem.W.mg_of X G q2, ⟨_, rfl⟩, fun H hot => .int 0 _⟩
        | 3, h => by cases h; exact ⟨_, (.int 4), PySem.W.mg_of X G q3, ⟨_, rfl⟩, fun H hot => .int 0 _⟩
        | 4, h => by cases h; exact ⟨_, (.str "0123456789"), PySem.W.mg_of X G q4, ⟨_, rfl⟩, fun H hot => .str 0 _⟩
        | 5, h => by cases h; exact ⟨_, (.int 30), PySem.W.mg_of X G q5, ⟨_, rfl⟩, fun H hot => .int 0 _⟩
        | n + 6, h => by simp [cfg] at h
      exC := fun _ c => by
        rw [hca]
        match c with
        | 0 => exact (⟨eg0, ek0, es0, ed0, ea0, en, eh, em0⟩ : ExcC K C0)
        | n + 1 => exact (⟨eg0, ek0, es0, ed0, ea0, en, eh, em0⟩ : ExcC K C0)
      exK := fun k T h => match k, h with
        | 0, h => by
          cases h
          exact ⟨.ref C0, .ref C0, rfl, fun u r => r, .inl (PySem.W.mg_of X G ga0), fun c => by
            rw [hca]
            match c with
            | 0 => exact ⟨kit_own es0 ed0 et0 x0_0 x0_0, PySem.W.exm_ref es0 ed0 et0 x0_0⟩
            | n + 1 => exact ⟨kit_own es0 ed0 et0 x0_0 x0_0, PySem.W.exm_ref es0 ed0 et0 x0_0⟩⟩
        | 1, h => by
          cases h
          exact ⟨.ref C1, .ref C1, rfl, fun u r => r, .inl (PySem.W.mg_of X G ga1), fun c => by
            rw [hca]
            match c with
            | 0 => exact ⟨kit_own es1 ed1 et1 x0_0 x0_1, PySem.W.exm_ref es1 ed1 et1 x0_1⟩
            | n + 1 => exact ⟨kit_own es1 ed1 et1 x0_0 x0_1, PySem.W.exm_ref es1 ed1 et1 x0_1⟩⟩
        | 2, h => by
          cases h
          exact ⟨.ref C2, .ref C2, rfl, fun u r => r, .inl (PySem.W.mg_of X G ga2), fun c => by
            rw [hca]
            match c with
            | 0 => exact ⟨kit_own es2 ed2 et2 x0_0 x0_2, PySem.W.exm_ref es2 ed2 et2 x0_2⟩
            | n + 1 => exact ⟨kit_own es2 ed2 et2 x0_0 x0_2, PySem.W.exm_ref es2 ed2 et2 x0_2⟩⟩
        | 3, h => by
          cases h
          exact ⟨.ref C3, .ref C3, rfl, fun u r => r, .inl (PySem.W.mg_of X G ga3), fun c => by
            rw [hca]
            match c with
            | 0 => exact ⟨kit_own es3 ed3 et3 x0_0 x0_3, PySem.W.exm_ref es3 ed3 et3 x0_3⟩
            | n + 1 => exact ⟨kit_own es3 ed3 et3 x0_0 x0_3, PySem.W.exm_ref es3 ed3 et3 x0_3⟩⟩
        | 4, h => by
          cases h
          exact ⟨.ref C4, .ref C4, rfl, fun u r => r, .inl (PySem.W.mg_of X G ga4), fun c => by
            rw [hca]
            match c with
            | 0 => exact ⟨kit_own es4 ed4 et4 x0_0 x0_4, PySem.W.exm_ref es4 ed4 et4 x0_4⟩
            | n + 1 => exact ⟨kit_own es4 ed4 et4 x0_0 x0_4, PySem.W.exm_ref es4 ed4 et4 x0_4⟩⟩
        | 5, h => by
          cases h
          exact ⟨.ref C5, .ref C5, rfl, fun u r => r, .inl (PySem.W.mg_of X G ga5), fun c => by
            rw [hca]
            match c with
            | 0 => exact ⟨kit_own es5 ed5 et5 x0_0 x0_5, PySem.W.exm_ref es5 ed5 et5 x0_5⟩
            | n + 1 => exact ⟨kit_own es5 ed5 et5 x0_0 x0_5, PySem.W.exm_ref es5 ed5 et5 x0_5⟩⟩
        | 6, h => by
          cases h
          exact ⟨.ref C6, .ref C6, rfl, fun u r => r, .inl (PySem.W.mg_of X G ga6), fun c => by
            rw [hca]
            match c with
            | 0 => exact ⟨kit_own es6 ed6 et6 x0_0 x0_6, PySem.W.exm_ref es6 ed6 et6 x0_6⟩
            | n + 1 => exact ⟨kit_own es6 ed6 et6 x0_0 x0_6, PySem.W.exm_ref es6 ed6 et6 x0_6⟩⟩
        | 7, h => by
          cases h
          exact ⟨.ref C7, .ref C7, rfl, fun u r => r, .inl (PySem.W.mg_of X G ga7), fun c => by
            rw [hca]
            match c with
            | 0 => exact ⟨kit_own es7 ed7 et7 x0_0 x0_7, PySem.W.exm_ref es7 ed7 et7 x0_7⟩
            | n + 1 => exact ⟨kit_own es7 ed7 et7 x0_0 x0_7, PySem.W.exm_ref es7 ed7 et7 x0_7⟩⟩
        | 8, h => by
          cases h
          exact ⟨.ref C8, .ref C8, rfl, fun u r => r, .inl (PySem.W.mg_of X G ga8), fun c => by
            rw [hca]
            match c with
            | 0 => exact ⟨kit_own es8 ed8 et8 x0_0 x0_8, PySem.W.exm_ref es8 ed8 et8 x0_8⟩
            | n + 1 => exact ⟨kit_own es8 ed8 et8 x0_0 x0_8, PySem.W.exm_ref es8 ed8 et8 x0_8⟩⟩
        | 9, h => by
          cases h
          exact ⟨.type "ValueError", .ty "ValueError", rfl, fun u r => r, .inr ⟨PySem.W.mg_none_of X G gb9, by decide +kernel, by decide⟩, fun c => by
            rw [hca]
            match c with
            | 0 => exact ⟨kit_ty (by decide +kernel) x0_9, exm_ty (by decide +kernel) (by decide +kernel) x0_9⟩
            | n + 1 => exact ⟨kit_ty (by decide +kernel) x0_9, exm_ty (by decide +kernel) (by decide +kernel) x0_9⟩⟩
        | n + 10, h => by simp [cfg] at h
      rs := fun k T h hk => match k, h, hk with
        | 0, h, _ => by cases h; exact ⟨"ValueError.__new__", "ValueError.__init__", "ValueError", _, PySem.F.excBase_ValueError, (by rw [hca]; exact ei0), (by rw [hca]; exact PySem.W.mg_of X G ga0), (by rw [hca]; exact ep0), (by rw [hca]; exact es0), (by rw [hca]; exact et0)⟩
        | n + 1, _, hk => absurd hk (by show ¬ n + 1 < 1; omega) }
  refine ⟨PySem.W.fnOf "law" "law" (defArgs st15) (defBody st15) (defScope st15) .none kV15 dc15 pm15 an15 cd15 ct15, fun s v => .of_eq rfl, fun base _ _ => ?_⟩
  exact fns_ok (P := l.prog) (w := w) (base := base) (fu := wfuel) D Tp fuel 15 "law" _ _ _ ⟨st15, nm15, fn15, PySem.W.mg_of X G a15, k15, X15, b15, e15, sc15, rfl, rfl, rfl, mb15⟩
end Ly
open PySem PySem.W PyProof.Rows
set_option maxHeartbeats 0 in
theorem PySem.Challenge.cw_lendrule_k80_shapes_as_texts_holds : PySem.Challenge.rw_lendrule_k80_shapes_as_texts.Holds := by
  w_on; o_law; k_head; (case hw => w_witness2)
  k_fill
  refine L2.walk_of (l := PySem.Challenge.rw_lendrule_k80_shapes_as_texts) (n := 63) (k := Ly.fuel) (x := "_law_script") (CX := fun w => L2.CX PySem.Challenge.rw_lendrule_k80_shapes_as_texts.prog w) (sp := fun w => Ly.spA _ (Ly.callF Ly.cfg.G Ly.cfg.sub Ly.tab Ly.wfuel Ly.fuel) 15) rfl (by decide) rfl ⟨rfl, by decide, by decide⟩ (fun w h Y => PySem.W.kIn_of Y) ?F (fun _ _ a ns hl _ hS => Ly.spF_law hS (Ly.law_true ns hl)) (fun _ _ _ _ _ h => by obtain ⟨_, _, _, _, _, _, _, _, _, _, _, _, z⟩ := h; exact z.elim)
  case F =>
    intro w mg fa h KX G hmg
    refine' Ly.all_mk KX G hmg ?a0 ?l0 ?c0 ?k0 ?a1 ?l1 ?c1 ?k1 ?a2 ?l2 ?c2 ?k2 ?a3 ?l3 ?c3 ?k3 ?a4 ?l4 ?c4 ?k4 ?a5 ?l5 ?c5 ?k5 ?a6 ?l6 ?c6 ?k6 ?a7 ?l7 ?c7 ?k7 ?a8 ?l8 ?c8 ?k8 ?a9 ?l9 ?c9 ?k9 ?a10 ?l10 ?c10 ?k10 ?a11 ?l11 ?c11 ?k11 ?a12 ?l12 ?c12 ?k12 ?a13 ?l13 ?c13 ?k13 ?a14 ?l14 ?c14 ?k14 ?a15 ?l15 ?c15 ?k15 ?zb0 ?zb1 ?zb2 ?zb3 ?zb4 ?zb5 ?zb6 ?zb7 ?zb8 ?zb9 ?zb10 ?zb11 ?zb12 ?zb13 ?zb14 ?zb15 ?zb16 ?zb17 ?zb18 ?q0 ?q1 ?q2 ?q3 ?q4 ?q5 ?en ?eh ?ga0 ?es0 ?ed0 ?et0 ?ga1 ?es1 ?ed1 ?et1 ?ga2 ?es2 ?ed2 ?et2 ?ga3 ?es3 ?ed3 ?et3 ?ga4 ?es4 ?ed4 ?et4 ?ga5 ?es5 ?ed5 ?et5 ?ga6 ?es6 ?ed6 ?et6 ?ga7 ?es7 ?ed7 ?et7 ?ga8 ?es8 ?ed8 ?et8 ?gb9 ?eg0 ?ek0 ?ea0 ?em0 ?ei0 ?ep0 ?x0_0 ?x0_1 ?x0_2 ?x0_3 ?x0_4 ?x0_5 ?x0_6 ?x0_7 ?x0_8 ?x0_9
    (case a0 => k_is); (case l0 => k_is); (case c0 => k_is); (case k0 => k_is); (case a1 => k_is); (case l1 => k_is); (case c1 => k_is); (case k1 => k_is); (case a2 => k_is); (case l2 => k_is); (case c2 => k_is); (case k2 => k_is); (case a3 => k_is); (case l3 => k_is); (case c3 => k_is); (case k3 => k_is); (case a4 => k_is); (case l4 => k_is); (case c4 => k_is); (case k4 => k_is); (case a5 => k_is); (case l5 => k_is); (case c5 => k_is); (case k5 => k_is); (case a6 => k_is); (case l6 => k_is); (case c6 => k_is); (case k6 => k_is); (case a7 => k_is); (case l7 => k_is); (case c7 => k_is); (case k7 => k_is); (case a8 => k_is); (case l8 => k_is); (case c8 => k_is); (case k8 => k_is); (case a9 => k_is); (case l9 => k_is); (case c9 => k_is); (case k9 => k_is); (case a10 => k_is); (case l10 => k_is); (case c10 => k_is); (case k10 => k_is); (case a11 => k_is); (case l11 => k_is); (case c11 => k_is); (case k11 => k_is); (case a12 => k_is); (case l12 => k_is); (case c12 => k_is); (case k12 => k_is); (case a13 => k_is); (case l13 => k_is); (case c13 => k_is); (case k13 => k_is); (case a14 => k_is); (case l14 => k_is); (case c14 => k_is); (case k14 => k_is); (case a15 => k_is); (case l15 => k_is); (case c15 => k_is); (case k15 => k_is); (case zb0 => k_is); (case zb1 => k_is); (case zb2 => k_is); (case zb3 => k_is); (case zb4 => k_is); (case zb5 => k_is); (case zb6 => k_is); (case zb7 => k_is); (case zb8 => k_is); (case zb9 => k_is); (case zb10 => k_is); (case zb11 => k_is); (case zb12 => k_is); (case zb13 => k_is); (case zb14 => k_is); (case zb15 => k_is); (case zb16 => k_is); (case zb17 => k_is); (case zb18 => k_is); (case q0 => k_is); (case q1 => k_is); (case q2 => k_is); (case q3 => k_is); (case q4 => k_is); (case q5 => k_is); (case en => k_is); (case eh => k_is); (case ga0 => k_is); (case es0 => k_is); (case ed0 => k_is); (case et0 => k_is); (case ga1 => k_is); (case es1 => k_is); (case ed1 => k_is); (case et1 => k_is); (case ga2 => k_is); (case es2 => k_is); (case ed2 => k_is); (case et2 => k_is); (case ga3 => k_is); (case es3 => k_is); (case ed3 => k_is); (case et3 => k_is); (case ga4 => k_is); (case es4 => k_is); (case ed4 => k_is); (case et4 => k_is); (case ga5 => k_is); (case es5 => k_is); (case ed5 => k_is); (case et5 => k_is); (case ga6 => k_is); (case es6 => k_is); (case ed6 => k_is); (case et6 => k_is); (case ga7 => k_is); (case es7 => k_is); (case ed7 => k_is); (case et7 => k_is); (case ga8 => k_is); (case es8 => k_is); (case ed8 => k_is); (case et8 => k_is); (case gb9 => k_is); (case eg0 => k_is); (case ek0 => k_is); (case ea0 => k_is); (case em0 => k_is); (case ei0 => k_exc); (case ep0 => k_is); (case x0_0 => first | k_is | rfl); (case x0_1 => first | k_is | rfl); (case x0_2 => first | k_is | rfl); (case x0_3 => first | k_is | rfl); (case x0_4 => first | k_is | rfl); (case x0_5 => first | k_is | rfl); (case x0_6 => first | k_is | rfl); (case x0_7 => first | k_is | rfl); (case x0_8 => first | k_is | rfl); (case x0_9 => first | k_is | rfl)

