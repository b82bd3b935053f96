import PyProof.Rows.All
import Wide.All
import OpenK.AllK
import Wide.FinOn
import HandS.ForExc
import HandS.Comp
import HandS.Deep
import HandS.Wide
import HandS.TupAny
import HandS.TupMul
import HandS.IsInst
import HandS.ExcIs
import HandS.Iter
import HandS.Zip
import HandS.SortKw
import HandS.Dict
import HandS.Text
import HandS.Style
import HandS.CallSlots
import HandS.Defaults
import HandS.TryMany
import KE.DatumOrd
import PyProof.Rows.InDataRows
import KE.GoesZip
import KE.GoesMore
import KE.GoesEnum
import HandS.SetFor
import HandS.Set
import HandS.Strs
import HandS.TupSets
import HandS.Conv
import KE.KDictZip
import PyProof.ListNew
import HandS.OwnEq
import PySem.Challenge.RW_lendrule_k14_acts_of_calls_and_gives
set_option Elab.async false
set_option linter.all false
set_option maxRecDepth 100000
set_option maxHeartbeats 2000000
/-! A small language with values as trees: its syntax and what it computes. -/
namespace Ly
open PySem

/-- data: None, truths, whole numbers, texts, tuples, lists, dicts (keys: ints and texts; tuples of such) -/
inductive D where
  | non | bl (b : Bool) | int (i : Int) | str (s : Str) | tup (ds : List D) | lst (ds : List D) | dic (t : Bool) (ks : List (List L2.Key)) (ds : List D) | exn

inductive Bo where
  | add | sub | mul | div | mod | pow
  deriving DecidableEq
inductive Co where
  | eq | ne | lt | le | gt | ge | isn | nisn | inn | nin
  deriving DecidableEq
inductive Bi where
  | len | tuple | list | int | bool | max2 | min2 | max1 | min1 | maxd | sum | all | any | sorted | str
  deriving DecidableEq
inductive Ty where
  | tuple | int | bool | str | list
  deriving DecidableEq
inductive Tg where
  | name (i : Nat) | tup (js : List Nat)
  deriving DecidableEq

mutual
inductive E where
  | var (i : Nat) | mv (i : Nat) | cst (d : D) | glb (g : Nat)
  | bin (o : Bo) (a b : E) | neg (a : E)
  | cmp (c : Co) (a b : E) | chain (c c' : Co) (a b e : E) | bop (isAnd : Bool) (es : Es) | not (a : E) | ife (c a b : E)
  | tup (h : Nat) (es : Es) | lst (h : Nat) (es : Es)
  | ix (a k : E) | sl (a : E) (lo hi : Eo) | rev (a : E) | sset (a : E) | lrg (a : E) | lrgd (a b : E) | lzip (a b : E) | stp (a b c : E) | dnew (t : Bool) | din (neg : Bool) (k a : E) | dix (a k : E) | dgt (a k : E) | lidx (i : Nat) (e : E) | lcnt (i : Nat) (e : E)
  | call (b : Bool) (f : Nat) (es : Es) | callD (f : Nat) (es : Es) (ss : List Str) | blt (f : Bi) (es : Es) | isi (a : E) (t : Ty) | isx (i k : Nat) | isxs (i : Nat) (ks : List Nat)
  | comp (h : Nat) (elt : E) (t : Tg) (src : Sr) (cond : Eo)
inductive Es where
  | nil | cons (e : E) (es : Es)
inductive Eo where
  | no | yes (e : E)
inductive Sr where
  | seq (e : E) | seqB (e : E) | range (es : Es) | enum (e : E) | zip (a b : E)
end

mutual
inductive S where
  | set (i h : Nat) (e : E) | setT (js : List Nat) (e : E) | drop (e : E)
  | app (i : Nat) (e : E) | ext (i : Nat) (e : E) | appP (i : Nat) (k e : E) | clear (i : Nat) | popS (i : Nat)
  | dput (i : Nat) (k e : E) | aug (i : Nat) (o : Bo) (e : E) | seti (i : Nat) (k e : E)
  | ife (c : E) (a b : B) | for_ (t : Tg) (s : Sr) (b : B) | whl (c : E) (b : B)
  | ret (e : E) | retN | raise (c : Nat) (m : Str) | try_ (b : B) (c : Nat) (i : Option Nat) (h : B) | try2 (b : B) (c1 : Nat) (h1 : B) (c2 : Nat) (h2 : B)
  | pass | brk | cont | bad
inductive B where
  | nil | cons (s : S) (b : B)
end

/-- walked as it stands, not taken from its owner (in comprehensions alone) -/
def Sr.bw : Sr → Bool
  | .seqB _ => true
  | _ => false
def Es.len : Es → Nat
  | .nil => 0
  | .cons _ es => es.len + 1

abbrev Env := List (Option (Nat × D))
/-- what an expression gives -/
inductive R (α : Type) where
  | ok (a : α) | exc (r : Env) (c : Nat) | bad
/-- what a call gives -/
inductive CR where
  | ok (l : Nat) (d : D) | exc (c : Nat) | bad
/-- how a statement ends -/
inductive O where
  | nx (r : Env) | ret (l : Nat) (d : D) | bk (r : Env) | ct (r : Env) | exc (r : Env) (c : Nat) | bad

def R.bind {α β : Type} (x : R α) (f : α → R β) : R β :=
  match x with
  | .ok a => f a
  | .exc r c => .exc r c
  | .bad => .bad
def R.toO {α : Type} (x : R α) (f : α → O) : O :=
  match x with
  | .ok a => f a
  | .exc r c => .exc r c
  | .bad => .bad
def R.of {α : Type} (x : Option α) : R α :=
  match x with
  | some a => .ok a
  | none => .bad

abbrev LN : Nat := 16777216

/-! ### data -/
mutual
/-- as the library's data -/
def D.pd : D → PyData
  | .non => .none
  | .bl b => .bool b
  | .int i => .int i
  | .str s => .str s
  | .tup ds => .tuple (pds ds)
  | .lst ds => .list (pds ds)
  | .dic _ _ _ => .none
  | .exn => .none
def pds : List D → List PyData
  | [] => []
  | d :: ds => d.pd :: pds ds
end
mutual
/-- may be compared: no dict, no error in it, at most so deep, texts of real signs -/
def D.okd : Nat → D → Bool
  | _, .non => true
  | _, .bl _ => true
  | _, .int _ => true
  | _, .str s => PyData.strOk s
  | n + 1, .tup ds => okds n ds
  | n + 1, .lst ds => okds n ds
  | _, _ => false
def okds : Nat → List D → Bool
  | _, [] => true
  | n, d :: ds => d.okd n && okds n ds
end
mutual
/-- no list that might also be held elsewhere: all lists in it within the first l levels -/
def D.clean : Nat → D → Bool
  | l + 1, .lst ds => cleans l ds
  | 0, .lst _ => false
  | l, .tup ds => cleans (l - 1) ds
  | _, .dic _ _ _ => false
  | _, _ => true
def cleans : Nat → List D → Bool
  | _, [] => true
  | l, d :: ds => d.clean l && cleans l ds
end
def okd (d : D) : Bool := d.okd 60
def eqd (x y : D) : Bool := PyData.eqv x.pd y.pd
def flatD : D → Bool
  | .non => true
  | .bl _ => true
  | .int _ => true
  | .str _ => true
  | _ => false

/-- a list times k (the unknown in front: the kernel must not count) -/
def lmulB (k : Int) (n : Nat) : Bool := decide (k.natAbs ≤ 1000000) && decide (n * k.natAbs ≤ LN)
def binop : Bo → D → D → Option (Nat × D)
  | .add, .int i, .int j => some (0, .int (i + j))
  | .add, .str a, .str b => if a.length + b.length ≤ LN then some (0, .str (a ++ b)) else none
  | .add, .lst a, .lst b => if a.length + b.length ≤ LN then some (1, .lst (a ++ b)) else none
  | .add, .tup a, .tup b => if a.length + b.length ≤ LN then some (0, .tup (a ++ b)) else none
  | .sub, .int i, .int j => some (0, .int (i - j))
  | .mul, .int i, .int j => if i.natAbs < 2 ^ 64 ∨ j.natAbs < 2 ^ 64 ∨ (i.natAbs < 2 ^ 4096 ∧ j.natAbs < 2 ^ 4096) then some (0, .int (i * j)) else none
  | .mul, .lst a, .int k => if lmulB k a.length then some (1, .lst (List.replicate k.toNat a).flatten) else none
  | .mul, .tup a, .int k => if a ≠ [] ∧ 2 ≤ k ∧ k ≤ 1000 ∧ a.length ≤ 1000 then some (0, .tup (List.replicate k.toNat a).flatten) else if k = 1 then some (0, .tup a) else none
  | .div, .int i, .int j => if 0 < j ∧ j.natAbs < 2 ^ 4096 then some (0, .int (i / j)) else none
  | .mod, .int i, .int j => if 0 < j then some (0, .int (i % j)) else none
  | .pow, .int i, .int j => if 0 ≤ j ∧ j ≤ 1000000 ∧ i.natAbs < 2 ^ 64 then some (0, .int (i ^ j.toNat)) else none
  | _, _, _ => none

/-- a list of something, of any depth, beside [] -/
def nilC : D → D → Bool
  | .lst (_ :: _), .lst [] => true
  | _, _ => false
def cmpop : Co → D → D → Option Bool
  | .eq, x, y => if okd x && okd y then some (eqd x y) else if nilC x y then some false else none
  | .ne, x, y => if okd x && okd y then some (!eqd x y) else if nilC x y then some true else none
  | .lt, .int i, .int j => some (decide (i < j))
  | .le, .int i, .int j => some (decide (i ≤ j))
  | .gt, .int i, .int j => some (decide (j < i))
  | .ge, .int i, .int j => some (decide (j ≤ i))
  | .isn, x, .non => some (match x with | .non => true | _ => false)
  | .nisn, x, .non => some (match x with | .non => false | _ => true)
  | .inn, x, .lst ds => if okd x && okd (.lst ds) then some (ds.any fun z => eqd z x) else none
  | .nin, x, .lst ds => if okd x && okd (.lst ds) then some (!ds.any fun z => eqd z x) else none
  | .inn, x, .tup ds => if okd x && okd (.tup ds) then some (ds.any fun z => eqd z x) else none
  | .nin, x, .tup ds => if okd x && okd (.tup ds) then some (!ds.any fun z => eqd z x) else none
  | .inn, .str a, .str b => some (!(Builtin.Str.occurrences b a 0 b.length 1).isEmpty)
  | .nin, .str a, .str b => some (!(!(Builtin.Str.occurrences b a 0 b.length 1).isEmpty))
  | _, _, _ => none

/-- the place in xs, of any sign -/
def atD (ds : List D) (i : Int) : Option D := L2.atI ds i
def ixop : D → D → Option D
  | .tup ds, .int i => atD ds i
  | .lst ds, .int i => atD ds i
  | .str s, .int i => if s.length ≤ LN then (L2.atI s.cps.toList i).map fun c => .str ⟨#[c]⟩ else none
  | _, _ => none
def cutD {α : Type} (xs : List α) (lo hi : Option Int) : List α := (xs.drop (HT.sIx xs.length 0 lo)).take (HT.sIx xs.length xs.length hi - HT.sIx xs.length 0 lo)
def slop : D → Option Int → Option Int → Option (Nat × D)
  | .lst ds, lo, hi => some (1, .lst (cutD ds lo hi))
  | .tup ds, lo, hi => some (0, .tup (cutD ds lo hi))
  | .str s, lo, hi => if s.length ≤ LN then some (0, .str ⟨(cutD s.cps.toList lo hi).toArray⟩) else none
  | _, _, _ => none
def asInts : List D → Option (List Int)
  | [] => some []
  | .int i :: ds => (asInts ds).map (i :: ·)
  | _ :: _ => none
def asBls : List D → Option (List Bool)
  | [] => some []
  | .bl i :: ds => (asBls ds).map (i :: ·)
  | _ :: _ => none
/-- the greatest, or d of none -/
def maxOr (d : Int) : List Int → Int
  | [] => d
  | x :: xs => xs.foldl (fun a b => if b > a then b else a) x
def minOr (d : Int) : List Int → Int
  | [] => d
  | x :: xs => xs.foldl (fun a b => if b < a then b else a) x
/-- sorted -/
def insI (x : Int) : List Int → List Int
  | [] => [x]
  | y :: ys => if x ≤ y then x :: y :: ys else y :: insI x ys
def sortI : List Int → List Int
  | [] => []
  | x :: xs => insI x (sortI xs)
/-- sorted, each once -/
def insU (x : Int) : List Int → List Int
  | [] => [x]
  | y :: ys => if x < y then x :: y :: ys else if x = y then y :: ys else y :: insU x ys
def usortI : List Int → List Int
  | [] => []
  | x :: xs => insU x (usortI xs)
def asStrs : List D → Option (List Str)
  | [] => some []
  | .str s :: ds => (asStrs ds).map (s :: ·)
  | _ :: _ => none
/-- the first place of an equal one -/
def idxD (ds : List D) (d : D) : Option Nat := ds.findIdx? fun z => eqd z d
def bltop : Bi → List D → Option (Nat × D)
  | .len, [.lst ds] => some (0, .int ds.length)
  | .len, [.tup ds] => some (0, .int ds.length)
  | .len, [.str s] => if s.length ≤ LN then some (0, .int s.length) else none
  | .tuple, [.lst ds] => some (0, .tup ds)
  | .tuple, [.tup ds] => some (0, .tup ds)
  | .list, [.lst ds] => some (1, .lst ds)
  | .list, [.tup ds] => some (1, .lst ds)
  | .int, [.int i] => some (0, .int i)
  | .int, [.bl b] => some (0, .int (if b then 1 else 0))
  | .bool, [.int i] => some (0, .bl (i != 0))
  | .bool, [.bl b] => some (0, .bl b)
  | .max2, [.int i, .int j] => some (0, .int (if j > i then j else i))
  | .min2, [.int i, .int j] => some (0, .int (if j < i then j else i))
  | .max1, [.lst ds] => (asInts ds).bind fun is => if is.isEmpty then none else some (0, .int (maxOr 0 is))
  | .min1, [.lst ds] => (asInts ds).bind fun is => if is.isEmpty then none else some (0, .int (minOr 0 is))
  | .maxd, [.lst ds, .int d] => (asInts ds).map fun is => (0, .int (maxOr d is))
  | .sum, [.lst ds] => (asInts ds).map fun is => (0, .int is.sum)
  | .all, [.lst ds] => (asBls ds).map fun bs => (0, .bl (bs.all id))
  | .any, [.lst ds] => (asBls ds).map fun bs => (0, .bl (bs.any id))
  | .sorted, [.lst ds] => (asInts ds).map fun is => (1, .lst ((sortI is).map D.int))
  | .str, [.int i] => if i.natAbs.log2 < 1920 then some (0, .str (toString i)) else none
  | _, _ => none
def isaop : D → Ty → Option Bool
  | .non, .tuple => some false | .non, .int => some false | .non, .bool => some false | .non, .str => some false | .non, .list => some false
  | .bl _, .tuple => some false | .bl _, .int => some true | .bl _, .bool => some true | .bl _, .str => some false | .bl _, .list => some false
  | .int _, .tuple => some false | .int _, .int => some true | .int _, .bool => some false | .int _, .str => some false | .int _, .list => some false
  | .str _, .tuple => some false | .str _, .int => some false | .str _, .bool => some false | .str _, .str => some true | .str _, .list => some false
  | .tup _, .tuple => some true | .tup _, .int => some false | .tup _, .bool => some false | .tup _, .str => some false | .tup _, .list => some false
  | .lst _, .tuple => some false | .lst _, .int => some false | .lst _, .bool => some false | .lst _, .str => some false | .lst _, .list => some true
  | _, _ => none

/-! ### frames -/
/-- slot i is held elsewhere too from level j on -/
def lower (j i : Nat) (r : Env) : Env :=
  match r[i]? with
  | some (some (l, d)) => r.set i (some (min l j, d))
  | _ => r
def getv (r : Env) (i : Nat) : Option (Nat × D) :=
  match r[i]? with
  | some (some x) => some x
  | _ => none
def setAll : List Nat → List D → Env → Env
  | i :: js, d :: ds, r => setAll js ds (r.set i (some (0, d)))
  | _, _, r => r
/-- a target takes an item -/
def Tg.put : Tg → D → Env → Option Env
  | .name i, d, r => some (r.set i (some (0, d)))
  | .tup js, .tup ds, r => if ds.length = js.length then some (setAll js ds r) else none
  | _, _, _ => none
def Tg.ids : Tg → List Nat
  | .name i => [i]
  | .tup js => js
def wipeE : List Nat → Env → Env
  | [], r => r
  | i :: js, r => (wipeE js r).set i none
def enumD : Nat → List D → List D
  | _, [] => []
  | n, d :: ds => .tup [.int n, d] :: enumD (n + 1) ds
def zipD : List D → List D → List D
  | a :: as, b :: bs => .tup [a, b] :: zipD as bs
  | _, _ => []
def rangeD (lo : Int) : Nat → List D
  | 0 => []
  | n + 1 => .int lo :: rangeD (lo + 1) n
def downD (hi : Int) : Nat → List D
  | 0 => []
  | n + 1 => .int hi :: downD (hi - 1) n
/-- (kept small and with the unknown in front: the kernel must not count down from 2 ^ 62) -/
def rng62 (i : Int) : Bool := decide (i.natAbs ≤ 1000000)
def rangeop : List D → Option (List D)
  | [.int n] => if rng62 n then some (rangeD 0 n.toNat) else none
  | [.int a, .int b] => if rng62 a && rng62 b then some (rangeD a (b - a).toNat) else none
  | _ => none
def itemsOf : D → Option (List D)
  | .lst ds => some ds
  | .tup ds => some ds
  | _ => none
def enumOf (x : D) : Option (List D) := (itemsOf x).map (enumD 0)
def zipOf (x y : D) : Option (List D) :=
  match itemsOf x, itemsOf y with
  | some as, some bs => some (zipD as bs)
  | _, _ => none
/-! dicts: keys and values side by side -/
def keysD : List D → Option (List L2.Key)
  | [] => some []
  | .int i :: ds => (keysD ds).map (.inl i :: ·)
  | .str s :: ds => (keysD ds).map (.inr s :: ·)
  | _ :: _ => none
/-- as a key: of a dict whose keys are tuples (t), or whole numbers and texts -/
def keyD : Bool → D → Option (List L2.Key)
  | false, .int i => some [.inl i]
  | false, .str s => some [.inr s]
  | true, .tup ds => keysD ds
  | _, _ => none
section
variable {κ α : Type} [DecidableEq κ]
def dval (ks : List κ) (xs : List α) (k : κ) : Option α := ((ks.zip xs).find? fun p => decide (p.1 = k)).map (·.2)
def dputK (ks : List κ) (k : κ) : List κ := if k ∈ ks then ks else ks ++ [k]
def dputV (ks : List κ) (xs : List α) (k : κ) (x : α) : List α := if k ∈ ks then (ks.zip xs).map (fun p => if p.1 = k then x else p.2) else xs ++ [x]
end
/-- which places xs[i::k] takes of n -/
def stepIx (n : Nat) (i k : Int) : List Nat := PySem.sliceRange (max 0 (min (if i < 0 then i + n else i) n)) n k
def stepD (ds : List D) (i k : Int) : List D := (stepIx ds.length i k).filterMap (ds[·]?)
/-- a comprehension's turns: f gives the new frame and perhaps an item -/
def compLoop (f : Env → D → R (Env × Option D)) : List D → Env → List D → Option (Env × List D)
  | [], r, acc => some (r, acc)
  | x :: xs, r, acc =>
    match f r x with
    | .ok (r1, some y) => if acc.length < LN then compLoop f xs r1 (acc ++ [y]) else none
    | .ok (r1, none) => compLoop f xs r1 acc
    | _ => none

def compT (t : Tg) (h : Nat) (c : Env → R (Env × Bool)) (e : Env → R (Env × Nat × D)) (xs : List D) (r : Env) : Option (Env × List D) :=
  compLoop (fun q x => (R.of (t.put x q)).bind fun q1 => (c q1).bind fun (q2, b) =>
    if b then (e q2).bind fun (q3, l, y) => if h ≤ l then .ok (wipeE t.ids q3, some y) else .bad else .ok (wipeE t.ids q2, none)) xs r []
section
variable (G : Nat → Option D) (sub : Nat → Nat → Bool) (cf : Nat → List D → CR)
mutual
/-- in mode j: held elsewhere too from level j on (0: as a value of one's own) -/
def ev (j : Nat) : E → Env → R (Env × Nat × D)
  | .var i, r => match getv r i with
    | some (l, d) => if l < 100 then .ok (lower j i r, 0, d) else .bad
    | none => .bad
  | .mv i, r => match getv r i with
    | some (l, d) => if l < 100 then .ok (r.set i none, l, d) else .bad
    | none => .bad
  | .cst d, r => .ok (r, 0, d)
  | .glb g, r => (R.of (G g)).bind fun d => .ok (r, 0, d)
  | .bin o a b, r => (ev 1 a r).bind fun (r1, _, x) => (ev 1 b r1).bind fun (r2, _, y) => (R.of (binop o x y)).bind fun (l, z) => .ok (r2, l, z)
  | .neg a, r => (ev 9 a r).bind fun (r1, _, x) => match x with
    | .int i => .ok (r1, 0, .int (-i))
    | _ => .bad
  | .cmp c a b, r => (ev 9 a r).bind fun (r1, _, x) => (ev 9 b r1).bind fun (r2, _, y) => (R.of (cmpop c x y)).bind fun z => .ok (r2, 0, .bl z)
  | .chain c c' a b e, r => (ev 9 a r).bind fun (r1, _, x) => (ev 9 b r1).bind fun (r2, _, y) => (R.of (cmpop c x y)).bind fun z =>
    if z then (ev 9 e r2).bind fun (r3, _, u) => (R.of (cmpop c' y u)).bind fun z' => .ok (r3, 0, .bl z') else .ok (r2, 0, .bl false)
  | .bop isAnd es, r => evBop isAnd es r
  | .not a, r => (ev 9 a r).bind fun (r1, _, x) => match x with
    | .bl b => .ok (r1, 0, .bl (!b))
    | _ => .bad
  | .ife c a b, r => (ev 9 c r).bind fun (r1, _, x) => match x with
    | .bl true => ev j a r1
    | .bl false => ev j b r1
    | _ => .bad
  | .tup h es, r => (evs 0 h es r).bind fun (r1, ds) => .ok (r1, h + 1, .tup ds)
  | .lst h es, r => (evs 0 (h - 1) es r).bind fun (r1, ds) => .ok (r1, h, .lst ds)
  | .ix a k, r => (ev (j + 1) a r).bind fun (r1, _, x) => (ev 9 k r1).bind fun (r2, _, y) => (R.of (ixop x y)).bind fun z => .ok (r2, 0, z)
  | .sl a lo hi, r => (ev 1 a r).bind fun (r1, _, x) => (evo lo r1).bind fun (r2, lo') => (evo hi r2).bind fun (r3, hi') => (R.of (slop x lo' hi')).bind fun (l, z) => .ok (r3, l, z)
  | .rev a, r => (ev 1 a r).bind fun (r1, _, x) => match x with
    | .lst ds => .ok (r1, 1, .lst ds.reverse)
    | _ => .bad
  | .sset a, r => (ev 1 a r).bind fun (r1, _, x) => match x with
    | .lst ds => (R.of (asInts ds)).bind fun is => if is.length < 60 then .ok (r1, 1, .lst ((usortI is).map D.int)) else .bad
    | _ => .bad
  | .lrg a, r => (ev 9 a r).bind fun (r1, _, x) => match x with
    | .int n => if rng62 n then .ok (r1, 1, .lst (rangeD 0 n.toNat)) else .bad
    | _ => .bad
  | .lidx i e, r => match getv r i with
    | some (_ + 1, .lst _) => (ev 9 e r).bind fun (r1, _, d) => (match getv r1 i with
      | some (_ + 1, .lst ds) => if okd (.lst ds) && okd d then (R.of (idxD ds d)).bind fun j => .ok (r1, 0, .int (j : Nat)) else .bad
      | _ => .bad)
    | _ => .bad
  | .lcnt i e, r => match getv r i with
    | some (_ + 1, .lst _) => (ev 9 e r).bind fun (r1, _, d) => (match getv r1 i, d with
      | some (_ + 1, .lst ds), .str k => (R.of (asStrs ds)).bind fun ss => .ok (r1, 0, .int (ss.count k : Nat))
      | _, _ => .bad)
    | _ => .bad
  | .lrgd a b, r => (ev 9 a r).bind fun (r1, _, x) => (ev 9 b r1).bind fun (r2, _, y) => match x, y with
    | .int i, .int j => if rng62 i && rng62 j then .ok (r2, 1, .lst (downD i (i - j).toNat)) else .bad
    | _, _ => .bad
  | .lzip a b, r => (ev 1 a r).bind fun (r1, _, x) => (ev 1 b r1).bind fun (r2, _, y) => match x, y with
    | .lst as, .lst bs => .ok (r2, 1, .lst (zipD as bs))
    | _, _ => .bad
  | .stp a b c, r => (ev 1 a r).bind fun (r1, _, x) => (ev 9 b r1).bind fun (r2, _, y) => match y with
    | .int i => (ev 9 c r2).bind fun (r3, _, z) => (match x, z with
      | .lst ds, .int k => if 0 < k then .ok (r3, 1, .lst (stepD ds i k)) else .bad
      | _, _ => .bad)
    | _ => .bad
  | .dnew t, r => .ok (r, 1, .dic t [] [])
  | .din neg k a, r => (ev 9 k r).bind fun (r1, _, y) => (ev 1 a r1).bind fun (r2, _, x) => match x with
    | .dic t ks ds => (R.of (keyD t y)).bind fun q => .ok (r2, 0, .bl (neg ^^ (dval ks ds q).isSome))
    | _ => .bad
  | .dix a k, r => (ev 1 a r).bind fun (r1, _, x) => (ev 9 k r1).bind fun (r2, _, y) => match x with
    | .dic t ks ds => (R.of (keyD t y)).bind fun q => (R.of (dval ks ds q)).bind fun d => .ok (r2, 0, d)
    | _ => .bad
  | .dgt a k, r => (ev 1 a r).bind fun (r1, _, x) => match x with
    | .dic t ks ds => (ev 9 k r1).bind fun (r2, _, y) => (R.of (keyD t y)).bind fun q => .ok (r2, 0, (dval ks ds q).getD .non)
    | _ => .bad
  | .call b f es, r => (evs (if b then 9 else 0) 0 es r).bind fun (r1, ds) => match cf f ds with
    | .ok l d => if b && !d.clean l then .bad else .ok (r1, l, d)
    | .exc c => .exc r1 c
    | .bad => .bad
  | .callD f es ss, r => (evs 0 0 es r).bind fun (r1, ds) => match cf f (ds ++ ss.map D.str) with
    | .ok l d => .ok (r1, l, d)
    | .exc c => .exc r1 c
    | .bad => .bad
  | .blt f es, r => (evs 1 0 es r).bind fun (r1, ds) => (R.of (bltop f ds)).bind fun (l, z) => .ok (r1, l, z)
  | .isi a t, r => (ev 9 a r).bind fun (r1, _, x) => (R.of (isaop x t)).bind fun z => .ok (r1, 0, .bl z)
  | .isx i k, r => match getv r i with
    | some (l, .exn) => if 100 ≤ l then .ok (r, 0, .bl (sub (l - 100) k)) else .bad
    | _ => .bad
  | .isxs i ks, r => match getv r i with
    | some (l, .exn) => if 100 ≤ l then .ok (r, 0, .bl (ks.any fun k => sub (l - 100) k)) else .bad
    | _ => .bad
  | .comp h elt t src cond, r => (evSr src r).bind fun (r1, xs) =>
    (R.of (compT t (h - 1) (evc cond) (ev 0 elt) xs (wipeE t.ids r1))).bind fun (r2, ys) => .ok (wipeE t.ids r2, h, .lst ys)
/-- the items of a display, arguments: in mode j, each owned at least h deep -/
def evs (j h : Nat) : Es → Env → R (Env × List D)
  | .nil, r => .ok (r, [])
  | .cons e es, r => (ev j e r).bind fun (r1, l, d) => if h ≤ l then (evs j h es r1).bind fun (r2, ds) => .ok (r2, d :: ds) else .bad
/-- and, or: of truths -/
def evBop (isAnd : Bool) : Es → Env → R (Env × Nat × D)
  | .nil, _ => .bad
  | .cons e .nil, r => (ev 9 e r).bind fun (r1, _, x) => match x with
    | .bl b => .ok (r1, 0, .bl b)
    | _ => .bad
  | .cons e (.cons e' es), r => (ev 9 e r).bind fun (r1, _, x) => match x with
    | .bl b => if b = isAnd then evBop isAnd (.cons e' es) r1 else .ok (r1, 0, .bl b)
    | _ => .bad
/-- a part of a slice -/
def evo : Eo → Env → R (Env × Option Int)
  | .no, r => .ok (r, none)
  | .yes e, r => (ev 9 e r).bind fun (r1, _, x) => match x with
    | .int i => .ok (r1, some i)
    | _ => .bad
/-- a comprehension's if -/
def evc : Eo → Env → R (Env × Bool)
  | .no, r => .ok (r, true)
  | .yes e, r => (ev 9 e r).bind fun (r1, _, x) => match x with
    | .bl b => .ok (r1, b)
    | _ => .bad
/-- what is walked -/
def evSr : Sr → Env → R (Env × List D)
  | .seq e, r => (ev 0 e r).bind fun (r1, _, x) => (R.of (itemsOf x)).bind fun ds => .ok (r1, ds)
  | .seqB e, r => (ev 1 e r).bind fun (r1, _, x) => match x with
    | .lst ds => .ok (r1, ds)
    | _ => .bad
  | .range es, r => (evs 9 0 es r).bind fun (r1, ds) => (R.of (rangeop ds)).bind fun xs => .ok (r1, xs)
  | .enum e, r => (ev 0 e r).bind fun (r1, _, x) => (R.of (enumOf x)).bind fun ds => .ok (r1, ds)
  | .zip a b, r => (ev 0 a r).bind fun (r1, _, x) => (ev 0 b r1).bind fun (r2, _, y) => (R.of (zipOf x y)).bind fun ds => .ok (r2, ds)
end

/-- no slot holds an error -/
def noX : Env → Bool
  | [] => true
  | none :: r => noX r
  | some (l, _) :: r => decide (l < 100) && noX r
/-- a for's turns -/
def forLoop (f : Env → D → O) : List D → Env → O
  | [], r => .nx r
  | x :: xs, r =>
    match f r x with
    | .nx r1 => forLoop f xs r1
    | .ct r1 => forLoop f xs r1
    | .bk r1 => .nx r1
    | .ret l d => .ret l d
    | .exc r1 c => .exc r1 c
    | .bad => .bad
def forT (t : Tg) (f : Env → O) (xs : List D) (r : Env) : O :=
  forLoop (fun q x => match t.put x q with
    | some q1 => f q1
    | none => .bad) xs r
/-- a while's turns -/
def whlLoop (c : Env → R (Env × Nat × D)) (f : Env → O) : Nat → Env → O
  | 0, _ => .bad
  | n + 1, r => (c r).toO fun (r1, _, x) => match x with
    | .bl true => (match f r1 with
      | .nx r2 => whlLoop c f n r2
      | .ct r2 => whlLoop c f n r2
      | .bk r2 => .nx r2
      | .ret l d => .ret l d
      | .exc r2 c => .exc r2 c
      | .bad => .bad)
    | .bl false => .nx r1
    | _ => .bad

variable (fu : Nat)
mutual
def evS : S → Env → O
  | .set i h e, r => (ev G sub cf 0 e r).toO fun (r1, l, d) => .nx (r1.set i (some (min l h, d)))
  | .setT js e, r => (ev G sub cf 0 e r).toO fun (r1, _, d) => match d with
    | .tup ds => if ds.length = js.length then .nx (setAll js ds r1) else .bad
    | _ => .bad
  | .drop e, r => (ev G sub cf 9 e r).toO fun (r1, _, _) => .nx r1
  | .app i e, r => match getv r i with
    | some (_ + 1, .lst _) => (ev G sub cf 0 e r).toO fun (r1, l, d) => (match getv r1 i with
      | some (m + 1, .lst ds) => if ds.length < LN then .nx (r1.set i (some (min m l + 1, .lst (ds ++ [d])))) else .bad
      | _ => .bad)
    | _ => .bad
  | .ext i e, r => match getv r i with
    | some (_ + 1, .lst _) => (ev G sub cf 1 e r).toO fun (r1, _, d) => (match getv r1 i with
      | some (_ + 1, .lst ds) => (match itemsOf d with
        | some xs => if ds.length + xs.length ≤ LN then .nx (r1.set i (some (1, .lst (ds ++ xs)))) else .bad
        | none => .bad)
      | _ => .bad)
    | _ => .bad
  | .appP i k e, r => .bad
  | .clear i, r => match getv r i with
    | some (_ + 1, .lst _) => .nx (r.set i (some (1, .lst [])))
    | _ => .bad
  | .popS i, r => match getv r i with
    | some (_ + 1, .lst ds) => if ds.isEmpty then .bad else .nx (r.set i (some (1, .lst ds.dropLast)))
    | _ => .bad
  | .aug i o e, r => match getv r i with
    | some (_, x) => (ev G sub cf 9 e r).toO fun (r1, _, y) => (match o, x, y with
      | .add, .int a, .int b => .nx (r1.set i (some (0, .int (a + b))))
      | .sub, .int a, .int b => .nx (r1.set i (some (0, .int (a - b))))
      | _, _, _ => .bad)
    | none => .bad
  | .seti i k e, r => match getv r i with
    | some (_ + 1, .lst _) => (ev G sub cf 0 e r).toO fun (r1, l, d) => (ev G sub cf 9 k r1).toO fun (r2, _, y) => (match getv r2 i, y with
      | some (m + 1, .lst ds), .int p => (match L2.ixN ds.length p with
        | some q => .nx (r2.set i (some (min m l + 1, .lst (ds.set q d))))
        | none => .bad)
      | _, _ => .bad)
    | _ => .bad
  | .dput i k e, r => match getv r i with
    | some (_ + 1, .dic _ _ _) => (ev G sub cf 0 e r).toO fun (r1, _, d) => (ev G sub cf 9 k r1).toO fun (r2, _, y) => (match getv r2 i with
      | some (_ + 1, .dic t ks ds) => (match keyD t y with
        | some q => if ks.length < LN then .nx (r2.set i (some (1, .dic t (dputK ks q) (dputV ks ds q d)))) else .bad
        | none => .bad)
      | _ => .bad)
    | _ => .bad
  | .ife c a b, r => (ev G sub cf 9 c r).toO fun (r1, _, x) => match x with
    | .bl true => evB a r1
    | .bl false => evB b r1
    | _ => .bad
  | .for_ t s b, r => (evSr G sub cf s r).toO fun (r1, xs) => forT t (evB b) xs r1
  | .whl c b, r => whlLoop (ev G sub cf 9 c) (evB b) fu r
  | .ret e, r => (ev G sub cf 0 e r).toO fun (_, l, d) => .ret l d
  | .retN, _ => .ret 0 .non
  | .raise c _, r => .exc r c
  | .try_ b c i h, r => match evB b r with
    | .exc r1 k => if sub k c then (match i with
        | some j => (match evB h (r1.set j (some (100 + k, .exn))) with
          | .nx r2 => if noX (r2.set j none) then .nx (r2.set j none) else .bad
          | .bk r2 => if noX (r2.set j none) then .bk (r2.set j none) else .bad
          | .ct r2 => if noX (r2.set j none) then .ct (r2.set j none) else .bad
          | .ret l d => .ret l d
          | _ => .bad)
        | none => (match evB h r1 with
          | .exc _ _ => .bad
          | o => o)) else .exc r1 k
    | o => o
  | .try2 b c1 h1 c2 h2, r => match evB b r with
    | .exc r1 k => if sub k c1 then (match evB h1 r1 with
        | .exc _ _ => .bad
        | o => o) else if sub k c2 then (match evB h2 r1 with
        | .exc _ _ => .bad
        | o => o) else .exc r1 k
    | o => o
  | .pass, r => .nx r
  | .brk, r => .bk r
  | .cont, r => .ct r
  | .bad, _ => .bad
def evB : B → Env → O
  | .nil, r => .nx r
  | .cons s b, r => match evS s r with
    | .nx r1 => evB b r1
    | o => o
end
end

/-- a def: its parameters' number, all names' number, its body -/
structure Fn where
  np : Nat
  nn : Nat
  body : B
def startE (nn : Nat) (ds : List D) : Env := ds.map (fun d => some (0, d)) ++ List.replicate (nn - ds.length) none
def callF (G : Nat → Option D) (sub : Nat → Nat → Bool) (T : List Fn) (fu : Nat) : Nat → Nat → List D → CR
  | 0, _, _ => .bad
  | n + 1, f, ds => match T[f]? with
    | some F => if ds.length = F.np then (match evB G sub (callF G sub T fu n) fu F.body (startE F.nn ds) with
      | .ret l d => .ok l d
      | .nx _ => .ok 0 .non
      | .exc _ c => .exc c
      | _ => .bad) else .bad
    | none => .bad
end Ly

set_option Elab.async false
set_option linter.all false
set_option maxRecDepth 100000
set_option maxHeartbeats 2000000
/-! How a value of the heap stands for a datum; states. -/
namespace Ly
open PySem PySem.Spec PyProof.Rows L2

/-- a list written with the program -/
def KLst (K : PySem.W.Frag) (a : Addr) (xs : List V) : Prop :=
  ∃ (o : Obj) (its : Array Value) (n : Nat), K.lookup a = some o ∧ o.cls = .type "list" ∧ o.dict = none ∧ o.data = .seq its n ∧ its.size ≤ sizeLine ∧ Vals xs its.toList
/-- a list that may be read and is nobody's own -/
def LstF (K : PySem.W.Frag) (H : Hp) (hot : List Addr) (a : Addr) (xs : List V) : Prop := (Rd H a (.lst xs) ∧ a ∉ hot) ∨ KLst K a xs
theorem LstF.seq {K : PySem.W.Frag} {H : Hp} {hot : List Addr} {a : Addr} {xs : List V} (h : LstF K H hot a xs) : SqL K H a xs := by
  rcases h with ⟨h, _⟩ | h
  · exact .inl h
  · exact .inr h

/-- a tuple that may be read; one that may be a key stands in H itself -/
def TupF (K : PySem.W.Frag) (H : Hp) (a : Addr) (vs : List V) : Prop := H a = some (.tup vs) ∨ (SqT K H a vs ∧ ∃ v ∈ vs, ∀ k : L2.Key, v ≠ L2.kV k)
theorem TupF.sq {K : PySem.W.Frag} {H : Hp} {a : Addr} {vs : List V} (h : TupF K H a vs) : SqT K H a vs := by
  rcases h with h | h
  · exact SqT.of h
  · exact h.1
/-- the one key of a list -/
def k1 (k : List L2.Key) : L2.Key := k.headD (.inl 0)
/-- a dict's object -/
def dOb (t : Bool) (ks : List (List L2.Key)) (vs : List V) : HO := if t then .dT (ks.zip vs) else .dK ((ks.map k1).zip vs)
def dOk (t : Bool) (ks : List (List L2.Key)) : Prop := t = false → ∀ k ∈ ks, ∃ x, k = [x]
theorem dOb_tup {t : Bool} {ks : List (List L2.Key)} {vs ws : List V} : dOb t ks vs ≠ .tup ws := by cases t <;> exact fun z => nomatch z
theorem dOb_frz {t : Bool} {ks : List (List L2.Key)} {vs : List V} {o : Obj} {u : HO} : dOb t ks vs ≠ .frz o u := by cases t <;> exact fun z => nomatch z
/-- what may be one's own: a list, a dict -/
def Own1 (o : Option HO) : Prop := (∃ xs, o = some (.lst xs)) ∨ ∃ t ks vs, o = some (dOb t ks vs)
theorem Own1.ne {o : Option HO} (h : Own1 o) : o ≠ none := by
  rcases h with ⟨xs, h⟩ | ⟨t, ks, vs, h⟩ <;> rw [h] <;> exact fun z => nomatch z
theorem Own1.no_tup {o : Option HO} (h : Own1 o) {vs : List V} (e : o = some (.tup vs)) : False := by
  rcases h with ⟨xs, h⟩ | ⟨t, ks, vs, h⟩
  · rw [h] at e; cases e
  · rw [h] at e; exact dOb_tup (Option.some.inj e)
theorem Own1.no_frz {o : Option HO} (h : Own1 o) {ob : Obj} {u : HO} (e : o = some (.frz ob u)) : False := by
  rcases h with ⟨xs, h⟩ | ⟨t, ks, vs, h⟩
  · rw [h] at e; cases e
  · rw [h] at e; exact dOb_frz (Option.some.inj e)
mutual
/-- v stands for d; lists within the first l levels are owned: theirs are the addresses told -/
inductive Rep (K : PySem.W.Frag) (H : Hp) (hot : List Addr) : Nat → V → D → List Addr → Prop where
  | non (l : Nat) : Rep K H hot l .non .non []
  | bl (l : Nat) (b : Bool) : Rep K H hot l (.bl b) (.bl b) []
  | int (l : Nat) (i : Int) : Rep K H hot l (.int i) (.int i) []
  | str (l : Nat) (s : Str) : Rep K H hot l (.str s) (.str s) []
  | tup {l : Nat} {a : Addr} {vs : List V} {ds : List D} {A : List Addr} : TupF K H a vs → Reps K H hot (l - 1) vs ds A → Rep K H hot l (.ref a) (.tup ds) A
  | lst0 {a : Addr} {vs : List V} {ds : List D} {A : List Addr} : LstF K H hot a vs → Reps K H hot 0 vs ds A → Rep K H hot 0 (.ref a) (.lst ds) A
  | lstS {l : Nat} {a : Addr} {vs : List V} {ds : List D} {A : List Addr} : H a = some (.lst vs) → Reps K H hot l vs ds A → Rep K H hot (l + 1) (.ref a) (.lst ds) (a :: A)
  | dic0 {a : Addr} {t : Bool} {ks : List (List L2.Key)} {vs : List V} {ds : List D} : (Rd H a (dOb t ks vs) ∧ a ∉ hot) → dOk t ks → ks.length = vs.length → Reps K H hot 0 vs ds [] → Rep K H hot 0 (.ref a) (.dic t ks ds) []
  | dicS {l : Nat} {a : Addr} {t : Bool} {ks : List (List L2.Key)} {vs : List V} {ds : List D} : H a = some (dOb t ks vs) → dOk t ks → ks.length = vs.length → Reps K H hot 0 vs ds [] → Rep K H hot (l + 1) (.ref a) (.dic t ks ds) [a]
inductive Reps (K : PySem.W.Frag) (H : Hp) (hot : List Addr) : Nat → List V → List D → List Addr → Prop where
  | nil (l : Nat) : Reps K H hot l [] [] []
  | cons {l : Nat} {v : V} {d : D} {A : List Addr} {vs : List V} {ds : List D} {B : List Addr} : Rep K H hot l v d A → Reps K H hot l vs ds B → Reps K H hot l (v :: vs) (d :: ds) (A ++ B)
end
mutual
/-- v stands for d as it is now; from level j on its lists are nobody's own -/
inductive RepT (K : PySem.W.Frag) (H : Hp) (S hot : List Addr) : Nat → V → D → Prop where
  | non (j : Nat) : RepT K H S hot j .non .non
  | bl (j : Nat) (b : Bool) : RepT K H S hot j (.bl b) (.bl b)
  | int (j : Nat) (i : Int) : RepT K H S hot j (.int i) (.int i)
  | str (j : Nat) (s : Str) : RepT K H S hot j (.str s) (.str s)
  | tup {j : Nat} {a : Addr} {vs : List V} {ds : List D} : TupF K H a vs → RepTs K H S hot (j - 1) vs ds → RepT K H S hot j (.ref a) (.tup ds)
  | lst0 {a : Addr} {vs : List V} {ds : List D} : LstF K H hot a vs → RepTs K H S hot 0 vs ds → RepT K H S hot 0 (.ref a) (.lst ds)
  | lstS {j : Nat} {a : Addr} {vs : List V} {ds : List D} : LstF K H S a vs → RepTs K H S hot j vs ds → RepT K H S hot (j + 1) (.ref a) (.lst ds)
  | dic0 {a : Addr} {t : Bool} {ks : List (List L2.Key)} {vs : List V} {ds : List D} : (Rd H a (dOb t ks vs) ∧ a ∉ hot) → dOk t ks → ks.length = vs.length → RepTs K H S hot 0 vs ds → RepT K H S hot 0 (.ref a) (.dic t ks ds)
  | dicS {j : Nat} {a : Addr} {t : Bool} {ks : List (List L2.Key)} {vs : List V} {ds : List D} : (Rd H a (dOb t ks vs) ∧ a ∉ S) → dOk t ks → ks.length = vs.length → RepTs K H S hot 0 vs ds → RepT K H S hot (j + 1) (.ref a) (.dic t ks ds)
inductive RepTs (K : PySem.W.Frag) (H : Hp) (S hot : List Addr) : Nat → List V → List D → Prop where
  | nil (j : Nat) : RepTs K H S hot j [] []
  | cons {j : Nat} {v : V} {d : D} {vs : List V} {ds : List D} : RepT K H S hot j v d → RepTs K H S hot j vs ds → RepTs K H S hot j (v :: vs) (d :: ds)
end

section
variable {K : PySem.W.Frag} {H H' : Hp} {hot hot' X S S' : List Addr}

theorem rd_frame {a : Addr} {o : HO} (c1 : ∀ a, a ∉ X → ∀ o, H a = some o → H' a = some o) (ha : a ∉ X) (h : Rd H a o) : Rd H' a o := by
  rcases h with h | ⟨u, h⟩
  · exact .inl (c1 a ha _ h)
  · exact .inr ⟨u, c1 a ha _ h⟩
theorem sqt_frame {a : Addr} {vs : List V} (c1 : ∀ a, a ∉ X → ∀ o, H a = some o → H' a = some o) (c2 : ∀ a ∈ X, Own1 (H a)) (h : SqT K H a vs) : SqT K H' a vs := by
  rcases h with h | h
  · refine .inl (rd_frame c1 (fun hx => ?_) h)
    have e := c2 a hx
    rcases h with h | ⟨u, h⟩
    · exact e.no_tup h
    · exact e.no_frz h
  · exact .inr h
theorem tupf_frame {a : Addr} {vs : List V} (c1 : ∀ a, a ∉ X → ∀ o, H a = some o → H' a = some o) (c2 : ∀ a ∈ X, Own1 (H a)) (h : TupF K H a vs) : TupF K H' a vs := by
  rcases h with h | ⟨h, g⟩
  · exact .inl (c1 a (fun hx => (c2 a hx).no_tup h) _ h)
  · exact .inr ⟨sqt_frame c1 c2 h, g⟩
theorem rd_some {a : Addr} {o : HO} (h : Rd H a o) : H a ≠ none := by
  rcases h with h | ⟨u, h⟩ <;> rw [h] <;> exact fun z => nomatch z
theorem lstf_frame {a : Addr} {vs : List V} (c1 : ∀ a, a ∉ X → ∀ o, H a = some o → H' a = some o) (hX : ∀ a ∈ X, a ∈ hot) (c4 : ∀ a, a ∈ hot' → a ∈ hot ∨ H a = none)
    (h : LstF K H hot a vs) : LstF K H' hot' a vs := by
  rcases h with ⟨h, hn⟩ | h
  · refine .inl ⟨rd_frame c1 (fun hx => hn (hX a hx)) h, fun hm => ?_⟩
    rcases c4 a hm with z | z
    · exact hn z
    · exact rd_some h z
  · exact .inr h

theorem dicf_frame {a : Addr} {o : HO} (c1 : ∀ a, a ∉ X → ∀ o, H a = some o → H' a = some o) (hX : ∀ a ∈ X, a ∈ hot) (c4 : ∀ a, a ∈ hot' → a ∈ hot ∨ H a = none)
    (h : Rd H a o ∧ a ∉ hot) : Rd H' a o ∧ a ∉ hot' := by
  obtain ⟨h, hn⟩ := h
  refine ⟨rd_frame c1 (fun hx => hn (hX a hx)) h, fun hm => ?_⟩
  rcases c4 a hm with z | z
  · exact hn z
  · exact rd_some h z
mutual
theorem Rep.frame (c1 : ∀ a, a ∉ X → ∀ o, H a = some o → H' a = some o) (c2 : ∀ a ∈ X, Own1 (H a)) (hX : ∀ a ∈ X, a ∈ hot) (c4 : ∀ a, a ∈ hot' → a ∈ hot ∨ H a = none) :
    ∀ {l : Nat} {v : V} {d : D} {B : List Addr}, Rep K H hot l v d B → (∀ a ∈ X, a ∉ B) → Rep K H' hot' l v d B
  | _, _, _, _, .non l, _ => .non l
  | _, _, _, _, .bl l b, _ => .bl l b
  | _, _, _, _, .int l i, _ => .int l i
  | _, _, _, _, .str l s, _ => .str l s
  | _, _, _, _, .tup h hs, n => .tup (tupf_frame c1 c2 h) (Reps.frame c1 c2 hX c4 hs n)
  | _, _, _, _, .lst0 h hs, n => .lst0 (lstf_frame c1 hX c4 h) (Reps.frame c1 c2 hX c4 hs n)
  | _, _, _, _, .lstS h hs, n => .lstS (c1 _ (fun hx => n _ hx List.mem_cons_self) _ h) (Reps.frame c1 c2 hX c4 hs fun a ha hm => n a ha (List.mem_cons_of_mem _ hm))
  | _, _, _, _, .dic0 h k e hs, n => .dic0 (dicf_frame c1 hX c4 h) k e (Reps.frame c1 c2 hX c4 hs fun a ha hm => nomatch hm)
  | _, _, _, _, .dicS h k e hs, n => .dicS (c1 _ (fun hx => n _ hx List.mem_cons_self) _ h) k e (Reps.frame c1 c2 hX c4 hs fun a ha hm => nomatch hm)
theorem Reps.frame (c1 : ∀ a, a ∉ X → ∀ o, H a = some o → H' a = some o) (c2 : ∀ a ∈ X, Own1 (H a)) (hX : ∀ a ∈ X, a ∈ hot) (c4 : ∀ a, a ∈ hot' → a ∈ hot ∨ H a = none) :
    ∀ {l : Nat} {vs : List V} {ds : List D} {B : List Addr}, Reps K H hot l vs ds B → (∀ a ∈ X, a ∉ B) → Reps K H' hot' l vs ds B
  | _, _, _, _, .nil l, _ => .nil l
  | _, _, _, _, .cons h hs, n => .cons (Rep.frame c1 c2 hX c4 h fun a ha hm => n a ha (List.mem_append_left _ hm)) (Reps.frame c1 c2 hX c4 hs fun a ha hm => n a ha (List.mem_append_right _ hm))
end
mutual
theorem RepT.frame (c1 : ∀ a, a ∉ X → ∀ o, H a = some o → H' a = some o) (c2 : ∀ a ∈ X, Own1 (H a)) (hX : ∀ a ∈ X, a ∈ S) (hS : ∀ a ∈ S, a ∈ hot) (c4 : ∀ a, a ∈ hot' → a ∈ hot ∨ H a = none) (c5 : ∀ a, a ∈ S' → a ∈ S ∨ H a = none) :
    ∀ {j : Nat} {v : V} {d : D}, RepT K H S hot j v d → RepT K H' S' hot' j v d
  | _, _, _, .non l => .non l
  | _, _, _, .bl l b => .bl l b
  | _, _, _, .int l i => .int l i
  | _, _, _, .str l s => .str l s
  | _, _, _, .tup h hs => .tup (tupf_frame c1 c2 h) (RepTs.frame c1 c2 hX hS c4 c5 hs)
  | _, _, _, .lst0 h hs => .lst0 (lstf_frame c1 (fun a ha => hS a (hX a ha)) c4 h) (RepTs.frame c1 c2 hX hS c4 c5 hs)
  | _, _, _, .lstS h hs => .lstS (lstf_frame c1 hX c5 h) (RepTs.frame c1 c2 hX hS c4 c5 hs)
  | _, _, _, .dic0 h k e hs => .dic0 (dicf_frame c1 (fun a ha => hS a (hX a ha)) c4 h) k e (RepTs.frame c1 c2 hX hS c4 c5 hs)
  | _, _, _, .dicS h k e hs => .dicS (dicf_frame c1 hX c5 h) k e (RepTs.frame c1 c2 hX hS c4 c5 hs)
theorem RepTs.frame (c1 : ∀ a, a ∉ X → ∀ o, H a = some o → H' a = some o) (c2 : ∀ a ∈ X, Own1 (H a)) (hX : ∀ a ∈ X, a ∈ S) (hS : ∀ a ∈ S, a ∈ hot) (c4 : ∀ a, a ∈ hot' → a ∈ hot ∨ H a = none) (c5 : ∀ a, a ∈ S' → a ∈ S ∨ H a = none) :
    ∀ {j : Nat} {vs : List V} {ds : List D}, RepTs K H S hot j vs ds → RepTs K H' S' hot' j vs ds
  | _, _, _, .nil l => .nil l
  | _, _, _, .cons h hs => .cons (RepT.frame c1 c2 hX hS c4 c5 h) (RepTs.frame c1 c2 hX hS c4 c5 hs)
end

mutual
theorem Rep.zero : ∀ {v : V} {d : D} {B : List Addr}, Rep K H hot 0 v d B → B = []
  | _, _, _, .non _ => rfl
  | _, _, _, .bl _ _ => rfl
  | _, _, _, .int _ _ => rfl
  | _, _, _, .str _ _ => rfl
  | _, _, _, .tup _ hs => Reps.zero hs
  | _, _, _, .lst0 _ hs => Reps.zero hs
  | _, _, _, .dic0 _ _ _ _ => rfl
theorem Reps.zero : ∀ {vs : List V} {ds : List D} {B : List Addr}, Reps K H hot 0 vs ds B → B = []
  | _, _, _, .nil _ => rfl
  | _, _, _, .cons h hs => by rw [Rep.zero h, Reps.zero hs]; rfl
end
mutual
theorem Rep.toT (hS : ∀ a ∈ S, a ∈ hot) : ∀ {l j : Nat} {v : V} {d : D} {B : List Addr}, Rep K H hot l v d B → (∀ a ∈ B, a ∉ S) → l ≤ j → RepT K H S hot j v d
  | _, j, _, _, _, .non _, _, _ => .non j
  | _, j, _, _, _, .bl _ b, _, _ => .bl j b
  | _, j, _, _, _, .int _ b, _, _ => .int j b
  | _, j, _, _, _, .str _ b, _, _ => .str j b
  | l, j, _, _, _, .tup h hs, n, e => .tup h (Reps.toT hS hs n (by omega))
  | _, 0, _, _, _, .lst0 h hs, n, _ => .lst0 h (Reps.toT hS hs n (Nat.le_refl 0))
  | _, j + 1, _, _, _, .lst0 h hs, n, _ => .lstS (lstf_frame (X := []) (fun a _ o z => z) (fun _ z => nomatch z) (fun a z => .inl (hS a z)) h) (Reps.toT hS hs n (Nat.zero_le j))
  | _, 0, _, _, _, .lstS _ _, _, e => absurd e (by omega)
  | _, j + 1, _, _, _, .lstS h hs, n, e => .lstS (.inl ⟨.inl h, n _ List.mem_cons_self⟩) (Reps.toT hS hs (fun a ha => n a (List.mem_cons_of_mem _ ha)) (by omega))
  | _, 0, _, _, _, .dic0 h k e hs, n, _ => .dic0 h k e (Reps.toT hS hs (fun a ha => nomatch ha) (Nat.le_refl 0))
  | _, j + 1, _, _, _, .dic0 h k e hs, n, _ => .dicS ⟨h.1, fun z => h.2 (hS _ z)⟩ k e (Reps.toT hS hs (fun a ha => nomatch ha) (Nat.le_refl 0))
  | _, 0, _, _, _, .dicS _ _ _ _, _, e => absurd e (by omega)
  | _, j + 1, _, _, _, .dicS h k e hs, n, _ => .dicS ⟨.inl h, n _ List.mem_cons_self⟩ k e (Reps.toT hS hs (fun a ha => nomatch ha) (Nat.le_refl 0))
theorem Reps.toT (hS : ∀ a ∈ S, a ∈ hot) : ∀ {l j : Nat} {vs : List V} {ds : List D} {B : List Addr}, Reps K H hot l vs ds B → (∀ a ∈ B, a ∉ S) → l ≤ j → RepTs K H S hot j vs ds
  | _, j, _, _, _, .nil _, _, _ => .nil j
  | _, _, _, _, _, .cons h hs, n, e => .cons (Rep.toT hS h (fun a ha => n a (List.mem_append_left _ ha)) e) (Reps.toT hS hs (fun a ha => n a (List.mem_append_right _ ha)) e)
end
mutual
theorem RepT.up (hS : ∀ a ∈ S, a ∈ hot) : ∀ {i j : Nat} {v : V} {d : D}, RepT K H S hot i v d → i ≤ j → RepT K H S hot j v d
  | _, j, _, _, .non _, _ => .non j
  | _, j, _, _, .bl _ b, _ => .bl j b
  | _, j, _, _, .int _ b, _ => .int j b
  | _, j, _, _, .str _ b, _ => .str j b
  | l, j, _, _, .tup h hs, e => .tup h (RepTs.up hS hs (by omega))
  | _, 0, _, _, .lst0 h hs, _ => .lst0 h hs
  | _, j + 1, _, _, .lst0 h hs, _ => .lstS (lstf_frame (X := []) (fun a _ o z => z) (fun _ z => nomatch z) (fun a z => .inl (hS a z)) h) (RepTs.up hS hs (Nat.zero_le j))
  | _, 0, _, _, .lstS _ _, e => absurd e (by omega)
  | _, j + 1, _, _, .lstS h hs, e => .lstS h (RepTs.up hS hs (by omega))
  | _, 0, _, _, .dic0 h k e hs, _ => .dic0 h k e hs
  | _, j + 1, _, _, .dic0 h k e hs, _ => .dicS ⟨h.1, fun z => h.2 (hS _ z)⟩ k e hs
  | _, 0, _, _, .dicS _ _ _ _, e => absurd e (by omega)
  | _, j + 1, _, _, .dicS h k e hs, _ => .dicS h k e hs
theorem RepTs.up (hS : ∀ a ∈ S, a ∈ hot) : ∀ {i j : Nat} {vs : List V} {ds : List D}, RepTs K H S hot i vs ds → i ≤ j → RepTs K H S hot j vs ds
  | _, j, _, _, .nil _, _ => .nil j
  | _, _, _, _, .cons h hs, e => .cons (RepT.up hS h e) (RepTs.up hS hs e)
end
mutual
theorem RepT.zero : ∀ {v : V} {d : D}, RepT K H S hot 0 v d → Rep K H hot 0 v d []
  | _, _, .non _ => .non 0
  | _, _, .bl _ b => .bl 0 b
  | _, _, .int _ b => .int 0 b
  | _, _, .str _ b => .str 0 b
  | _, _, .tup h hs => .tup h (RepTs.zero hs)
  | _, _, .lst0 h hs => .lst0 h (RepTs.zero hs)
  | _, _, .dic0 h k e hs => .dic0 h k e (RepTs.zero hs)
theorem RepTs.zero : ∀ {vs : List V} {ds : List D}, RepTs K H S hot 0 vs ds → Reps K H hot 0 vs ds []
  | _, _, .nil _ => .nil 0
  | _, _, .cons h hs => Reps.cons (A := []) (RepT.zero h) (RepTs.zero hs)
end
/-- with nothing hot, all may be handed on -/
theorem lstf_nil {a : Addr} {xs : List V} (h : LstF K H hot a xs) : LstF K H [] a xs := by
  rcases h with ⟨h, _⟩ | h
  · exact .inl ⟨h, by simp⟩
  · exact .inr h
mutual
theorem RepT.cold : ∀ {j i : Nat} {v : V} {d : D}, RepT K H S hot j v d → RepT K H [] [] i v d
  | _, i, _, _, .non _ => .non i
  | _, i, _, _, .bl _ b => .bl i b
  | _, i, _, _, .int _ b => .int i b
  | _, i, _, _, .str _ b => .str i b
  | _, i, _, _, .tup h hs => .tup h (RepTs.cold hs)
  | _, 0, _, _, .lst0 h hs => .lst0 (lstf_nil h) (RepTs.cold hs)
  | _, i + 1, _, _, .lst0 h hs => .lstS (lstf_nil h) (RepTs.cold hs)
  | _, 0, _, _, .lstS h hs => .lst0 (lstf_nil h) (RepTs.cold hs)
  | _, i + 1, _, _, .lstS h hs => .lstS (lstf_nil h) (RepTs.cold hs)
  | _, 0, _, _, .dic0 h k e hs => .dic0 ⟨h.1, by simp⟩ k e (RepTs.cold hs)
  | _, i + 1, _, _, .dic0 h k e hs => .dicS ⟨h.1, by simp⟩ k e (RepTs.cold hs)
  | _, 0, _, _, .dicS h k e hs => .dic0 ⟨h.1, by simp⟩ k e (RepTs.cold hs)
  | _, i + 1, _, _, .dicS h k e hs => .dicS ⟨h.1, by simp⟩ k e (RepTs.cold hs)
theorem RepTs.cold : ∀ {j i : Nat} {vs : List V} {ds : List D}, RepTs K H S hot j vs ds → RepTs K H [] [] i vs ds
  | _, i, _, _, .nil _ => .nil i
  | _, _, _, _, .cons h hs => .cons (RepT.cold h) (RepTs.cold hs)
end

mutual
/-- some of one's own lists are given up -/
theorem Rep.low : ∀ {l l' : Nat} {v : V} {d : D} {B : List Addr}, Rep K H hot l v d B → l' ≤ l → B.Nodup →
    ∃ B', B'.Sublist B ∧ ∀ hot', (∀ a ∈ hot', a ∈ hot) → (∀ a ∈ B, a ∈ hot' → a ∈ B') → Rep K H hot' l' v d B'
  | _, l', _, _, _, .non _, _, _ => ⟨[], .slnil, fun _ _ _ => .non l'⟩
  | _, l', _, _, _, .bl _ b, _, _ => ⟨[], .slnil, fun _ _ _ => .bl l' b⟩
  | _, l', _, _, _, .int _ b, _, _ => ⟨[], .slnil, fun _ _ _ => .int l' b⟩
  | _, l', _, _, _, .str _ b, _, _ => ⟨[], .slnil, fun _ _ _ => .str l' b⟩
  | l, l', _, _, _, .tup h hs, e, nd =>
    let ⟨B', s, f⟩ := Reps.low (l' := l' - 1) hs (by omega) nd
    ⟨B', s, fun hot' h1 h2 => .tup h (f hot' h1 h2)⟩
  | _, l', _, _, _, .lst0 h hs, e, nd => by
    have e0 : l' = 0 := by omega
    subst e0
    obtain ⟨B', s, f⟩ := Reps.low (l' := 0) hs (Nat.le_refl 0) nd
    exact ⟨B', s, fun hot' h1 h2 => .lst0 (lstf_frame (X := []) (fun a _ o z => z) (fun _ z => nomatch z) (fun a z => .inl (h1 a z)) h) (f hot' h1 h2)⟩
  | _, l', _, _, _, .lstS (a := a) (A := A) h hs, e, nd => by
    have nd' : A.Nodup := (List.nodup_cons.mp nd).2
    cases l' with
    | zero =>
      obtain ⟨B', s, f⟩ := Reps.low (l' := 0) hs (Nat.zero_le _) nd'
      refine ⟨B', s.cons _, fun hot' h1 h2 => .lst0 (.inl ⟨.inl h, fun hm => ?_⟩) (f hot' h1 fun b hb hm => h2 b (List.mem_cons_of_mem _ hb) hm)⟩
      exact (List.nodup_cons.mp nd).1 (s.subset (h2 a List.mem_cons_self hm))
    | succ l' =>
      obtain ⟨B', s, f⟩ := Reps.low (l' := l') hs (by omega) nd'
      refine ⟨a :: B', s.cons_cons _, fun hot' h1 h2 => .lstS h (f hot' h1 fun b hb hm => ?_)⟩
      rcases List.mem_cons.mp (h2 b (List.mem_cons_of_mem _ hb) hm) with z | z
      · subst z
        exact absurd hb (List.nodup_cons.mp nd).1
      · exact z
  | _, l', _, _, _, .dic0 h k e' hs, e, nd => by
    have e0 : l' = 0 := by omega
    subst e0
    obtain ⟨B', s, f⟩ := Reps.low (l' := 0) hs (Nat.le_refl 0) .nil
    have eB : B' = [] := by simpa using s
    subst eB
    exact ⟨[], .slnil, fun hot' h1 h2 => .dic0 (dicf_frame (X := []) (fun a _ o z => z) (fun _ z => nomatch z) (fun a z => .inl (h1 a z)) h) k e' (f hot' h1 (by simp))⟩
  | _, l', _, _, _, .dicS (a := a) h k e' hs, e, nd => by
    obtain ⟨B', s, f⟩ := Reps.low (l' := 0) hs (Nat.le_refl 0) .nil
    have eB : B' = [] := by simpa using s
    subst eB
    cases l' with
    | zero => exact ⟨[], List.nil_sublist _, fun hot' h1 h2 => .dic0 ⟨.inl h, fun hm => by simpa using h2 a (by simp) hm⟩ k e' (f hot' h1 (by simp))⟩
    | succ l' => exact ⟨[a], List.Sublist.refl _, fun hot' h1 h2 => .dicS h k e' (f hot' h1 (by simp))⟩
theorem Reps.low : ∀ {l l' : Nat} {vs : List V} {ds : List D} {B : List Addr}, Reps K H hot l vs ds B → l' ≤ l → B.Nodup →
    ∃ B', B'.Sublist B ∧ ∀ hot', (∀ a ∈ hot', a ∈ hot) → (∀ a ∈ B, a ∈ hot' → a ∈ B') → Reps K H hot' l' vs ds B'
  | _, l', _, _, _, .nil _, _, _ => ⟨[], .slnil, fun _ _ _ => .nil l'⟩
  | _, l', _, _, _, .cons (A := A) (B := B) h hs, e, nd => by
    obtain ⟨n1, n2, n3⟩ := List.nodup_append.mp nd
    obtain ⟨A', s1, f1⟩ := Rep.low (l' := l') h e n1
    obtain ⟨B', s2, f2⟩ := Reps.low (l' := l') hs e n2
    refine ⟨A' ++ B', s1.append s2, fun hot' h1 h2 => .cons (f1 hot' h1 fun a ha hm => ?_) (f2 hot' h1 fun a ha hm => ?_)⟩
    · rcases List.mem_append.mp (h2 a (List.mem_append_left _ ha) hm) with z | z
      · exact z
      · exact absurd rfl (n3 a ha a (s2.subset z))
    · rcases List.mem_append.mp (h2 a (List.mem_append_right _ ha) hm) with z | z
      · exact absurd rfl (n3 a (s1.subset z) a ha)
      · exact z
end
mutual
/-- what holds no list that is held elsewhere: whatever is hot -/
theorem Rep.of_clean : ∀ {l : Nat} {v : V} {d : D} {B : List Addr}, Rep K H hot l v d B → d.clean l = true → Rep K H hot' l v d B
  | _, _, _, _, .non l, _ => .non l
  | _, _, _, _, .bl l b, _ => .bl l b
  | _, _, _, _, .int l b, _ => .int l b
  | _, _, _, _, .str l b, _ => .str l b
  | l, _, _, _, .tup h hs, e => .tup h (Reps.of_clean hs (by cases l <;> simpa [D.clean] using e))
  | _, _, _, _, .lst0 h hs, e => by simp [D.clean] at e
  | _, _, _, _, .lstS h hs, e => .lstS h (Reps.of_clean hs (by simpa [D.clean] using e))
  | _, _, _, _, .dic0 _ _ _ _, e => by simp [D.clean] at e
  | _, _, _, _, .dicS _ _ _ _, e => by simp [D.clean] at e
theorem Reps.of_clean : ∀ {l : Nat} {vs : List V} {ds : List D} {B : List Addr}, Reps K H hot l vs ds B → cleans l ds = true → Reps K H hot' l vs ds B
  | _, _, _, _, .nil l, _ => .nil l
  | _, _, _, _, .cons h hs, e => by
    simp only [cleans, Bool.and_eq_true] at e
    exact .cons (Rep.of_clean h e.1) (Reps.of_clean hs e.2)
end

mutual
theorem RepT.dp : ∀ {n j : Nat} {v : V} {d : D}, RepT K H S hot j v d → d.okd n = true → Dp K H v d.pd
  | _, _, _, _, .non _, _ => .non
  | _, _, _, _, .bl _ b, _ => .bl b
  | _, _, _, _, .int _ b, _ => .int b
  | _, _, _, _, .str _ b, _ => .str b
  | 0, _, _, _, .tup h hs, e => by simp [D.okd] at e
  | n + 1, _, _, _, .tup h hs, e => .tup h.sq (RepTs.dp hs (by simpa [D.okd] using e))
  | 0, _, _, _, .lst0 h hs, e => by simp [D.okd] at e
  | n + 1, _, _, _, .lst0 h hs, e => .lst h.seq (RepTs.dp hs (by simpa [D.okd] using e))
  | 0, _, _, _, .lstS h hs, e => by simp [D.okd] at e
  | n + 1, _, _, _, .lstS h hs, e => .lst h.seq (RepTs.dp hs (by simpa [D.okd] using e))
  | n, _, _, _, .dic0 _ _ _ _, e => by cases n <;> simp [D.okd] at e
  | n, _, _, _, .dicS _ _ _ _, e => by cases n <;> simp [D.okd] at e
theorem RepTs.dp : ∀ {n j : Nat} {vs : List V} {ds : List D}, RepTs K H S hot j vs ds → okds n ds = true → DpAll K H vs (pds ds)
  | _, _, _, _, .nil _, _ => .nil
  | _, _, _, _, .cons h hs, e => by
    simp only [okds, Bool.and_eq_true] at e
    exact .cons (RepT.dp h e.1) (RepTs.dp hs e.2)
end
end

mutual
theorem okd_lay : ∀ {n : Nat} {d : D}, d.okd n = true → d.pd.canLay0 = true ∧ d.pd.depth ≤ n
  | _, .non, _ => by simp [D.pd, PyData.canLay0, PyData.depth]
  | _, .bl _, _ => by simp [D.pd, PyData.canLay0, PyData.depth]
  | _, .int _, _ => by simp [D.pd, PyData.canLay0, PyData.depth]
  | _, .str s, h => by
    have h' : PyData.strOk s = true := by cases ‹Nat› <;> simpa [D.okd] using h
    simp [D.pd, PyData.canLay0, PyData.depth, h']
  | 0, .tup _, h => by simp [D.okd] at h
  | n + 1, .tup ds, h => by
    have q := okds_lay (n := n) (ds := ds) (by simpa [D.okd] using h)
    simp only [D.pd, PyData.canLay0, PyData.depth]
    exact ⟨q.1, by omega⟩
  | 0, .lst _, h => by simp [D.okd] at h
  | n + 1, .lst ds, h => by
    have q := okds_lay (n := n) (ds := ds) (by simpa [D.okd] using h)
    simp only [D.pd, PyData.canLay0, PyData.depth]
    exact ⟨q.1, by omega⟩
  | 0, .dic _ _ _, h => by simp [D.okd] at h
  | n + 1, .dic _ _ _, h => by simp [D.okd] at h
  | 0, .exn, h => by simp [D.okd] at h
  | n + 1, .exn, h => by simp [D.okd] at h
theorem okds_lay : ∀ {n : Nat} {ds : List D}, okds n ds = true → PyData.canLayAll0 (pds ds) = true ∧ PyData.depthAll (pds ds) ≤ n
  | _, [], _ => by simp [pds, PyData.canLayAll0, PyData.depthAll]
  | n, d :: ds, h => by
    simp only [okds, Bool.and_eq_true] at h
    have q := okd_lay h.1
    have q' := okds_lay h.2
    simp only [pds, PyData.canLayAll0, PyData.depthAll, Bool.and_eq_true]
    exact ⟨⟨q.1, q'.1⟩, by omega⟩
end
theorem okd_shaped {d : D} (h : okd d = true) : SeqAt.shaped d.pd = true := by
  have q := okd_lay h
  unfold SeqAt.shaped
  rw [Bool.and_eq_true]
  exact ⟨q.1, decide_eq_true (by omega)⟩
theorem pds_map : ∀ ds : List D, pds ds = ds.map D.pd
  | [] => rfl
  | d :: ds => by rw [pds, pds_map ds]; rfl
end Ly

set_option Elab.async false
set_option linter.all false
set_option maxRecDepth 100000
set_option maxHeartbeats 2000000
/-! States: frames with temporaries. -/
namespace Ly
open PySem PySem.Spec PyProof.Rows L2

inductive Tm where
  | own (v : V) (l : Nat) (d : D) | brw (v : V) (j : Nat) (d : D) | owns (vs : List V) (l : Nat) (ds : List D) | brws (vs : List V) (j : Nat) (ds : List D)
inductive TmOk (K : PySem.W.Frag) (H : Hp) (S hot : List Addr) : Tm → List Addr → Prop where
  | own {v : V} {l : Nat} {d : D} {A : List Addr} : Rep K H hot l v d A → TmOk K H S hot (.own v l d) A
  | brw {v : V} {j : Nat} {d : D} : RepT K H S hot j v d → TmOk K H S hot (.brw v j d) []
  | owns {vs : List V} {l : Nat} {ds : List D} {A : List Addr} : Reps K H hot l vs ds A → TmOk K H S hot (.owns vs l ds) A
  | brws {vs : List V} {j : Nat} {ds : List D} : RepTs K H S hot j vs ds → TmOk K H S hot (.brws vs j ds) []
inductive Tms (K : PySem.W.Frag) (H : Hp) (S hot : List Addr) : List Tm → List Addr → Prop where
  | nil : Tms K H S hot [] []
  | cons {t : Tm} {A : List Addr} {ts : List Tm} {B : List Addr} : TmOk K H S hot t A → Tms K H S hot ts B → Tms K H S hot (t :: ts) (A ++ B)
inductive SlotOk (K : PySem.W.Frag) (EX : Addr → Nat → Prop) (H : Hp) (hot : List Addr) : Option V → Option (Nat × D) → List Addr → Prop where
  | non {o : Option V} : SlotOk K EX H hot o none []
  | exc {a : Addr} {c : Nat} : EX a c → SlotOk K EX H hot (some (.ref a)) (some (100 + c, .exn)) []
  | sm {v : V} {l : Nat} {d : D} {A : List Addr} : Rep K H hot l v d A → SlotOk K EX H hot (some v) (some (l, d)) A
inductive Slots (K : PySem.W.Frag) (EX : Addr → Nat → Prop) (H : Hp) (hot : List Addr) : L2.St → Env → List Addr → Prop where
  | nil : Slots K EX H hot [] [] []
  | cons {o : Option V} {x : Option (Nat × D)} {A : List Addr} {vs : L2.St} {ds : Env} {B : List Addr} : SlotOk K EX H hot o x A → Slots K EX H hot vs ds B → Slots K EX H hot (o :: vs) (x :: ds) (A ++ B)
def Tm.mine : Tm → Bool
  | .own _ _ _ => true
  | .owns _ _ _ => true
  | _ => false

section
variable {K : PySem.W.Frag} {EX : Addr → Nat → Prop} {H H' : Hp} {hot hot' X S S' : List Addr}
mutual
theorem Rep.mem : ∀ {l : Nat} {v : V} {d : D} {B : List Addr}, Rep K H hot l v d B → ∀ a ∈ B, Own1 (H a)
  | _, _, _, _, .non l => fun _ z => nomatch z
  | _, _, _, _, .bl l b => fun _ z => nomatch z
  | _, _, _, _, .int l b => fun _ z => nomatch z
  | _, _, _, _, .str l b => fun _ z => nomatch z
  | _, _, _, _, .tup h hs => Reps.mem hs
  | _, _, _, _, .lst0 h hs => Reps.mem hs
  | _, _, _, _, .lstS h hs => fun a ha => by
    rcases List.mem_cons.mp ha with e | ha
    · rw [e]; exact .inl ⟨_, h⟩
    · exact Reps.mem hs a ha
  | _, _, _, _, .dic0 _ _ _ _ => fun _ z => nomatch z
  | _, _, _, _, .dicS h _ _ _ => fun a ha => by
    rw [List.mem_singleton.mp ha]
    exact .inr ⟨_, _, _, h⟩
theorem Reps.mem : ∀ {l : Nat} {vs : List V} {ds : List D} {B : List Addr}, Reps K H hot l vs ds B → ∀ a ∈ B, Own1 (H a)
  | _, _, _, _, .nil l => fun _ z => nomatch z
  | _, _, _, _, .cons h hs => fun a ha => by
    rcases List.mem_append.mp ha with ha | ha
    · exact Rep.mem h a ha
    · exact Reps.mem hs a ha
end
theorem TmOk.mem {t : Tm} {A : List Addr} (h : TmOk K H S hot t A) : ∀ a ∈ A, Own1 (H a) := by
  cases h with
  | own h => exact h.mem
  | brw h => exact fun _ z => nomatch z
  | owns h => exact h.mem
  | brws h => exact fun _ z => nomatch z
theorem Tms.mem : ∀ {ts : List Tm} {A : List Addr}, Tms K H S hot ts A → ∀ a ∈ A, Own1 (H a)
  | _, _, .nil => fun _ z => nomatch z
  | _, _, .cons h hs => fun a ha => by
    rcases List.mem_append.mp ha with ha | ha
    · exact h.mem a ha
    · exact Tms.mem hs a ha
theorem SlotOk.mem {o : Option V} {x : Option (Nat × D)} {A : List Addr} (h : SlotOk K EX H hot o x A) : ∀ a ∈ A, Own1 (H a) := by
  cases h with
  | non => exact fun _ z => nomatch z
  | exc h => exact fun _ z => nomatch z
  | sm h => exact h.mem
theorem Slots.mem : ∀ {σ : L2.St} {r : Env} {A : List Addr}, Slots K EX H hot σ r A → ∀ a ∈ A, Own1 (H a)
  | _, _, _, .nil => fun _ z => nomatch z
  | _, _, _, .cons h hs => fun a ha => by
    rcases List.mem_append.mp ha with ha | ha
    · exact h.mem a ha
    · exact Slots.mem hs a ha

/-- the frame rule's premises: what is not in X stays; X are own lists; what becomes hot is new -/
structure Fr (H H' : Hp) (S S' hot hot' X : List Addr) : Prop where
  c1 : ∀ a, a ∉ X → ∀ o, H a = some o → H' a = some o
  c2 : ∀ a ∈ X, Own1 (H a)
  hX : ∀ a ∈ X, a ∈ hot
  c4 : ∀ a, a ∈ hot' → a ∈ hot ∨ H a = none
  hS : ∀ a ∈ S, a ∈ hot
  c5 : ∀ a, a ∈ S' → a ∈ S ∨ H a = none
theorem TmOk.frame {t : Tm} {A : List Addr} (F : Fr H H' S S' hot hot' X) (h : TmOk K H S hot t A) (hm : (∀ a ∈ X, a ∈ S) ∨ t.mine = true) (hn : ∀ a ∈ X, a ∉ A) : TmOk K H' S' hot' t A := by
  cases h with
  | own h => exact .own (h.frame F.c1 F.c2 F.hX F.c4 hn)
  | owns h => exact .owns (h.frame F.c1 F.c2 F.hX F.c4 hn)
  | brw h =>
    rcases hm with hm | hm
    · exact .brw (h.frame F.c1 F.c2 hm F.hS F.c4 F.c5)
    · cases hm
  | brws h =>
    rcases hm with hm | hm
    · exact .brws (h.frame F.c1 F.c2 hm F.hS F.c4 F.c5)
    · cases hm
theorem Tms.frame (F : Fr H H' S S' hot hot' X) : ∀ {ts : List Tm} {A : List Addr}, Tms K H S hot ts A → ((∀ a ∈ X, a ∈ S) ∨ ∀ t ∈ ts, t.mine = true) → (∀ a ∈ X, a ∉ A) → Tms K H' S' hot' ts A
  | _, _, .nil, _, _ => .nil
  | _, _, .cons h hs, hm, hn => .cons (h.frame F (hm.imp id fun z => z _ List.mem_cons_self) fun a ha z => hn a ha (List.mem_append_left _ z))
    (Tms.frame F hs (hm.imp id fun z t ht => z t (List.mem_cons_of_mem _ ht)) fun a ha z => hn a ha (List.mem_append_right _ z))
theorem SlotOk.frame {o : Option V} {x : Option (Nat × D)} {A : List Addr} (F : Fr H H' S S' hot hot' X) (h : SlotOk K EX H hot o x A) (hn : ∀ a ∈ X, a ∉ A) : SlotOk K EX H' hot' o x A := by
  cases h with
  | non => exact .non
  | exc h => exact .exc h
  | sm h => exact .sm (h.frame F.c1 F.c2 F.hX F.c4 hn)
theorem Slots.frame (F : Fr H H' S S' hot hot' X) : ∀ {σ : L2.St} {r : Env} {A : List Addr}, Slots K EX H hot σ r A → (∀ a ∈ X, a ∉ A) → Slots K EX H' hot' σ r A
  | _, _, _, .nil, _ => .nil
  | _, _, _, .cons h hs, hn => .cons (h.frame F fun a ha z => hn a ha (List.mem_append_left _ z)) (Slots.frame F hs fun a ha z => hn a ha (List.mem_append_right _ z))
theorem Slots.length : ∀ {σ : L2.St} {r : Env} {A : List Addr}, Slots K EX H hot σ r A → σ.length = r.length
  | _, _, _, .nil => rfl
  | _, _, _, .cons _ hs => by rw [List.length_cons, List.length_cons, Slots.length hs]
/-- slot i taken out, another put in -/
theorem Slots.split : ∀ {σ : L2.St} {r : Env} {B : List Addr} (i : Nat), Slots K EX H hot σ r B → i < r.length →
    ∃ o x B1 A B2, σ[i]? = some o ∧ r[i]? = some x ∧ B = B1 ++ (A ++ B2) ∧ SlotOk K EX H hot o x A ∧
      ∀ (H' : Hp) (S S' hot' X : List Addr) (o' : Option V) (x' : Option (Nat × D)) (A' : List Addr), Fr H H' S S' hot hot' X → (∀ a ∈ X, a ∉ B1 ∧ a ∉ B2) → SlotOk K EX H' hot' o' x' A' →
        Slots K EX H' hot' (σ.set i o') (r.set i x') (B1 ++ (A' ++ B2))
  | _, _, _, _, .nil, h => absurd h (by simp)
  | _, _, _, 0, .cons (o := o) (x := x) (A := A) (B := B) h hs, _ => ⟨o, x, [], A, B, rfl, rfl, rfl, h, fun H' S S' hot' X o' x' A' F hn h' => by
    show Slots K EX H' hot' _ _ (A' ++ B)
    exact .cons h' (Slots.frame F hs fun a ha => (hn a ha).2)⟩
  | _, _, _, i + 1, .cons (o := o) (x := x) (A := A) (B := B) h hs, hi => by
    obtain ⟨o1, x1, B1, A1, B2, e1, e2, e3, h1, f⟩ := Slots.split i hs (by simpa using hi)
    subst e3
    refine ⟨o1, x1, A ++ B1, A1, B2, by simpa using e1, by simpa using e2, by rw [List.append_assoc], h1, fun H' S S' hot' X o' x' A' F hn h' => ?_⟩
    rw [List.set_cons_succ, List.set_cons_succ, List.append_assoc]
    exact .cons (h.frame F fun a ha z => (hn a ha).1 (List.mem_append_left _ z)) (f H' S S' hot' X o' x' A' F (fun a ha => ⟨fun z => (hn a ha).1 (List.mem_append_right _ z), (hn a ha).2⟩) h')

/-- the state: what stood at the entry stands; one's own lists are new, and no two are one -/
structure Sta (K : PySem.W.Frag) (EX : Addr → Nat → Prop) (H0 : Hp) (S : List Addr) (ts : List Tm) (σ : L2.St) (r : Env) (H : Hp) : Prop where
  ex : Same H0 H
  sd : ∀ a ∈ S, H a ≠ none
  own : ∃ A B, (A ++ B).Nodup ∧ (∀ a ∈ A ++ B, H0 a = none ∧ a ∉ S) ∧ Tms K H S (S ++ (A ++ B)) ts A ∧ Slots K EX H (S ++ (A ++ B)) σ r B

variable {H0 : Hp} {ts t1 t2 : List Tm} {σ σ' : L2.St} {r r' : Env}
theorem Tms.split : ∀ {t1 : List Tm} {A : List Addr}, Tms K H S hot (t1 ++ ts) A → ∃ A1 A2, A = A1 ++ A2 ∧ Tms K H S hot t1 A1 ∧ Tms K H S hot ts A2
  | [], A, h => ⟨[], A, rfl, .nil, h⟩
  | t :: t1, _, .cons (A := A) h hs => by
    obtain ⟨A1, A2, rfl, h1, h2⟩ := Tms.split hs
    exact ⟨A ++ A1, A2, by rw [List.append_assoc], .cons h h1, h2⟩
theorem Tms.join : ∀ {t1 : List Tm} {A1 A2 : List Addr}, Tms K H S hot t1 A1 → Tms K H S hot ts A2 → Tms K H S hot (t1 ++ ts) (A1 ++ A2)
  | _, _, _, .nil, h => h
  | _, _, _, .cons h hs, h2 => by
    rw [List.append_assoc]
    exact .cons h (Tms.join hs h2)
/-- the topmost temporaries are turned into others; the heap may grow -/
theorem Sta.step (st : Sta K EX H0 S (t1 ++ ts) σ r H) (sm : Same H H')
    (f : ∀ (hot A1 : List Addr), A1.Nodup → (∀ a ∈ A1, a ∈ hot ∧ a ∉ S) → (∀ a ∈ hot, H a ≠ none) → (∀ a ∈ S, a ∈ hot) → Tms K H S hot t1 A1 → ∃ A2, A2.Nodup ∧ (∀ a ∈ A2, a ∈ A1 ∨ H a = none) ∧
      ∀ hot', (∀ a ∈ hot', a ∈ hot ∨ a ∈ A2) → (∀ a ∈ A1, a ∈ hot' → a ∈ A2) → (∀ a ∈ A2, a ∈ hot') → (∀ a ∈ S, a ∈ hot') → Tms K H' S hot' t2 A2) : Sta K EX H0 S (t2 ++ ts) σ r H' := by
  obtain ⟨ex, sd, A, B, nd, new, hT, hS⟩ := st
  obtain ⟨A1, A0, rfl, h1, h0⟩ := hT.split
  have dom : ∀ a ∈ S ++ (A1 ++ A0 ++ B), H a ≠ none := fun a ha => by
    rcases List.mem_append.mp ha with ha | ha
    · exact sd a ha
    · rcases List.mem_append.mp ha with ha | ha
      · rcases List.mem_append.mp ha with ha | ha
        · exact (h1.mem a ha).ne
        · exact (h0.mem a ha).ne
      · exact (hS.mem a ha).ne
  rw [List.append_assoc] at nd
  obtain ⟨n1, n0, n10⟩ := List.nodup_append.mp nd
  have in1 : ∀ a ∈ A1, a ∈ A1 ++ A0 ++ B := fun a ha => List.mem_append_left _ (List.mem_append_left _ ha)
  obtain ⟨A2, m1, m2, g⟩ := f (S ++ (A1 ++ A0 ++ B)) A1 n1 (fun a ha => ⟨List.mem_append_right _ (in1 a ha), (new a (in1 a ha)).2⟩) dom (fun a ha => List.mem_append_left _ ha) h1
  have sub : ∀ a, a ∈ S ++ (A2 ++ A0 ++ B) → a ∈ S ++ (A1 ++ A0 ++ B) ∨ a ∈ A2 := fun a ha => by
    simp only [List.mem_append] at ha ⊢
    rcases ha with h | (h | h) | h
    · exact .inl (.inl h)
    · exact .inr h
    · exact .inl (.inr (.inl (.inr h)))
    · exact .inl (.inr (.inr h))
  have F : Fr H H' S S (S ++ (A1 ++ A0 ++ B)) (S ++ (A2 ++ A0 ++ B)) [] :=
    ⟨fun a _ o e => sm a o e, fun _ z => (by simp at z), fun _ z => (by simp at z), fun a ha => by
      rcases sub a ha with z | z
      · exact .inl z
      · rcases m2 a z with z | z
        · exact .inl (List.mem_append_right _ (in1 a z))
        · exact .inr z, fun a ha => List.mem_append_left _ ha, fun a ha => .inl ha⟩
  have disj : ∀ a ∈ A2, a ∉ A0 ++ B := fun a ha hb => by
    rcases m2 a ha with z | z
    · exact n10 a z a hb rfl
    · refine dom a (List.mem_append_right _ ?_) z
      rw [List.append_assoc]
      exact List.mem_append_right _ hb
  refine ⟨ex.trans sm, fun a ha => ?_, A2 ++ A0, B, ?_, fun a ha => ?_, Tms.join (g _ (fun a ha => sub a ha) (fun a ha hm => ?_) (fun a ha => ?_) (fun a ha => List.mem_append_left _ ha)) (h0.frame F (.inl (by simp)) (by simp)), hS.frame F (by simp)⟩
  · cases e : H a with
    | none => exact absurd e (sd a ha)
    | some o => rw [sm a o e]; exact fun z => nomatch z
  · rw [List.append_assoc]
    exact List.nodup_append.mpr ⟨m1, n0, fun a ha b hb e => disj a ha (e ▸ hb)⟩
  · rw [List.append_assoc] at ha
    rcases List.mem_append.mp ha with ha | ha
    · rcases m2 a ha with z | z
      · exact new a (in1 a z)
      · exact ⟨ex.free z, fun hs => sd a hs z⟩
    · rcases List.mem_append.mp ha with ha | ha
      · exact new a (List.mem_append_left _ (List.mem_append_right _ ha))
      · exact new a (List.mem_append_right _ ha)
  · simp only [List.mem_append] at hm
    rcases hm with h | (h | h) | h
    · exact absurd h (new a (in1 a ha)).2
    · exact h
    · exact absurd rfl (n10 a ha a (List.mem_append_left _ h))
    · exact absurd rfl (n10 a ha a (List.mem_append_right _ h))
  · exact List.mem_append_right _ (List.mem_append_left _ (List.mem_append_left _ ha))
/-- the topmost one goes -/
theorem Sta.pop {t : Tm} (st : Sta K EX H0 S (t :: ts) σ r H) : Sta K EX H0 S ts σ r H :=
  Sta.step (t1 := [t]) (t2 := []) st (Same.refl H) fun hot A1 _ _ _ _ _ => ⟨[], .nil, fun _ z => (by simp at z), fun _ _ _ _ _ => .nil⟩
theorem Tms.one {t : Tm} {A : List Addr} (h : Tms K H S hot [t] A) : TmOk K H S hot t A := by
  cases h with
  | cons h hs =>
    cases hs
    rw [List.append_nil]
    exact h
theorem Tms.mk1 {t : Tm} {A : List Addr} (h : TmOk K H S hot t A) : Tms K H S hot [t] A := by
  have := Tms.cons h .nil
  rwa [List.append_nil] at this
theorem Tms.two {t u : Tm} {A : List Addr} (h : Tms K H S hot [t, u] A) : ∃ A1 A2, A = A1 ++ A2 ∧ TmOk K H S hot t A1 ∧ TmOk K H S hot u A2 := by
  cases h with
  | cons h hs => exact ⟨_, _, rfl, h, hs.one⟩
/-- one temporary for one that owns nothing more -/
theorem Sta.swap {t t' : Tm} (st : Sta K EX H0 S (t :: ts) σ r H) (f : ∀ hot A, TmOk K H S hot t A → A.Nodup → (∀ a ∈ A, a ∉ S) → ∃ A', A'.Sublist A ∧ ∀ hot', (∀ a ∈ hot', a ∈ hot) → (∀ a ∈ A, a ∈ hot' → a ∈ A') → (∀ a ∈ S, a ∈ hot') → TmOk K H S hot' t' A') :
    Sta K EX H0 S (t' :: ts) σ r H :=
  Sta.step (t1 := [t]) (t2 := [t']) st (Same.refl H) fun hot A1 nd sub _ _ h => by
    obtain ⟨A', s, g⟩ := f hot A1 h.one nd fun a ha => (sub a ha).2
    exact ⟨A', nd.sublist s, fun a ha => .inl (s.subset ha), fun hot' h1 h2 _ h4 => .mk1 (g hot' (fun a ha => (h1 a ha).elim id fun z => (sub a (s.subset z)).1) h2 h4)⟩
/-- a value of one's own is given up -/
theorem Sta.toBrw {v : V} {l j : Nat} {d : D} (st : Sta K EX H0 S (.own v l d :: ts) σ r H) : Sta K EX H0 S (.brw v j d :: ts) σ r H :=
  st.swap fun hot A h nd ns => by
    cases h with
    | own h =>
      obtain ⟨B', s, g⟩ := h.low (Nat.zero_le l) nd
      refine ⟨[], List.nil_sublist _, fun hot' h1 h2 h4 => ?_⟩
      have q := g hot' h1 (fun a ha hm => absurd (h2 a ha hm) (by simp))
      have e := q.zero
      subst e
      exact .brw (q.toT h4 (by simp) (Nat.zero_le j))
theorem Sta.toBrws {vs : List V} {l j : Nat} {ds : List D} (st : Sta K EX H0 S (.owns vs l ds :: ts) σ r H) : Sta K EX H0 S (.brws vs j ds :: ts) σ r H :=
  st.swap fun hot A h nd ns => by
    cases h with
    | owns h =>
      obtain ⟨B', s, g⟩ := h.low (Nat.zero_le l) nd
      refine ⟨[], List.nil_sublist _, fun hot' h1 h2 h4 => ?_⟩
      have q := g hot' h1 (fun a ha hm => absurd (h2 a ha hm) (by simp))
      have e := q.zero
      subst e
      exact .brws (q.toT h4 (by simp) (Nat.zero_le j))
theorem Sta.lowT {v : V} {l l' : Nat} {d : D} (st : Sta K EX H0 S (.own v l d :: ts) σ r H) (h : l' ≤ l) : Sta K EX H0 S (.own v l' d :: ts) σ r H :=
  st.swap fun hot A q nd ns => by
    cases q with
    | own q =>
      obtain ⟨B', s, g⟩ := q.low h nd
      exact ⟨B', s, fun hot' h1 h2 _ => .own (g hot' h1 h2)⟩
theorem Sta.lowTs {vs : List V} {l l' : Nat} {ds : List D} (st : Sta K EX H0 S (.owns vs l ds :: ts) σ r H) (h : l' ≤ l) : Sta K EX H0 S (.owns vs l' ds :: ts) σ r H :=
  st.swap fun hot A q nd ns => by
    cases q with
    | owns q =>
      obtain ⟨B', s, g⟩ := q.low h nd
      exact ⟨B', s, fun hot' h1 h2 _ => .owns (g hot' h1 h2)⟩
theorem RepT.less {hot hot' S : List Addr} {j : Nat} {v : V} {d : D} (h : RepT K H S hot j v d) (h4 : ∀ a ∈ S, a ∈ hot) (h1 : ∀ a ∈ hot', a ∈ hot) : RepT K H S hot' j v d :=
  h.frame (X := []) (fun a _ o e => e) (fun _ z => (by simp at z)) (fun _ z => (by simp at z)) h4 (fun a ha => .inl (h1 a ha)) (fun a ha => .inl ha)
theorem RepTs.less {hot hot' S : List Addr} {j : Nat} {vs : List V} {ds : List D} (h : RepTs K H S hot j vs ds) (h4 : ∀ a ∈ S, a ∈ hot) (h1 : ∀ a ∈ hot', a ∈ hot) : RepTs K H S hot' j vs ds :=
  h.frame (X := []) (fun a _ o e => e) (fun _ z => (by simp at z)) (fun _ z => (by simp at z)) h4 (fun a ha => .inl (h1 a ha)) (fun a ha => .inl ha)
theorem Sta.upB {v : V} {i j : Nat} {d : D} (st : Sta K EX H0 S (.brw v i d :: ts) σ r H) (h : i ≤ j) : Sta K EX H0 S (.brw v j d :: ts) σ r H :=
  Sta.step (t1 := [.brw v i d]) (t2 := [.brw v j d]) st (Same.refl H) fun hot A1 nd sub dom hS q => by
    have q1 := q.one
    clear q
    cases q1 with
    | brw q' => exact ⟨[], .nil, fun _ z => (by simp at z), fun hot' h1 h2 h3 h4 => .mk1 (.brw ((q'.less hS fun a ha => (h1 a ha).elim id fun z => (by simp at z)).up h4 h))⟩
theorem Sta.brw0 {v : V} {d : D} (st : Sta K EX H0 S (.brw v 0 d :: ts) σ r H) : Sta K EX H0 S (.own v 0 d :: ts) σ r H :=
  Sta.step (t1 := [.brw v 0 d]) (t2 := [.own v 0 d]) st (Same.refl H) fun hot A1 nd sub dom hS q => by
    have q1 := q.one
    clear q
    cases q1 with
    | brw q' => exact ⟨[], .nil, fun _ z => (by simp at z), fun hot' h1 h2 h3 h4 => .mk1 (.own (q'.less hS fun a ha => (h1 a ha).elim id fun z => (by simp at z)).zero)⟩
theorem set_same {α : Type} : ∀ {l : List α} {i : Nat} {x : α}, l[i]? = some x → l.set i x = l
  | [], _, _, h => by simp at h
  | a :: l, 0, x, h => by simp at h; rw [h, List.set_cons_zero]
  | a :: l, i + 1, x, h => by rw [List.set_cons_succ, set_same (by simpa using h)]
theorem getv_some {i l : Nat} {d : D} (h : getv r i = some (l, d)) : r[i]? = some (some (l, d)) := by
  unfold getv at h
  split at h
  · rename_i x e
    cases h
    exact e
  · cases h
/-- any slot may be changed for one that owns less -/
theorem Sta.slot (i : Nat) (st : Sta K EX H0 S ts σ r H) (hi : i < r.length) : ∃ o x, σ[i]? = some o ∧ r[i]? = some x ∧
    ∀ (o' : Option V) (x' : Option (Nat × D)) (t2 : List Tm), (∀ hot A, SlotOk K EX H hot o x A → A.Nodup → (∀ a ∈ A, a ∉ S) → ∃ C A', (C ++ A').Sublist A ∧ ∀ hot', (∀ a ∈ hot', a ∈ hot) → (∀ a ∈ A, a ∈ hot' → a ∈ C ++ A') → (∀ a ∈ S, a ∈ hot') → Tms K H S hot' t2 C ∧ SlotOk K EX H hot' o' x' A') →
      Sta K EX H0 S (t2 ++ ts) (σ.set i o') (r.set i x') H := by
  obtain ⟨ex, sd, A, B, nd, new, hT, hS⟩ := st
  obtain ⟨o, x, B1, A1, B2, e1, e2, rfl, h1, f⟩ := hS.split i hi
  refine ⟨o, x, e1, e2, fun o' x' t2 g => ?_⟩
  obtain ⟨n1, n2, n3⟩ := List.nodup_append.mp nd
  obtain ⟨n4, n5, n6⟩ := List.nodup_append.mp n2
  obtain ⟨n7, n8, n9⟩ := List.nodup_append.mp n5
  obtain ⟨C, A', s, q⟩ := g _ A1 h1 n7 fun a ha => (new a (List.mem_append_right _ (List.mem_append_right _ (List.mem_append_left _ ha)))).2
  have sub : ∀ a, a ∈ S ++ (C ++ A ++ (B1 ++ (A' ++ B2))) → a ∈ S ++ (A ++ (B1 ++ (A1 ++ B2))) := fun a ha => by
    have sC : a ∈ C → a ∈ A1 := fun z => s.subset (List.mem_append_left _ z)
    have sA : a ∈ A' → a ∈ A1 := fun z => s.subset (List.mem_append_right _ z)
    simp only [List.mem_append] at ha ⊢
    rcases ha with h | (h | h) | h | h | h
    · exact .inl h
    · exact .inr (.inr (.inr (.inl (sC h))))
    · exact .inr (.inl h)
    · exact .inr (.inr (.inl h))
    · exact .inr (.inr (.inr (.inl (sA h))))
    · exact .inr (.inr (.inr (.inr h)))
  have F : Fr H H S S (S ++ (A ++ (B1 ++ (A1 ++ B2)))) (S ++ (C ++ A ++ (B1 ++ (A' ++ B2)))) [] := ⟨fun a _ o e => e, fun _ z => (by simp at z), fun _ z => (by simp at z), fun a ha => .inl (sub a ha), fun a ha => List.mem_append_left _ ha, fun a ha => .inl ha⟩
  have inA1 : ∀ a ∈ A1, a ∈ S ++ (C ++ A ++ (B1 ++ (A' ++ B2))) → a ∈ C ++ A' := fun a ha hm => by
    simp only [List.mem_append] at hm ⊢
    rcases hm with h | (h | h) | h | h | h
    · exact absurd h (new a (List.mem_append_right _ (List.mem_append_right _ (List.mem_append_left _ ha)))).2
    · exact .inl h
    · exact absurd rfl (n3 a h a (List.mem_append_right _ (List.mem_append_left _ ha)))
    · exact absurd rfl (n6 a h a (List.mem_append_left _ ha))
    · exact .inr h
    · exact absurd rfl (n9 a ha a h)
  obtain ⟨q1, q2⟩ := q _ sub inA1 fun a ha => List.mem_append_left _ ha
  refine ⟨ex, sd, C ++ A, B1 ++ (A' ++ B2), ?_, fun a ha => ?_, Tms.join q1 (hT.frame F (.inl (by simp)) (by simp)), f _ _ _ _ [] o' x' A' F (by simp) q2⟩
  · obtain ⟨m1, m2, m3⟩ := List.nodup_append.mp (n7.sublist s)
    have sC : ∀ a ∈ C, a ∈ A1 := fun a z => s.subset (List.mem_append_left _ z)
    have sA : ∀ a ∈ A', a ∈ A1 := fun a z => s.subset (List.mem_append_right _ z)
    refine List.nodup_append.mpr ⟨List.nodup_append.mpr ⟨m1, n1, fun a ha b hb e => ?_⟩, List.nodup_append.mpr ⟨n4, List.nodup_append.mpr ⟨m2, n8, fun a ha b hb e => ?_⟩, fun a ha b hb e => ?_⟩, fun a ha b hb e => ?_⟩
    · subst e; exact n3 a hb a (List.mem_append_right _ (List.mem_append_left _ (sC a ha))) rfl
    · subst e; exact n9 a (sA a ha) a hb rfl
    · subst e
      rcases List.mem_append.mp hb with hb | hb
      · exact n6 a ha a (List.mem_append_left _ (sA a hb)) rfl
      · exact n6 a ha a (List.mem_append_right _ hb) rfl
    · subst e
      rcases List.mem_append.mp ha with ha | ha
      · rcases List.mem_append.mp hb with hb | hb
        · exact n6 a hb a (List.mem_append_left _ (sC a ha)) rfl
        · rcases List.mem_append.mp hb with hb | hb
          · exact m3 a ha a hb rfl
          · exact n9 a (sC a ha) a hb rfl
      · rcases List.mem_append.mp hb with hb | hb
        · exact n3 a ha a (List.mem_append_left _ hb) rfl
        · rcases List.mem_append.mp hb with hb | hb
          · exact n3 a ha a (List.mem_append_right _ (List.mem_append_left _ (sA a hb))) rfl
          · exact n3 a ha a (List.mem_append_right _ (List.mem_append_right _ hb)) rfl
  · have sC : a ∈ C → a ∈ A1 := fun z => s.subset (List.mem_append_left _ z)
    have sA : a ∈ A' → a ∈ A1 := fun z => s.subset (List.mem_append_right _ z)
    refine new a ?_
    simp only [List.mem_append] at ha ⊢
    rcases ha with (h | h) | h | h | h
    · exact .inr (.inr (.inl (sC h)))
    · exact .inl h
    · exact .inr (.inl h)
    · exact .inr (.inr (.inl (sA h)))
    · exact .inr (.inr (.inr h))
theorem getv_lt {i l : Nat} {d : D} (h : getv r i = some (l, d)) : i < r.length := (List.getElem?_eq_some_iff.mp (getv_some h)).1
/-- a slot is read in mode j -/
theorem Sta.read {i l j : Nat} {d : D} (st : Sta K EX H0 S ts σ r H) (h : getv r i = some (l, d)) (h100 : l < 100) : ∃ v, σ[i]? = some (some v) ∧ Sta K EX H0 S (.brw v j d :: ts) σ (lower j i r) H := by
  obtain ⟨o, x, e1, e2, f⟩ := st.slot i (getv_lt h)
  have e3 := getv_some h
  rw [e3] at e2
  cases e2
  have hl : lower j i r = r.set i (some (min l j, d)) := by unfold lower; rw [e3]
  cases o with
  | none =>
    obtain ⟨_, _, A, B, _, _, _, hS⟩ := st
    obtain ⟨o, x, _, _, _, e1', e2', _, h1, _⟩ := hS.split i (getv_lt h)
    rw [e1] at e1'; cases e1'
    rw [e3] at e2'; cases e2'
    cases h1
  | some v =>
    refine ⟨v, e1, ?_⟩
    have q := f (some v) (some (min l j, d)) [.brw v j d] fun hot A h nd ns => by
      cases h with
      | exc h => omega
      | sm h =>
        obtain ⟨B', s, g⟩ := h.low (Nat.min_le_left l j) nd
        refine ⟨[], B', s, fun hot' h1 h2 h4 => ?_⟩
        have q := g hot' h1 h2
        exact ⟨.mk1 (.brw (q.toT h4 (fun a ha => ns a (s.subset ha)) (Nat.min_le_right l j))), .sm q⟩
    rw [set_same e1, ← hl] at q
    exact q
/-- a slot's value is moved out -/
theorem Sta.move {i l : Nat} {d : D} (st : Sta K EX H0 S ts σ r H) (h : getv r i = some (l, d)) (h100 : l < 100) : ∃ v, σ[i]? = some (some v) ∧ Sta K EX H0 S (.own v l d :: ts) σ (r.set i none) H := by
  obtain ⟨v, e, _⟩ := st.read (j := 9) h h100
  obtain ⟨o, x, e1, e2, f⟩ := st.slot i (getv_lt h)
  have e3 := getv_some h
  rw [e3] at e2
  cases e2
  rw [e] at e1
  cases e1
  refine ⟨v, e, ?_⟩
  have q := f (some v) none [.own v l d] fun hot A h nd ns => by
    cases h with
    | exc h => omega
    | sm h => exact ⟨A, [], by rw [List.append_nil]; exact List.Sublist.refl _, fun hot' h1 h2 h4 => ⟨.mk1 (.own (h.frame (X := []) (fun a _ o e => e) (fun _ z => (by simp at z)) (fun _ z => (by simp at z)) (fun a ha => .inl (h1 a ha)) (by simp))), .non⟩⟩
  rw [set_same e] at q
  exact q
theorem set_ge {α : Type} {l : List α} {i : Nat} {x : α} (h : l.length ≤ i) : l.set i x = l := List.set_eq_of_length_le h
theorem Sta.len (st : Sta K EX H0 S ts σ r H) : σ.length = r.length := by
  obtain ⟨_, _, _, _, _, _, _, hS⟩ := st
  exact hS.length
/-- a slot is forgotten, whatever the frame puts there -/
theorem Sta.drop (st : Sta K EX H0 S ts σ r H) (i : Nat) (o' : Option V) : Sta K EX H0 S ts (σ.set i o') (r.set i none) H := by
  by_cases hi : i < r.length
  · obtain ⟨o, x, e1, e2, f⟩ := st.slot i hi
    exact f o' none [] fun hot A h nd ns => ⟨[], [], List.nil_sublist _, fun hot' h1 h2 h4 => ⟨.nil, .non⟩⟩
  · rw [set_ge (by rw [st.len]; omega), set_ge (by omega)]
    exact st
theorem Sta.drop' (st : Sta K EX H0 S ts σ r H) (i : Nat) : Sta K EX H0 S ts σ (r.set i none) H := by
  by_cases hi : i < σ.length
  · have q := st.drop i σ[i]
    rwa [set_same (List.getElem?_eq_getElem hi)] at q
  · rw [set_ge (by rw [← st.len]; omega)]
    exact st
/-- a temporary is stored -/
theorem Sta.store {v : V} {l : Nat} {d : D} (st : Sta K EX H0 S (.own v l d :: ts) σ r H) (i : Nat) : Sta K EX H0 S ts (σ.set i (some v)) (r.set i (some (l, d))) H := by
  have st1 := st.drop i (some v)
  obtain ⟨ex, sd, A, B, nd, new, hT, hS⟩ := st1
  by_cases hi : i < r.length
  · obtain ⟨A1, A2, rfl, h1, h2⟩ := Tms.split (t1 := [.own v l d]) hT
    obtain ⟨o, x, B1, C, B2, e1, e2, rfl, h3, f⟩ := hS.split i (by rw [List.length_set]; exact hi)
    rw [List.getElem?_set_self hi] at e2
    cases e2
    cases h3
    rw [List.nil_append] at nd new hS hT h1 h2 f
    have h1' := h1.one
    have perm : (A2 ++ (B1 ++ (A1 ++ B2))).Perm (A1 ++ A2 ++ (B1 ++ B2)) := by
      have p1 : (B1 ++ (A1 ++ B2)).Perm (A1 ++ (B1 ++ B2)) := by
        rw [← List.append_assoc, ← List.append_assoc]
        exact List.Perm.append_right _ List.perm_append_comm
      refine (List.Perm.append_left A2 p1).trans ?_
      rw [← List.append_assoc]
      exact List.Perm.append_right _ List.perm_append_comm
    have F : Fr H H S S (S ++ (A1 ++ A2 ++ (B1 ++ B2))) (S ++ (A2 ++ (B1 ++ (A1 ++ B2)))) [] := ⟨fun a _ o e => e, fun _ z => (by simp at z), fun _ z => (by simp at z), fun a ha => by
      refine .inl ?_
      rcases List.mem_append.mp ha with z | z
      · exact List.mem_append_left _ z
      · exact List.mem_append_right _ (perm.mem_iff.mp z), fun a ha => List.mem_append_left _ ha, fun a ha => .inl ha⟩
    have q := f H _ _ _ [] (some v) (some (l, d)) A1 F (by simp) (by
      cases h1' with
      | own h => exact .sm (h.frame F.c1 F.c2 F.hX F.c4 (by simp)))
    rw [List.set_set, List.set_set] at q
    exact ⟨ex, sd, A2, B1 ++ (A1 ++ B2), perm.nodup_iff.mpr nd, fun a ha => new a (perm.mem_iff.mp ha), h2.frame F (.inl (by simp)) (by simp), q⟩
  · rw [set_ge (by rw [st.len]; omega), set_ge (by omega)]
    exact st.pop
end
end Ly

set_option Elab.async false
set_option linter.all false
set_option maxRecDepth 100000
set_option maxHeartbeats 2000000
/-! Further rules by values. -/
namespace Ly
open PySem PySem.Spec PyProof.Rows L2
section
variable {X : Cx}
/-- list + list, any that may be read -/
def rCatL (K : PySem.W.Frag) : R2 := fun x y H Q => ∃ l b xs zs, x = .ref l ∧ y = .ref b ∧ SqL K H l xs ∧ SqL K H b zs ∧ xs.length + zs.length ≤ sizeLine ∧ ∀ p, H p = none → Q (.ref p) (upd H p (.lst (xs ++ zs)))
theorem op_catL : OpR X (binaryOp .Add) (rCatL X.K) := by
  intro pins s σ H x y v u Q I rx ry h
  obtain ⟨l, b, xs, zs, rfl, rfl, hl, hb, hz, q⟩ := h
  cases rx
  cases ry
  obtain ⟨its, r, ⟨⟨cls, dd, data, sl⟩, n, e, hc, hd0, hd⟩, z1⟩ := I.list hl
  obtain ⟨its2, r2, ⟨⟨cls2, dd2, data2, sl2⟩, n2, e2, hc2, hd02, hd2⟩, z2⟩ := I.list hb
  simp only at hc hd hc2 hd2
  subst hc hd hc2 hd2
  have l1 := r.length
  have l2 := r2.length
  refine concat_meets ⟨_, e, rfl⟩ ⟨_, e2, rfl⟩ noFill_list_add seq_list_add PySem.F.slot_list_add PySem.F.entry_list_add (PySem.F.args_list_add_2 _ _)
    (list_addW l b its.toArray its2.toArray n n2 dd dd2 sl sl2 (by rw [List.size_toArray, List.size_toArray]; omega)) ⟨e, e2, ?_⟩
  have ea : its.toArray ++ its2.toArray = (its ++ its2).toArray := by simp
  rw [ea]
  exact ⟨.ref _, _, I.lnew (t' := s.toks) (r.append r2) (by rw [List.length_append]; omega), rfl, q _ I.fresh⟩

/-- xs.extend(ys), ys a list or a tuple -/
theorem extW_list (l : Addr) (items : Array Value) (n : Nat) (b : Addr) (items2 : Array Value) (n2 : Nat) (dd2 : Option Addr) (sl2 : Array (Option Value)) (hc0 : ¬(!items.isEmpty && Builtin.List.listTooLong (items.size + items2.size)) = true) (hc1 : items.size ≤ sizeLine) (hs2 : items.size + items2.size ≤ sizeLine + 1) :
    Meets (Builtin.«list.extend» ⟨[.ref l, .ref b], []⟩) (fun _ R s => s.heap.get? l = some { cls := .type "list", dict := none, data := .seq items n, slots := #[] } ∧ s.heap.get? b = some { cls := .type "list", dict := dd2, data := .seq items2 n2, slots := sl2 } ∧ R (.ok (.ret Value.none)) { s with heap := s.heap.update l (Obj.mapSeq fun x => x ++ items2), toks := s.toks }) :=
  .of_wp fun prog w A R s h => by
    obtain ⟨hp, g, d, tk, os⟩ := s
    obtain ⟨hl, hb, h⟩ := h
    have f1 := AutoSeq1.idx_int
    have f2 := AutoSeq1.sub_tuple_tuple
    have f3 := AutoSeq1.sub_list_list
    have f4 := AutoSeq1.sub_tuple_list
    have f5 := AutoSeq1.sub_list_tuple
    have hz' : (items ++ items2).size ≤ sizeLine + 1 := by rw [Array.size_append]; exact hs2
    wp_walk using (wpAny_updateSeq hl rfl (hz := hc1) (_hz' := hz')), AutoSeq1.wpAny_loadPart' hl, AutoSeq1.wpAny_loadPart' hb
    exact ⟨_, rfl, h⟩
theorem extW_tuple (l : Addr) (items : Array Value) (n : Nat) (b : Addr) (items2 : Array Value) (n2 : Nat) (dd2 : Option Addr) (sl2 : Array (Option Value)) (hc0 : ¬(!items.isEmpty && Builtin.List.listTooLong (items.size + items2.size)) = true) (hc1 : items.size ≤ sizeLine) (hs2 : items.size + items2.size ≤ sizeLine + 1) :
    Meets (Builtin.«list.extend» ⟨[.ref l, .ref b], []⟩) (fun _ R s => s.heap.get? l = some { cls := .type "list", dict := none, data := .seq items n, slots := #[] } ∧ s.heap.get? b = some { cls := .type "tuple", dict := dd2, data := .seq items2 n2, slots := sl2 } ∧ R (.ok (.ret Value.none)) { s with heap := s.heap.update l (Obj.mapSeq fun x => x ++ items2), toks := s.toks }) :=
  .of_wp fun prog w A R s h => by
    obtain ⟨hp, g, d, tk, os⟩ := s
    obtain ⟨hl, hb, h⟩ := h
    have f1 := AutoSeq1.idx_int
    have f2 := AutoSeq1.sub_tuple_tuple
    have f3 := AutoSeq1.sub_list_list
    have f4 := AutoSeq1.sub_tuple_list
    have f5 := AutoSeq1.sub_list_tuple
    have hz' : (items ++ items2).size ≤ sizeLine + 1 := by rw [Array.size_append]; exact hs2
    wp_walk using (wpAny_updateSeq hl rfl (hz := hc1) (_hz' := hz')), AutoSeq1.wpAny_loadPart' hl, AutoSeq1.wpAny_loadPart' hb
    exact ⟨_, rfl, h⟩
def rExtA (K : PySem.W.Frag) : V → List V → Hp → VK → Prop := fun x vs H Q => ∃ l b xs zs, x = .ref l ∧ vs = [.ref b] ∧ H l = some (.lst xs) ∧ (SqL K H b zs ∨ SqT K H b zs) ∧ xs.length + zs.length ≤ sizeLine ∧ Q .non (upd H l (.lst (xs ++ zs)))
theorem mt_extA : MtR X "list.extend" (rExtA X.K) := by
  intro pins s σ H x vs v us Q I rx rv h
  obtain ⟨l, b, xs, zs, rfl, rfl, hH, hB, hz, q⟩ := h
  cases rx
  obtain ⟨u, rfl, ru⟩ := rv.one
  cases ru
  obtain ⟨z, its, n, r, hl, e⟩ := I.lstM hH
  have fin : ∀ its2 : List Value, Vals zs its2 → EP X pins σ Q Value.none { s with heap := s.heap.update l (Obj.mapSeq fun x => x ++ its2.toArray), toks := s.toks } := fun its2 r2 =>
    ⟨.non, _, I.lset (its' := its ++ its2) hH e (by simp) (r.append r2) (by rw [List.length_append]; omega), rfl, q⟩
  rcases hB with hB | hB
  · obtain ⟨its2, r2, ⟨⟨cls2, dd2, data2, sl2⟩, n2, e2, hc2, hd02, hd2⟩, z2⟩ := I.list hB
    simp only at hc2 hd2
    subst hc2 hd2
    have hl2 := r2.length
    have hsz : its.toArray.size + its2.toArray.size ≤ sizeLine := by rw [List.size_toArray, List.size_toArray]; omega
    have hlong : ¬ (!its.toArray.isEmpty && Builtin.List.listTooLong (its.toArray.size + its2.toArray.size)) = true := by
      rw [notLongL hsz, Bool.and_false]
      exact Bool.false_ne_true
    exact call_meets F.slot_list_extend ⟨_, e, rfl⟩ F.entry_list_extend (F.args_list_extend_2 _ _) (extW_list l its.toArray n b its2.toArray n2 dd2 sl2 hlong (by rw [List.size_toArray]; omega) (by omega)) ⟨e, e2, fin its2 r2⟩
  · obtain ⟨its2, r2, ⟨⟨cls2, dd2, data2, sl2⟩, e2, hc2, n2, hd2⟩, z2⟩ := I.tuple hB
    simp only at hc2 hd2
    subst hc2 hd2
    have hl2 := r2.length
    have hsz : its.toArray.size + its2.toArray.size ≤ sizeLine := by rw [List.size_toArray, List.size_toArray]; omega
    have hlong : ¬ (!its.toArray.isEmpty && Builtin.List.listTooLong (its.toArray.size + its2.toArray.size)) = true := by
      rw [notLongL hsz, Bool.and_false]
      exact Bool.false_ne_true
    exact call_meets F.slot_list_extend ⟨_, e, rfl⟩ F.entry_list_extend (F.args_list_extend_2 _ _) (extW_tuple l its.toArray n b its2.toArray n2 dd2 sl2 hlong (by rw [List.size_toArray]; omega) (by omega)) ⟨e, e2, fin its2 r2⟩

/-- x in t, t a tuple of data -/
def rInDT (K : PySem.W.Frag) : R2 := fun x y H Q => ∃ d ds, Dp K H x d ∧ Dp K H y (.tuple ds) ∧ SeqAt.shaped d = true ∧ SeqAt.shaped (.tuple ds) = true ∧ Q (.bl (ds.any fun z => PyData.eqv z d)) H
def rNotInDT (K : PySem.W.Frag) : R2 := fun x y H Q => ∃ d ds, Dp K H x d ∧ Dp K H y (.tuple ds) ∧ SeqAt.shaped d = true ∧ SeqAt.shaped (.tuple ds) = true ∧ Q (.bl (!ds.any fun z => PyData.eqv z d)) H
theorem op_inDT (hu : X.A.units + 65 < cLine) : OpR X (compareOp .In) (rInDT X.K) := by
  intro pins s σ H x y v u Q I rx ry h
  obtain ⟨d, ds, hd, he, sd, se, q⟩ := h
  obtain ⟨as, r1⟩ := Dp.reads I d x v hd rx
  obtain ⟨bs, r2⟩ := Dp.reads I (.tuple ds) y u he ry
  exact SeqAt.in_tuple_reads r2 r1 (SeqAt.canLay_of_shaped se) (SeqAt.canLay_of_shaped sd) (room_in_shaped sd hu) ⟨.bl _, H, I, rfl, q⟩
theorem op_notInDT (hu : X.A.units + 65 < cLine) : OpR X (compareOp .NotIn) (rNotInDT X.K) := by
  intro pins s σ H x y v u Q I rx ry h
  obtain ⟨d, ds, hd, he, sd, se, q⟩ := h
  obtain ⟨as, r1⟩ := Dp.reads I d x v hd rx
  obtain ⟨bs, r2⟩ := Dp.reads I (.tuple ds) y u he ry
  exact SeqAt.notIn_tuple_reads r2 r1 (SeqAt.canLay_of_shaped se) (SeqAt.canLay_of_shaped sd) (room_in_shaped sd hu) ⟨.bl _, H, I, rfl, q⟩

/-- tuple * 1 is the tuple itself -/
theorem tupmul1 (l : Addr) (items : Array Value) (n : Nat) (dd : Option Addr) (sl : Array (Option Value)) (u : Tok) :
    Meets (Builtin.«tuple.__mul__» ⟨[.ref l, .int 1 u], []⟩) (fun _ R s => s.heap.get? l = some { cls := .type "tuple", dict := dd, data := .seq items n, slots := sl } ∧ R (.ok (.ret (Value.ref l))) { s with heap := s.heap, toks := s.toks }) :=
  .of_wp fun prog w A R s h => by
    obtain ⟨hp, g, d, tk, os⟩ := s
    obtain ⟨hl, h⟩ := h
    have f1 := AutoSeq1.idx_int
    have f2 := AutoSeq1.sub_tuple_tuple
    wp_walk using AutoSeq1.wpAny_loadPart' hl
    exact ⟨_, rfl, h⟩
def rRepT1 (K : PySem.W.Frag) : R2 := fun x y H Q => ∃ l xs, x = .ref l ∧ y = .int 1 ∧ SqT K H l xs ∧ Q (.ref l) H
theorem op_repT1 : OpR X (binaryOp .Mult) (rRepT1 X.K) := by
  intro pins s σ H x y v u Q I rx ry h
  obtain ⟨l, xs, rfl, rfl, hT, q⟩ := h
  cases rx
  obtain ⟨t, rfl⟩ := ry
  obtain ⟨its, r, ⟨⟨cls, dd, data, sl⟩, ho, hc, n, hd⟩, hs⟩ := I.tuple hT
  simp only at hc hd
  subst hc hd
  refine wpAny_binaryOp_repeat_ref (T := "tuple") (U := "int") (by decide) ⟨_, ho, rfl⟩ (fun s' => typeIs_int s' 1 t) noFill_tuple_mul F.fills_int_mul F.slot_int_rmul repeat_tuple F.slot_int_index.lookup
    (call_meets F.slot_int_rmul (typeIs_int s 1 t) F.entry_int_rmul (F.args_int_rmul_2 _ _) (int_rmul_tuple 1 t l its.toArray n dd sl)
      ⟨ho, rfl, ⟨_, ho, rfl⟩, call_meets F.slot_tuple_mul ⟨_, ho, rfl⟩ F.entry_tuple_mul (F.args_tuple_mul_2 _ _) (tupmul1 l its.toArray n dd sl t) ⟨ho, ?_⟩⟩)
  exact ⟨.ref l, H, I, rfl, q⟩

/-- list * int, any list that may be read -/
theorem lmulW (l : Addr) (items : Array Value) (n : Nat) (dd : Option Addr) (sl : Array (Option Value)) (x : Int) (u : Tok) (hc0 : ¬(!Builtin.List.listFitsIndex x) = true) (hc1 : ¬items.size * x.toNat > (2 ^ 63 - 1) / 8) (hc2 : ¬Builtin.List.listTooLong (items.size * x.toNat) = true) :
    Meets (Builtin.«list.__mul__» ⟨[.ref l, .int x u], []⟩) (fun _ R s => s.heap.get? l = some { cls := .type "list", dict := dd, data := .seq items n, slots := sl } ∧
      R (.ok (.ret (Value.ref s.heap.objs.size))) { s with heap := s.heap.push { cls := Value.type "list", data := Data.seq (List.foldl (fun x1 x2 => x1 ++ x2) #[] (List.replicate (if items.isEmpty = true then 0 else x.toNat) items)) }, toks := s.toks }) :=
  .of_wp fun prog w A R s h => by
    obtain ⟨hp, g, d, tk, os⟩ := s
    obtain ⟨hl, h⟩ := h
    have hsz := AutoListH.joined_fits hc2
    have f1 := AutoSeq1.idx_int
    have f3 := AutoSeq1.sub_list_list
    wp_walk using AutoSeq1.wpAny_loadPart' hl
    refine wpAny_ite_false (decide_eq_false (Nat.not_lt.mpr hsz)) ?_
    wp_walk using AutoSeq1.wpAny_loadPart' hl
    exact ⟨_, rfl, h⟩
theorem rmulW (a : Int) (t : Tok) (l : Addr) (items : Array Value) (n : Nat) (dd : Option Addr) (sl : Array (Option Value)) :
    Meets (Builtin.«int.__rmul__» ⟨[.int a t, .ref l], []⟩) (fun _ R s => s.heap.get? l = some { cls := .type "list", dict := dd, data := .seq items n, slots := sl } ∧ R (.ok (.ret Value.notImplemented)) s) :=
  .of_wp fun prog w A R s h => by
    obtain ⟨hp, g, d, tk, os⟩ := s
    obtain ⟨hl, h⟩ := h
    wp_walk using AutoSeq1.wpAny_loadPart' hl
    exact ⟨_, rfl, h⟩
def rRepL (K : PySem.W.Frag) : R2 := fun x y H Q => ∃ l k xs, x = .ref l ∧ y = .int k ∧ SqL K H l xs ∧ -(2 ^ 63) ≤ k ∧ k < 2 ^ 63 ∧ xs.length * k.toNat ≤ sizeLine ∧
  ∀ p, H p = none → Q (.ref p) (upd H p (.lst (List.replicate k.toNat xs).flatten))
theorem op_repL : OpR X (binaryOp .Mult) (rRepL X.K) := by
  intro pins s σ H x y v u Q I rx ry h
  obtain ⟨l, k, xs, rfl, rfl, hS, h1, h2, hz, q⟩ := h
  cases rx
  obtain ⟨t, rfl⟩ := ry
  obtain ⟨its, r, ⟨⟨cls, dd, data, sl⟩, n, e, hc, hd0, hd⟩, z1⟩ := I.list hS
  simp only at hc hd
  subst hc hd
  have hl := r.length
  have hlen : its.toArray.size * k.toNat ≤ sizeLine := by rw [List.size_toArray, ← hl]; exact hz
  have big : (sizeLine : Nat) ≤ (2 ^ 63 - 1) / 8 := by decide
  have hfit : ¬ (!Builtin.List.listFitsIndex k) = true := by simp [fitsIndex_both h1 h2]
  have hlong : ¬ Builtin.List.listTooLong (its.toArray.size * k.toNat) = true := by rw [notLongL hlen]; exact Bool.false_ne_true
  have join : ∀ m : Nat, List.foldl (fun x1 x2 => x1 ++ x2) #[] (List.replicate m its.toArray) = (List.replicate m its).flatten.toArray := fun m => (foldl_rep its m []).trans (by rw [List.nil_append])
  have hnew : List.foldl (fun x1 x2 => x1 ++ x2) #[] (List.replicate (if its.toArray.isEmpty = true then 0 else k.toNat) its.toArray) = (List.replicate k.toNat its).flatten.toArray := by
    rw [join]
    cases its with
    | nil => simp
    | cons a b => rw [if_neg (by simp)]
  refine wpAny_binaryOp_repeat_ref (T := "list") (U := "int") (by decide) ⟨_, e, rfl⟩ (fun s' => typeIs_int s' k t) noFill_list_mul F.fills_int_mul F.slot_int_rmul repeat_list F.slot_int_index.lookup
    (call_meets F.slot_int_rmul (typeIs_int s k t) F.entry_int_rmul (F.args_int_rmul_2 _ _) (rmulW k t l its.toArray n dd sl)
      ⟨e, rfl, ⟨_, e, rfl⟩, call_meets F.slot_list_mul ⟨_, e, rfl⟩ F.entry_list_mul (F.args_list_mul_2 _ _) (lmulW l its.toArray n dd sl k t hfit (by omega) hlong) ⟨e, ?_⟩⟩)
  rw [hnew]
  exact ⟨.ref _, _, I.lnew (t' := s.toks) (r.rep k.toNat) (by rw [PyProof.Rows.lm_len_rep_flat, Nat.mul_comm]; exact hz), rfl, q _ I.fresh⟩

/-- max(list of ints, default = d) -/
def rMaxD (K : PySem.W.Frag) : List V → List V → Hp → VK → Prop := fun xs zs H Q => ∃ (a : Addr) (ns : List Int) (d : Int), xs = [.ref a] ∧ zs = [.int d] ∧ SqL K H a (ns.map V.int) ∧ Q (.int (maxOr d ns)) H
theorem maxOf_int (x : Int) : ∀ xs : List Int, PySem.W.maxOf x xs = xs.foldl (fun a b => if b > a then b else a) x := fun xs => by
  unfold PySem.W.maxOf
  congr 1
  funext a b
  show (if decide (a < b) = true then b else a) = if b > a then b else a
  by_cases h : a < b
  · rw [if_pos (decide_eq_true h), if_pos h]
  · rw [if_neg (by simpa using h), if_neg (by omega)]
theorem call_maxD (hc : X.calm = true) (hu : X.A.units + 65 < cLine) : CallRK X (.builtin "max") ["default"] (rMaxD X.K) := by
  intro pins s σ H xs zs us ws Q I rx rz h
  obtain ⟨a, ns, d, rfl, rfl, hS, q⟩ := h
  obtain ⟨u, rfl, ru⟩ := rx.one
  obtain ⟨w', rfl, rw'⟩ := rz.one
  cases ru
  obtain ⟨t, rfl⟩ := rw'
  obtain ⟨its, r, pl, z⟩ := I.list hS
  have hi : IntsAre its.toArray.toList ns := by simpa using intsAre_of r
  refine PySem.W.max_list_datum_default (I.ok.hd hc) pl.isList (PySem.W.HoldAll.of_ints hi) (by show X.A.units + 1 + 0 < cLine; omega) (fun e h' tk k => ?_) fun y ys i v h' tk e hv hh k => ?_
  · subst e
    exact ⟨.int d, H, I.kept (t' := tk) k, ⟨t, rfl⟩, q⟩
  · subst e
    obtain ⟨as, hr⟩ := hh
    have q' : Q (.int (PySem.W.maxOf y ys)) H := by rw [maxOf_int]; exact q
    have hr' : PySem.Reads h' v (.int (PySem.W.maxOf y ys)) as := hr
    cases hr' with
    | int i t => exact ⟨.int _, H, I.kept (t' := tk) k, ⟨_, rfl⟩, q'⟩

variable {tg : Expr}
/-- what may be walked: a list or a tuple -/
def iSeq (K : PySem.W.Frag) (tl : TE) : TI := fun σ H R => tl σ H fun x H1 => ∃ a, x = .ref a ∧ (((∃ xs, SqL K H1 a xs) ∧ R (Itl K a) H1) ∨ ((∃ xs, SqT K H1 a xs) ∧ R (Itt K a) H1))
theorem pi_seq {l : Expr} {tl : TE} (hl : PE X l tl) : PI X tg l (iSeq X.K tl) := by
  refine ⟨fun pins s σ H R I h => ?_⟩
  refine thn (hl.run pins s σ H _ I h) fun v s1 ⟨x, H1, I1, r1, q1⟩ => ?_
  have hv : PE X l (fun σ' H' Q => ∃ u, v = u ∧ False) := ⟨fun _ _ _ _ _ _ h => by obtain ⟨_, _, z⟩ := h; exact z.elim⟩
  obtain ⟨a, e, q⟩ := q1
  subst e
  cases r1
  rcases q with ⟨⟨xs, hq⟩, q⟩ | ⟨⟨xs, hq⟩, q⟩
  · obtain ⟨its, rv, p, hz⟩ := I1.list hq
    refine wpAny_pyIter_list p.isList ?_
    refine ⟨s1.heap.objs.size, [s1.heap.objs.size], _, _, H1, rfl, I1.kept (t' := s1.toks) fun b o e => Heap.get?_push_of_some _ e, turn_list a _, ⟨_, Heap.get?_push_size _ rfl, rfl, rfl⟩, fun b hb => ?_, q⟩
    obtain rfl : b = s1.heap.objs.size := by simpa using hb
    exact I1.fpOk (Nat.le_refl _) (I1.hok.fresh (Nat.le_refl _))
  · obtain ⟨its, rv, p, hz⟩ := I1.tuple hq
    refine wpAny_pyIter_tuple (show s1.heap.IsTuple a its.toArray from p) ?_
    refine ⟨s1.heap.objs.size, [s1.heap.objs.size], _, _, H1, rfl, I1.kept (t' := s1.toks) fun b o e => Heap.get?_push_of_some _ e, turn_tuple a _, ⟨_, Heap.get?_push_size _ rfl, rfl, rfl⟩, fun b hb => ?_, q⟩
    obtain rfl : b = s1.heap.objs.size := by simpa using hb
    exact I1.fpOk (Nat.le_refl _) (I1.hok.fresh (Nat.le_refl _))
end
end Ly

set_option Elab.async false
set_option linter.all false
set_option maxRecDepth 100000
set_option maxHeartbeats 2000000
/-! zip of lists and tuples mixed; enumerate of a tuple. -/
namespace Ly
open PySem PySem.Spec PyProof.Rows L2

/-- a list or a tuple -/
def SqK (t : Bool) (K : PySem.W.Frag) (H : Hp) (a : Addr) (xs : List V) : Prop := if t = true then SqT K H a xs else SqL K H a xs
/-- its iterator at place i -/
def AtK (t : Bool) (h : Heap) (it a : Addr) (i : Nat) : Prop := if t = true then h.IsTupleIter it a i else h.IsListIter it a i
theorem AtK.ob {t : Bool} {h : Heap} {it a : Addr} {i : Nat} (x : AtK t h it a i) : ∃ o, h.get? it = some o ∧ ∀ v, o.data ≠ .cell v := by
  cases t with
  | true =>
    obtain ⟨o, e, _, d⟩ := (show h.IsTupleIter it a i from x)
    exact ⟨o, e, fun v q => by rw [d] at q; cases q⟩
  | false =>
    obtain ⟨o, e, _, d⟩ := (show h.IsListIter it a i from x)
    exact ⟨o, e, fun v q => by rw [d] at q; cases q⟩
theorem AtK.to {t : Bool} {h h' : Heap} {it a : Addr} {i : Nat} (x : AtK t h it a i) (k : ∀ o, h.get? it = some o → h'.get? it = some o) : AtK t h' it a i := by
  cases t with
  | true => exact (show h.IsTupleIter it a i from x).at k
  | false => exact (show h.IsListIter it a i from x).at k
/-- what such an iterator draws, of what stands there now -/
theorem drawK {X : Cx} {pins : List (Addr × Obj)} {σ : L2.St} {H : Hp} {s : Shared} {a : Addr} {xs : List V} (t : Bool) (hc : X.calm = true) (I : Inv X pins σ H s) (q : SqK t X.K H a xs) :
    ∃ its : List Value, Vals xs its ∧ ∀ it i, a ≠ it → AtK t s.heap it a i → ∃ St : Nat → Heap → Prop, Draws X.prog X.w X.A.in1 it [it, a] its.length (fun i v => its[i]? = some v) St ∧ St i s.heap ∧ ∀ h', St (i + 1) h' → AtK t h' it a (i + 1) := by
  cases t with
  | true =>
    obtain ⟨its, rv, p, _⟩ := I.tuple (show SqT X.K H a xs from q)
    refine ⟨its, rv, fun it i hn hi => ⟨fun i h => h.IsTupleIter it a i ∧ h.IsTuple a its.toArray, by simpa using Draws.tuple (A := X.A.in1) (I.ok.hd hc) it a hn its.toArray, ⟨hi, p⟩, fun h' st => st.1⟩⟩
  | false =>
    obtain ⟨its, rv, p, _⟩ := I.list (show SqL X.K H a xs from q)
    refine ⟨its, rv, fun it i hn hi => ⟨fun i h => h.IsListIter it a i ∧ h.IsList a its.toArray, by simpa using Draws.list (A := X.A.in1) (I.ok.hd hc) it a hn its.toArray, ⟨hi, p.isList⟩, fun h' st => st.1⟩⟩
/-- both at each turn as they stand, the items in new pairs -/
def ItzK (t u : Bool) (K : PySem.W.Frag) (a b : Addr) : It :=
  ⟨fun i H => ∃ (xs ys : List V) (x y : V), SqK t K H a xs ∧ SqK u K H b ys ∧ xs[i]? = some x ∧ ys[i]? = some y,
    fun i H v H' => ∃ T x y, v = .ref T ∧ H T = none ∧ H' = upd H T (.tup [x, y]) ∧ (∀ xs, SqK t K H a xs → xs[i]? = some x) ∧ ∀ ys, SqK u K H b ys → ys[i]? = some y,
    fun i H => ∃ xs ys : List V, SqK t K H a xs ∧ SqK u K H b ys ∧ i ≤ xs.length ∧ i ≤ ys.length ∧ (i = xs.length ∨ i = ys.length)⟩
theorem SqK.inj {X : Cx} {pins : List (Addr × Obj)} {σ : L2.St} {H : Hp} {s : Shared} {a : Addr} {xs ys : List V} {t : Bool} (I : Inv X pins σ H s) (h1 : SqK t X.K H a xs) (h2 : SqK t X.K H a ys) : xs = ys := by
  cases t with
  | true => exact I.tuple_inj h1 h2
  | false => exact I.list_inj h1 h2
theorem SqK.lt {X : Cx} {pins : List (Addr × Obj)} {σ : L2.St} {H : Hp} {s : Shared} {a : Addr} {xs : List V} {t : Bool} (I : Inv X pins σ H s) (h : SqK t X.K H a xs) : a < s.heap.objs.size := by
  cases t with
  | true =>
    obtain ⟨its, _, p, _⟩ := I.tuple (show SqT X.K H a xs from h)
    obtain ⟨o, e, _⟩ := p
    exact Heap.lt_size e
  | false =>
    obtain ⟨its, _, p, _⟩ := I.list (show SqL X.K H a xs from h)
    exact p.lt
theorem turn_zipK {P : Program} {w : World} {K : PySem.W.Frag} {elts : List Expr} {kk : Nat} {tpos : Pos} {t u : Bool} {a b z TI TO i1 i2 : Addr} (S : ZipSep2 z TI TO i1 i2 [i1, a] [i2, b]) (n1 : a ≠ i1) (n2 : b ≠ i2) :
    Turn P w K (.Tuple elts kk tpos) (ItzK t u K a b) [z, TI, TO, i1, i2] z (fun i h => IsZip h z TI TO .none ∧ IsTupOf2 h TI (.ref i1) (.ref i2) ∧ (∃ x y, IsTupOf2 h TO x y) ∧ AtK t h i1 a i ∧ AtK u h i2 b i) where
  mem := by simp
  obj := fun i h st c hc => by
    obtain ⟨hz, hTI, ⟨x, y, hTO⟩, h1, h2⟩ := st
    simp only [List.mem_cons, List.mem_nil_iff, or_false] at hc
    rcases hc with rfl | rfl | rfl | rfl | rfl
    · exact ⟨_, hz, fun v q => nomatch q⟩
    · exact ⟨_, hTI, fun v q => nomatch q⟩
    · exact ⟨_, hTO, fun v q => nomatch q⟩
    · exact h1.ob
    · exact h2.ob
  keep := fun i h h' st k => by
    obtain ⟨hz, hTI, ⟨x, y, hTO⟩, h1, h2⟩ := st
    exact ⟨k z (by simp) _ hz, k TI (by simp) _ hTI, ⟨x, y, k TO (by simp) _ hTO⟩, h1.to fun o q => k i1 (by simp) o q, h2.to fun o q => k i2 (by simp) o q⟩
  item := by
    intro X hP hw hK hc i pins s σ H E I hf st hg
    subst hP hw hK
    obtain ⟨hz, hTI, ⟨x0, y0, hTO⟩, h1, h2⟩ := st
    obtain ⟨xs, ys, x, y, hqx, hqy, hx, hy⟩ := hg
    obtain ⟨its1, rv1, d1⟩ := drawK t hc I hqx
    obtain ⟨its2, rv2, d2⟩ := drawK u hc I hqy
    obtain ⟨St1, D1, st1, k1⟩ := d1 i1 i n1 h1
    obtain ⟨St2, D2, st2, k2⟩ := d2 i2 i n2 h2
    obtain ⟨v1, e1, r1⟩ := rv1.get hx
    obtain ⟨v2, e2, r2⟩ := rv2.get hy
    have hzl : z < s.heap.objs.size := Heap.lt_size hz
    obtain ⟨o1, ho1, _⟩ := h1.ob
    obtain ⟨o2, ho2, _⟩ := h2.ob
    refine wpAny_pyNext_zipD2_item S D1 D2 hz hTI hTO st1 st2 (List.getElem?_eq_some_iff.mp e1).1 (List.getElem?_eq_some_iff.mp e2).1 fun x1 x2 h' tk p1 p2 hz' hTO' s1 s2 hT hsz hk => ?_
    rw [e1] at p1
    cases p1
    rw [e2] at p2
    cases p2
    refine ⟨_, rfl, wpAny_letOwnedTupleGo_zip (s := { s with heap := h', toks := tk }) hz' fun h'' z'' sb => ?_⟩
    have hT2 : h''.get? s.heap.objs.size = some { cls := .type "tuple", data := .seq #[v1, v2] } := (sb.2 _ (Nat.ne_of_gt hzl)).trans hT
    have new : ObjOk X.prog X.w (upd H s.heap.objs.size (.tup [x, y])) h'' s.heap.objs.size (.tup [x, y]) :=
      ⟨by show 2 ≤ sizeLine; decide, [v1, v2], .cons r1 (.cons r2 .nil), ⟨_, hT2, rfl, _, rfl⟩⟩
    have I1 : Inv X pins σ (upd H s.heap.objs.size (.tup [x, y])) { s with heap := h'', toks := tk } :=
      I.turnedNew (t' := tk) (ch := [z, TI, TO, i1, i2]) (fun c o hb q => (sb.2 c (fun q' => hb (by simp [q']))).trans (hk c o (fun q' => hb (by simp [q'])) (fun q' => hb (by simp [q'])) (fun q' => hb (by simp [q'])) (fun q' => hb (by simp [q'])) q)) hf (Nat.le_refl _) new
    refine ⟨.ref s.heap.objs.size, _, I1, rfl, ⟨_, x, y, rfl, I.hok.fresh (Nat.le_refl _), rfl, fun l hl => by rw [hl.inj I hqx]; exact hx, fun l hl => by rw [hl.inj I hqy]; exact hy⟩, ⟨z'', ?_, ⟨v1, v2, ?_⟩, ?_, ?_⟩, fun c hcm => ?_⟩
    · exact (sb.2 _ S.TIz).trans (hk _ _ S.TIz S.TITO S.TIi1 S.TIi2 hTI)
    · exact (sb.2 _ S.TOz).trans hTO'
    · exact (k1 _ s1).to fun o q => (sb.2 _ (Ne.symm S.zi1)).trans q
    · exact (k2 _ s2).to fun o q => (sb.2 _ (Ne.symm S.zi2)).trans q
    · have hlt : c < s.heap.objs.size := by
        simp only [List.mem_cons, List.mem_nil_iff, or_false] at hcm
        rcases hcm with rfl | rfl | rfl | rfl | rfl
        · exact hzl
        · exact Heap.lt_size hTI
        · exact Heap.lt_size hTO
        · exact Heap.lt_size ho1
        · exact Heap.lt_size ho2
      rw [upd_ne (Nat.ne_of_lt hlt)]
      exact (hf c hcm).1
  done := by
    intro X hP hw hK hc i pins s σ H E I hf st hg
    subst hP hw hK
    obtain ⟨hz, hTI, ⟨x0, y0, hTO⟩, h1, h2⟩ := st
    obtain ⟨xs, ys, hqx, hqy, l1, l2, hend⟩ := hg
    obtain ⟨its1, rv1, d1⟩ := drawK t hc I hqx
    obtain ⟨its2, rv2, d2⟩ := drawK u hc I hqy
    obtain ⟨St1, D1, st1, k1⟩ := d1 i1 i n1 h1
    obtain ⟨St2, D2, st2, k2⟩ := d2 i2 i n2 h2
    have e1 := rv1.length
    have e2 := rv2.length
    exact wpAny_pyNext_zipD2_end S D1 D2 hz hTI hTO st1 st2 (by omega) (by omega) (by omega) fun h' tk hk => ⟨rfl, I.turnedL (t' := tk) (ch := [z, TI, TO, i1, i2]) (fun c o hb q =>
      hk c o (fun q' => hb (by simp [q'])) (fun q' => hb (by simp [q'])) (fun q' => hb (by simp [q'])) (fun q' => hb (by simp [q'])) q) hf⟩
  self := fun A i s Q E st h => wpAny_pyIter_zip st.1 h
/-- enumerate over such a thing -/
def IteK (t : Bool) (K : PySem.W.Frag) (a : Addr) : It :=
  ⟨fun i H => ∃ (xs : List V) (x : V), SqK t K H a xs ∧ xs[i]? = some x,
    fun i H v H' => ∃ T x, v = .ref T ∧ H T = none ∧ H' = upd H T (.tup [.int (i : Nat), x]) ∧ ∀ xs, SqK t K H a xs → xs[i]? = some x,
    fun i H => ∃ xs : List V, SqK t K H a xs ∧ i = xs.length⟩
theorem turn_enumK {P : Program} {w : World} {K : PySem.W.Frag} {elts : List Expr} {kk : Nat} {tpos : Pos} {t : Bool} {a e it : Addr} (n1 : a ≠ it) (n2 : e ≠ it) (n3 : e ≠ a) :
    Turn P w K (.Tuple elts kk tpos) (IteK t K a) [e, it] e (fun i h => (∃ old, IsEnum h e it ((i : Nat) : Int) old) ∧ AtK t h it a i) where
  mem := by simp
  obj := fun i h st c hc => by
    obtain ⟨⟨old, he⟩, h1⟩ := st
    simp only [List.mem_cons, List.mem_nil_iff, or_false] at hc
    rcases hc with rfl | rfl
    · exact ⟨_, he, fun v q => nomatch q⟩
    · exact h1.ob
  keep := fun i h h' st k => by
    obtain ⟨⟨old, he⟩, h1⟩ := st
    exact ⟨⟨old, k e (by simp) _ he⟩, h1.to fun o q => k it (by simp) o q⟩
  item := by
    intro X hP hw hK hc i pins s σ H E I hf st hg
    subst hP hw hK
    obtain ⟨⟨old, he⟩, h1⟩ := st
    obtain ⟨xs, x, hq, hx⟩ := hg
    obtain ⟨its, rv, d⟩ := drawK t hc I hq
    obtain ⟨St, D, st1, k1⟩ := d it i n1 h1
    obtain ⟨v, e1, r1⟩ := rv.get hx
    have hel : e < s.heap.objs.size := Heap.lt_size he
    obtain ⟨o1, ho1, _⟩ := h1.ob
    refine wpAny_pyNext_enum_itemD D he st1 (List.getElem?_eq_some_iff.mp e1).1 n2 (by simp [n2, n3]) fun x1 h' tk p1 ho s1 hT hsz hk => ?_
    rw [e1] at p1
    cases p1
    refine ⟨_, rfl, wpAny_letOwnedTupleGo_enum (s := { s with heap := h', toks := tk + 1 }) ho fun h'' he' sb => ?_⟩
    have hT2 : h''.get? s.heap.objs.size = some { cls := .type "tuple", data := .seq #[.int i tk, v] } := (sb.2 _ (Nat.ne_of_gt hel)).trans hT
    have new : ObjOk X.prog X.w (upd H s.heap.objs.size (.tup [.int (i : Nat), x])) h'' s.heap.objs.size (.tup [.int (i : Nat), x]) :=
      ⟨by show 2 ≤ sizeLine; decide, [.int i tk, v], .cons ⟨_, rfl⟩ (.cons r1 .nil), ⟨_, hT2, rfl, _, rfl⟩⟩
    have I1 : Inv X pins σ (upd H s.heap.objs.size (.tup [.int (i : Nat), x])) { s with heap := h'', toks := tk + 1 } :=
      I.turnedNew (ch := [e, it]) (fun b ob hb q => (sb.2 b (fun z => hb (by simp [z]))).trans (hk b ob (fun z => hb (by simp [z])) (fun z => hb (by simp [z])) q)) hf (Nat.le_refl _) new
    refine ⟨.ref s.heap.objs.size, _, I1, rfl, ⟨_, x, rfl, I.hok.fresh (Nat.le_refl _), rfl, fun ys hy => by rw [hy.inj I hq]; exact hx⟩, ⟨⟨v, ?_⟩, (k1 _ s1).to fun o q => (sb.2 it (Ne.symm n2)).trans q⟩, fun b hb => ?_⟩
    · have e2 : ((i + 1 : Nat) : Int) = (i : Int) + 1 := by omega
      rw [e2]; exact he'
    · have hb' : b < s.heap.objs.size := by
        simp only [List.mem_cons, List.mem_nil_iff, or_false] at hb
        rcases hb with rfl | rfl
        · exact hel
        · exact Heap.lt_size ho1
      rw [upd_ne (Nat.ne_of_lt hb')]
      exact (hf b hb).1
  done := by
    intro X hP hw hK hc i pins s σ H E I hf st hg
    subst hP hw hK
    obtain ⟨⟨old, he⟩, h1⟩ := st
    obtain ⟨xs, hq, hx⟩ := hg
    obtain ⟨its, rv, d⟩ := drawK t hc I hq
    obtain ⟨St, D, st1, k1⟩ := d it i n1 h1
    obtain ⟨f0, f1, f2, f3, f4, f5⟩ := hf it (by simp)
    have hl := rv.length
    have hn : i = its.length := by omega
    subst hn
    exact wpAny_pyNext_enum_endD D he st1 fun h' eb => ⟨rfl, I.turned (t' := s.toks) (fun b o hb q => eb b o hb q) f0 f1 f3 f4 f5⟩
  self := fun A i s Q E st h => let ⟨⟨_, he⟩, _⟩ := st; wpAny_pyIter_enum he h
theorem begK {X : Cx} {pins : List (Addr × Obj)} {σ : L2.St} {H : Hp} {s : Shared} {a : Addr} {xs : List V} (t : Bool) (I : Inv X pins σ H s) (q : SqK t X.K H a xs) : ∃ (o : Obj) (Hh : Heap → Prop), Begins (.ref a) o Hh ∧ Hh s.heap ∧ ∀ h it, h.get? it = some o → AtK t h it a 0 := by
  cases t with
  | true =>
    obtain ⟨its, rv, p, _⟩ := I.tuple (show SqT X.K H a xs from q)
    exact ⟨_, _, begins_tuple a its.toArray, p, fun h it e => ⟨_, e, rfl, rfl⟩⟩
  | false =>
    obtain ⟨its, rv, p, _⟩ := I.list (show SqL X.K H a xs from q)
    exact ⟨_, _, begins_list a its.toArray, p.isList, fun h it e => ⟨_, e, rfl, rfl⟩⟩
theorem zsep {n a b : Nat} (la : a < n) (lb : b < n) : ZipSep2 (n + 4) (n + 2) (n + 3) n (n + 1) [n, a] [n + 1, b] := by
  have f : ∀ {x y : Nat}, x ≠ y → ¬ ((x : Addr) = (y : Addr)) := fun h => h
  constructor <;> first
    | (refine f ?_; omega)
    | (simp only [List.mem_cons, List.mem_nil_iff, or_false, true_or]; done)
    | (simp only [List.mem_cons, List.mem_nil_iff, or_false, not_or]; exact ⟨f (by omega), f (by omega)⟩)
def iZipK (K : PySem.W.Frag) (ta : TA) : TI := fun σ H R => ta σ H fun vs H1 => ∃ a b xs ys t u, vs = [.ref a, .ref b] ∧ SqK t K H1 a xs ∧ SqK u K H1 b ys ∧ R (ItzK t u K a b) H1
theorem pi_zipK {X : Cx} {e e2 : Expr} {ta : TA} {p pos tpos : Pos} {elts : List Expr} {kk : Nat} (hg : Gl X "zip") (hm : X.mg "zip" = none) (ha : PA X [e, e2] ta)
    (hs : starEach [e, e2] X.env = (false, eval e X.env) :: starEach [e2] X.env) (hpl : (backTo pos (starEach [e2] X.env)).any (·.1) = false) :
    PI X (.Tuple elts kk tpos) (.Call (.Name "zip" p) [e, e2] [] pos) (iZipK X.K ta) := by
  refine ⟨fun pins s σ H R I h => ?_⟩
  refine Call_ (ld_blt I hg hm PyProof.Rows.boot_zip (PyProof.Rows.callWith_type1 (thn (ha.run pos pins s σ H _ I h) fun us s1 ⟨vs, H1, I1, r1, q1⟩ => ?_) hs hpl))
  obtain ⟨a, b, xs, ys, t, u, ex, hqx, hqy, q⟩ := q1
  subst ex
  obtain ⟨v1, v2, rfl, r, r'⟩ := r1.two
  cases r
  cases r'
  obtain ⟨o1, H1', B1, b1, k1⟩ := begK t I1 hqx
  obtain ⟨o2, H2', B2, b2, k2⟩ := begK u I1 hqy
  have la := hqx.lt I1
  have lb := hqy.lt I1
  refine zip_begins2 B1 B2 b1 b2 fun h' hz hTI hTO h1 h2 hsz hk => wpAny_pyIter_zip hz ?_
  have I2 : Inv X pins σ H1 { s1 with heap := h' } := I1.kept (t' := s1.toks) hk
  have sep : ZipSep2 (s1.heap.objs.size + 4) (s1.heap.objs.size + 2) (s1.heap.objs.size + 3) s1.heap.objs.size (s1.heap.objs.size + 1) [s1.heap.objs.size, a] [s1.heap.objs.size + 1, b] := by
    exact zsep la lb
  refine ⟨s1.heap.objs.size + 4, [s1.heap.objs.size + 4, s1.heap.objs.size + 2, s1.heap.objs.size + 3, s1.heap.objs.size, s1.heap.objs.size + 1], _, _, H1, rfl, I2, turn_zipK sep (Nat.ne_of_lt la) (Nat.ne_of_lt (Nat.lt_succ_of_lt lb)), ⟨hz, hTI, ⟨_, _, hTO⟩, k1 _ _ h1, k2 _ _ h2⟩, fun c hcm => ?_, q⟩
  have hle : s1.heap.objs.size ≤ c := by
    simp only [List.mem_cons, List.mem_nil_iff, or_false] at hcm
    rcases hcm with rfl | rfl | rfl | rfl | rfl
    · exact Nat.le_add_right _ _
    · exact Nat.le_add_right _ _
    · exact Nat.le_add_right _ _
    · exact Nat.le_refl _
    · exact Nat.le_add_right _ _
  exact I1.fpOk hle (I1.hok.fresh hle)
theorem meets_enumK {v : Value} {o : Obj} {H : Heap → Prop} (B : Begins v o H) :
    Meets (Builtin.«enumerate.__new__» ⟨[.type "enumerate", v], []⟩) (fun _ R s => H s.heap ∧
      R (.ok (.ret (.ref (s.heap.push o).objs.size))) { s with heap := (s.heap.push o).push { cls := .type "enumerate", data := .fields #[.none, .bool false, .ref s.heap.objs.size, rawInt 0, .none, .none] } }) :=
  .of_wp fun prog w A R s h => by
    obtain ⟨hp, gn, dr, tk, os⟩ := s
    obtain ⟨h1, h⟩ := h
    have hsub := sub_enumerate
    have start : ∀ {A' : Around} {E : Value → Shared → Prop} {Q : Value → Shared → Prop}, Q (.ref hp.objs.size) ⟨hp.push o, gn, dr, tk, os⟩ → wpAny (model prog w) A' (pyIter v) Q E ⟨hp, gn, dr, tk, os⟩ := fun q => B.iter prog w _ _ _ _ h1 q
    wp_walk using start
    refine wpAny_stack_any fun st => wpAny_pure ?_
    split
    · rename_i c _ _ _ _ _
      cases (c == Value.type "enumerate") <;> (wp_walk using start; exact ⟨_, rfl, h⟩)
    · wp_walk using start
      exact ⟨_, rfl, h⟩
def iEnumK (K : PySem.W.Frag) (ta : TA) : TI := fun σ H R => ta σ H fun vs H1 => ∃ a xs t, vs = [.ref a] ∧ SqK t K H1 a xs ∧ R (IteK t K a) H1
theorem pi_enumK {X : Cx} {e : Expr} {ta : TA} {p pos tpos : Pos} {elts : List Expr} {kk : Nat} (hg : Gl X "enumerate") (hm : X.mg "enumerate" = none) (ha : PA X [e] ta) (hs : starEach [e] X.env = [(false, eval e X.env)]) :
    PI X (.Tuple elts kk tpos) (.Call (.Name "enumerate" p) [e] [] pos) (iEnumK X.K ta) := by
  refine ⟨fun pins s σ H R I h => ?_⟩
  refine Call_ (ld_blt I hg hm boot_enumerate (PyProof.Rows.callWith_type1 (thn (ha.run pos pins s σ H _ I h) fun us s1 ⟨vs, H1, I1, r1, q1⟩ => ?_) hs rfl))
  obtain ⟨a, xs, t, ex, hq, q⟩ := q1
  subst ex
  obtain ⟨v, rfl, r⟩ := r1.one
  cases r
  obtain ⟨o, Hh, B, b1, k1⟩ := begK t I1 hq
  have la := hq.lt I1
  have hz : (s1.heap.push o).objs.size = s1.heap.objs.size + 1 := Heap.size_push ..
  refine callType_new F.called_enumerate (by decide) (F.typeCall_enumerate_1 _) (F.newCall_enumerate_1 _) (fun obj => F.args_object_init_2 obj _) F.entry_enumerate_new (meets_enumK B) ⟨b1, ?_⟩
  have he := Heap.get?_push_size (s1.heap.push o) (o := { cls := .type "enumerate", data := .fields #[.none, .bool false, .ref s1.heap.objs.size, rawInt 0, .none, .none] }) rfl
  have h1 : ((s1.heap.push o).push { cls := .type "enumerate", data := .fields #[.none, .bool false, .ref s1.heap.objs.size, rawInt 0, .none, .none] }).get? s1.heap.objs.size = some o := Heap.get?_push_of_some _ (Heap.get?_push_size _ B.free)
  have hk : ∀ b u, s1.heap.get? b = some u → ((s1.heap.push o).push { cls := .type "enumerate", data := .fields #[.none, .bool false, .ref s1.heap.objs.size, rawInt 0, .none, .none] }).get? b = some u := fun b u e => Heap.get?_push_of_some _ (Heap.get?_push_of_some _ e)
  generalize (s1.heap.push o).push { cls := .type "enumerate", data := .fields #[.none, .bool false, .ref s1.heap.objs.size, rawInt 0, .none, .none] } = h' at he h1 hk
  show _ ∧ _
  rw [hz] at he ⊢
  have he' : IsEnum h' (s1.heap.objs.size + 1) s1.heap.objs.size ((0 : Nat) : Int) .none := he
  refine ⟨⟨_, he, rfl⟩, wpAny_pyIter_enum he' ?_⟩
  have I2 : Inv X pins σ H1 { s1 with heap := h' } := I1.kept (t' := s1.toks) hk
  refine ⟨s1.heap.objs.size + 1, [s1.heap.objs.size + 1, s1.heap.objs.size], _, _, H1, rfl, I2, turn_enumK (Nat.ne_of_lt la) (Nat.succ_ne_self _) (Nat.ne_of_gt (Nat.lt_succ_of_lt la)), ⟨⟨.none, he'⟩, k1 _ _ h1⟩, fun b hb => ?_, q⟩
  have hle : s1.heap.objs.size ≤ b := by
    simp only [List.mem_cons, List.mem_nil_iff, or_false] at hb
    rcases hb with rfl | rfl
    · exact Nat.le_add_right _ _
    · exact Nat.le_refl _
  exact I1.fpOk hle (I1.hok.fresh hle)
end Ly

set_option Elab.async false
set_option linter.all false
set_option maxRecDepth 100000
set_option maxHeartbeats 2000000
/-! set(xs), xs a list of whole numbers. -/
namespace Ly
open PySem PySem.Spec PyProof.Rows L2
/-- a set as it is made -/
abbrev newSetO (w : World) : Obj := { cls := .type "set", dict := none, data := .set #[] 0 (.fresh 0 0 (!w.params.followText "set-order")) }
section
variable {P : Program} {w : World} {A : Around} {E : Value → Shared → Prop} {s : Shared}
theorem set_of_list {l : Addr} {items : Array Value} (ns : List Int) {Q : Value → Shared → Prop} (hh : A.handled = none) (hl : s.heap.IsList l items) (hit : IntsAre items.toList ns) (hb : ns.length + 1 < scanBound)
    (hq : ∀ (g : Heap) (tk c : Nat), SetR w g s.heap.objs.size (fun j => decide (j ∈ ns)) c → c ≤ ns.length → (∀ b o, s.heap.get? b = some o → g.get? b = some o) → Q (.ref s.heap.objs.size) { s with heap := g, toks := tk }) :
    wpAny (model P w) A (call (.type "set") [.ref l]) Q E s := by
  have size_eq : items.size = ns.length := by
    have z := IntsAre.length hit
    rwa [Array.length_toList] at z
  have at0 : (s.heap.push (newSetO w)).get? s.heap.objs.size = some (newSetO w) := Heap.get?_push_size _ rfl
  have old : ∀ b o, s.heap.get? b = some o → (s.heap.push (newSetO w)).get? b = some o := fun b o e => Heap.get?_push_of_some _ e
  have sz : (s.heap.push (newSetO w)).objs.size = s.heap.objs.size + 1 := Heap.size_push ..
  have atl : (s.heap.push (newSetO w)).IsList l items := hl.push _
  have vals : ∀ (i : Nat) (v : Value), items[i]? = some v → ∃ k t, ns[i]? = some k ∧ v = .int k t := by
    intro i v hv
    have lt : i < ns.length := by
      rw [← size_eq]
      exact (Array.getElem?_eq_some_iff.mp hv).1
    obtain ⟨t, et⟩ := IntsAre.int_at hit i v (by rwa [Array.getElem?_toList])
    refine ⟨ns[i], t, List.getElem?_eq_getElem lt, ?_⟩
    rw [et, List.getD_eq_getElem?_getD, List.getElem?_eq_getElem lt]
    rfl
  obtain ⟨_, _, mro⟩ := F.called_set.mro
  have made := F.called_set.made
  have subT := F.called_set.sub
  have nt := F.called_set.notType
  have cc := F.called_set.canCreate
  have tc := F.typeCall_set_1 (.ref l)
  apply wpAny_call
  apply codeAny_of_tree
  show wpAny _ _ (callAny (.type "set") _) _ _ _
  refine wpAny_pure ⟨Code.quiet_builtin _ (by decide +kernel), ?_⟩
  refine codeAny_builtin F.entry_type_call ?_
  rw [Around.under_plain (weight_type_call_type "set" [.ref l] []) rfl]
  repeat any_goals first | assumption | wp_step
  refine codeAny_mono (code_set_led1 (.ref l) (E := E) (Q₁ := fun obj u => obj = .ref s.heap.objs.size ∧ u = { s with heap := s.heap.push (newSetO w) }) ⟨rfl, rfl⟩) fun r u hr => ?_
  cases r with
  | error e => exact hr
  | ok fl =>
    cases fl with
    | ret obj =>
      obtain ⟨rfl, rfl⟩ := hr
      have ty : Shared.TypeIs { s with heap := s.heap.push (newSetO w) } (.ref s.heap.objs.size) "set" := ⟨_, at0, rfl⟩
      have ilook := F.called_set.init.lookup
      have ibind := F.called_set.init.bind (.ref s.heap.objs.size)
      repeat any_goals first | assumption | wp_step
      refine codeAny_mono (codeAny_call_builtin (R := wants (fun r v => r = .none ∧ ∃ (g : Heap) (tk c : Nat), v = { s with heap := g, toks := tk } ∧ SetR w g s.heap.objs.size (fun j => decide (j ∈ ns)) c ∧ c ≤ ns.length ∧ ∀ b o, s.heap.get? b = some o → g.get? b = some o) E)
        F.called_set.init.plain F.entry_set_init (check_set_init_1 ty ?_)) fun r2 v hr2 => ?_
      · obtain ⟨⟨oc, od, oda, osl⟩, lo, lc, ln, ld⟩ := id atl
        dsimp only at lc ld
        subst lc ld
        have s1 := F.sub_list_set
        have s2 := F.sub_list_frozenset
        have s3 : (Value.type "list" == Value.type "dict") = false := by decide
        unfold Builtin.«set.__init__»
        unfold noKeywords
        unfold Builtin.Frozenset.updateFrom
        generalize hpi : pyIter = pit
        wp_walk
        subst hpi
        refine wpAny_pyIter_list atl ?_
        apply wpAny_bind
        apply wpAny_runValue
        have lt0 : l < s.heap.objs.size := by
          obtain ⟨_, q, _⟩ := hl
          exact Heap.lt_size q
        have ne1 : l ≠ (s.heap.push (newSetO w)).objs.size := fun z => by
          rw [sz] at z
          exact Nat.ne_of_lt (Nat.lt_succ_of_lt lt0) z
        have nin : s.heap.objs.size ∉ [(s.heap.push (newSetO w)).objs.size, l] := by
          intro z
          simp only [List.mem_cons, List.mem_nil_iff, or_false] at z
          rcases z with z | z
          · rw [sz] at z
            exact Nat.ne_of_lt (Nat.lt_succ_self _) z
          · exact Nat.ne_of_lt lt0 z.symm
        have calm : A.in1.in1.in1.handled = none := by simp [hh]
        have at1 : ((s.heap.push (newSetO w)).push { cls := .type "list_iterator", data := .fields #[.ref l, .int 0 0] }).get? s.heap.objs.size = some (newSetO w) := Heap.get?_push_of_some _ at0
        refine set_update_ints (Walks.list calm _ l ne1 items).toS s.heap.objs.size nin ns size_eq hb vals (items.size - 0) 0 _ (by omega) (Nat.zero_le _) ⟨⟨_, Heap.get?_push_size _ rfl, rfl, rfl⟩, atl.push _⟩ ⟨0, Nat.le_refl 0, setR_new_at at1⟩ ?_
        intro v c mv kc ks
        obtain ⟨g, gg, gd, tk, gos⟩ := v
        obtain rfl : gg = s.gens := mv.gens
        obtain rfl : gd = s.drawn := mv.drawn
        obtain rfl : gos = s.os := mv.os
        show wpAny _ _ _ _ _ _
        apply wpAny_pure
        show wpAny _ _ (ret Value.none) _ _ _
        refine wpAny_pure ⟨rfl, g, tk, c, rfl, ks, by omega, fun b o eb => ?_⟩
        have lb := Heap.lt_size eb
        refine mv.heap b o ?_ (Heap.get?_push_of_some _ (old b o eb))
        intro z
        simp only [List.mem_cons, List.mem_nil_iff, or_false] at z
        rcases z with z | z
        · exact Nat.ne_of_lt lb z
        · rw [sz] at z
          exact Nat.ne_of_lt (Nat.lt_succ_of_lt lb) z
      · cases r2 with
        | error e => exact hr2
        | ok fl2 =>
          cases fl2 with
          | ret r =>
            obtain ⟨rfl, g, tk, c, rfl, k1, k2, k3⟩ := hr2
            repeat any_goals first | assumption | wp_step
            exact hq g tk c k1 k2 k3
          | _ => exact hr2.elim
    | _ => exact hr.elim
end
end Ly

set_option Elab.async false
set_option linter.all false
set_option maxRecDepth 100000
set_option maxHeartbeats 2000000
/-! set(xs) as a rule; list(range(i, j, -1)). -/
namespace Ly
open PySem PySem.Spec PyProof.Rows L2
section
variable {X : Cx}
/-- set(xs), xs a list of whole numbers -/
def rSetL (K : PySem.W.Frag) (w : World) : List V → Hp → VK → Prop := fun xs H Q => ∃ (a : Addr) (ns : List Int), xs = [V.ref a] ∧ SqL K H a (ns.map V.int) ∧ ns.length < 60 ∧
  ∀ (p : Addr) (c : Nat), H p = none → c ≤ ns.length → Q (.ref p) (upd H p (SetO w p (fun j => decide (j ∈ ns)) c))
theorem cr_setL (hc : X.calm = true) : CallR X (.type "set") (rSetL X.K X.w) := by
  intro pins s σ H xs us Q I r h
  obtain ⟨a, ns, rfl, ha, hf, q⟩ := h
  rw [Vals.ref1 r]
  obtain ⟨its, rv, pl, _⟩ := I.list ha
  have fresh : H s.heap.objs.size = none := I.hok.fresh (Nat.le_refl _)
  refine set_of_list (P := X.prog) (w := X.w) ns (I.ok.hd hc) pl.isList rv.ints (by unfold scanBound; omega) fun g tk c R hcn old => ?_
  exact ⟨.ref s.heap.objs.size, upd H s.heap.objs.size (SetO X.w s.heap.objs.size (fun j => decide (j ∈ ns)) c), I.laid (t' := tk) old (Nat.le_refl _) (setO_new R), rfl, q _ c fresh hcn⟩
/-- i, i - 1, .., n of them -/
def downV (i : Int) : Nat → List V
  | 0 => []
  | n + 1 => V.int i :: downV (i - 1) n
theorem downV_len : ∀ (n : Nat) (i : Int), (downV i n).length = n
  | 0, _ => rfl
  | n + 1, i => by rw [downV, List.length_cons, downV_len n]
theorem downV_get : ∀ (n : Nat) (i : Int) (j : Nat), j < n → (downV i n)[j]? = some (V.int (i - j))
  | 0, _, _, h => by omega
  | n + 1, i, 0, _ => by simp [downV]
  | n + 1, i, j + 1, h => by
    rw [downV, List.getElem?_cons_succ, downV_get n (i - 1) j (by omega)]
    congr 2
    omega
theorem downV_vals {i : Int} {n : Nat} {acc : Array Value} (h : ItemsOf (fun k v => ∃ t, v = .int (i + k * (-1)) t) acc n) : Vals (downV i n) acc.toList := by
  have hl : acc.toList.length = n := by rw [Array.length_toList]; exact h.1
  have go : ∀ (us : List Value) (k : Int), (∀ (j : Nat) (u : Value), us[j]? = some u → ∃ t, u = .int (k - j) t) → Vals (downV k us.length) us := fun us => by
    induction us with
    | nil => intro k _; exact .nil
    | cons u us ih =>
      intro k hu
      obtain ⟨t, et⟩ := hu 0 u rfl
      refine .cons ⟨t, ?_⟩ (ih (k - 1) fun j v hv => ?_)
      · rw [et]; congr 1; omega
      · obtain ⟨t, ev⟩ := hu (j + 1) v hv
        refine ⟨t, ?_⟩
        rw [ev]
        congr 1
        push_cast
        omega
  have := go acc.toList i fun j u hj => by
    obtain ⟨t, eu⟩ := h.2 j u (by rw [← hj, Array.getElem?_toList])
    refine ⟨t, ?_⟩
    rw [eu]
    congr 1
    omega
  rwa [hl] at this
theorem pe_listDown {a b c : Expr} {ta : TA} {p p2 q q2 : Pos} (hc : X.calm = true) (hg : Gl X "list") (hm : X.mg "list" = none) (hg2 : Gl X "range") (hm2 : X.mg "range" = none) (ha : PA X [a, b, c] ta)
    (hs : starEach [a, b, c] X.env = (false, eval a X.env) :: starEach [b, c] X.env) (hpl : (backTo q2 (starEach [b, c] X.env)).any (·.1) = false) :
    PE X (.Call (.Name "list" p) [.Call (.Name "range" p2) [a, b, c] [] q2] [] q) (fun σ H Q => ta σ H fun vs H1 => ∃ i j : Int, vs = [.int i, .int j, .int (-1)] ∧ i.natAbs ≤ 1000000 ∧ j.natAbs ≤ 1000000 ∧ ∀ d, H1 d = none → Q (.ref d) (upd H1 d (.lst (downV i (i - j).toNat)))) := by
  refine ⟨fun pins s σ H Q I h => ?_⟩
  have na : starEach [Expr.Call (.Name "range" p2) [a, b, c] [] q2] X.env = (false, eval (Expr.Call (.Name "range" p2) [a, b, c] [] q2) X.env) :: starEach [] X.env := rfl
  refine Call_ (ld_blt I hg hm boot_list (PyProof.Rows.callWith_type1 (args_cons ?_ na) na))
  refine Call_ (ld_blt I hg2 hm2 boot_range (PyProof.Rows.callWith_type1 (thn (ha.run q2 pins s σ H _ I h) fun us s1 ⟨vs, H1, I1, r1, q1⟩ => ?_) hs hpl))
  obtain ⟨i, j, rfl, b1, b2, qq⟩ := q1
  cases r1 with
  | cons ra rr =>
    cases rr with
    | cons rb rr =>
      cases rr with
      | cons rc rr =>
        cases rr
        obtain ⟨t, rfl⟩ := ra
        obtain ⟨u, rfl⟩ := rb
        obtain ⟨v, rfl⟩ := rc
        have sm : Builtin.Range.small i j (-1) = true := PySem.W.small_down (by omega) (by omega) (by omega) (by omega)
        refine call_range_3 (by decide) ?_ (.inl (PyProof.noPylong_small (by decide)))
        refine args_nil ?_
        have I2 : Inv X pins σ H1 { s1 with heap := s1.heap.push { cls := .type "range", data := .fields #[.int i t, .int j u, .int (-1) v] } } := I1.kept (t' := s1.toks) fun b o e => Heap.get?_push_of_some _ e
        refine call_list_range (n := (i - j).toNat) (I2.ok.hd hc) (IsRange.new ..) sm (PySem.W.rangeSize_downNat i j) (by omega) fun g tk acc c' old e' hi => ?_
        have fresh := I2.hok.fresh (Nat.le_refl _)
        refine ⟨.ref _, upd H1 _ (.lst (downV i (i - j).toNat)), I2.laid (t' := tk) old (Nat.le_refl _) (show ObjOk X.prog X.w _ _ _ (.lst _) from ⟨?_, acc.toList, c', downV_vals hi, e'⟩), rfl, qq _ fresh⟩
        rw [downV_len, sizeLine_eq]
        omega
end
end Ly

set_option Elab.async false
set_option linter.all false
set_option maxRecDepth 100000
set_option maxHeartbeats 2000000
/-! xs.count(k), texts. -/
namespace Ly
open PySem PySem.Spec PyProof.Rows L2
def isTxt (k : Str) (v : Value) : Bool := match v with
  | .str s _ => s == k
  | _ => false
section
variable {X : Cx}
def rCntS (K : PySem.W.Frag) : V → List V → Hp → VK → Prop := fun x xs H Q => ∃ (p : Addr) (ss : List Str) (k : Str), x = .ref p ∧ xs = [.str k] ∧ SqL K H p (ss.map V.str) ∧ Q (.int (ss.count k : Nat)) H
theorem txt_at {A : Around} {s : Shared} {k : Str} {t : Tok} : ∀ {ss : List Str} {us : List Value}, Vals (ss.map V.str) us → ∀ y ∈ us, SeqAt.EqAt A s y (.str k t) (isTxt k y)
  | [], _, .nil, y, hy => by cases hy
  | s0 :: ss, _, .cons r rs, y, hy => by
    obtain ⟨u, rfl⟩ := r
    rcases List.mem_cons.mp hy with rfl | hy
    · exact SeqAt.EqAt.str_str s0 u k t
    · exact txt_at rs y hy
theorem txt_count {k : Str} : ∀ {ss : List Str} {us : List Value}, Vals (ss.map V.str) us → us.countP (isTxt k) = ss.count k
  | [], _, .nil => rfl
  | s0 :: ss, _, .cons r rs => by
    obtain ⟨u, rfl⟩ := r
    rw [List.countP_cons, List.count_cons, txt_count rs]
    rfl
theorem mt_countS : MtR X "list.count" (rCntS X.K) := by
  intro pins s σ H x xs v us Q I rx rxs h
  obtain ⟨p, ss, k, rfl, rfl, hs, q⟩ := h
  cases rx
  cases rxs with
  | cons ru rn =>
    cases rn
    obtain ⟨t, rfl⟩ := ru
    obtain ⟨its, rv, ⟨⟨oc, od, oda, osl⟩, n, ho, hc, hn, hd⟩, _⟩ := I.list hs
    dsimp only at hc hd
    subst hc hd
    refine call_meets PySem.F.slot_list_count ⟨_, ho, rfl⟩ PySem.F.entry_list_count (PySem.F.args_list_count_2 _ _) (SeqAt.list_countAt p its.toArray n od osl (.str k t) (isTxt k)) ⟨ho, fun y hy => txt_at rv y (by simpa using hy), ?_⟩
    have ec := txt_count (k := k) rv
    refine ⟨.int (ss.count k : Nat), H, I.tok _, ⟨s.toks, ?_⟩, q⟩
    simp only [List.toList_toArray]
    rw [ec]
end
end Ly

set_option Elab.async false
set_option linter.all false
set_option maxRecDepth 100000
set_option maxHeartbeats 2000000
/-! list(zip(xs, ys)), two lists. -/
namespace Ly
open PySem PySem.Spec PyProof.Rows L2
theorem zip_no_len : typeLookup (.type "zip") "__len__" = pure none := by rw [typeLookup_type, builtinLookup_eq_fast]; kernel_rfl
theorem zip_no_hint : typeLookup (.type "zip") "__length_hint__" = pure none := by rw [typeLookup_type, builtinLookup_eq_fast]; kernel_rfl
/-- tuples laid one after the other -/
inductive TupsAt : Hp → List (V × V) → List Addr → Hp → Prop
  | nil {H : Hp} : TupsAt H [] [] H
  | cons {H H' : Hp} {p : Addr} {x y : V} {r : List (V × V)} {ps : List Addr} (h : H p = none) (t : TupsAt (upd H p (.tup [x, y])) r ps H') : TupsAt H ((x, y) :: r) (p :: ps) H'
def zch (z TI TO i1 i2 S : Addr) : List Addr := [z, TI, TO, i1, i2, S]
/-- a zip at turn i whose tuples go to S -/
def ZSt (h : Heap) (z TI TO i1 i2 a b S : Addr) (i : Nat) : Prop :=
  IsPair h TI (.ref i1) (.ref i2) ∧ h.IsListIter i1 a i ∧ h.IsListIter i2 b i ∧ ((IsZip h z TI TO .none ∧ ∃ u v, IsPair h TO u v) ∨ ∃ T f oT, IsZipHeld h z TI TO T f ∧ h.get? T = some oT ∧ T ∉ zch z TI TO i1 i2 S ∧ ∃ oO, h.get? TO = some oO)
theorem ZSt.live {h : Heap} {z TI TO i1 i2 a b S : Addr} {i : Nat} (Z : ZSt h z TI TO i1 i2 a b S i) (hS : ∃ o, h.get? S = some o) : ∀ c ∈ zch z TI TO i1 i2 S, ∃ o, h.get? c = some o := by
  obtain ⟨h1, ⟨o2, h2, _⟩, ⟨o3, h3, _⟩, h4⟩ := Z
  intro c hc
  simp only [zch, List.mem_cons, List.mem_nil_iff, or_false] at hc
  rcases h4 with ⟨h4, u, v, h5⟩ | ⟨T, f, oT, h4, h5, h6, h7⟩ <;> rcases hc with rfl | rfl | rfl | rfl | rfl | rfl
  all_goals first | exact ⟨_, h4⟩ | exact ⟨_, h1⟩ | exact ⟨_, h5⟩ | exact h7 | exact ⟨_, h2⟩ | exact ⟨_, h3⟩ | exact hS
section
variable {prog : Program} {w : World} {A : Around} {E : Value → Shared → Prop} {s : Shared}
theorem zip_turn {z TI TO i1 i2 a b S : Addr} {i : Nat} {xs ys : Array Value} {x y : Value} {Q : Option Value → Shared → Prop} (D : ZipApart z TI TO i1 i2 a b) (Z : ZSt s.heap z TI TO i1 i2 a b S i) (hl1 : s.heap.IsList a xs) (hl2 : s.heap.IsList b ys) (hx : xs[i]? = some x) (hy : ys[i]? = some y) (hS : ∃ o, s.heap.get? S = some o)
    (hQ : ∀ h', IsPair h' s.heap.objs.size x y → ZSt h' z TI TO i1 i2 a b S (i + 1) → (∀ c o, c ≠ z → c ≠ TO → c ≠ i1 → c ≠ i2 → s.heap.get? c = some o → h'.get? c = some o) → Q (some (.ref s.heap.objs.size)) { s with heap := h' }) :
    wpAny (model prog w) A (pyNext (.ref z)) Q E s := by
  have lv := Z.live hS
  obtain ⟨h1, h2, h3, h4⟩ := Z
  rcases h4 with ⟨h4, u, v, h5⟩ | ⟨T, f, oT, h4, h5, h6, h7⟩
  · refine wpAny_pyNext_zip_item D h4 h1 h5 h2 h3 hl1 hl2 hx hy fun h' a1 a2 a3 a4 a5 a6 a7 => hQ h' a5 ⟨a7 _ _ D.TIz D.TITO D.TIi1 D.TIi2 h1, a3, a4, .inr ⟨s.heap.objs.size, false, _, a1, a5, fun hm => ?_, ⟨_, a2⟩⟩⟩ a7
    obtain ⟨o, e⟩ := lv _ hm
    exact Nat.lt_irrefl _ (Heap.lt_size e)
  · refine wpAny_pyNext_zip_item_held D h4 h5 h1 h2 h3 hl1 hl2 hx hy fun h' a1 a3 a4 a5 a6 a7 => hQ h' a5 ⟨a7 _ _ D.TIz D.TIi1 D.TIi2 h1, a3, a4, .inr ⟨T, true, oT, a1, ?_, h6, ?_⟩⟩ fun c o c1 _ c3 c4 e => a7 c o c1 c3 c4 e
    · simp only [zch, List.mem_cons, List.mem_nil_iff, or_false, not_or] at h6
      exact a7 _ _ h6.1 h6.2.2.2.1 h6.2.2.2.2.1 h5
    · obtain ⟨oO, h7⟩ := h7
      exact ⟨oO, a7 _ _ D.TOz D.TOi1 D.TOi2 h7⟩
theorem zip_turn_end {z TI TO i1 i2 a b S : Addr} {i : Nat} {xs ys : Array Value} {Q : Option Value → Shared → Prop} (hh : A.handled = none) (D : ZipApart z TI TO i1 i2 a b) (Z : ZSt s.heap z TI TO i1 i2 a b S i) (hl1 : s.heap.IsList a xs) (hl2 : s.heap.IsList b ys) (hend : xs[i]? = none ∨ ys[i]? = none)
    (hQ : ∀ h', (∀ c o, c ≠ z → c ≠ TO → c ≠ i1 → c ≠ i2 → s.heap.get? c = some o → h'.get? c = some o) → Q none { s with heap := h' }) : wpAny (model prog w) A (pyNext (.ref z)) Q E s := by
  obtain ⟨h1, h2, h3, h4⟩ := Z
  rcases h4 with ⟨h4, u, v, h5⟩ | ⟨T, f, oT, h4, h5, h6, h7⟩
  · exact wpAny_pyNext_zip_end hh D h4 h1 h5 h2 h3 hl1 hl2 hend fun h' a7 => hQ h' a7
  · exact wpAny_pyNext_zip_end_held hh D h4 h5 h1 h2 h3 hl1 hl2 hend fun h' a7 => hQ h' fun c o c1 _ c3 c4 e => a7 c o c1 c3 c4 e
theorem ZSt.keep {h h' : Heap} {z TI TO i1 i2 a b S : Addr} {i : Nat} (Z : ZSt h z TI TO i1 i2 a b S i) (n : ∀ c ∈ [z, TI, TO, i1, i2], c ≠ S) (k : ∀ c o, c ≠ S → h.get? c = some o → h'.get? c = some o) : ZSt h' z TI TO i1 i2 a b S i := by
  obtain ⟨h1, h2, h3, h4⟩ := Z
  refine ⟨k _ _ (n TI (by simp)) h1, h2.at fun o e => k _ _ (n i1 (by simp)) e, h3.at fun o e => k _ _ (n i2 (by simp)) e, ?_⟩
  rcases h4 with ⟨h4, u, v, h5⟩ | ⟨T, f, oT, h4, h5, h6, oO, h7⟩
  · exact .inl ⟨k _ _ (n z (by simp)) h4, u, v, k _ _ (n TO (by simp)) h5⟩
  · refine .inr ⟨T, f, oT, k _ _ (n z (by simp)) h4, k _ _ ?_ h5, h6, oO, k _ _ (n TO (by simp)) h7⟩
    intro e
    exact h6 (by simp [zch, e])
end
theorem SqL.up {K : PySem.W.Frag} {H : Hp} {a p : Addr} {xs : List V} {o : HO} (h : SqL K H a xs) (hp : H p = none) : SqL K (upd H p o) a xs := SqL.ext h (Ext.upd hp)
section
variable {X : Cx} {pins : List (Addr × Obj)} {σ : L2.St}
theorem ext_loop_zip {A : Around} (hh : A.handled = none) {R : Result → Shared → Prop} {z TI TO i1 i2 a b S : Addr} (D : ZipApart z TI TO i1 i2 a b) (hn : ∀ c ∈ [z, TI, TO, i1, i2], c ≠ S) (res : Value) (xs ys : List V) : ∀ (m i : Nat) (s : Shared) (H : Hp) (acc : Array Value) (c : Nat),
    min xs.length ys.length - i = m → i ≤ min xs.length ys.length → Inv X pins σ H s → (∀ d ∈ zch z TI TO i1 i2 S, FpOk X pins H d) → ZSt s.heap z TI TO i1 i2 a b S i → SqL X.K H a xs → SqL X.K H b ys →
    s.heap.get? S = some { cls := .type "list", dict := none, data := .seq acc c, slots := #[] } → acc.size = i →
    (∀ s' H' ps acc' c', TupsAt H ((xs.zip ys).drop i) ps H' → Inv X pins σ H' s' → FpOk X pins H' S → s'.heap.get? S = some { cls := .type "list", dict := none, data := .seq acc' c', slots := #[] } → acc'.toList = acc.toList ++ ps.map Value.ref → R (.ok (.ret res)) s') →
    codeAny (model X.prog X.w) A (.builtin "list.extend.loop" ⟨[.ref S, .ref z, res], []⟩) R s := by
  intro m
  induction m with
  | zero =>
    intro i s H acc c hm hi I fp Z ha hb hS hacc hR
    obtain ⟨us, ru, pu, _⟩ := I.list ha
    obtain ⟨vs, rv, pv, _⟩ := I.list hb
    have e1 := ru.length
    have e2 := rv.length
    refine codeAny_builtin F.entry_extend_loop ?_
    rw [Around.under_plainId F.plain_extend_loop _]
    show wpAny _ A.in1 (pyNext (.ref z) >>= _) _ _ s
    refine wpAny_bind (zip_turn_end (A := A.in1) hh D Z pu.isList pv.isList ?_ fun h' k => ?_)
    · by_cases h : xs.length ≤ i
      · left; simp; omega
      · right; simp; omega
    · have hz : ∀ d ∈ [z, TO, i1, i2], d ∈ zch z TI TO i1 i2 S := fun d hd => by
        simp only [List.mem_cons, List.mem_nil_iff, or_false] at hd
        simp only [zch, List.mem_cons, List.mem_nil_iff, or_false]
        rcases hd with rfl | rfl | rfl | rfl <;> simp
      have hSn : S ≠ z ∧ S ≠ TO ∧ S ≠ i1 ∧ S ≠ i2 := ⟨fun e => hn z (by simp) e.symm, fun e => hn TO (by simp) e.symm, fun e => hn i1 (by simp) e.symm, fun e => hn i2 (by simp) e.symm⟩
      have I1 : Inv X pins σ H { s with heap := h', toks := s.toks } := I.turnedL (ch := [z, TO, i1, i2]) (fun d o hd e => by
        simp only [List.mem_cons, List.mem_nil_iff, or_false, not_or] at hd
        exact k d o hd.1 hd.2.1 hd.2.2.1 hd.2.2.2 e) fun d hd => fp d (hz d hd)
      refine wpAny_pure (hR _ H [] acc c ?_ I1 (fp S (by simp [zch])) (k S _ hSn.1 hSn.2.1 hSn.2.2.1 hSn.2.2.2 hS) (by simp))
      have hd : (xs.zip ys).drop i = [] := List.drop_eq_nil_of_le (by rw [List.length_zip]; omega)
      rw [hd]
      exact .nil
  | succ m ih =>
    intro i s H acc c hm hi I fp Z ha hb hS hacc hR
    obtain ⟨us, ru, pu, lx⟩ := I.list ha
    obtain ⟨vs, rv, pv, ly⟩ := I.list hb
    have e1 := ru.length
    have e2 := rv.length
    have hx : i < xs.length := by omega
    have hy : i < ys.length := by omega
    have hxe : xs[i]? = some xs[i] := List.getElem?_eq_getElem hx
    have hye : ys[i]? = some ys[i] := List.getElem?_eq_getElem hy
    obtain ⟨u, eu, r1⟩ := ru.get hxe
    obtain ⟨v, ev, r2⟩ := rv.get hye
    refine codeAny_builtin F.entry_extend_loop ?_
    rw [Around.under_plainId F.plain_extend_loop _]
    show wpAny _ A.in1 (pyNext (.ref z) >>= _) _ _ s
    refine wpAny_bind (zip_turn D Z pu.isList pv.isList (x := u) (y := v) (by simpa using eu) (by simpa using ev) ⟨_, hS⟩ fun h' hT Z' k => ?_)
    have lv := Z.live ⟨_, hS⟩
    have hSn : S ≠ z ∧ S ≠ TO ∧ S ≠ i1 ∧ S ≠ i2 := ⟨fun e => hn z (by simp) e.symm, fun e => hn TO (by simp) e.symm, fun e => hn i1 (by simp) e.symm, fun e => hn i2 (by simp) e.symm⟩
    have hS' := k S _ hSn.1 hSn.2.1 hSn.2.2.1 hSn.2.2.2 hS
    show wpAny _ A.in1 (updateSeq S (·.push (.ref s.heap.objs.size)) >>= _) _ _ _
    refine wpAny_bind ?_
    have hTS : s.heap.objs.size ≠ S := Nat.ne_of_gt (Heap.lt_size hS)
    have k2 : ∀ d o, d ≠ S → h'.get? d = some o → (h'.update S (Obj.mapSeq (·.push (Value.ref s.heap.objs.size)))).get? d = some o := fun d o hd e => (Heap.get?_update_other _ _ (Ne.symm hd)).trans e
    refine wpAny_updateSeq hS' rfl (wpAny_pure ⟨plainId_quiet F.plain_extend_loop _, ?_⟩) (by rw [hacc]; omega) (by show (acc.push _).size ≤ sizeLine + 1; rw [Array.size_push, hacc]; omega)
    have hT2 := k2 _ _ hTS hT
    have new : ObjOk X.prog X.w (upd H s.heap.objs.size (.tup [xs[i], ys[i]])) (h'.update S (Obj.mapSeq (·.push (Value.ref s.heap.objs.size)))) s.heap.objs.size (.tup [xs[i], ys[i]]) :=
      ⟨by show 2 ≤ sizeLine; decide, [u, v], .cons r1 (.cons r2 .nil), ⟨_, hT2, rfl, _, rfl⟩⟩
    have I1 : Inv X pins σ (upd H s.heap.objs.size (.tup [xs[i], ys[i]])) { s with heap := h'.update S (Obj.mapSeq (·.push (Value.ref s.heap.objs.size))), toks := s.toks } :=
      I.turnedNew (ch := zch z TI TO i1 i2 S) (fun d o hd e => by
        simp only [zch, List.mem_cons, List.mem_nil_iff, or_false, not_or] at hd
        exact k2 d o hd.2.2.2.2.2 (k d o hd.1 hd.2.2.1 hd.2.2.2.1 hd.2.2.2.2.1 e)) fp (Nat.le_refl _) new
    have fresh : H s.heap.objs.size = none := I.hok.fresh (Nat.le_refl _)
    have fp1 : ∀ d ∈ zch z TI TO i1 i2 S, FpOk X pins (upd H s.heap.objs.size (.tup [xs[i], ys[i]])) d := fun d hd => by
      obtain ⟨o, e⟩ := lv d hd
      refine ⟨?_, (fp d hd).2⟩
      rw [upd_ne (Nat.ne_of_lt (Heap.lt_size e))]
      exact (fp d hd).1
    refine ih (i + 1) _ _ (acc.push (Value.ref s.heap.objs.size)) _ (by omega) (by omega) I1 fp1 (Z'.keep hn k2) (SqL.up ha fresh) (SqL.up hb fresh) (Heap.get?_update_self _ hS' rfl) (by rw [Array.size_push, hacc]) fun s' H' ps acc' c' tt I' fS hS2 hac => ?_
    refine hR s' H' (s.heap.objs.size :: ps) acc' c' ?_ I' fS hS2 (by rw [hac]; simp)
    have hd : (xs.zip ys).drop i = (xs[i], ys[i]) :: (xs.zip ys).drop (i + 1) := by
      rw [List.drop_eq_getElem_cons (by rw [List.length_zip]; omega)]
      simp
    rw [hd]
    exact .cons fresh tt
theorem vals_refs : ∀ ps : List Addr, Vals (ps.map V.ref) (ps.map Value.ref)
  | [] => .nil
  | p :: ps => .cons rfl (vals_refs ps)
theorem tups_len {H H' : Hp} {r : List (V × V)} {ps : List Addr} (t : TupsAt H r ps H') : ps.length = r.length := by
  induction t with
  | nil => rfl
  | cons _ _ ih => rw [List.length_cons, List.length_cons, ih]
theorem call_list_zip {A : Around} (hh : A.handled = none) {H : Hp} {s : Shared} {E : Value → Shared → Prop} {Q : Value → Shared → Prop} {z TI TO i1 i2 a b : Addr} {xs ys : List V} (I : Inv X pins σ H s) (D : ZipApart z TI TO i1 i2 a b) (Z : ZSt s.heap z TI TO i1 i2 a b s.heap.objs.size 0) (hz : IsZip s.heap z TI TO .none) (lt : ∀ c ∈ [z, TI, TO, i1, i2], c < s.heap.objs.size)
    (fp : ∀ d ∈ [z, TI, TO, i1, i2], FpOk X pins H d) (ha : SqL X.K H a xs) (hb : SqL X.K H b ys)
    (hQ : ∀ s' H' ps, TupsAt H (xs.zip ys) ps H' → H' s.heap.objs.size = none → Inv X pins σ (upd H' s.heap.objs.size (.lst (ps.map V.ref))) s' → Q (.ref s.heap.objs.size) s') :
    wpAny (model X.prog X.w) A (call (.type "list") [.ref z]) Q E s := by
  have hn : ∀ c ∈ [z, TI, TO, i1, i2], c ≠ s.heap.objs.size := fun c hc => Nat.ne_of_lt (lt c hc)
  refine callType_codes (Q₁ := fun obj s₁ => obj = .ref s.heap.objs.size ∧ s₁ = { s with heap := s.heap.push { cls := .type "list", data := .seq #[] } }) F.called_list (F.typeCall_list_1 _) F.entry_list_init
    (code_list_new _ ⟨rfl, rfl⟩) fun obj s₁ h₁ => ?_
  obtain ⟨rfl, rfl⟩ := h₁
  have hS : (s.heap.push { cls := .type "list", data := .seq #[] }).get? s.heap.objs.size = some { cls := .type "list", data := .seq #[] } := Heap.get?_push_size _ rfl
  refine ⟨⟨_, hS, rfl⟩, F.args_list_init_2 _ _, ?_⟩
  generalize hSd : s.heap.objs.size = S at *
  show wpAny (model X.prog X.w) A.in1.in1 (do let old ← Builtin.List.listItems (.ref S); Builtin.List.listUpdate (.ref S) (fun _ => #[]); letGo old.toList.reverse; Builtin.List.listExtendWith (.ref S) (.ref z) .none) _ _ _
  refine wpAny_bind ?_
  unfold Builtin.List.listItems
  refine wpAny_bind (wpAny_seqItems hS rfl (wpAny_pure ?_))
  show wpAny _ A.in1.in1 (updateSeq S (fun _ => #[]) >>= fun _ => letGo (#[] : Array Value).toList.reverse >>= fun _ => Builtin.List.listExtendWith (.ref S) (.ref z) .none) _ _ _
  refine wpAny_bind (wpAny_updateSeq hS rfl ?_)
  have hS₂ := Heap.get?_update_self (Obj.mapSeq (fun _ => (#[] : Array Value))) hS rfl
  refine wpAny_bind (wpAny_letGo ?_)
  have oth2 : ∀ d o, d ≠ S → s.heap.get? d = some o → ((s.heap.push { cls := .type "list", data := .seq #[] }).update S (Obj.mapSeq (fun _ => (#[] : Array Value)))).get? d = some o :=
    fun d o hd e => (Heap.get?_update_other _ _ (Ne.symm hd)).trans (Heap.get?_push_of_some _ e)
  have Z2 := Z.keep hn oth2
  have hT : ∀ {h : Heap} {i : Nat} {s0 : Shared}, ZSt s0.heap z TI TO i1 i2 a b S i → s0.TypeIs (.ref z) "zip" := fun {h i s0} Z => by
    obtain ⟨_, _, _, ⟨h4, _⟩ | ⟨_, _, _, h4, _⟩⟩ := Z
    · exact ⟨_, h4, rfl⟩
    · exact ⟨_, h4, rfl⟩
  unfold Builtin.List.listExtendWith
  refine wpAny_bind (wpAny_typeOf (hT (h := s.heap) Z2) ?_)
  have h1 : Builtin.List.listSameRef (.ref S) (.ref z) = false := by simp [Builtin.List.listSameRef, Ne.symm (hn z (by simp))]
  have h2 : (Value.type "zip" == Value.type "list") = false := by decide
  have h3 : (Value.type "zip" == Value.type "tuple") = false := by decide
  simp only [h1, h2, h3, Bool.or_false, Bool.false_eq_true, if_false]
  have hz0 := oth2 _ _ (hn z (by simp)) hz
  refine wpAny_bind (wpAny_pyIter_zip hz0 ?_)
  refine wpAny_bind (wpAny_holding ?_)
  unfold Builtin.List.listLengthHint
  refine wpAny_bind (wpAny_specialOf (hT (h := s.heap) Z2) zip_no_len ?_)
  show wpAny _ A.in1.in1 (specialOf (Value.ref z) (Str.ofString "__length_hint__") >>= _) _ _ _
  refine wpAny_bind (wpAny_specialOf (hT (h := s.heap) Z2) zip_no_hint ?_)
  refine wpAny_pure ?_
  show wpAny _ A.in1.in1 (rule "list.extend.makes-room" >>= fun _ => Builtin.List.listTouch (.ref S) >>= fun _ =>
    again (.builtin "list.extend.loop" ⟨[.ref S, .ref z, .none], []⟩)) _ _ _
  refine wpAny_bind (wpAny_rule ?_)
  refine wpAny_bind ?_
  show wpAny _ A.in1.in1 (updateSeq S (·.push .none) >>= fun _ => updateSeq S (·.pop)) _ _ _
  refine wpAny_bind (wpAny_updateSeq hS₂ rfl ?_)
  have hS₃ := Heap.get?_update_self (Obj.mapSeq (·.push Value.none)) hS₂ rfl
  refine wpAny_updateSeq (hz := by seq_fits) hS₃ rfl ?_
  have hS₄ := Heap.get?_update_self (Obj.mapSeq (·.pop)) hS₃ rfl
  generalize hh₄ : ((((s.heap.push { cls := .type "list", data := .seq #[] }).update S (Obj.mapSeq (fun _ => (#[] : Array Value)))).update S (Obj.mapSeq (·.push Value.none))).update S (Obj.mapSeq (·.pop))) = h₄ at *
  have oth4 : ∀ d o, d ≠ S → s.heap.get? d = some o → h₄.get? d = some o := fun d o hd e => by
    rw [← hh₄]
    exact (Heap.get?_update_other _ _ (Ne.symm hd)).trans ((Heap.get?_update_other _ _ (Ne.symm hd)).trans (oth2 d o hd e))
  have old4 : ∀ d o, s.heap.get? d = some o → h₄.get? d = some o := fun d o e => oth4 d o (fun z => by subst z; rw [← hSd] at e; exact absurd (Heap.lt_size e) (Nat.lt_irrefl _)) e
  have I4 : Inv X pins σ H { s with heap := h₄, toks := s.toks } := I.kept (t' := s.toks) old4
  have fS : FpOk X pins H S := I.fpOk (Nat.le_of_eq hSd) (I.hok.fresh (Nat.le_of_eq hSd))
  refine wpAny_pure ⟨plainId_quiet F.plain_extend_loop _, ext_loop_zip (A := A.in1) hh D hn .none xs ys (min xs.length ys.length) 0 _ H _ _ rfl (Nat.zero_le _) I4 (fun d hd => ?_) (Z.keep hn oth4) ha hb hS₄ (by rfl) fun s' H' ps acc' c' tt I' fS' hS' hac => ?_⟩
  · simp only [zch, List.mem_cons, List.mem_nil_iff, or_false] at hd
    rcases hd with rfl | rfl | rfl | rfl | rfl | rfl
    all_goals first | exact fS | exact fp _ (by simp)
  · refine ⟨rfl, hQ s' H' ps tt fS'.1 ?_⟩
    obtain ⟨_, _, _, lx⟩ := I.list ha
    have hl := tups_len tt
    rw [List.drop_zero, List.length_zip] at hl
    have hv : Vals (ps.map V.ref) acc'.toList := by
      rw [hac]
      exact vals_refs ps
    exact I'.take (h' := s'.heap) (t' := s'.toks) (fun _ _ _ e => e) fS' ⟨by rw [List.length_map]; omega, acc'.toList, c', hv, hS'⟩
def rZipL (K : PySem.W.Frag) (Q : VK) (vs : List V) (H1 : Hp) : Prop := ∃ (a b : Addr) (xs ys : List V), vs = [.ref a, .ref b] ∧ SqL K H1 a xs ∧ SqL K H1 b ys ∧ ∀ ps l H', TupsAt H1 (xs.zip ys) ps H' → H' l = none → Q (.ref l) (upd H' l (.lst (ps.map V.ref)))
theorem zapart {n a b : Nat} (la : a < n) (lb : b < n) : ZipApart (n + 4) (n + 2) (n + 3) n (n + 1) a b := by
  have f : ∀ {x y : Nat}, x ≠ y → ¬ ((x : Addr) = (y : Addr)) := fun h => h
  constructor <;> (refine f ?_; omega)
theorem pe_listZip {X : Cx} {a b : Expr} {ta : TA} {p p2 q q2 : Pos} (hc : X.calm = true) (hg : Gl X "list") (hm : X.mg "list" = none) (hg2 : Gl X "zip") (hm2 : X.mg "zip" = none) (ha : PA X [a, b] ta)
    (hs : starEach [a, b] X.env = (false, eval a X.env) :: starEach [b] X.env) (hpl : (backTo q2 (starEach [b] X.env)).any (·.1) = false) :
    PE X (.Call (.Name "list" p) [.Call (.Name "zip" p2) [a, b] [] q2] [] q) (fun σ H Q => ta σ H (rZipL X.K Q)) := by
  refine ⟨fun pins s σ H Q I h => ?_⟩
  have na : starEach [Expr.Call (.Name "zip" p2) [a, b] [] q2] X.env = (false, eval (Expr.Call (.Name "zip" p2) [a, b] [] q2) X.env) :: starEach [] X.env := rfl
  refine Call_ (ld_blt I hg hm boot_list (PyProof.Rows.callWith_type1 (args_cons ?_ na) na))
  refine Call_ (ld_blt I hg2 hm2 PyProof.Rows.boot_zip (PyProof.Rows.callWith_type1 (thn (ha.run q2 pins s σ H _ I h) fun us s1 ⟨vs, H1, I1, r1, q1⟩ => ?_) hs hpl))
  obtain ⟨a, b, xs, ys, ex, hqx, hqy, qq⟩ := q1
  subst ex
  obtain ⟨v1, v2, rfl, r, r'⟩ := r1.two
  cases r
  cases r'
  obtain ⟨o1, H1', B1, b1, k1⟩ := begK false I1 (show SqK false X.K H1 a xs from hqx)
  obtain ⟨o2, H2', B2, b2, k2⟩ := begK false I1 (show SqK false X.K H1 b ys from hqy)
  have la := SqK.lt (t := false) I1 hqx
  have lb := SqK.lt (t := false) I1 hqy
  refine zip_begins2 B1 B2 b1 b2 fun h' hz hTI hTO h1 h2 hsz hk => args_nil ?_
  have I2 : Inv X pins σ H1 { s1 with heap := h', toks := s1.toks } := I1.kept (t' := s1.toks) hk
  refine call_list_zip (I2.ok.hd hc) I2 (zapart la lb) ⟨hTI, k1 _ _ h1, k2 _ _ h2, .inl ⟨hz, _, _, hTO⟩⟩ hz (fun c hcm => ?_) (fun c hcm => ?_) hqx hqy fun s' H' ps tt hl I3 => ⟨.ref _, _, I3, rfl, qq ps _ H' tt hl⟩
  · show c < h'.objs.size
    rw [hsz]
    have e : ∀ x y : Nat, x < y → (x : Addr) < (y : Addr) := fun _ _ h => h
    simp only [List.mem_cons, List.mem_nil_iff, or_false] at hcm
    rcases hcm with rfl | rfl | rfl | rfl | rfl <;> (refine e _ _ ?_; omega)
  · have hle : s1.heap.objs.size ≤ c := by
      simp only [List.mem_cons, List.mem_nil_iff, or_false] at hcm
      rcases hcm with rfl | rfl | rfl | rfl | rfl
      · exact Nat.le_add_right _ _
      · exact Nat.le_add_right _ _
      · exact Nat.le_add_right _ _
      · exact Nat.le_refl _
      · exact Nat.le_add_right _ _
    exact I1.fpOk hle (I1.hok.fresh hle)
end
end Ly

set_option Elab.async false
set_option linter.all false
set_option maxRecDepth 100000
set_option maxHeartbeats 2000000
/-! xs[i::k] of lists. -/
namespace Ly
open PySem PySem.Spec PyProof.Rows L2
theorem paired_get {α β : Type} {R : α → β → Prop} : ∀ {xs : List α} {ys : List β}, Paired R xs ys → ∀ i : Nat, (∃ x y, xs[i]? = some x ∧ ys[i]? = some y ∧ R x y) ∨ (xs[i]? = none ∧ ys[i]? = none)
  | _, _, .nil, i => .inr ⟨by simp, by simp⟩
  | _, _, .cons r t, 0 => .inl ⟨_, _, rfl, rfl, r⟩
  | _, _, .cons r t, i + 1 => by simpa using paired_get t i
theorem paired_pick {α β : Type} {R : α → β → Prop} {xs : List α} {ys : List β} (p : Paired R xs ys) : ∀ is : List Nat, Paired R (is.filterMap (xs[·]?)) (is.filterMap (ys[·]?))
  | [] => .nil
  | i :: is => by
    rw [List.filterMap_cons, List.filterMap_cons]
    rcases paired_get p i with ⟨x, y, e1, e2, r⟩ | ⟨e1, e2⟩
    · rw [e1, e2]; exact .cons r (paired_pick p is)
    · rw [e1, e2]; exact paired_pick p is
theorem pick_len {α : Type} (xs : List α) : ∀ is : List Nat, (is.filterMap (xs[·]?)).length ≤ is.length := fun is => List.length_filterMap_le _ _
theorem stepIx_len (n : Nat) (i k : Int) (hk : 0 < k) : (stepIx n i k).length ≤ n := by
  have h := sliceIndicesBy_le (some i) none k (by omega) n
  have e : Builtin.Str.strSliceIndices (some i) none k n = stepIx n i k := by
    unfold Builtin.Str.strSliceIndices stepIx
    simp only [show k > 0 from hk, if_true]
  rw [e] at h
  exact h
theorem slice_step (items : Array Value) (i k : Int) (hk : 0 < k) : slicePick items (some i) none (some k) = ((stepIx items.size i k).filterMap (items.toList[·]?)).toArray := by
  unfold slicePick sliceBounds stepIx
  simp only [show k > 0 from hk, if_true, Option.getD_some]
  congr 1
  apply congrFun
  apply congrArg
  funext j
  simp
/-- xs[i::k] -/
def tStepL (K : PySem.W.Frag) (te ti tk : TE) : TE := fun σ H Q => te σ H fun x H1 => ti σ H1 fun y H2 => ∃ i, y = .int i ∧ tk σ H2 fun z H3 => ∃ k, z = .int k ∧ ∃ a xs, x = .ref a ∧ 0 < k ∧ SqL K H3 a xs ∧ ∀ p, H3 p = none → Q (.ref p) (upd H3 p (.lst ((stepIx xs.length i k).filterMap (xs[·]?))))
def onInt (f : Int → Prop) : Option Int → Prop
  | some i => f i
  | none => False
section
variable {X : Cx}
theorem pe_stepL {e l t : Expr} {te tl tt : TE} {p3 pos : Pos} (he : PE X e te) (hl : PE X l tl) (ht : PE X t tt) : PE X (.Subscript e (.Slice (some l) none (some t) p3) pos) (tStepL X.K te tl tt) := by
  refine ⟨fun pins s σ H Q I h => ?_⟩
  refine Subscript_ (thn (he.run pins s σ H _ I h) fun v s1 ⟨x, H1, I1, r1, q1⟩ => ?_)
  refine wpAny_Slice (thn ((po_some hl).run pins s1 σ H1 (fun o H2 => onInt (fun i => tt σ H2 fun z H3 => ∃ k, z = .int k ∧ ∃ a xs, x = .ref a ∧ 0 < k ∧ SqL X.K H3 a xs ∧ ∀ p, H3 p = none → Q (.ref p) (upd H3 p (.lst ((stepIx xs.length i k).filterMap (xs[·]?))))) o) I1 q1) fun vl s2 ⟨o1, H2, I2, pl, q2⟩ => ?_)
  cases o1 with
  | none => exact q2.elim
  | some i =>
    refine thn (po_none.run pins s2 σ H2 (fun o H3 => o = none ∧ H3 = H2) I2 ⟨rfl, rfl⟩) fun vu s3 ⟨u, H3, I3, pu, eu, e3⟩ => ?_
    subst eu e3
    refine thn ((po_some ht).run pins s3 σ H3 (fun o H4 => onInt (fun k => ∃ a xs, x = .ref a ∧ 0 < k ∧ SqL X.K H4 a xs ∧ ∀ p, H4 p = none → Q (.ref p) (upd H4 p (.lst ((stepIx xs.length i k).filterMap (xs[·]?))))) o) I3 q2) fun vs s4 ⟨o2, H4, I4, ps, q3⟩ => ?_
    cases o2 with
    | none => exact q3.elim
    | some k =>
      obtain ⟨a, xs, ex, hk, hx, q⟩ := q3
      subst ex
      cases r1
      have I5 : Inv X pins σ H4 { s4 with heap := s4.heap.push { cls := .type "slice", data := .fields #[vl, vu, vs] } } := I4.kept (t' := s4.toks) fun b ob q => Heap.get?_push_of_some _ q
      obtain ⟨its, r, ht, hz⟩ := I5.list hx
      have hlen := r.length
      show wpAny (model X.prog X.w) X.A (subscriptTail e (.Slice (some l) none (some t) p3) (.ref a) (.ref s4.heap.objs.size)) (EP X pins σ Q) X.xe { s4 with heap := s4.heap.push { cls := .type "slice", data := .fields #[vl, vu, vs] } }
      refine tail_any (ops := [.ref a, .ref s4.heap.objs.size]) ht.isList.typeIs (PySem.slot_list_getitem.lookup) ?_ (by with_unfolding_all rfl)
      refine wpAny_getItem_list_slice ht.isList (Heap.IsSliceOf.new _ vl vu vs) pl pu ps (by intro z; cases z; omega) ?_ (by rw [List.size_toArray]; omega)
      rw [slice_step _ _ _ hk]
      have hsz : its.toArray.size = xs.length := by rw [List.size_toArray]; omega
      rw [hsz]
      refine ⟨.ref _, _, I5.laid (t' := s4.toks) (o := .lst ((stepIx xs.length i k).filterMap (xs[·]?))) (fun b ob q => Heap.get?_push_of_some _ q) (Nat.le_refl _) ?_, rfl, q _ (I5.hok.fresh (Nat.le_refl _))⟩
      have l1 := pick_len xs (stepIx xs.length i k)
      have l2 := stepIx_len xs.length i k hk
      exact ⟨by omega, _, 0, paired_pick r _, Heap.get?_push_size _ rfl⟩
end
end Ly

set_option Elab.async false
set_option linter.all false
set_option maxRecDepth 100000
set_option maxHeartbeats 2000000
/-! Dicts: what their objects hold. -/
namespace Ly
open PySem PySem.Spec PyProof.Rows L2
section
variable {κ α β : Type} [DecidableEq κ]
theorem dputK_len (ks : List κ) (xs : List α) (k : κ) (x : α) (h : ks.length = xs.length) : (dputK ks k).length = (dputV ks xs k x).length := by
  unfold dputK dputV
  split
  · rw [List.length_map, List.length_zip, h, Nat.min_self]
  · simp [h]
theorem any_mem (k : κ) : ∀ (ks : List κ) (vs : List V), ks.length = vs.length → ((ks.zip vs).any fun kv => decide (kv.1 = k)) = decide (k ∈ ks)
  | [], vs, _ => by simp
  | q :: ks, [], h => by simp at h
  | q :: ks, v :: vs, h => by
    rw [List.zip_cons_cons, List.any_cons, any_mem k ks vs (by simpa using h)]
    by_cases e : q = k
    · simp [e]
    · have e' : ¬ k = q := fun z => e z.symm
      simp [e, e']
theorem map_zip (k : κ) (v : V) : ∀ (ks : List κ) (vs : List V), (ks.zip vs).map (fun kv => if kv.1 = k then (kv.1, v) else kv) = ks.zip ((ks.zip vs).map fun p => if p.1 = k then v else p.2)
  | [], vs => by simp
  | q :: ks, [] => by simp
  | q :: ks, u :: vs => by
    simp only [List.zip_cons_cons, List.map_cons, map_zip k v ks vs]
    congr 1
    split <;> rfl
theorem putK_zip (ks : List κ) (vs : List V) (k : κ) (v : V) (h : ks.length = vs.length) : putK (ks.zip vs) k v = (dputK ks k).zip (dputV ks vs k v) := by
  unfold putK dputK dputV
  rw [any_mem k ks vs h]
  by_cases e : k ∈ ks
  · rw [if_pos (by simpa using e), if_pos e, if_pos e, map_zip]
  · rw [if_neg (by simpa using e), if_neg e, if_neg e, List.zip_append h]
    rfl
end
theorem k1_one (x : L2.Key) : k1 [x] = x := rfl
theorem k1_mem {ks : List (List L2.Key)} (ok : dOk false ks) (x : L2.Key) : x ∈ ks.map k1 ↔ [x] ∈ ks := by
  rw [List.mem_map]
  constructor
  · rintro ⟨k, hk, e⟩
    obtain ⟨y, rfl⟩ := ok rfl k hk
    rw [k1_one] at e
    subst e
    exact hk
  · exact fun h => ⟨_, h, rfl⟩
theorem dputK_k1 {ks : List (List L2.Key)} (ok : dOk false ks) (x : L2.Key) : dputK (ks.map k1) x = (dputK ks [x]).map k1 := by
  unfold dputK
  by_cases e : [x] ∈ ks
  · rw [if_pos e, if_pos ((k1_mem ok x).mpr e)]
  · rw [if_neg e, if_neg (fun z => e ((k1_mem ok x).mp z)), List.map_append]
    rfl
theorem zip_k1 {α : Type} (x : L2.Key) (v : α) : ∀ {ks : List (List L2.Key)} (vs : List α), dOk false ks → ((ks.map k1).zip vs).map (fun p => if p.1 = x then v else p.2) = (ks.zip vs).map (fun p => if p.1 = [x] then v else p.2)
  | [], vs, _ => by simp
  | q :: ks, [], _ => by simp
  | q :: ks, u :: vs, ok => by
    obtain ⟨y, rfl⟩ := ok rfl q List.mem_cons_self
    simp only [List.map_cons, List.zip_cons_cons, zip_k1 x v vs (fun h k hk => ok h k (List.mem_cons_of_mem _ hk)), k1_one]
    congr 1
    by_cases e : y = x
    · simp [e]
    · simp [e]
theorem dputV_k1 {α : Type} {ks : List (List L2.Key)} (ok : dOk false ks) (vs : List α) (x : L2.Key) (v : α) : dputV (ks.map k1) vs x v = dputV ks vs [x] v := by
  unfold dputV
  by_cases e : [x] ∈ ks
  · rw [if_pos e, if_pos ((k1_mem ok x).mpr e), zip_k1 x v vs ok]
  · rw [if_neg e, if_neg (fun z => e ((k1_mem ok x).mp z))]
theorem val_k1 (x : L2.Key) : ∀ {ks : List (List L2.Key)} (vs : List V), dOk false ks → valV ((ks.map k1).zip vs) x = valV (ks.zip vs) [x]
  | [], vs, _ => by simp [valV]
  | q :: ks, [], _ => by simp [valV]
  | q :: ks, u :: vs, ok => by
    obtain ⟨y, rfl⟩ := ok rfl q List.mem_cons_self
    rw [List.map_cons, List.zip_cons_cons, List.zip_cons_cons, k1_one]
    by_cases e : y = x
    · rw [valV_pos e, valV_pos (by simp [e])]
    · rw [valV_neg e, valV_neg (by simp [e])]
      exact val_k1 x vs (fun h k hk => ok h k (List.mem_cons_of_mem _ hk))
theorem dOk_put {t : Bool} {ks : List (List L2.Key)} {k : List L2.Key} (ok : dOk t ks) (hk : t = false → ∃ x, k = [x]) : dOk t (dputK ks k) := fun ht q hq => by
  unfold dputK at hq
  split at hq
  · exact ok ht q hq
  · rcases List.mem_append.mp hq with hq | hq
    · exact ok ht q hq
    · rw [List.mem_singleton.mp hq]; exact hk ht
/-- y is the key k -/
def KeyIs (H : Hp) (t : Bool) (y : V) (k : List L2.Key) : Prop := (t = false ∧ ∃ x, k = [x] ∧ y = kV x) ∨ (t = true ∧ ∃ b, y = .ref b ∧ H b = some (.tup (k.map kV)))
theorem dget_of {H : Hp} {a : Addr} {t : Bool} {ks : List (List L2.Key)} {vs : List V} {y : V} {k : List L2.Key} (h : Rd H a (dOb t ks vs)) (ok : dOk t ks) (hk : KeyIs H t y k) : DGet H a y (valV (ks.zip vs) k) := by
  rcases hk with ⟨rfl, x, rfl, rfl⟩ | ⟨rfl, b, rfl, hb⟩
  · exact .inl ⟨_, x, h, rfl, (val_k1 x vs ok).symm⟩
  · exact .inr ⟨_, k, b, h, rfl, hb, rfl⟩
theorem dput_of {H : Hp} {a : Addr} {t : Bool} {ks : List (List L2.Key)} {vs : List V} {y v : V} {k : List L2.Key} (h : H a = some (dOb t ks vs)) (ok : dOk t ks) (hl : ks.length = vs.length) (hz : ks.length < sizeLine) (hk : KeyIs H t y k) :
    DPut H a y v (upd H a (dOb t (dputK ks k) (dputV ks vs k v))) := by
  rcases hk with ⟨rfl, x, rfl, rfl⟩ | ⟨rfl, b, rfl, hb⟩
  · refine .inl ⟨(ks.map k1).zip vs, x, h, rfl, ?_, ?_⟩
    · rw [List.length_zip, List.length_map]; omega
    · rw [putK_zip _ _ _ _ (by rw [List.length_map]; exact hl), dputK_k1 ok, dputV_k1 ok]
      rfl
  · refine .inr ⟨ks.zip vs, k, b, h, rfl, hb, ?_, ?_⟩
    · rw [List.length_zip]; omega
    · rw [putK_zip _ _ _ _ hl]
      rfl
theorem keys_of {K : PySem.W.Frag} {H : Hp} {S hot : List Addr} {j : Nat} : ∀ {vs : List V} {ds : List D} {k : List L2.Key}, RepTs K H S hot j vs ds → keysD ds = some k → vs = k.map kV
  | _, _, _, .nil _, e => by simp [keysD] at e; subst e; rfl
  | _, _, k, .cons (d := d) h hs, e => by
    cases h <;> simp only [keysD, reduceCtorEq] at e
    · obtain ⟨q, e1, rfl⟩ := Option.map_eq_some_iff.mp e
      rw [keys_of hs e1]; rfl
    · obtain ⟨q, e1, rfl⟩ := Option.map_eq_some_iff.mp e
      rw [keys_of hs e1]; rfl
theorem key_is {K : PySem.W.Frag} {H : Hp} {S hot : List Addr} {j : Nat} {t : Bool} {y : V} {d : D} {k : List L2.Key} (h : RepT K H S hot j y d) (e : keyD t d = some k) : KeyIs H t y k := by
  cases t with
  | false =>
    cases h <;> simp only [keyD, reduceCtorEq] at e
    · cases e; exact .inl ⟨rfl, _, rfl, rfl⟩
    · cases e; exact .inl ⟨rfl, _, rfl, rfl⟩
  | true =>
    cases h <;> simp only [keyD, reduceCtorEq] at e
    rename_i a vs ds h hs
    have ev := keys_of hs e
    refine .inr ⟨rfl, a, rfl, ?_⟩
    rcases h with h | ⟨_, v, hv, hn⟩
    · rw [← ev]; exact h
    · rw [ev] at hv
      obtain ⟨q, _, rfl⟩ := List.mem_map.mp hv
      exact absurd rfl (hn q)
theorem KeyIs.one {H : Hp} {t : Bool} {y : V} {k : List L2.Key} (h : KeyIs H t y k) : t = false → ∃ x, k = [x] := fun ht => by
  rcases h with ⟨_, x, e, _⟩ | ⟨e, _⟩
  · exact ⟨x, e⟩
  · rw [ht] at e; cases e
/-- what is found at a key -/
theorem rep_val {K : PySem.W.Frag} {H : Hp} {S hot : List Addr} {j : Nat} (k : List L2.Key) : ∀ {ks : List (List L2.Key)} {vs : List V} {ds : List D}, RepTs K H S hot j vs ds → (∃ v d, valV (ks.zip vs) k = some v ∧ dval ks ds k = some d ∧ RepT K H S hot j v d) ∨ (valV (ks.zip vs) k = none ∧ dval ks ds k = none)
  | [], _, _, _ => .inr ⟨by simp [valV], by simp [dval]⟩
  | q :: ks, _, _, .nil _ => .inr ⟨by simp [valV], by simp [dval]⟩
  | q :: ks, _, _, .cons h hs => by
    by_cases e : q = k
    · exact .inl ⟨_, _, by rw [List.zip_cons_cons, valV_pos e], by simp [dval, e], h⟩
    · have ih := rep_val k (ks := ks) hs
      rw [List.zip_cons_cons, valV_neg e]
      have e2 : ∀ (d : D) (ds : List D), dval (q :: ks) (d :: ds) k = dval ks ds k := fun d ds => by simp [dval, e]
      rw [e2]
      exact ih
theorem Reps.map_if {K : PySem.W.Frag} {H : Hp} {hot : List Addr} {v : V} {d : D} (k : List L2.Key) (r : Rep K H hot 0 v d []) : ∀ {ks : List (List L2.Key)} {vs : List V} {ds : List D} {A : List Addr}, Reps K H hot 0 vs ds A → Reps K H hot 0 ((ks.zip vs).map fun p => if p.1 = k then v else p.2) ((ks.zip ds).map fun p => if p.1 = k then d else p.2) []
  | [], _, _, _, _ => .nil 0
  | _ :: _, _, _, _, .nil _ => .nil 0
  | q :: ks, _, _, _, .cons h hs => by
    rw [List.zip_cons_cons, List.zip_cons_cons, List.map_cons, List.map_cons]
    have e := h.zero
    subst e
    refine Reps.cons (A := []) ?_ (Reps.map_if k r hs)
    by_cases e : q = k
    · simp only [e, if_true]; exact r
    · simp only [e, if_false]; exact h
theorem Reps.snoc0 {K : PySem.W.Frag} {H : Hp} {hot : List Addr} {v : V} {d : D} (r : Rep K H hot 0 v d []) : ∀ {vs : List V} {ds : List D} {A : List Addr}, Reps K H hot 0 vs ds A → Reps K H hot 0 (vs ++ [v]) (ds ++ [d]) []
  | _, _, _, .nil _ => Reps.cons (A := []) r (.nil 0)
  | _, _, _, .cons h hs => by
    have e := h.zero
    subst e
    exact Reps.cons (A := []) h (Reps.snoc0 r hs)
theorem Reps.dput {K : PySem.W.Frag} {H : Hp} {hot : List Addr} {v : V} {d : D} {ks : List (List L2.Key)} {vs : List V} {ds : List D} {A : List Addr} (k : List L2.Key) (h : Reps K H hot 0 vs ds A) (r : Rep K H hot 0 v d []) : Reps K H hot 0 (dputV ks vs k v) (dputV ks ds k d) [] := by
  unfold dputV
  split
  · exact Reps.map_if k r h
  · exact Reps.snoc0 r h
end Ly

set_option Elab.async false
set_option linter.all false
set_option maxRecDepth 100000
set_option maxHeartbeats 2000000
/-! Operators, calls of built-ins, subscripts: what they give, over states. -/
namespace Ly
open PySem PySem.Spec PyProof.Rows L2
section
variable {K : PySem.W.Frag} {EX : Addr → Nat → Prop} {H0 H : Hp} {S : List Addr} {ts t1 : List Tm} {σ : L2.St} {r : Env}

theorem RepT.int_eq {S hot : List Addr} {j : Nat} {v : V} {i : Int} (h : RepT K H S hot j v (.int i)) : v = .int i := by cases h; rfl
theorem RepT.str_eq {S hot : List Addr} {j : Nat} {v : V} {i : Str} (h : RepT K H S hot j v (.str i)) : v = .str i := by cases h; rfl
theorem RepT.bl_eq {S hot : List Addr} {j : Nat} {v : V} {i : Bool} (h : RepT K H S hot j v (.bl i)) : v = .bl i := by cases h; rfl
theorem RepT.non_eq {S hot : List Addr} {j : Nat} {v : V} (h : RepT K H S hot j v .non) : v = .non := by cases h; rfl
theorem RepT.tup_ex {S hot : List Addr} {j : Nat} {v : V} {ds : List D} (h : RepT K H S hot j v (.tup ds)) : ∃ a vs, v = .ref a ∧ SqT K H a vs ∧ RepTs K H S hot (j - 1) vs ds := by
  cases h with
  | tup h hs => exact ⟨_, _, rfl, h.sq, hs⟩
theorem RepT.tup_exF {S hot : List Addr} {j : Nat} {v : V} {ds : List D} (h : RepT K H S hot j v (.tup ds)) : ∃ a vs, v = .ref a ∧ TupF K H a vs ∧ RepTs K H S hot (j - 1) vs ds := by
  cases h with
  | tup h hs => exact ⟨_, _, rfl, h, hs⟩
theorem RepT.lst_ex {S hot : List Addr} {j : Nat} {v : V} {ds : List D} (h : RepT K H S hot j v (.lst ds)) : ∃ a vs, v = .ref a ∧ SqL K H a vs ∧ RepTs K H S hot (j - 1) vs ds := by
  cases h with
  | lst0 h hs => exact ⟨_, _, rfl, h.seq, hs⟩
  | lstS h hs => exact ⟨_, _, rfl, h.seq, hs⟩
theorem RepTs.length {S hot : List Addr} {j : Nat} : ∀ {vs : List V} {ds : List D}, RepTs K H S hot j vs ds → vs.length = ds.length
  | _, _, .nil _ => rfl
  | _, _, .cons _ hs => by rw [List.length_cons, List.length_cons, RepTs.length hs]
theorem RepTs.append {S hot : List Addr} {j : Nat} : ∀ {vs ws : List V} {ds es : List D}, RepTs K H S hot j vs ds → RepTs K H S hot j ws es → RepTs K H S hot j (vs ++ ws) (ds ++ es)
  | _, _, _, _, .nil _, h => h
  | _, _, _, _, .cons h hs, h2 => .cons h (RepTs.append hs h2)
theorem RepTs.take {S hot : List Addr} {j : Nat} : ∀ {vs : List V} {ds : List D} (n : Nat), RepTs K H S hot j vs ds → RepTs K H S hot j (vs.take n) (ds.take n)
  | _, _, 0, _ => .nil j
  | _, _, _ + 1, .nil _ => .nil j
  | _, _, n + 1, .cons h hs => .cons h (RepTs.take n hs)
theorem RepTs.drop {S hot : List Addr} {j : Nat} : ∀ {vs : List V} {ds : List D} (n : Nat), RepTs K H S hot j vs ds → RepTs K H S hot j (vs.drop n) (ds.drop n)
  | _, _, 0, h => h
  | _, _, _ + 1, .nil _ => .nil j
  | _, _, n + 1, .cons h hs => RepTs.drop n hs
theorem RepTs.get {S hot : List Addr} {j : Nat} : ∀ {vs : List V} {ds : List D} {n : Nat} {d : D}, RepTs K H S hot j vs ds → ds[n]? = some d → ∃ v, vs[n]? = some v ∧ RepT K H S hot j v d
  | _, _, _, _, .nil _, e => by simp at e
  | _, _, 0, _, .cons h _, e => by simp at e; subst e; exact ⟨_, rfl, h⟩
  | _, _, n + 1, _, .cons _ hs, e => by
    obtain ⟨v, e1, h⟩ := RepTs.get (n := n) hs (by simpa using e)
    exact ⟨v, by simpa using e1, h⟩
theorem lmulB_ok {k : Int} {n : Nat} (h : lmulB k n = true) : -(2 ^ 63) ≤ k ∧ k < 2 ^ 63 ∧ n * k.toNat ≤ LN := by
  unfold lmulB at h
  rw [Bool.and_eq_true] at h
  have h1 := of_decide_eq_true h.1
  have h2 := of_decide_eq_true h.2
  refine ⟨by omega, by omega, Nat.le_trans (Nat.mul_le_mul_left n (by omega)) h2⟩
theorem RepTs.rep {S hot : List Addr} {j : Nat} {vs : List V} {ds : List D} (h : RepTs K H S hot j vs ds) : ∀ k : Nat, RepTs K H S hot j (List.replicate k vs).flatten (List.replicate k ds).flatten
  | 0 => .nil j
  | k + 1 => by
    rw [List.replicate_succ, List.replicate_succ, List.flatten_cons, List.flatten_cons]
    exact RepTs.append h (RepTs.rep h k)
theorem RepTs.cut {S hot : List Addr} {j : Nat} {vs : List V} {ds : List D} (h : RepTs K H S hot j vs ds) (lo hi : Option Int) : RepTs K H S hot j (cutV vs lo hi) (cutD ds lo hi) := by
  unfold cutV cutD
  rw [h.length]
  exact (h.drop _).take _
theorem RepTs.ints {S hot : List Addr} {j : Nat} : ∀ {vs : List V} {ds : List D} {is : List Int}, RepTs K H S hot j vs ds → asInts ds = some is → vs = is.map V.int
  | _, _, is, .nil _, e => by simp [asInts] at e; subst e; rfl
  | _, _, is, .cons (d := d) h hs, e => by
    cases d with
    | int i =>
      simp only [asInts, Option.map_eq_some_iff] at e
      obtain ⟨js, e1, rfl⟩ := e
      rw [h.int_eq, RepTs.ints hs e1]
      rfl
    | _ => simp [asInts] at e
theorem RepTs.bls {S hot : List Addr} {j : Nat} : ∀ {vs : List V} {ds : List D} {is : List Bool}, RepTs K H S hot j vs ds → asBls ds = some is → vs = is.map V.bl
  | _, _, is, .nil _, e => by simp [asBls] at e; subst e; rfl
  | _, _, is, .cons (d := d) h hs, e => by
    cases d with
    | bl i =>
      simp only [asBls, Option.map_eq_some_iff] at e
      obtain ⟨js, e1, rfl⟩ := e
      rw [h.bl_eq, RepTs.bls hs e1]
      rfl
    | _ => simp [asBls] at e

theorem Sta.peek {v : V} {j : Nat} {d : D} (st : Sta K EX H0 S (.brw v j d :: ts) σ r H) : ∃ hot, RepT K H S hot j v d := by
  obtain ⟨_, _, A, B, _, _, hT, _⟩ := st
  cases hT with
  | cons h hs =>
    cases h with
    | brw h => exact ⟨_, h⟩
theorem Sta.peek2 {v w : V} {i j : Nat} {d e : D} (st : Sta K EX H0 S (.brw w j e :: .brw v i d :: ts) σ r H) : ∃ hot, RepT K H S hot i v d ∧ RepT K H S hot j w e := by
  obtain ⟨_, _, A, B, _, _, hT, _⟩ := st
  cases hT with
  | cons h hs =>
    cases h with
    | brw h =>
      cases hs with
      | cons h2 hs2 =>
        cases h2 with
        | brw h2 => exact ⟨_, h2, h⟩
theorem Sta.peeks {vs : List V} {j : Nat} {ds : List D} (st : Sta K EX H0 S (.brws vs j ds :: ts) σ r H) : ∃ hot, RepTs K H S hot j vs ds := by
  obtain ⟨_, _, A, B, _, _, hT, _⟩ := st
  cases hT with
  | cons h hs =>
    cases h with
    | brws h => exact ⟨_, h⟩
/-- what hangs on no list of one's own is put on top -/
theorem Sta.push0 {v : V} {d : D} (st : Sta K EX H0 S ts σ r H) (h : ∀ hot, Rep K H hot 0 v d []) : Sta K EX H0 S (.own v 0 d :: ts) σ r H :=
  Sta.step (t1 := []) (t2 := [.own v 0 d]) st (Same.refl H) fun hot A1 nd sub dom hS q => ⟨[], .nil, fun _ z => (by simp at z), fun hot' h1 h2 h3 h4 => .mk1 (.own (h hot'))⟩
theorem same_upd {p : Addr} {o : HO} (h : H p = none) : Same H (upd H p o) := fun b x e => by
  rw [upd_ne (ne_of_none e h)]
  exact e
/-- a new list of what is nobody's own -/
theorem Sta.newL {p : Addr} {vs : List V} {ds : List D} (st : Sta K EX H0 S (t1 ++ ts) σ r H) (hp : H p = none) (f : ∀ hot A1, Tms K H S hot t1 A1 → RepTs K H S hot 0 vs ds) :
    Sta K EX H0 S (.own (.ref p) 1 (.lst ds) :: ts) σ r (upd H p (.lst vs)) :=
  Sta.step (t1 := t1) (t2 := [.own (.ref p) 1 (.lst ds)]) st (same_upd hp) fun hot A1 nd sub dom hS q => by
    refine ⟨[p], by simp, fun a ha => .inr (by simp at ha; subst ha; exact hp), fun hot' h1 h2 h3 h4 => .mk1 (.own ?_)⟩
    have e := (f hot A1 q).frame (H' := upd H p (.lst vs)) (X := []) (S' := S) (hot' := hot') (fun a _ o e => same_upd hp a o e) (fun _ z => (by simp at z)) (fun _ z => (by simp at z)) hS
      (fun a ha => (h1 a ha).imp id fun z => by simp at z; subst z; exact hp) (fun a ha => .inl ha)
    have e2 := e.zero
    exact .lstS upd_same e2
theorem Sta.newT {p : Addr} {vs : List V} {ds : List D} (st : Sta K EX H0 S (t1 ++ ts) σ r H) (hp : H p = none) (f : ∀ hot A1, Tms K H S hot t1 A1 → RepTs K H S hot 0 vs ds) :
    Sta K EX H0 S (.own (.ref p) 0 (.tup ds) :: ts) σ r (upd H p (.tup vs)) :=
  Sta.step (t1 := t1) (t2 := [.own (.ref p) 0 (.tup ds)]) st (same_upd hp) fun hot A1 nd sub dom hS q => by
    refine ⟨[], by simp, fun a ha => (by simp at ha), fun hot' h1 h2 h3 h4 => .mk1 (.own ?_)⟩
    have e := (f hot A1 q).frame (H' := upd H p (.tup vs)) (X := []) (S' := S) (hot' := hot') (fun a _ o e => same_upd hp a o e) (fun _ z => (by simp at z)) (fun _ z => (by simp at z)) hS
      (fun a ha => (h1 a ha).imp id fun z => by simp at z) (fun a ha => .inl ha)
    exact .tup (.inl upd_same) e.zero
/-- what is read is read on -/
theorem Sta.same0 {v : V} {d : D} (st : Sta K EX H0 S (t1 ++ ts) σ r H) (f : ∀ hot A1, Tms K H S hot t1 A1 → RepT K H S hot 0 v d) : Sta K EX H0 S (.own v 0 d :: ts) σ r H :=
  Sta.step (t1 := t1) (t2 := [.own v 0 d]) st (Same.refl H) fun hot A1 nd sub dom hS q => by
    refine ⟨[], by simp, fun a ha => (by simp at ha), fun hot' h1 h2 h3 h4 => .mk1 (.own ?_)⟩
    exact ((f hot A1 q).less hS fun a ha => (h1 a ha).elim id fun z => by simp at z).zero
theorem Tms.brw2 {S hot : List Addr} {v w : V} {i j : Nat} {d e : D} {A : List Addr} (q : Tms K H S hot [.brw w j e, .brw v i d] A) : RepT K H S hot i v d ∧ RepT K H S hot j w e := by
  obtain ⟨A1, A2, _, h1, h2⟩ := q.two
  cases h1 with
  | brw h1 =>
    cases h2 with
    | brw h2 => exact ⟨h2, h1⟩
theorem Tms.brw1 {S hot : List Addr} {v : V} {i : Nat} {d : D} {A : List Addr} (q : Tms K H S hot [.brw v i d] A) : RepT K H S hot i v d := by
  have h := q.one
  cases h with
  | brw h => exact h
theorem Tms.brws1 {S hot : List Addr} {vs : List V} {i : Nat} {ds : List D} {A : List Addr} (q : Tms K H S hot [.brws vs i ds] A) : RepTs K H S hot i vs ds := by
  have h := q.one
  cases h with
  | brws h => exact h
theorem sqL_inj0 {a : Addr} {xs ys : List V} (h1 : SqL K H a xs) (h2 : SqL K H a ys) (I : ∀ {xs ys}, SqL K H a xs → SqL K H a ys → xs = ys) : xs = ys := I h1 h2
end

section
variable {X : Cx} {EX : Addr → Nat → Prop}
def rSBin (K : PySem.W.Frag) (EX : Addr → Nat → Prop) (o : Bo) : R2 := fun x y H Q => ∃ H0 S ts σ r dx dy l z, Sta K EX H0 S (.brw y 1 dy :: .brw x 1 dx :: ts) σ r H ∧ binop o dx dy = some (l, z) ∧ ∀ v H', Sta K EX H0 S (.own v l z :: ts) σ r H' → Q v H'
def opOf : Bo → Operator
  | .add => .Add
  | .sub => .Sub
  | .mul => .Mult
  | .div => .FloorDiv
  | .mod => .Mod
  | .pow => .Pow
theorem ln_eq : (LN : Nat) = sizeLine := by rw [sizeLine_eq]
theorem pow_bound {i : Int} (h : i.natAbs < 2 ^ 64) : -(2 ^ 64) < i ∧ i < 2 ^ 64 := by omega
theorem op_bin (o : Bo) : OpR X (binaryOp (opOf o)) (rSBin X.K EX o) := by
  intro pins s σ H x y v u Q I rx ry h
  obtain ⟨H0, S, ts, σ', r, dx, dy, l, z, st, e, q⟩ := h
  obtain ⟨hot, h1, h2⟩ := st.peek2
  have scal : ∀ w d, (∀ hot, Rep X.K H hot 0 w d []) → l = 0 → z = d → Q w H := fun w d f e1 e2 => by
    subst e1; subst e2
    exact q w H (st.pop.pop.push0 f)
  cases o with
  | add =>
    cases dx <;> cases dy <;> simp only [binop, reduceCtorEq] at e
    · rename_i i j
      cases e
      rw [h1.int_eq] at rx
      rw [h2.int_eq] at ry
      exact op_add pins s σ H _ _ v u Q I rx ry ⟨i, j, rfl, rfl, scal _ _ (fun _ => .int 0 _) rfl rfl⟩
    · rename_i i j
      split at e
      · rename_i hz
        cases e
        rw [h1.str_eq] at rx
        rw [h2.str_eq] at ry
        exact op_add_str pins s σ H _ _ v u Q I rx ry ⟨i, j, rfl, rfl, by rw [← ln_eq]; exact hz, scal _ _ (fun _ => .str 0 _) rfl rfl⟩
      · cases e
    · rename_i as bs
      split at e
      · rename_i hz
        cases e
        obtain ⟨a, vs, rfl, ha, hs⟩ := h1.tup_ex
        obtain ⟨b, ws, rfl, hb, ks⟩ := h2.tup_ex
        have e1 := hs.length
        have e2 := ks.length
        refine op_catA pins s σ H _ _ v u Q I rx ry ⟨a, b, vs, ws, rfl, rfl, ha, hb, by rw [e1, e2, ← ln_eq]; exact hz, fun ev => ?_, fun _ ew => ?_, fun _ _ p hp => ?_⟩
        · subst ev
          have : as = [] := List.eq_nil_of_length_eq_zero (by rw [← e1]; rfl)
          subst this
          exact q _ H (Sta.same0 (t1 := [_, _]) st fun hot A q => by rw [List.nil_append]; exact (by
            obtain ⟨_, g2⟩ := q.brw2
            obtain ⟨b', ws', eb, hb', ks'⟩ := g2.tup_exF
            cases eb
            exact .tup hb' ks'))
        · subst ew
          have : bs = [] := List.eq_nil_of_length_eq_zero (by rw [← e2]; rfl)
          subst this
          exact q _ H (Sta.same0 (t1 := [_, _]) st fun hot A q => by rw [List.append_nil]; exact (by
            obtain ⟨g1, _⟩ := q.brw2
            obtain ⟨b', ws', eb, hb', ks'⟩ := g1.tup_exF
            cases eb
            exact .tup hb' ks'))
        · refine q _ _ (Sta.newT (t1 := [_, _]) st hp fun hot A q => ?_)
          obtain ⟨g1, g2⟩ := q.brw2
          obtain ⟨_, _, e3, k1, k2⟩ := g1.tup_ex
          obtain ⟨_, _, e4, k3, k4⟩ := g2.tup_ex
          cases e3
          cases e4
          rw [I.tuple_inj ha k1, I.tuple_inj hb k3]
          exact k2.append k4
      · cases e
    · rename_i as bs
      split at e
      · rename_i hz
        cases e
        obtain ⟨a, vs, rfl, ha, hs⟩ := h1.lst_ex
        obtain ⟨b, ws, rfl, hb, ks⟩ := h2.lst_ex
        have e1 := hs.length
        have e2 := ks.length
        refine op_catL pins s σ H _ _ v u Q I rx ry ⟨a, b, vs, ws, rfl, rfl, ha, hb, by rw [e1, e2, ← ln_eq]; exact hz, fun p hp => ?_⟩
        refine q _ _ (Sta.newL (t1 := [_, _]) st hp fun hot A q => ?_)
        obtain ⟨g1, g2⟩ := q.brw2
        obtain ⟨_, _, e3, k1, k2⟩ := g1.lst_ex
        obtain ⟨_, _, e4, k3, k4⟩ := g2.lst_ex
        cases e3
        cases e4
        rw [I.list_inj ha k1, I.list_inj hb k3]
        exact k2.append k4
      · cases e
  | sub =>
    cases dx <;> cases dy <;> simp only [binop, reduceCtorEq] at e
    rename_i i j
    cases e
    rw [h1.int_eq] at rx
    rw [h2.int_eq] at ry
    exact op_sub pins s σ H _ _ v u Q I rx ry ⟨i, j, rfl, rfl, scal _ _ (fun _ => .int 0 _) rfl rfl⟩
  | mul =>
    cases dx <;> cases dy <;> simp only [binop, reduceCtorEq] at e
    · rename_i i j
      split at e
      · rename_i hz
        cases e
        rw [h1.int_eq] at rx
        rw [h2.int_eq] at ry
        have fin := scal (.int (i * j)) (.int (i * j)) (fun _ => .int 0 _) rfl rfl
        rcases hz with hz | hz | ⟨hz1, hz2⟩
        · exact op_mul pins s σ H _ _ v u Q I rx ry ⟨i, j, rfl, rfl, .inl (pow_bound hz), fin⟩
        · exact op_mul pins s σ H _ _ v u Q I rx ry ⟨i, j, rfl, rfl, .inr (pow_bound hz), fin⟩
        · exact op_mulW pins s σ H _ _ v u Q I rx ry ⟨i, j, rfl, rfl, wide_mul hz1 hz2 (by decide) (by decide) (by decide), fin⟩
      · cases e
    · rename_i as k
      split at e
      · rename_i hz
        cases e
        obtain ⟨a, vs, rfl, ha, hs⟩ := h1.tup_ex
        rw [h2.int_eq] at ry
        have e1 := hs.length
        refine op_repT pins s σ H _ _ v u Q I rx ry ⟨a, k, vs, rfl, rfl, ha, fun ev => hz.1 (List.eq_nil_of_length_eq_zero (by rw [← e1, ev]; rfl)), hz.2.1, hz.2.2.1, by rw [e1]; exact hz.2.2.2, fun p hp => ?_⟩
        refine q _ _ (Sta.newT (t1 := [_, _]) st hp fun hot A q => ?_)
        obtain ⟨g1, g2⟩ := q.brw2
        obtain ⟨_, _, e3, k1, k2⟩ := g1.tup_ex
        cases e3
        rw [I.tuple_inj ha k1]
        exact k2.rep _
      · split at e
        · rename_i hk
          cases e
          obtain ⟨a, vs, rfl, ha, hs⟩ := h1.tup_ex
          rw [h2.int_eq, hk] at ry
          exact op_repT1 pins s σ H _ _ v u Q I rx ry ⟨a, vs, rfl, rfl, ha, q _ H (Sta.same0 (t1 := [_, _]) st fun hot A q => (by
            obtain ⟨g1, _⟩ := q.brw2
            obtain ⟨_, _, e3, k1, k2⟩ := g1.tup_exF
            cases e3
            exact .tup k1 k2))⟩
        · cases e
    · rename_i as k
      split at e
      · rename_i hz
        cases e
        obtain ⟨a, vs, rfl, ha, hs⟩ := h1.lst_ex
        rw [h2.int_eq] at ry
        refine op_repL pins s σ H _ _ v u Q I rx ry ⟨a, k, vs, rfl, rfl, ha, (lmulB_ok hz).1, (lmulB_ok hz).2.1, by rw [hs.length, ← ln_eq]; exact (lmulB_ok hz).2.2, fun p hp => ?_⟩
        refine q _ _ (Sta.newL (t1 := [_, _]) st hp fun hot A q => ?_)
        obtain ⟨g1, g2⟩ := q.brw2
        obtain ⟨_, _, e3, k1, k2⟩ := g1.lst_ex
        cases e3
        rw [I.list_inj ha k1]
        exact k2.rep _
      · cases e
  | div =>
    cases dx <;> cases dy <;> simp only [binop, reduceCtorEq] at e
    rename_i i j
    split at e
    · rename_i hz
      cases e
      rw [h1.int_eq] at rx
      rw [h2.int_eq] at ry
      exact op_fdivW pins s σ H _ _ v u Q I rx ry ⟨i, j, rfl, rfl, wide_div hz.1 hz.2 (by decide) (by decide), scal _ _ (fun _ => .int 0 _) rfl rfl⟩
    · cases e
  | mod =>
    cases dx <;> cases dy <;> simp only [binop, reduceCtorEq] at e
    rename_i i j
    split at e
    · rename_i hz
      cases e
      rw [h1.int_eq] at rx
      rw [h2.int_eq] at ry
      exact op_mod pins s σ H _ _ v u Q I rx ry ⟨i, j, rfl, rfl, hz, scal _ _ (fun _ => .int 0 _) rfl rfl⟩
    · cases e
  | pow =>
    cases dx <;> cases dy <;> simp only [binop, reduceCtorEq] at e
    rename_i i j
    split at e
    · rename_i hz
      cases e
      rw [h1.int_eq] at rx
      rw [h2.int_eq] at ry
      exact op_pow pins s σ H _ _ v u Q I rx ry ⟨i, j, rfl, rfl, hz, scal _ _ (fun _ => .int 0 _) rfl rfl⟩
    · cases e

def cmpOf : Co → CmpOp
  | .eq => .Eq
  | .ne => .NotEq
  | .lt => .Lt
  | .le => .LtE
  | .gt => .Gt
  | .ge => .GtE
  | .isn => .Is
  | .nisn => .IsNot
  | .inn => .In
  | .nin => .NotIn
def rSCmp (K : PySem.W.Frag) (c : Co) : R2 := fun x y H Q => ∃ S hot dx dy z, RepT K H S hot 9 x dx ∧ RepT K H S hot 9 y dy ∧ cmpop c dx dy = some z ∧ Q (.bl z) H
theorem shaped_of {d e : D} (h : (okd d && okd e) = true) : SeqAt.shaped d.pd = true ∧ SeqAt.shaped e.pd = true := by
  rw [Bool.and_eq_true] at h
  exact ⟨okd_shaped h.1, okd_shaped h.2⟩
theorem any_pds (x : D) : ∀ ds : List D, (pds ds).any (fun z => PyData.eqv z x.pd) = ds.any fun z => eqd z x
  | [] => rfl
  | d :: ds => by
    show (PyData.eqv d.pd x.pd || (pds ds).any _) = _
    rw [any_pds x ds]
    rfl
theorem nilC_ex {x y : D} (h : nilC x y = true) : ∃ d ds, x = .lst (d :: ds) ∧ y = .lst [] := by
  unfold nilC at h
  split at h
  · exact ⟨_, _, rfl, rfl⟩
  · cases h
theorem nil_lists {pins : List (Addr × Obj)} {s : Shared} {σ : L2.St} {H : Hp} {K : PySem.W.Frag} (I : Inv X pins σ H s) {S hot : List Addr} {x y : V} {v u : Value} {d : D} {ds : List D} (h1 : RepT X.K H S hot 9 x (.lst (d :: ds))) (h2 : RepT X.K H S hot 9 y (.lst [])) (rx : RelV x v) (ry : RelV y u) :
    ∃ (l b : Addr) (i1 i2 : Array Value), v = .ref l ∧ u = .ref b ∧ s.heap.IsList l i1 ∧ s.heap.IsList b i2 ∧ (i1.size != i2.size) = true := by
  have g : ∀ {z : V} {es : List D}, RepT X.K H S hot 9 z (.lst es) → ∃ a vs, z = .ref a ∧ SqL X.K H a vs ∧ vs.length = es.length := by
    intro z es h
    cases h with
    | lstS h hs => exact ⟨_, _, rfl, h.seq, RepTs.length hs⟩
  obtain ⟨a, vs, rfl, q1, e1⟩ := g h1
  obtain ⟨b, ws, rfl, q2, e2⟩ := g h2
  cases (show v = Value.ref a from rx)
  cases (show u = Value.ref b from ry)
  obtain ⟨i1, r1, p1, _⟩ := I.list q1
  obtain ⟨i2, r2, p2, _⟩ := I.list q2
  refine ⟨a, b, _, _, rfl, rfl, p1.isList, p2.isList, ?_⟩
  have l1 := r1.length
  have l2 := r2.length
  simp only [List.length_cons, List.length_nil] at e1 e2
  simp only [List.size_toArray, bne_iff_ne, ne_eq]
  omega
theorem op_cmp (hu : X.A.units + 65 < cLine) (c : Co) : OpR X (compareOp (cmpOf c)) (rSCmp X.K c) := by
  intro pins s σ H x y v u Q I rx ry h
  obtain ⟨S, hot, dx, dy, z, h1, h2, e, q⟩ := h
  cases c with
  | eq =>
    simp only [cmpop] at e
    split at e
    · rename_i hk
      cases e
      obtain ⟨s1, s2⟩ := shaped_of hk
      rw [Bool.and_eq_true] at hk
      exact op_eqD (by omega) pins s σ H x y v u Q I rx ry ⟨dx.pd, dy.pd, h1.dp hk.1, h2.dp hk.2, s1, s2, q⟩
    · split at e
      · rename_i hk
        cases e
        obtain ⟨d, ds, rfl, rfl⟩ := nilC_ex hk
        obtain ⟨l, b, i1, i2, rfl, rfl, p1, p2, p3⟩ := nil_lists (K := X.K) I h1 h2 rx ry
        exact SeqAt.RcAt.lists_lengths p1 p2 p3 (by omega) X.prog X.w _ _ ⟨.bl false, H, I, rfl, q⟩
      · cases e
  | ne =>
    simp only [cmpop] at e
    split at e
    · rename_i hk
      cases e
      obtain ⟨s1, s2⟩ := shaped_of hk
      rw [Bool.and_eq_true] at hk
      exact op_neD (by omega) pins s σ H x y v u Q I rx ry ⟨dx.pd, dy.pd, h1.dp hk.1, h2.dp hk.2, s1, s2, q⟩
    · split at e
      · rename_i hk
        cases e
        obtain ⟨d, ds, rfl, rfl⟩ := nilC_ex hk
        obtain ⟨l, b, i1, i2, rfl, rfl, p1, p2, p3⟩ := nil_lists (K := X.K) I h1 h2 rx ry
        exact SeqAt.RcNeAt.lists_lengths p1 p2 p3 (by omega) X.prog X.w _ _ ⟨.bl true, H, I, rfl, q⟩
      · cases e
  | lt =>
    cases dx <;> cases dy <;> simp only [cmpop, reduceCtorEq] at e
    cases e
    rw [h1.int_eq] at rx
    rw [h2.int_eq] at ry
    exact op_lt pins s σ H _ _ v u Q I rx ry ⟨_, _, rfl, rfl, q⟩
  | le =>
    cases dx <;> cases dy <;> simp only [cmpop, reduceCtorEq] at e
    cases e
    rw [h1.int_eq] at rx
    rw [h2.int_eq] at ry
    exact op_le pins s σ H _ _ v u Q I rx ry ⟨_, _, rfl, rfl, q⟩
  | gt =>
    cases dx <;> cases dy <;> simp only [cmpop, reduceCtorEq] at e
    cases e
    rw [h1.int_eq] at rx
    rw [h2.int_eq] at ry
    exact op_gt pins s σ H _ _ v u Q I rx ry ⟨_, _, rfl, rfl, q⟩
  | ge =>
    cases dx <;> cases dy <;> simp only [cmpop, reduceCtorEq] at e
    cases e
    rw [h1.int_eq] at rx
    rw [h2.int_eq] at ry
    exact op_ge pins s σ H _ _ v u Q I rx ry ⟨_, _, rfl, rfl, q⟩
  | isn =>
    cases dy <;> simp only [cmpop, reduceCtorEq] at e
    cases e
    rw [h2.non_eq] at ry
    refine op_isN pins s σ H _ _ v u Q I rx ry ⟨rfl, ?_⟩
    cases h1 <;> exact q
  | nisn =>
    cases dy <;> simp only [cmpop, reduceCtorEq] at e
    cases e
    rw [h2.non_eq] at ry
    refine op_notN pins s σ H _ _ v u Q I rx ry ⟨rfl, ?_⟩
    cases h1 <;> exact q
  | inn =>
    cases dy <;> simp only [cmpop, reduceCtorEq] at e
    · rename_i b
      cases dx <;> simp only [reduceCtorEq] at e
      cases e
      rw [h1.str_eq] at rx
      rw [h2.str_eq] at ry
      exact op_in_str pins s σ H _ _ v u Q I rx ry ⟨_, _, rfl, rfl, q⟩
    · rename_i ds
      split at e
      · rename_i hk
        cases e
        obtain ⟨s1, s2⟩ := shaped_of hk
        rw [Bool.and_eq_true] at hk
        exact op_inDT hu pins s σ H x y v u Q I rx ry ⟨dx.pd, pds ds, h1.dp hk.1, h2.dp hk.2, s1, s2, by rw [any_pds]; exact q⟩
      · cases e
    · rename_i ds
      split at e
      · rename_i hk
        cases e
        obtain ⟨s1, s2⟩ := shaped_of hk
        rw [Bool.and_eq_true] at hk
        exact op_inD hu pins s σ H x y v u Q I rx ry ⟨dx.pd, pds ds, h1.dp hk.1, h2.dp hk.2, s1, s2, by rw [any_pds]; exact q⟩
      · cases e
  | nin =>
    cases dy <;> simp only [cmpop, reduceCtorEq] at e
    · rename_i b
      cases dx <;> simp only [reduceCtorEq] at e
      cases e
      rw [h1.str_eq] at rx
      rw [h2.str_eq] at ry
      exact op_notIn_str pins s σ H _ _ v u Q I rx ry ⟨_, _, rfl, rfl, q⟩
    · rename_i ds
      split at e
      · rename_i hk
        cases e
        obtain ⟨s1, s2⟩ := shaped_of hk
        rw [Bool.and_eq_true] at hk
        exact op_notInDT hu pins s σ H x y v u Q I rx ry ⟨dx.pd, pds ds, h1.dp hk.1, h2.dp hk.2, s1, s2, by rw [any_pds]; exact q⟩
      · cases e
    · rename_i ds
      split at e
      · rename_i hk
        cases e
        obtain ⟨s1, s2⟩ := shaped_of hk
        rw [Bool.and_eq_true] at hk
        exact op_notInD hu pins s σ H x y v u Q I rx ry ⟨dx.pd, pds ds, h1.dp hk.1, h2.dp hk.2, s1, s2, by rw [any_pds]; exact q⟩
      · cases e

/-- a subscript: the item stands for the item -/
def rSIx (K : PySem.W.Frag) (j : Nat) : R2 := fun x y H Q => ∃ S hot dx dy z, RepT K H S hot (j + 1) x dx ∧ RepT K H S hot 9 y dy ∧ ixop dx dy = some z ∧ ∀ v, (∀ hot, RepT K H S hot (j + 1) x dx → RepT K H S hot j v z) → Q v H
theorem atI_rep {K : PySem.W.Frag} {H : Hp} {S hot : List Addr} {j : Nat} {vs : List V} {ds : List D} {i : Int} {z : D} (hs : RepTs K H S hot j vs ds) (e : atD ds i = some z) : ∃ v, atI vs i = some v ∧ RepT K H S hot j v z := by
  unfold atD atI at e
  unfold atI
  rw [hs.length]
  cases hi : ixN ds.length i with
  | none => rw [hi] at e; cases e
  | some n =>
    rw [hi] at e
    exact hs.get e
theorem ix_sem (j : Nat) : IxR X (rSIx X.K j) := by
  intro value slice pins s σ H x y v u Q I rx ry h hs
  obtain ⟨S, hot, dx, dy, z, h1, h2, e, q⟩ := h
  cases dy <;> cases dx <;> simp only [ixop, reduceCtorEq] at e
  · rename_i i a
    split at e
    · rename_i hz
      rw [Option.map_eq_some_iff] at e
      obtain ⟨c, e1, rfl⟩ := e
      rw [h1.str_eq] at rx
      rw [h2.int_eq] at ry
      exact ix_str value slice pins s σ H _ _ v u Q I rx ry ⟨a, i, c, rfl, rfl, by rw [← ln_eq]; exact hz, e1, q _ fun _ _ => .str j _⟩ hs
    · cases e
  · rename_i i ds
    obtain ⟨a, vs, rfl, ha, ks⟩ := h1.tup_ex
    rw [h2.int_eq] at ry
    obtain ⟨w, e1, _⟩ := atI_rep ks e
    refine ix_tup value slice pins s σ H _ _ v u Q I rx ry ⟨a, vs, i, w, rfl, rfl, ha, e1, q w fun hot g => ?_⟩ hs
    obtain ⟨_, vs', e3, k1, k2⟩ := g.tup_ex
    cases e3
    rw [I.tuple_inj ha k1] at e1
    obtain ⟨w', e4, k3⟩ := atI_rep k2 e
    rw [e1] at e4
    cases e4
    exact k3
  · rename_i i ds
    obtain ⟨a, vs, rfl, ha, ks⟩ := h1.lst_ex
    rw [h2.int_eq] at ry
    obtain ⟨w, e1, _⟩ := atI_rep ks e
    refine ix_list value slice pins s σ H _ _ v u Q I rx ry ⟨a, vs, i, w, rfl, rfl, ha, e1, q w fun hot g => ?_⟩ hs
    obtain ⟨_, vs', e3, k1, k2⟩ := g.lst_ex
    cases e3
    rw [I.list_inj ha k1] at e1
    obtain ⟨w', e4, k3⟩ := atI_rep k2 e
    rw [e1] at e4
    cases e4
    exact k3
end
end Ly

set_option Elab.async false
set_option linter.all false
set_option maxRecDepth 100000
set_option maxHeartbeats 2000000
/-! Built-ins, slices, isinstance. -/
namespace Ly
open PySem PySem.Spec PyProof.Rows L2
section
variable {X : Cx} {EX : Addr → Nat → Prop}
def rSSl (K : PySem.W.Frag) (EX : Addr → Nat → Prop) : V → Option Int → Option Int → Hp → VK → Prop := fun x lo hi H Q => ∃ H0 S ts σ r dx l z, Sta K EX H0 S (.brw x 1 dx :: ts) σ r H ∧ slop dx lo hi = some (l, z) ∧ ∀ v H', Sta K EX H0 S (.own v l z :: ts) σ r H' → Q v H'
theorem cutD_all {α : Type} {xs : List α} {lo hi : Option Int} (h : HT.sIx xs.length 0 lo = 0 ∧ HT.sIx xs.length xs.length hi = xs.length) : cutD xs lo hi = xs := by
  unfold cutD
  rw [h.1, h.2]
  simp
theorem sl_sem : SlR X (rSSl X.K EX) := by
  intro pins s σ H x v vl vu lo hi sl Q I rx hs pl pu h
  obtain ⟨H0, S, ts, σ', r, dx, l, z, st, e, q⟩ := h
  obtain ⟨hot, h1⟩ := st.peek
  cases dx <;> simp only [slop, reduceCtorEq] at e
  · rename_i a
    split at e
    · rename_i hz
      cases e
      rw [h1.str_eq] at rx
      exact sl_str pins s σ H _ v vl vu lo hi sl Q I rx hs pl pu ⟨a, rfl, by rw [← ln_eq]; exact hz, q _ H (st.pop.push0 fun _ => .str 0 _)⟩
    · cases e
  · rename_i ds
    cases e
    obtain ⟨a, vs, rfl, ha, ks⟩ := h1.tup_ex
    refine sl_tupA pins s σ H _ v vl vu lo hi sl Q I rx hs pl pu ⟨a, vs, rfl, ha, fun hw => ?_, fun hw p hp => ?_⟩
    · rw [ks.length] at hw
      rw [cutD_all hw] at q
      exact q _ H (Sta.same0 (t1 := [_]) st fun hot A q => q.brw1.tup_exF.elim fun _ ⟨_, e3, k1, k2⟩ => by cases e3; exact .tup k1 k2)
    · refine q _ _ (Sta.newT (t1 := [_]) st hp fun hot A q => ?_)
      obtain ⟨_, _, e3, k1, k2⟩ := q.brw1.tup_ex
      cases e3
      rw [I.tuple_inj ha k1]
      exact k2.cut lo hi
  · rename_i ds
    cases e
    obtain ⟨a, vs, rfl, ha, ks⟩ := h1.lst_ex
    refine sl_list pins s σ H _ v vl vu lo hi sl Q I rx hs pl pu ⟨a, vs, rfl, ha, fun p hp => ?_⟩
    refine q _ _ (Sta.newL (t1 := [_]) st hp fun hot A q => ?_)
    obtain ⟨_, _, e3, k1, k2⟩ := q.brw1.lst_ex
    cases e3
    rw [I.list_inj ha k1]
    exact k2.cut lo hi

def Bi.name : Bi → Str
  | .len => "len"
  | .tuple => "tuple"
  | .list => "list"
  | .int => "int"
  | .bool => "bool"
  | .max2 => "max"
  | .min2 => "min"
  | .max1 => "max"
  | .min1 => "min"
  | .maxd => "max"
  | .sum => "sum"
  | .all => "all"
  | .any => "any"
  | .sorted => "sorted"
  | .str => "str"
def Bi.val : Bi → Value
  | .len => .builtin "len"
  | .tuple => .type "tuple"
  | .list => .type "list"
  | .int => .type "int"
  | .bool => .type "bool"
  | .max2 => .builtin "max"
  | .min2 => .builtin "min"
  | .max1 => .builtin "max"
  | .min1 => .builtin "min"
  | .maxd => .builtin "max"
  | .sum => .builtin "sum"
  | .all => .builtin "all"
  | .any => .builtin "any"
  | .sorted => .builtin "sorted"
  | .str => .type "str"
/-- may be asked within an except suite -/
def Bi.cold : Bi → Bool
  | .len => true
  | .tuple => true
  | .list => true
  | .int => true
  | .bool => true
  | .str => true
  | _ => false
theorem Bi.boot (f : Bi) : bootBuiltins f.name = some f.val := by
  cases f <;> first
    | exact PySem.boot_len
    | exact PyProof.Rows.boot_max
    | exact PyProof.Rows.boot_min
    | exact PyProof.Rows.boot_sum
    | exact PyProof.Rows.boot_all
    | exact PyProof.Rows.boot_any
    | exact PyProof.Rows.boot_sorted
    | exact PyProof.Rows.boot_tuple
    | exact PyProof.Rows.boot_list
    | exact PyProof.Rows.boot_int
    | exact PyProof.Rows.boot_bool
    | exact PyProof.Rows.boot_str
    | decide +kernel
theorem fold_max : ∀ (xs : List Int) (x : Int), (xs.foldl (fun a b => if b > a then b else a) x = x ∨ xs.foldl (fun a b => if b > a then b else a) x ∈ xs) ∧ x ≤ xs.foldl (fun a b => if b > a then b else a) x ∧ ∀ y ∈ xs, y ≤ xs.foldl (fun a b => if b > a then b else a) x
  | [], x => ⟨.inl rfl, Int.le_refl _, by simp⟩
  | y :: xs, x => by
    rw [List.foldl_cons]
    obtain ⟨h1, h2, h3⟩ := fold_max xs (if y > x then y else x)
    have e1 : y ≤ (if y > x then y else x) := by split <;> omega
    have e2 : x ≤ (if y > x then y else x) := by split <;> omega
    refine ⟨?_, Int.le_trans e2 h2, fun z hz => ?_⟩
    · rcases h1 with h1 | h1
      · rw [h1]
        split
        · exact .inr List.mem_cons_self
        · exact .inl rfl
      · exact .inr (List.mem_cons_of_mem _ h1)
    · rcases List.mem_cons.mp hz with rfl | hz
      · exact Int.le_trans e1 h2
      · exact h3 z hz
theorem fold_min : ∀ (xs : List Int) (x : Int), (xs.foldl (fun a b => if b < a then b else a) x = x ∨ xs.foldl (fun a b => if b < a then b else a) x ∈ xs) ∧ xs.foldl (fun a b => if b < a then b else a) x ≤ x ∧ ∀ y ∈ xs, xs.foldl (fun a b => if b < a then b else a) x ≤ y
  | [], x => ⟨.inl rfl, Int.le_refl _, by simp⟩
  | y :: xs, x => by
    rw [List.foldl_cons]
    obtain ⟨h1, h2, h3⟩ := fold_min xs (if y < x then y else x)
    have e1 : (if y < x then y else x) ≤ y := by split <;> omega
    have e2 : (if y < x then y else x) ≤ x := by split <;> omega
    refine ⟨?_, Int.le_trans h2 e2, fun z hz => ?_⟩
    · rcases h1 with h1 | h1
      · rw [h1]
        split
        · exact .inr List.mem_cons_self
        · exact .inl rfl
      · exact .inr (List.mem_cons_of_mem _ h1)
    · rcases List.mem_cons.mp hz with rfl | hz
      · exact Int.le_trans h2 e1
      · exact h3 z hz
theorem maxOr_spec {d : Int} {is : List Int} (h : is ≠ []) : maxOr d is ∈ is ∧ ∀ y ∈ is, y ≤ maxOr d is := by
  cases is with
  | nil => exact absurd rfl h
  | cons x xs =>
    obtain ⟨h1, h2, h3⟩ := fold_max xs x
    refine ⟨?_, fun y hy => ?_⟩
    · rcases h1 with h1 | h1
      · exact List.mem_cons.mpr (.inl h1)
      · exact List.mem_cons_of_mem _ h1
    · rcases List.mem_cons.mp hy with rfl | hy
      · exact h2
      · exact h3 y hy
theorem minOr_spec {d : Int} {is : List Int} (h : is ≠ []) : minOr d is ∈ is ∧ ∀ y ∈ is, minOr d is ≤ y := by
  cases is with
  | nil => exact absurd rfl h
  | cons x xs =>
    obtain ⟨h1, h2, h3⟩ := fold_min xs x
    refine ⟨?_, fun y hy => ?_⟩
    · rcases h1 with h1 | h1
      · exact List.mem_cons.mpr (.inl h1)
      · exact List.mem_cons_of_mem _ h1
    · rcases List.mem_cons.mp hy with rfl | hy
      · exact h2
      · exact h3 y hy
def rSBlt (K : PySem.W.Frag) (EX : Addr → Nat → Prop) (f : Bi) : List V → Hp → VK → Prop := fun vs H Q => ∃ H0 S ts σ r ds l z, Sta K EX H0 S (.brws vs 1 ds :: ts) σ r H ∧ bltop f ds = some (l, z) ∧ ∀ v H', Sta K EX H0 S (.own v l z :: ts) σ r H' → Q v H'
theorem RepTs.one_ex {K : PySem.W.Frag} {H : Hp} {S hot : List Addr} {j : Nat} {vs : List V} {d : D} (h : RepTs K H S hot j vs [d]) : ∃ v, vs = [v] ∧ RepT K H S hot j v d := by
  cases h with
  | cons h hs =>
    cases hs
    exact ⟨_, rfl, h⟩
theorem RepTs.two_ex {K : PySem.W.Frag} {H : Hp} {S hot : List Addr} {j : Nat} {vs : List V} {d e : D} (h : RepTs K H S hot j vs [d, e]) : ∃ v w, vs = [v, w] ∧ RepT K H S hot j v d ∧ RepT K H S hot j w e := by
  cases h with
  | cons h hs =>
    obtain ⟨w, rfl, h2⟩ := hs.one_ex
    exact ⟨_, _, rfl, h, h2⟩
theorem insI_perm (x : Int) : ∀ l : List Int, (insI x l).Perm (x :: l)
  | [] => .refl _
  | y :: ys => by
    rw [insI]
    split
    · exact .refl _
    · exact ((insI_perm x ys).cons y).trans (.swap x y ys)
theorem sortI_perm : ∀ l : List Int, (sortI l).Perm l
  | [] => .refl _
  | x :: l => (insI_perm x (sortI l)).trans ((sortI_perm l).cons x)
theorem insI_pw (x : Int) : ∀ l : List Int, l.Pairwise (· ≤ ·) → (insI x l).Pairwise (· ≤ ·)
  | [], _ => by simp [insI]
  | y :: ys, h => by
    rw [insI]
    have h1 := List.pairwise_cons.mp h
    split
    · rename_i hxy
      refine List.pairwise_cons.mpr ⟨fun z hz => ?_, h⟩
      rcases List.mem_cons.mp hz with rfl | hz
      · exact hxy
      · exact Int.le_trans hxy (h1.1 z hz)
    · rename_i hxy
      refine List.pairwise_cons.mpr ⟨fun z hz => ?_, insI_pw x ys h1.2⟩
      rcases List.mem_cons.mp ((insI_perm x ys).mem_iff.mp hz) with rfl | hz
      · omega
      · exact h1.1 z hz
theorem sortI_pw : ∀ l : List Int, (sortI l).Pairwise (· ≤ ·)
  | [] => .nil
  | x :: l => insI_pw x _ (sortI_pw l)
theorem sort_uniq : ∀ a b : List Int, a.Perm b → a.Pairwise (· ≤ ·) → b.Pairwise (· ≤ ·) → a = b
  | [], b, h, _, _ => (List.nil_perm.mp h).symm
  | x :: a, [], h, _, _ => absurd h.length_eq (by simp)
  | x :: a, y :: b, h, p, q => by
    have hp := List.pairwise_cons.mp p
    have hq := List.pairwise_cons.mp q
    have e : x = y := by
      have h1 : y ≤ x := by
        rcases List.mem_cons.mp (h.mem_iff.mp (List.mem_cons_self (a := x))) with e | hm
        · omega
        · exact hq.1 x hm
      have h2 : x ≤ y := by
        rcases List.mem_cons.mp (h.mem_iff.mpr (List.mem_cons_self (a := y))) with e | hm
        · omega
        · exact hp.1 y hm
      omega
    subst e
    rw [sort_uniq a b (List.Perm.cons_inv h) hp.2 hq.2]
theorem ints_rep {K : PySem.W.Frag} {H : Hp} {S hot : List Addr} {j : Nat} : ∀ is : List Int, RepTs K H S hot j (is.map V.int) (is.map D.int)
  | [] => .nil j
  | i :: is => .cons (.int j i) (ints_rep is)
theorem call_blt (f : Bi) (hm : f ≠ .maxd) (hc : f.cold = true ∨ X.calm = true) : CallR X f.val (rSBlt X.K EX f) := by
  intro pins s σ H vs us Q I rv h
  obtain ⟨H0, S, ts, σ', r, ds, l, z, st, e, q⟩ := h
  obtain ⟨hot, h1⟩ := st.peeks
  have scal : ∀ w d, (∀ hot, Rep X.K H hot 0 w d []) → l = 0 → z = d → Q w H := fun w d g e1 e2 => by
    subst e1; subst e2
    exact q w H (st.pop.push0 g)
  have one : ∀ d, ds = [d] → ∃ v, vs = [v] ∧ RepT X.K H S hot 1 v d := fun d e => by subst e; exact h1.one_ex
  have two : ∀ d d', ds = [d, d'] → ∃ v w, vs = [v, w] ∧ RepT X.K H S hot 1 v d ∧ RepT X.K H S hot 1 w d' := fun d d' e => by subst e; exact h1.two_ex
  unfold bltop at e
  split at e
  · rename_i ds'
    cases e
    obtain ⟨v, rfl, g⟩ := one _ rfl
    obtain ⟨a, ws, rfl, ha, ks⟩ := g.lst_ex
    exact call_len_seq pins s σ H _ us Q I rv ⟨a, ws, rfl, .inl ha, scal _ _ (fun _ => .int 0 _) rfl (by rw [ks.length])⟩
  · rename_i ds'
    cases e
    obtain ⟨v, rfl, g⟩ := one _ rfl
    obtain ⟨a, ws, rfl, ha, ks⟩ := g.tup_ex
    exact call_len_seq pins s σ H _ us Q I rv ⟨a, ws, rfl, .inr ha, scal _ _ (fun _ => .int 0 _) rfl (by rw [ks.length])⟩
  · split at e
    · rename_i hz
      cases e
      obtain ⟨v, rfl, g⟩ := one _ rfl
      rw [g.str_eq] at rv
      exact call_len_str pins s σ H _ us Q I rv ⟨_, rfl, by rw [← ln_eq]; exact hz, scal _ _ (fun _ => .int 0 _) rfl rfl⟩
    · cases e
  · rename_i ds'
    cases e
    obtain ⟨v, rfl, g⟩ := one _ rfl
    obtain ⟨a, ws, rfl, ha, ks⟩ := g.lst_ex
    refine call_tuple_of pins s σ H _ us Q I rv ⟨a, ws, rfl, .inl ⟨ha, fun p hp => q _ _ (Sta.newT (t1 := [_]) st hp fun hot A q => ?_)⟩⟩
    obtain ⟨v', e1, g'⟩ := q.brws1.one_ex
    cases e1
    obtain ⟨_, _, e3, k1, k2⟩ := g'.lst_ex
    cases e3
    rw [I.list_inj ha k1]
    exact k2
  · rename_i ds'
    cases e
    obtain ⟨v, rfl, g⟩ := one _ rfl
    obtain ⟨a, ws, rfl, ha, ks⟩ := g.tup_ex
    refine call_tuple_of pins s σ H _ us Q I rv ⟨a, ws, rfl, .inr ⟨ha, q _ _ (Sta.same0 (t1 := [_]) st fun hot A q => ?_)⟩⟩
    obtain ⟨v', e1, g'⟩ := q.brws1.one_ex
    cases e1
    obtain ⟨_, _, e3, k1, k2⟩ := g'.tup_exF
    cases e3
    exact .tup k1 k2
  · rename_i ds'
    cases e
    obtain ⟨v, rfl, g⟩ := one _ rfl
    obtain ⟨a, ws, rfl, ha, ks⟩ := g.lst_ex
    refine call_list_of pins s σ H _ us Q I rv ⟨a, ws, rfl, .inl ha, fun p hp => q _ _ (Sta.newL (t1 := [_]) st hp fun hot A q => ?_)⟩
    obtain ⟨v', e1, g'⟩ := q.brws1.one_ex
    cases e1
    obtain ⟨_, _, e3, k1, k2⟩ := g'.lst_ex
    cases e3
    rw [I.list_inj ha k1]
    exact k2
  · rename_i ds'
    cases e
    obtain ⟨v, rfl, g⟩ := one _ rfl
    obtain ⟨a, ws, rfl, ha, ks⟩ := g.tup_ex
    refine call_list_of pins s σ H _ us Q I rv ⟨a, ws, rfl, .inr ha, fun p hp => q _ _ (Sta.newL (t1 := [_]) st hp fun hot A q => ?_)⟩
    obtain ⟨v', e1, g'⟩ := q.brws1.one_ex
    cases e1
    obtain ⟨_, _, e3, k1, k2⟩ := g'.tup_ex
    cases e3
    rw [I.tuple_inj ha k1]
    exact k2
  · cases e
    obtain ⟨v, rfl, g⟩ := one _ rfl
    rw [g.int_eq] at rv
    exact call_int1 pins s σ H _ us Q I rv (.inl ⟨_, rfl, scal _ _ (fun _ => .int 0 _) rfl rfl⟩)
  · cases e
    obtain ⟨v, rfl, g⟩ := one _ rfl
    rw [g.bl_eq] at rv
    exact call_int1 pins s σ H _ us Q I rv (.inr ⟨_, rfl, scal _ _ (fun _ => .int 0 _) rfl rfl⟩)
  · cases e
    obtain ⟨v, rfl, g⟩ := one _ rfl
    rw [g.int_eq] at rv
    exact call_bool1 pins s σ H _ us Q I rv (.inl ⟨_, rfl, scal _ _ (fun _ => .bl 0 _) rfl rfl⟩)
  · cases e
    obtain ⟨v, rfl, g⟩ := one _ rfl
    rw [g.bl_eq] at rv
    exact call_bool1 pins s σ H _ us Q I rv (.inr ⟨_, rfl, scal _ _ (fun _ => .bl 0 _) rfl rfl⟩)
  · cases e
    obtain ⟨v, w, rfl, g, g'⟩ := two _ _ rfl
    rw [g.int_eq, g'.int_eq] at rv
    exact call_max2 (hc.resolve_left (by simp [Bi.cold])) pins s σ H _ us Q I rv ⟨_, _, rfl, scal _ _ (fun _ => .int 0 _) rfl rfl⟩
  · cases e
    obtain ⟨v, w, rfl, g, g'⟩ := two _ _ rfl
    rw [g.int_eq, g'.int_eq] at rv
    exact call_min2 (hc.resolve_left (by simp [Bi.cold])) pins s σ H _ us Q I rv ⟨_, _, rfl, scal _ _ (fun _ => .int 0 _) rfl rfl⟩
  · rw [Option.bind_eq_some_iff] at e
    obtain ⟨is, e1, e2⟩ := e
    split at e2
    · cases e2
    · rename_i hne
      cases e2
      obtain ⟨v, rfl, g⟩ := one _ rfl
      obtain ⟨a, ws, rfl, ha, ks⟩ := g.lst_ex
      rw [ks.ints e1] at ha
      have hn : is ≠ [] := fun z => hne (by rw [z]; rfl)
      refine cr_max (hc.resolve_left (by simp [Bi.cold])) pins s σ H _ us Q I rv ⟨a, is, rfl, ha, List.length_pos_iff.mpr hn, fun m hm1 hm2 => ?_⟩
      obtain ⟨k1, k2⟩ := maxOr_spec (d := 0) hn
      have em : m = maxOr 0 is := by have := hm2 _ k1; have := k2 m hm1; omega
      rw [em]
      exact scal _ _ (fun _ => .int 0 _) rfl rfl
  · rw [Option.bind_eq_some_iff] at e
    obtain ⟨is, e1, e2⟩ := e
    split at e2
    · cases e2
    · rename_i hne
      cases e2
      obtain ⟨v, rfl, g⟩ := one _ rfl
      obtain ⟨a, ws, rfl, ha, ks⟩ := g.lst_ex
      rw [ks.ints e1] at ha
      have hn : is ≠ [] := fun z => hne (by rw [z]; rfl)
      refine cr_min (hc.resolve_left (by simp [Bi.cold])) pins s σ H _ us Q I rv ⟨a, is, rfl, ha, List.length_pos_iff.mpr hn, fun m hm1 hm2 => ?_⟩
      obtain ⟨k1, k2⟩ := minOr_spec (d := 0) hn
      have em : m = minOr 0 is := by have := hm2 _ k1; have := k2 m hm1; omega
      rw [em]
      exact scal _ _ (fun _ => .int 0 _) rfl rfl
  · exact absurd rfl hm
  · rw [Option.map_eq_some_iff] at e
    obtain ⟨is, e1, e2⟩ := e
    cases e2
    obtain ⟨v, rfl, g⟩ := one _ rfl
    obtain ⟨a, ws, rfl, ha, ks⟩ := g.lst_ex
    rw [ks.ints e1] at ha
    exact cr_sum (hc.resolve_left (by simp [Bi.cold])) pins s σ H _ us Q I rv ⟨a, is, rfl, ha, scal _ _ (fun _ => .int 0 _) rfl rfl⟩
  · rw [Option.map_eq_some_iff] at e
    obtain ⟨is, e1, e2⟩ := e
    cases e2
    obtain ⟨v, rfl, g⟩ := one _ rfl
    obtain ⟨a, ws, rfl, ha, ks⟩ := g.lst_ex
    rw [ks.bls e1] at ha
    exact cr_all (hc.resolve_left (by simp [Bi.cold])) pins s σ H _ us Q I rv ⟨a, is, rfl, ha, scal _ _ (fun _ => .bl 0 _) rfl rfl⟩
  · rw [Option.map_eq_some_iff] at e
    obtain ⟨is, e1, e2⟩ := e
    cases e2
    obtain ⟨v, rfl, g⟩ := one _ rfl
    obtain ⟨a, ws, rfl, ha, ks⟩ := g.lst_ex
    rw [ks.bls e1] at ha
    exact cr_any (hc.resolve_left (by simp [Bi.cold])) pins s σ H _ us Q I rv ⟨a, is, rfl, ha, scal _ _ (fun _ => .bl 0 _) rfl rfl⟩
  · rw [Option.map_eq_some_iff] at e
    obtain ⟨is, e1, e2⟩ := e
    cases e2
    obtain ⟨v, rfl, g⟩ := one _ rfl
    obtain ⟨a, ws, rfl, ha, ks⟩ := g.lst_ex
    rw [ks.ints e1] at ha
    refine cr_sortedI pins s σ H _ us Q I rv ⟨a, is, rfl, ha, fun ns' p h1 h2 hp => ?_⟩
    obtain rfl : ns' = sortI is := sort_uniq _ _ (h1.trans (sortI_perm is).symm) h2 (sortI_pw is)
    exact q _ _ (Sta.newL (t1 := [_]) st hp fun hot A q => ints_rep _)
  · split at e
    · rename_i hz
      cases e
      obtain ⟨v, rfl, g⟩ := one _ rfl
      rw [g.int_eq] at rv
      exact call_str_int pins s σ H _ us Q I rv ⟨_, rfl, hz, scal _ _ (fun _ => .str 0 _) rfl rfl⟩
    · cases e
  · cases e

def tyD : D → Option String
  | .non => some "NoneType"
  | .bl _ => some "bool"
  | .int _ => some "int"
  | .str _ => some "str"
  | .tup _ => some "tuple"
  | .lst _ => some "list"
  | _ => none
def Ty.name : Ty → String
  | .tuple => "tuple"
  | .int => "int"
  | .bool => "bool"
  | .str => "str"
  | .list => "list"
theorem isaop_kit {d : D} {t : Ty} {b : Bool} (h : isaop d t = some b) : ∃ n, tyD d = some n ∧ kitB n t.name = some b := by
  cases d <;> cases t <;> simp only [isaop, reduceCtorEq, Option.some.injEq] at h <;> subst h <;> exact ⟨_, rfl, by decide +kernel⟩
theorem RepT.tyX {K : PySem.W.Frag} {H : Hp} {S hot : List Addr} {j : Nat} {v : V} {d : D} {n : String} (h : RepT K H S hot j v d) (e : tyD d = some n) : TyX K H v (.type n) := by
  have lst : ∀ {a : Addr} {vs : List V}, SqL K H a vs → TyX K H (.ref a) (.type "list") := fun {a vs} h => by
    rcases h with (h | ⟨o, h⟩) | ⟨o, its, m, h1, h2, _⟩
    · exact .base (.lst h)
    · exact .base (.frz h)
    · exact .kList h1 h2
  cases h with
  | non => cases e; exact .base .non
  | bl => cases e; exact .base (.bl _)
  | int => cases e; exact .base (.int _)
  | str => cases e; exact .base (.str _)
  | tup h hs =>
    cases e
    rcases h.sq with (h | ⟨o, h⟩) | ⟨o, its, m, h1, h2, _⟩
    · exact .base (.tup h)
    · exact .fTuple h
    · exact .kTuple h1 h2
  | lst0 h hs => cases e; exact lst h.seq
  | lstS h hs => cases e; exact lst h.seq
  | dic0 => simp [tyD] at e
  | dicS => simp [tyD] at e
end
end Ly

set_option Elab.async false
set_option linter.all false
set_option maxRecDepth 100000
set_option maxHeartbeats 2000000
/-! The program's own syntax tree against ours. -/
namespace Ly
open PySem PySem.Spec PyProof.Rows L2

/-- the names of the defs, of the error classes (and which stands under which), the constants of the top -/
structure Cfg where
  fns : List Str
  exs : List Str
  gls : List (Str × D)
  sub : Nat → Nat → Bool
  nown : Nat
  /-- which defs may be called with fewer arguments, and what fills up -/
  dfl : List (Nat × List Str)
def Cfg.G (C : Cfg) (g : Nat) : Option D := (C.gls[g]?).map (·.2)

/-! ### taking syntax apart -/
def dName : Expr → Option Str
  | .Name x _ => some x
  | _ => none
theorem dName_eq {e : Expr} {x : Str} (h : dName e = some x) : ∃ p, e = .Name x p := by
  unfold dName at h; split at h <;> first | (cases h; exact ⟨_, rfl⟩) | cases h
def dConst : Expr → Option Const
  | .Constant c _ _ => some c
  | _ => none
theorem dConst_eq {e : Expr} {x : Const} (h : dConst e = some x) : ∃ k p, e = .Constant x k p := by
  unfold dConst at h; split at h <;> first | (cases h; exact ⟨_, _, rfl⟩) | cases h
def dBin : Expr → Option (Expr × Operator × Expr)
  | .BinOp a o b _ => some (a, o, b)
  | _ => none
theorem dBin_eq {e a b : Expr} {o : Operator} (h : dBin e = some (a, o, b)) : ∃ p, e = .BinOp a o b p := by
  unfold dBin at h; split at h <;> first | (cases h; exact ⟨_, rfl⟩) | cases h
def dUn : Expr → Option (UnaryOp × Expr)
  | .UnaryOp o a _ => some (o, a)
  | _ => none
theorem dUn_eq {e a : Expr} {o : UnaryOp} (h : dUn e = some (o, a)) : ∃ p, e = .UnaryOp o a p := by
  unfold dUn at h; split at h <;> first | (cases h; exact ⟨_, rfl⟩) | cases h
def dCmp : Expr → Option (Expr × CmpOp × Expr)
  | .Compare a [o] [b] _ => some (a, o, b)
  | _ => none
theorem dCmp_eq {e a b : Expr} {o : CmpOp} (h : dCmp e = some (a, o, b)) : ∃ p, e = .Compare a [o] [b] p := by
  unfold dCmp at h; split at h <;> first | (cases h; exact ⟨_, rfl⟩) | cases h
def dCmp2 : Expr → Option (Expr × CmpOp × Expr × CmpOp × Expr)
  | .Compare a [o, o'] [b, c] _ => some (a, o, b, o', c)
  | _ => none
theorem dCmp2_eq {e a b c : Expr} {o o' : CmpOp} (h : dCmp2 e = some (a, o, b, o', c)) : ∃ p, e = .Compare a [o, o'] [b, c] p := by
  unfold dCmp2 at h; split at h <;> first | (cases h; exact ⟨_, rfl⟩) | cases h
def dBool : Expr → Option (BoolOp × List Expr)
  | .BoolOp o xs _ => some (o, xs)
  | _ => none
theorem dBool_eq {e : Expr} {o : BoolOp} {xs : List Expr} (h : dBool e = some (o, xs)) : ∃ p, e = .BoolOp o xs p := by
  unfold dBool at h; split at h <;> first | (cases h; exact ⟨_, rfl⟩) | cases h
def dIf : Expr → Option (Expr × Expr × Expr)
  | .IfExp a b c _ => some (a, b, c)
  | _ => none
theorem dIf_eq {e a b c : Expr} (h : dIf e = some (a, b, c)) : ∃ p, e = .IfExp a b c p := by
  unfold dIf at h; split at h <;> first | (cases h; exact ⟨_, rfl⟩) | cases h
def dTup : Expr → Option (List Expr)
  | .Tuple xs _ _ => some xs
  | _ => none
theorem dTup_eq {e : Expr} {xs : List Expr} (h : dTup e = some xs) : ∃ k p, e = .Tuple xs k p := by
  unfold dTup at h; split at h <;> first | (cases h; exact ⟨_, _, rfl⟩) | cases h
def dLst : Expr → Option (List Expr)
  | .List xs _ => some xs
  | _ => none
theorem dLst_eq {e : Expr} {xs : List Expr} (h : dLst e = some xs) : ∃ p, e = .List xs p := by
  unfold dLst at h; split at h <;> first | (cases h; exact ⟨_, rfl⟩) | cases h
def dSub : Expr → Option (Expr × Expr)
  | .Subscript a b _ => some (a, b)
  | _ => none
theorem dSub_eq {e a b : Expr} (h : dSub e = some (a, b)) : ∃ p, e = .Subscript a b p := by
  unfold dSub at h; split at h <;> first | (cases h; exact ⟨_, rfl⟩) | cases h
def dSlice : Expr → Option (Option Expr × Option Expr)
  | .Slice a b none _ => some (a, b)
  | _ => none
theorem dSlice_eq {e : Expr} {a b : Option Expr} (h : dSlice e = some (a, b)) : ∃ p, e = .Slice a b none p := by
  unfold dSlice at h; split at h <;> first | (cases h; exact ⟨_, rfl⟩) | cases h
/-- e[::-1] -/
def dRev : Expr → Option Expr
  | .Subscript e (.Slice none none (some (.UnaryOp .USub (.Constant (.int 1) _ _) _)) _) _ => some e
  | _ => none
theorem dRev_eq {e x : Expr} (h : dRev e = some x) : ∃ k p1 p2 p3 p, e = .Subscript x (.Slice none none (some (.UnaryOp .USub (.Constant (.int 1) k p1) p2)) p3) p := by
  unfold dRev at h; split at h <;> first | (cases h; exact ⟨_, _, _, _, _, rfl⟩) | cases h
/-- {} -/
def isD0 : Expr → Bool
  | .Dict [] [] _ => true
  | _ => false
theorem isD0_eq {e : Expr} (h : isD0 e = true) : ∃ p, e = .Dict [] [] p := by
  unfold isD0 at h; split at h <;> first | exact ⟨_, rfl⟩ | cases h
/-- e[a::b] -/
def dStep : Expr → Option (Expr × Expr × Expr)
  | .Subscript e (.Slice (some a) none (some b) _) _ => some (e, a, b)
  | _ => none
theorem dStep_eq {e x a b : Expr} (h : dStep e = some (x, a, b)) : ∃ p3 p, e = .Subscript x (.Slice (some a) none (some b) p3) p := by
  unfold dStep at h; split at h <;> first | (cases h; exact ⟨_, _, rfl⟩) | cases h
/-- a call of a name with one argument at least, no keywords -/
def dCall : Expr → Option (Str × Expr × List Expr)
  | .Call (.Name x _) (a :: as) [] _ => some (x, a, as)
  | _ => none
theorem dCall_eq {e a : Expr} {x : Str} {as : List Expr} (h : dCall e = some (x, a, as)) : ∃ p q, e = .Call (.Name x p) (a :: as) [] q := by
  unfold dCall at h; split at h <;> first | (cases h; exact ⟨_, _, rfl⟩) | cases h
/-- f(a, k = b) -/
def dCallK : Expr → Option (Str × Expr × Str × Expr)
  | .Call (.Name x _) [a] [⟨some k, b, _⟩] _ => some (x, a, k, b)
  | _ => none
theorem dCallK_eq {e a b : Expr} {x k : Str} (h : dCallK e = some (x, a, k, b)) : ∃ p q u, e = .Call (.Name x p) [a] [⟨some k, b, u⟩] q := by
  unfold dCallK at h; split at h <;> first | (cases h; exact ⟨_, _, _, rfl⟩) | cases h
/-- y.m(x) -/
def dMeth : Expr → Option (Str × Str × Expr)
  | .Call (.Attribute (.Name y _) m p2) [x] [] p3 => if p2.endLine == p3.line then some (y, m, x) else none
  | _ => none
theorem dMeth_eq {e x : Expr} {y m : Str} (h : dMeth e = some (y, m, x)) : ∃ p1 p2 p3, e = .Call (.Attribute (.Name y p1) m p2) [x] [] p3 ∧ (p2.endLine == p3.line) = true := by
  unfold dMeth at h
  split at h
  · split at h
    · cases h; exact ⟨_, _, _, rfl, by assumption⟩
    · cases h
  · cases h
/-- [elt for t in it if ..] -/
def dComp : Expr → Option (Expr × Expr × Expr × List Expr × Scope)
  | .ListComp e [⟨t, i, f, 0⟩] s _ => some (e, t, i, f, s)
  | _ => none
theorem dComp_eq {e x t i : Expr} {f : List Expr} {s : Scope} (h : dComp e = some (x, t, i, f, s)) : ∃ p, e = .ListComp x [⟨t, i, f, 0⟩] s p := by
  unfold dComp at h; split at h <;> first | (cases h; exact ⟨_, rfl⟩) | cases h

def visB (sc : Scope) (x : Str) : Bool := match sc.names.lookup x with
  | some .local => true
  | some .cell => true
  | some .free => true
  | _ => false
def locB (sc : Scope) (x : Str) : Bool := match sc.names.lookup x with
  | some .local => true
  | some .cell => true
  | _ => false
def glB (sc : Scope) (x : Str) : Bool := match sc.names.lookup x with
  | some .globalImplicit => true
  | _ => false
def dbg (x : Str) : Bool := !(x == ("__debug__" : Str))
def mVar (N : List Str) (sc : Scope) (i : Nat) (x : Str) : Bool := decide (N[i]? = some x) && visB sc x && dbg x && !(x == ("__classdict__" : Str))
def mK : D → Const → Bool
  | .non, .none => true
  | .bl a, .bool b => a == b
  | .int a, .int b => decide (a = b)
  | .str a, .str b => decide (a = b)
  | _, _ => false
def mLoc (N : List Str) (sc : Scope) (i : Nat) (e : Expr) : Bool := match dName e with
  | some x => decide (N[i]? = some x) && locB sc x
  | none => false
def mLocs (N : List Str) (sc : Scope) : List Nat → List Expr → Bool
  | [], [] => true
  | i :: js, e :: es => mLoc N sc i e && mLocs N sc js es
  | _, _ => false
def mTg (N : List Str) (sc : Scope) : Tg → Expr → Bool
  | .name i, e => mLoc N sc i e
  | .tup js, e => match dTup e with
    | some es => mLocs N sc js es
    | none => false
def isTupE : Expr → Bool
  | .Tuple _ _ _ => true
  | _ => false
def Ty.word : Ty → Str
  | .tuple => "tuple"
  | .int => "int"
  | .bool => "bool"
  | .str => "str"
  | .list => "list"
def ownOf (N : List Str) (js : List Nat) : List (Str × Nat) := js.map fun i => (N.getD i "", i)

/-- -1 -/
def isM1 : Expr → Bool
  | .UnaryOp .USub (.Constant (.int 1) _ _) _ => true
  | _ => false
theorem isM1_eq {e : Expr} (h : isM1 e = true) : ∃ k p q, e = .UnaryOp .USub (.Constant (.int 1) k p) q := by
  unfold isM1 at h; split at h <;> first | exact ⟨_, _, _, rfl⟩ | cases h
/-- names of error classes -/
def mCls (C : Cfg) (sc : Scope) : List Nat → List Expr → Bool
  | [], [] => true
  | k :: ks, t :: ts => (match dName t with
    | some T => decide (C.exs[k]? = some T) && glB sc T && dbg T
    | none => false) && mCls C sc ks ts
  | _, _ => false
section
variable (C : Cfg) (cal : Bool) (N : List Str)
mutual
def mE (sc : Scope) : E → Expr → Bool
  | .var i, e => match dName e with
    | some x => mVar N sc i x
    | none => false
  | .mv i, e => match dName e with
    | some x => mVar N sc i x
    | none => false
  | .cst d, e => match dConst e with
    | some c => mK d c
    | none => false
  | .glb g, e => match dName e, C.gls[g]? with
    | some x, some p => decide (p.1 = x) && glB sc x && dbg x
    | _, _ => false
  | .bin o a b, e => match dBin e with
    | some (x, op, y) => decide (op = opOf o) && mE sc a x && mE sc b y
    | none => false
  | .neg a, e => match dUn e with
    | some (op, x) => decide (op = .USub) && mE sc a x
    | none => false
  | .not a, e => match dUn e with
    | some (op, x) => decide (op = .Not) && mE sc a x
    | none => false
  | .cmp c a b, e => match dCmp e with
    | some (x, op, y) => decide (op = cmpOf c) && mE sc a x && mE sc b y
    | none => false
  | .chain c c' a b u, e => match dCmp2 e with
    | some (x, op, y, op', z) => decide (op = cmpOf c) && decide (op' = cmpOf c') && mE sc a x && mE sc b y && mE sc u z
    | none => false
  | .bop isAnd es, e => match dBool e with
    | some (op, xs) => decide (op = if isAnd then .And else .Or) && mEs sc es xs
    | none => false
  | .ife c a b, e => match dIf e with
    | some (x, y, z) => mE sc c x && mE sc a y && mE sc b z
    | none => false
  | .tup _ es, e => match dTup e with
    | some xs => mEs sc es xs && decide (es.len ≤ 1000)
    | none => false
  | .lst _ es, e => match dLst e with
    | some xs => mEs sc es xs && decide (es.len ≤ 1000)
    | none => false
  | .ix a k, e => match dSub e with
    | some (x, y) => mE sc a x && mE sc k y
    | none => false
  | .sl a lo hi, e => match dSub e with
    | some (x, y) => (match dSlice y with
      | some (l, u) => mE sc a x && mEo sc lo l && mEo sc hi u
      | none => false)
    | none => false
  | .rev a, e => match dRev e with
    | some x => mE sc a x
    | none => false
  | .stp a b c, e => match dStep e with
    | some (x, y, z) => mE sc a x && mE sc b y && mE sc c z
    | none => false
  | .dnew _, e => isD0 e
  | .din neg k a, e => match dCmp e with
    | some (x, op, y) => decide (op = if neg then .NotIn else .In) && mE sc k x && mE sc a y
    | none => false
  | .dix a k, e => match dSub e with
    | some (x, y) => mE sc a x && mE sc k y
    | none => false
  | .dgt a k, e => match dMeth e with
    | some (y, m, x) => decide (m = "get") && (match a with
      | .var i => mVar N sc i y
      | _ => false) && mE sc k x
    | none => false
  | .sset a, e => match dCall e with
    | some (x, y, []) => cal && decide (x = "sorted") && glB sc x && (match dCall y with
      | some (u, z, []) => decide (u = "set") && glB sc u && mE sc a z
      | _ => false)
    | _ => false
  | .lrg a, e => match dCall e with
    | some (x, y, []) => cal && decide (x = "list") && glB sc x && (match dCall y with
      | some (u, z, []) => decide (u = "range") && glB sc u && mE sc a z
      | _ => false)
    | _ => false
  | .lrgd a b, e => match dCall e with
    | some (x, y, []) => cal && decide (x = "list") && glB sc x && (match dCall y with
      | some (u, z, [z2, z3]) => decide (u = "range") && glB sc u && mE sc a z && mE sc b z2 && isM1 z3
      | _ => false)
    | _ => false
  | .lzip a b, e => match dCall e with
    | some (x, y, []) => cal && decide (x = "list") && glB sc x && (match dCall y with
      | some (u, z, [z2]) => decide (u = "zip") && glB sc u && mE sc a z && mE sc b z2
      | _ => false)
    | _ => false
  | .lidx i a, e => match dMeth e with
    | some (y, m, x) => decide (m = "index") && mVar N sc i y && mE sc a x
    | none => false
  | .lcnt i a, e => match dMeth e with
    | some (y, m, x) => decide (m = "count") && mVar N sc i y && mE sc a x
    | none => false
  | .call _ f es, e => match dCall e with
    | some (x, a, as) => cal && decide (C.fns[f]? = some x) && glB sc x && dbg x && mEs sc es (a :: as)
    | none => false
  | .callD f es ss, e => match dCall e with
    | some (x, a, as) => cal && decide (C.fns[f]? = some x) && decide ((f, ss) ∈ C.dfl) && glB sc x && dbg x && mEs sc es (a :: as)
    | none => false
  | .blt .maxd es, e => match dCallK e with
    | some (x, a, k, b) => cal && decide (x = "max") && decide (k = "default") && glB sc x && mEs sc es [a, b]
    | none => false
  | .blt f es, e => match dCall e with
    | some (x, a, as) => (cal || f.cold) && decide (x = f.name) && glB sc x && mEs sc es (a :: as)
    | none => false
  | .isi a t, e => match dCall e with
    | some (x, y, [z]) => decide (x = "isinstance") && glB sc x && mE sc a y && (match dName z with
      | some T => decide (T = t.word) && glB sc T
      | none => false)
    | _ => false
  | .isx i k, e => match dCall e with
    | some (x, y, [z]) => !cal && decide (x = "isinstance") && glB sc x && (match dName y, dName z with
      | some v, some T => mVar N sc i v && decide (C.exs[k]? = some T) && glB sc T && dbg T
      | _, _ => false)
    | _ => false
  | .isxs i ks, e => match dCall e with
    | some (x, y, [z]) => !cal && decide (x = "isinstance") && glB sc x && (match dName y, dTup z with
      | some v, some ts => mVar N sc i v && mCls C sc ks ts && decide (ts.length ≤ 1000)
      | _, _ => false)
    | _ => false
  | .comp _ elt t src cond, e => match dComp e with
    | some (x, tg, it, ifs, sc') => cal && mSr sc src tg it && blkC N sc sc' (ownOf N t.ids) && mTg N sc' t tg && mE sc' elt x && mIf sc' cond ifs
    | none => false
def mEs (sc : Scope) : Es → List Expr → Bool
  | .nil, [] => true
  | .cons e es, x :: xs => mE sc e x && mEs sc es xs
  | _, _ => false
def mEo (sc : Scope) : Eo → Option Expr → Bool
  | .no, none => true
  | .yes e, some x => mE sc e x
  | _, _ => false
def mIf (sc : Scope) : Eo → List Expr → Bool
  | .no, [] => true
  | .yes e, [x] => mE sc e x
  | _, _ => false
def mSr (sc : Scope) : Sr → Expr → Expr → Bool
  | .seq a, _, e => mE sc a e
  | .seqB a, _, e => mE sc a e
  | .range es, _, e => match dCall e with
    | some (x, a, as) => decide (x = "range") && glB sc x && decide (as.length ≤ 1) && mEs sc es (a :: as)
    | none => false
  | .enum a, tg, e => match dCall e with
    | some (x, y, []) => isTupE tg && decide (x = "enumerate") && glB sc x && mE sc a y
    | _ => false
  | .zip a b, tg, e => match dCall e with
    | some (x, y, [z]) => isTupE tg && decide (x = "zip") && glB sc x && mE sc a y && mE sc b z
    | _ => false
end
end

/-- forms that no rule treats apart -/
def plainX : Expr → Bool
  | .Starred _ _ => false
  | .Set _ _ _ => false
  | .Slice _ _ _ _ => false
  | .NamedExpr _ _ _ => false
  | .SetComp _ _ _ _ => false
  | .DictComp _ _ _ _ _ => false
  | .Yield _ _ => false
  | _ => true
theorem mE_plain {C : Cfg} {cal : Bool} {N : List Str} {sc : Scope} : ∀ (e : E) (x : Expr), mE C cal N sc e x = true → plainX x = true := by
  intro e x h
  cases x <;> first | rfl | (exfalso; revert h; cases e <;> (try rename_i f _; try cases f) <;> simp [mE, dName, dConst, dBin, dUn, dCmp, dCmp2, dBool, dIf, dTup, dLst, dSub, dCall, dCallK, dComp, dRev, dStep, isD0, dMeth])
theorem mEs_plain {C : Cfg} {cal : Bool} {N : List Str} {sc : Scope} : ∀ (es : Es) (xs : List Expr), mEs C cal N sc es xs = true → ∀ x ∈ xs, plainX x = true
  | .nil, [], _ => fun _ z => nomatch z
  | .nil, _ :: _, h => by simp [mEs] at h
  | .cons _ _, [], h => by simp [mEs] at h
  | .cons e es, x :: xs, h => by
    simp only [mEs, Bool.and_eq_true] at h
    intro y hy
    rcases List.mem_cons.mp hy with rfl | hy
    · exact mE_plain e y h.1
    · exact mEs_plain es xs h.2 y hy
theorem star_cons {env : PySem.Env} {x : Expr} {xs : List Expr} (h : plainX x = true) : starEach (x :: xs) env = (false, eval x env) :: starEach xs env := by
  cases x <;> first | rfl | cases h
theorem star_none {env : PySem.Env} {pos : Pos} : ∀ {xs : List Expr}, (∀ x ∈ xs, plainX x = true) → (backTo pos (starEach xs env)).any (·.1) = false
  | [], _ => rfl
  | x :: xs, h => by
    have ih := star_none (env := env) (pos := pos) (xs := xs) fun y hy => h y (List.mem_cons_of_mem _ hy)
    rw [star_cons (h x List.mem_cons_self)]
    simpa [backTo] using ih
theorem plain_ix {y : Expr} (h : plainX y = true) : PlainIx y := by
  intro o i
  cases y <;> first | rfl | cases h
theorem plain_fold {y : Expr} {env : PySem.Env} (h : plainX y = true) : ∀ x, foldedSetIterable y env x = pure x := by
  intro x
  cases y <;> first | rfl | cases h
theorem plain_marks {y : Expr} {op : CmpOp} (h : plainX y = true) : behindInMarks op y = false := by
  cases y <;> first | rfl | cases h
end Ly

set_option Elab.async false
set_option linter.all false
set_option maxRecDepth 100000
set_option maxHeartbeats 2000000
/-! What an expression of ours gives is what the program's own expression gives: the cases. -/
namespace Ly
open PySem PySem.Spec PyProof.Rows L2

/-- isinstance(e, (C, ..)), e the exception that the suite holds -/
def rIsT (K : PySem.W.Frag) (D a : Addr) : List V → Hp → VK → Prop := fun xs H Q => ∃ (tp : Addr) (cs : List V) (cvs : List Value) (b : Bool), xs = [.ref a, .ref tp] ∧ H tp = some (.tup cs) ∧ (∀ us, Vals cs us → us = cvs) ∧ PySem.W.kitAny K (.ref D) cvs = some b ∧ Q (.bl b) H
def rIsX (K : PySem.W.Frag) (D a : Addr) : List V → Hp → VK → Prop := fun xs H Q => rIsE K D a xs H Q ∨ rIsT K D a xs H Q
theorem call_isX {X : Cx} {a D : Addr} {oe : Obj} {pn : List (Addr × Obj)} (C : ExcC X.K D) (hz : Zc (.ref D) none oe) (hf : ∃ vs, oe.data = .fields vs) : CallR (X.suite a ((a, oe) :: pn)) (.builtin "isinstance") (rIsX X.K D a) := by
  intro pins s σ H xs us Q I r h
  rcases h with h | h
  · exact call_isE C hz hf pins s σ H xs us Q I r h
  · obtain ⟨tp, cs, cvs, b, rfl, ht, hcv, e, q⟩ := h
    cases r with
    | cons rx rr =>
      cases rr with
      | cons rt rr =>
        cases rr
        cases rx
        cases rt
        obtain ⟨its, rv, ⟨o, ho, hc, n, hd⟩, _⟩ := I.tuple (SqT.of ht)
        have ec := hcv _ rv
        subst ec
        obtain ⟨oc, od, oda, osl⟩ := o
        dsimp only at hc hd
        subst hc hd
        obtain ⟨hget, _⟩ := I.pin (a, oe) (List.mem_append.mpr (.inl List.mem_cons_self))
        obtain ⟨vs, hv⟩ := hf
        have J : PySem.W.InstAt s.heap a oe D none := by
          obtain ⟨oc, od, oda, osl⟩ := oe
          obtain ⟨h1, h2⟩ := hz
          dsimp only at h1 h2 hv
          subst h1 h2 hv
          exact ⟨hget, rfl, rfl, trivial⟩
        exact PySem.W.kia_tup (PySem.W.handS_kitx_exc C.hg C.hk C.hs C.hd C.ha C.hn C.ht C.hm) I.kIn J ho e (fun z => nomatch z) fun tk => ⟨.bl b, H, I.kept (t' := tk) fun _ _ z => z, rfl, q⟩
/-- what a def of ours promises -/
def spF (K : PySem.W.Frag) (ca : Nat → Addr) (cf : Nat → List D → CR) (f : Nat) : Sp := fun vs H Q E => ∃ (S : List Addr) (ds : List D), (∀ a ∈ S, H a ≠ none) ∧ RepTs K H S S 0 vs ds ∧ match cf f ds with
  | .ok l d => ∀ v H' A, Same H H' → A.Nodup → (∀ a ∈ A, H a = none) → Rep K H' (S ++ A) l v d A → Q v H'
  | .exc c => ∀ H', Same H H' → E (.ref (ca c)) none H'
  | .bad => False

def bNames : List Str := ["len", "tuple", "list", "int", "bool", "max", "min", "sum", "all", "any", "sorted", "str", "isinstance", "range", "enumerate", "zip", "set", "dict", "reversed"]
/-- names of sc, in the scope that runs -/
def ScRel (sc sc' : Scope) : Prop := sc'.kind = .function ∧ ∀ x k, sc.names.lookup x = some k → ∃ k', sc'.names.lookup x = some k' ∧ (k' = k ∨ (k = .free ∧ k' = .cell))

structure Good (C : Cfg) (cal : Bool) (N : List Str) (sc : Scope) (cf : Nat → List D → CR) (ca : Nat → Addr) (EX : Addr → Nat → Prop) (W : WX) (X : Cx) : Prop where
  hN : X.N = N
  nd : N.Nodup
  sr : ScRel sc X.env.scope
  fo : ∀ x, sc.names.lookup x = some .cell → X.fn x = true
  calm : cal = true → X.calm = true
  un : X.A.units + 70 < cLine
  tk : Takes X W
  fns : cal = true → ∀ (f : Nat) (x : Str), C.fns[f]? = some x → ∃ (fa : Addr) (fd : FuncData) (ps : List Str) (k : Nat), X.mg x = some (.ref fa) ∧ PySem.W.keepIn X.K (.ref fa) = true ∧ Binds X.K fd ps [] ∧ FnOk X.prog X.w X.K X.mg X.base (L2.CX X.prog X.w) k fa fd ps (spF X.K ca cf f) ∧ Room k X.A
  dfl : cal = true → ∀ (f : Nat) (ss : List Str), (f, ss) ∈ C.dfl → ∀ x, C.fns[f]? = some x → ∃ (fa : Addr) (fd : FuncData) (ps : List Str) (k : Nat) (dsv : List Value), X.mg x = some (.ref fa) ∧ PySem.W.keepIn X.K (.ref fa) = true ∧ Binds X.K fd ps dsv ∧ Vals (ss.map V.str) dsv ∧ FnOk X.prog X.w X.K X.mg X.base (L2.CX X.prog X.w) k fa fd ps (spF X.K ca cf f) ∧ Room k X.A
  bl : ∀ x ∈ bNames, X.mg x = none
  gls : ∀ (g : Nat) (p : Str × D), C.gls[g]? = some p → ∃ u v, X.mg p.1 = some u ∧ RelV v u ∧ ∀ H hot, Rep X.K H hot 0 v p.2 []
  exN : ∀ (k : Nat) (T : Str), C.exs[k]? = some T → ∃ cv vv, RelV vv cv ∧ (∀ u, RelV vv u → u = cv) ∧ (X.mg T = some cv ∨ (X.mg T = none ∧ bootBuiltins T = some cv ∧ T ≠ "__name__")) ∧ (cal = false → ∀ a c, EX a c → PySem.W.kitOne X.K (.ref (ca c)) cv = some (C.sub c k))
  exI : cal = false → ∀ a c, EX a c → CallR X (.builtin "isinstance") (rIsX X.K (ca c) a)

section
variable {C : Cfg} {cal : Bool} {N : List Str} {sc : Scope} {cf : Nat → List D → CR} {ca : Nat → Addr} {K : PySem.W.Frag} {EX : Addr → Nat → Prop} {W : WX} {X : Cx}

def Post (K : PySem.W.Frag) (ca : Nat → Addr) (EX : Addr → Nat → Prop) (W : WX) (H0 : Hp) (S : List Addr) (ts : List Tm) (σ : L2.St) {α : Type} (x : R α) (k : α → Prop) : Prop :=
  match x with
  | .ok a => k a
  | .exc r c => ∀ H', Sta K EX H0 S ts σ r H' → W (.ref (ca c)) none σ H'
  | .bad => False
def tm : Nat → V → Nat → D → Tm
  | 0, v, l, d => .own v l d
  | j + 1, v, _, d => .brw v (j + 1) d
def tms : Nat → List V → Nat → List D → Tm
  | 0, vs, h, ds => .owns vs h ds
  | j + 1, vs, _, ds => .brws vs (j + 1) ds
variable (C cf ca K EX W)
def tE (j : Nat) (e : E) : TE := fun σ H Q => ∃ H0 S ts r, Sta K EX H0 S ts σ r H ∧ Post K ca EX W H0 S ts σ (ev C.G C.sub cf j e r) fun p => ∀ v H', Sta K EX H0 S (tm j v p.2.1 p.2.2 :: ts) σ p.1 H' → Q v H'
def tT (e : E) : TT := fun σ H Q => ∃ H0 S ts r, Sta K EX H0 S ts σ r H ∧ Post K ca EX W H0 S ts σ (ev C.G C.sub cf 9 e r) fun p => ∃ b, p.2.2 = .bl b ∧ ∀ H', Sta K EX H0 S ts σ p.1 H' → Q b H'
def tEs (j h : Nat) (es : Es) : TA := fun σ H Q => ∃ H0 S ts r, Sta K EX H0 S ts σ r H ∧ Post K ca EX W H0 S ts σ (evs C.G C.sub cf j h es r) fun p => ∀ vs H', vs.length = es.len → Sta K EX H0 S (tms j vs h p.2 :: ts) σ p.1 H' → Q vs H'
def tEo (e : Eo) : TO := fun σ H Q => ∃ H0 S ts r, Sta K EX H0 S ts σ r H ∧ Post K ca EX W H0 S ts σ (evo C.G C.sub cf e r) fun p => ∀ H', Sta K EX H0 S ts σ p.1 H' → Q p.2 H'
def tIf (e : Eo) : TT := fun σ H Q => ∃ H0 S ts r, Sta K EX H0 S ts σ r H ∧ Post K ca EX W H0 S ts σ (evc C.G C.sub cf e r) fun p => ∀ H', Sta K EX H0 S ts σ p.1 H' → Q p.2 H'
variable {C cf ca K EX W}

theorem PEimp {x : Expr} {t t' : TE} (h : PE X x t) (i : ∀ σ H Q, t' σ H Q → t σ H Q) : PE X x t' := ⟨fun pins s σ H Q I q => h.run pins s σ H Q I (i σ H Q q)⟩
theorem PTimp {x : Expr} {t t' : TT} (h : PT X x t) (i : ∀ σ H Q, t' σ H Q → t σ H Q) : PT X x t' := ⟨fun pins s σ H Q I q => h.run pins s σ H Q I (i σ H Q q)⟩
theorem PAimp {x : List Expr} {t t' : TA} (h : PA X x t) (i : ∀ σ H Q, t' σ H Q → t σ H Q) : PA X x t' := ⟨fun pos pins s σ H Q I q => h.run pos pins s σ H Q I (i σ H Q q)⟩
theorem POimp {x : Option Expr} {t t' : TO} (h : PO X x t) (i : ∀ σ H Q, t' σ H Q → t σ H Q) : PO X x t' := ⟨fun pins s σ H Q I q => h.run pins s σ H Q I (i σ H Q q)⟩

section
variable {H0 H H' : Hp} {S : List Addr} {ts : List Tm} {σ : L2.St} {r : Env} {α β : Type}
/-- a step behind a step -/
theorem Post.bind {x : R α} {f : α → R β} {k : β → Prop} (h : Post K ca EX W H0 S ts σ (x.bind f) k) : Post K ca EX W H0 S ts σ x fun a => Post K ca EX W H0 S ts σ (f a) k := by
  cases x <;> exact h
theorem Post.imp {x : R α} {k k' : α → Prop} (h : Post K ca EX W H0 S ts σ x k) (i : ∀ a, k a → k' a) : Post K ca EX W H0 S ts σ x k' := by
  cases x with
  | ok a => exact i a h
  | exc r c => exact h
  | bad => exact h
/-- the same with a temporary more -/
theorem Post.deep {t : Tm} {x : R α} {k : α → Prop} (h : Post K ca EX W H0 S ts σ x k) : Post K ca EX W H0 S (t :: ts) σ x k := by
  cases x with
  | ok a => exact h
  | exc r c => exact fun H' st => h H' st.pop
  | bad => exact h
theorem Post.of {x : Option α} {k : α → Prop} (h : Post K ca EX W H0 S ts σ (R.of x) k) : ∃ a, x = some a ∧ k a := by
  cases x with
  | none => exact h.elim
  | some a => exact ⟨a, rfl, h⟩
theorem plain_last {op op' : CmpOp} {y z : Expr} (h : plainX z = true) : lastMarks [op, op'] [y, z] = false := by
  cases z <;> first | rfl | cases h
theorem tm9 {v : V} {l : Nat} {d : D} : tm 9 v l d = .brw v 9 d := rfl
theorem tm1 {v : V} {l : Nat} {d : D} : tm 1 v l d = .brw v 1 d := rfl

theorem Sta.noArgs {h : Nat} (st : Sta K EX H0 S ts σ r H) : Sta K EX H0 S (.owns [] h [] :: ts) σ r H :=
  Sta.step (t1 := []) (t2 := [.owns [] h []]) st (Same.refl H) fun hot A1 nd sub dom hS q => ⟨[], .nil, fun _ z => (by simp at z), fun hot' h1 h2 h3 h4 => .mk1 (.owns (.nil h))⟩
theorem Sta.noArgsB {h : Nat} (st : Sta K EX H0 S ts σ r H) : Sta K EX H0 S (.brws [] h [] :: ts) σ r H :=
  Sta.step (t1 := []) (t2 := [.brws [] h []]) st (Same.refl H) fun hot A1 nd sub dom hS q => ⟨[], .nil, fun _ z => (by simp at z), fun hot' h1 h2 h3 h4 => .mk1 (.brws (.nil h))⟩
theorem Rep.hot {hot hot' A : List Addr} {l : Nat} {v : V} {d : D} (h : Rep K H hot l v d A) (h1 : ∀ a ∈ hot', a ∈ hot) : Rep K H hot' l v d A :=
  h.frame (X := []) (fun a _ o e => e) (fun _ z => (by simp at z)) (fun _ z => (by simp at z)) (fun a ha => .inl (h1 a ha)) (by simp)
theorem Reps.hot {hot hot' A : List Addr} {l : Nat} {vs : List V} {ds : List D} (h : Reps K H hot l vs ds A) (h1 : ∀ a ∈ hot', a ∈ hot) : Reps K H hot' l vs ds A :=
  h.frame (X := []) (fun a _ o e => e) (fun _ z => (by simp at z)) (fun _ z => (by simp at z)) (fun a ha => .inl (h1 a ha)) (by simp)
theorem Sta.consArgs {v : V} {l h : Nat} {d : D} {vs : List V} {ds : List D} (st : Sta K EX H0 S (.owns vs h ds :: .own v l d :: ts) σ r H) (hl : h ≤ l) : Sta K EX H0 S (.owns (v :: vs) h (d :: ds) :: ts) σ r H :=
  Sta.step (t1 := [.owns vs h ds, .own v l d]) (t2 := [.owns (v :: vs) h (d :: ds)]) st (Same.refl H) fun hot A1 nd sub dom hS q => by
    obtain ⟨B1, B2, rfl, h1, h2⟩ := q.two
    cases h1 with
    | owns h1 =>
      cases h2 with
      | own h2 =>
        obtain ⟨n1, n2, n3⟩ := List.nodup_append.mp nd
        obtain ⟨B', sb, f⟩ := h2.low hl n2
        have hsub : ∀ a ∈ B' ++ B1, a ∈ B1 ++ B2 := fun a ha => by
          rcases List.mem_append.mp ha with z | z
          · exact List.mem_append_right _ (sb.subset z)
          · exact List.mem_append_left _ z
        refine ⟨B' ++ B1, List.nodup_append.mpr ⟨n2.sublist sb, n1, fun a ha b hb e => n3 b hb a (sb.subset ha) e.symm⟩, fun a ha => .inl (hsub a ha), fun hot' g1 g2 g3 g4 => .mk1 (.owns ?_)⟩
        have g1' : ∀ a ∈ hot', a ∈ hot := fun a ha => (g1 a ha).elim id fun z => (sub a (hsub a z)).1
        refine .cons (f hot' g1' fun a ha hm => ?_) (h1.hot g1')
        rcases List.mem_append.mp (g2 a (List.mem_append_right _ ha) hm) with z | z
        · exact z
        · exact absurd rfl (n3 a z a ha)
theorem Sta.consArgsB {v : V} {j : Nat} {d : D} {vs : List V} {ds : List D} (st : Sta K EX H0 S (.brws vs j ds :: .brw v j d :: ts) σ r H) : Sta K EX H0 S (.brws (v :: vs) j (d :: ds) :: ts) σ r H :=
  Sta.step (t1 := [.brws vs j ds, .brw v j d]) (t2 := [.brws (v :: vs) j (d :: ds)]) st (Same.refl H) fun hot A1 nd sub dom hS q => by
    obtain ⟨B1, B2, rfl, h1, h2⟩ := q.two
    cases h1 with
    | brws h1 =>
      cases h2 with
      | brw h2 =>
        refine ⟨[], .nil, fun a ha => by simp at ha, fun hot' g1 g2 g3 g4 => .mk1 (.brws ?_)⟩
        have g1' : ∀ a ∈ hot', a ∈ hot := fun a ha => (g1 a ha).elim id fun z => by simp at z
        exact .cons (h2.less hS g1') (h1.less hS g1')
theorem Reps.append {hot : List Addr} {l : Nat} : ∀ {vs ws : List V} {ds es : List D} {A B : List Addr}, Reps K H hot l vs ds A → Reps K H hot l ws es B → Reps K H hot l (vs ++ ws) (ds ++ es) (A ++ B)
  | _, _, _, _, _, _, .nil _, h => h
  | _, _, _, _, _, _, .cons h hs, h2 => by
    rw [List.append_assoc]
    exact .cons h (Reps.append hs h2)
theorem Sta.snoc {v : V} {l h : Nat} {d : D} {vs : List V} {ds : List D} (st : Sta K EX H0 S (.own v l d :: .owns vs h ds :: ts) σ r H) (hl : h ≤ l) : Sta K EX H0 S (.owns (vs ++ [v]) h (ds ++ [d]) :: ts) σ r H :=
  Sta.step (t1 := [.own v l d, .owns vs h ds]) (t2 := [.owns (vs ++ [v]) h (ds ++ [d])]) st (Same.refl H) fun hot A1 nd sub dom hS q => by
    obtain ⟨B1, B2, rfl, h1, h2⟩ := q.two
    cases h1 with
    | own h1 =>
      cases h2 with
      | owns h2 =>
        obtain ⟨n1, n2, n3⟩ := List.nodup_append.mp nd
        obtain ⟨B', sb, f⟩ := h1.low hl n1
        have hsub : ∀ a ∈ B2 ++ B', a ∈ B1 ++ B2 := fun a ha => by
          rcases List.mem_append.mp ha with z | z
          · exact List.mem_append_right _ z
          · exact List.mem_append_left _ (sb.subset z)
        refine ⟨B2 ++ B', List.nodup_append.mpr ⟨n2, n1.sublist sb, fun a ha b hb e => n3 b (sb.subset hb) a ha e.symm⟩, fun a ha => .inl (hsub a ha), fun hot' g1 g2 g3 g4 => .mk1 (.owns ?_)⟩
        have g1' : ∀ a ∈ hot', a ∈ hot := fun a ha => (g1 a ha).elim id fun z => (sub a (hsub a z)).1
        have q1 : Rep K H hot' h v d B' := f hot' g1' fun a ha hm => by
          rcases List.mem_append.mp (g2 a (List.mem_append_left _ ha) hm) with z | z
          · exact absurd rfl (n3 a ha a z)
          · exact z
        have q2 := (h2.hot g1').append (.cons q1 (.nil h))
        rwa [List.append_nil] at q2
/-- a new list, a new tuple of one's own things -/
theorem Sta.mkL {p : Addr} {k : Nat} {vs : List V} {ds : List D} (st : Sta K EX H0 S (.owns vs k ds :: ts) σ r H) (hp : H p = none) : Sta K EX H0 S (.own (.ref p) (k + 1) (.lst ds) :: ts) σ r (upd H p (.lst vs)) :=
  Sta.step (t1 := [.owns vs k ds]) (t2 := [.own (.ref p) (k + 1) (.lst ds)]) st (same_upd hp) fun hot A1 nd sub dom hS q => by
    have q1 := q.one
    clear q
    cases q1 with
    | owns q1 =>
      refine ⟨p :: A1, List.nodup_cons.mpr ⟨fun hm => dom p (sub p hm).1 hp, nd⟩, fun a ha => ?_, fun hot' g1 g2 g3 g4 => .mk1 (.own (.lstS upd_same ?_))⟩
      · rcases List.mem_cons.mp ha with e | z
        · subst e; exact .inr hp
        · exact .inl z
      · refine q1.frame (X := []) (fun a _ o e => same_upd hp a o e) (fun _ z => (by simp at z)) (fun _ z => (by simp at z)) (fun a ha => ?_) (by simp)
        rcases g1 a ha with z | z
        · exact .inl z
        · rcases List.mem_cons.mp z with e | z
          · subst e; exact .inr hp
          · exact .inl (sub a z).1
theorem Sta.mkT {p : Addr} {k : Nat} {vs : List V} {ds : List D} (st : Sta K EX H0 S (.owns vs k ds :: ts) σ r H) (hp : H p = none) : Sta K EX H0 S (.own (.ref p) (k + 1) (.tup ds) :: ts) σ r (upd H p (.tup vs)) :=
  Sta.step (t1 := [.owns vs k ds]) (t2 := [.own (.ref p) (k + 1) (.tup ds)]) st (same_upd hp) fun hot A1 nd sub dom hS q => by
    have q1 := q.one
    clear q
    cases q1 with
    | owns q1 =>
      refine ⟨A1, nd, fun a ha => .inl ha, fun hot' g1 g2 g3 g4 => .mk1 (.own (.tup (.inl upd_same) ?_))⟩
      refine q1.frame (X := []) (fun a _ o e => same_upd hp a o e) (fun _ z => (by simp at z)) (fun _ z => (by simp at z)) (fun a ha => ?_) (by simp)
      exact .inl ((g1 a ha).elim id fun z => (sub a z).1)
theorem Sta.same (st : Sta K EX H0 S ts σ r H) (sm : Same H H') : Sta K EX H0 S ts σ r H' :=
  Sta.step (t1 := []) (t2 := []) st sm fun hot A1 nd sub dom hS q => ⟨[], .nil, fun _ z => (by simp at z), fun hot' h1 h2 h3 h4 => .nil⟩
theorem Sta.fresh {v : V} {l : Nat} {d : D} {A : List Addr} (st : Sta K EX H0 S ts σ r H) (sm : Same H H') (nd : A.Nodup) (nw : ∀ a ∈ A, H a = none) (rp : ∀ hot, Rep K H' hot l v d A) : Sta K EX H0 S (.own v l d :: ts) σ r H' :=
  Sta.step (t1 := []) (t2 := [.own v l d]) st sm fun hot A1 _ sub dom hS q => ⟨A, nd, fun a ha => .inr (nw a ha), fun hot' h1 h2 h3 h4 => .mk1 (.own (rp hot'))⟩
theorem Sta.dom {A B : List Addr} (sd : ∀ a ∈ S, H a ≠ none) (hT : Tms K H S (S ++ (A ++ B)) ts A) (hS : Slots K EX H (S ++ (A ++ B)) σ r B) : ∀ a ∈ S ++ (A ++ B), H a ≠ none := fun a ha => by
  rcases List.mem_append.mp ha with ha | ha
  · exact sd a ha
  · rcases List.mem_append.mp ha with ha | ha
    · exact (hT.mem a ha).ne
    · exact (hS.mem a ha).ne
theorem Sta.call {vs : List V} {ds : List D} (st : Sta K EX H0 S (.owns vs 0 ds :: ts) σ r H) : ∃ S', (∀ a ∈ S', H a ≠ none) ∧ RepTs K H S' S' 0 vs ds ∧
    ∀ v l d H' A, Same H H' → A.Nodup → (∀ a ∈ A, H a = none) → Rep K H' (S' ++ A) l v d A → Sta K EX H0 S (.own v l d :: ts) σ r H' := by
  obtain ⟨ex, sd, A0, B, nd, new, hT, hS⟩ := st
  have dom := Sta.dom sd hT hS
  obtain ⟨A1, A2, rfl, h1, h2⟩ := Tms.split (t1 := [_]) hT
  have h1' := h1.one
  clear h1
  cases h1' with
  | owns h1 =>
    have e0 := h1.zero
    subst e0
    rw [List.nil_append] at nd new hT hS h1 h2 dom
    refine ⟨S ++ (A2 ++ B), dom, h1.toT (fun a ha => ha) (by simp) (Nat.le_refl 0), fun v l d H' A sm na nw rp => ?_⟩
    have F : Fr H H' S S (S ++ (A2 ++ B)) (S ++ (A ++ A2 ++ B)) [] := ⟨fun a _ o e => sm a o e, fun _ z => (by simp at z), fun _ z => (by simp at z), fun a ha => by
      simp only [List.mem_append] at ha ⊢
      rcases ha with z | (z | z) | z
      · exact .inl (.inl z)
      · exact .inr (nw a z)
      · exact .inl (.inr (.inl z))
      · exact .inl (.inr (.inr z)), fun a ha => List.mem_append_left _ ha, fun a ha => .inl ha⟩
    refine ⟨ex.trans sm, fun a ha => ?_, A ++ A2, B, ?_, fun a ha => ?_, .cons (.own (rp.hot fun a ha => ?_)) (h2.frame F (.inl (by simp)) (by simp)), hS.frame F (by simp)⟩
    · cases e : H a with
      | none => exact absurd e (sd a ha)
      | some o => rw [sm a o e]; exact fun z => nomatch z
    · rw [List.append_assoc]
      exact List.nodup_append.mpr ⟨na, nd, fun a ha b hb e => dom b (List.mem_append_right _ hb) (e ▸ nw a ha)⟩
    · rw [List.append_assoc] at ha
      rcases List.mem_append.mp ha with z | z
      · exact ⟨ex.free (nw a z), fun hs => sd a hs (nw a z)⟩
      · exact new a z
    · simp only [List.mem_append] at ha ⊢
      rcases ha with z | (z | z) | z
      · exact .inl (.inl z)
      · exact .inr z
      · exact .inl (.inr (.inl z))
      · exact .inl (.inr (.inr z))
theorem Sta.excAt {i l : Nat} (st : Sta K EX H0 S ts σ r H) (e : getv r i = some (l, .exn)) (h : 100 ≤ l) : ∃ a, σ[i]? = some (some (.ref a)) ∧ EX a (l - 100) := by
  obtain ⟨_, _, A, B, _, _, _, hS⟩ := st
  obtain ⟨o, x, _, A1, _, e1, e2, _, h1, _⟩ := hS.split i (getv_lt e)
  rw [getv_some e] at e2
  cases o with
  | none => cases e2; cases h1
  | some v =>
    cases e2
    generalize hd : D.exn = d at h1
    cases h1 with
    | exc h1 => exact ⟨_, by assumption, by rw [Nat.add_sub_cancel_left]; exact h1⟩
    | sm h1 => subst hd; cases h1
/-- forms that give a value of their own: in any mode -/
theorem modes {x : Expr} {e : E} (h : PE X x (tE C cf ca K EX W 0 e)) (he : ∀ j r, ev C.G C.sub cf j e r = ev C.G C.sub cf 0 e r) (j : Nat) : PE X x (tE C cf ca K EX W j e) := by
  cases j with
  | zero => exact h
  | succ j =>
    refine PEimp h fun σ H Q q => ?_
    obtain ⟨H0, S, ts, r, st, p⟩ := q
    rw [he] at p
    exact ⟨H0, S, ts, r, st, p.imp fun a k v H' st' => k v H' st'.toBrw⟩

variable (g : Good C cal N sc cf ca EX W X)
include g
theorem Good.vis {x : Str} (h : visB sc x = true) : Vis X.env.scope x := by
  unfold visB at h
  split at h
  · rename_i e
    obtain ⟨k', e', z | ⟨z, _⟩⟩ := g.sr.2 x _ e
    · subst z; exact .inl e'
    · cases z
  · rename_i e
    obtain ⟨k', e', z | ⟨z, _⟩⟩ := g.sr.2 x _ e
    · subst z; exact .inr (.inl e')
    · cases z
  · rename_i e
    obtain ⟨k', e', z | ⟨_, z⟩⟩ := g.sr.2 x _ e
    · subst z; exact .inr (.inr e')
    · subst z; exact .inr (.inl e')
  · cases h
theorem Good.gl {x : Str} (h : glB sc x = true) : Gl X x := by
  unfold glB at h
  split at h
  · rename_i e
    obtain ⟨k', e', z | ⟨z, _⟩⟩ := g.sr.2 x _ e
    · subst z; exact e'
    · cases z
  · cases h
theorem Good.loc {x : Str} (h : locB sc x = true) : Loc X.env.scope x ∧ (X.fn x = true ∨ X.env.scope.names.lookup x = some .local) := by
  unfold locB at h
  split at h
  · rename_i e
    obtain ⟨k', e', z | ⟨z, _⟩⟩ := g.sr.2 x _ e
    · subst z; exact ⟨.inl e', .inr e'⟩
    · cases z
  · rename_i e
    obtain ⟨k', e', z | ⟨z, _⟩⟩ := g.sr.2 x _ e
    · subst z; exact ⟨.inr e', .inl (g.fo x e)⟩
    · cases z
  · cases h

theorem mVar_ok {i : Nat} {x : Str} (h : mVar N sc i x = true) (p : Pos) : PE X (.Name x p) (tVar i) := by
  simp only [mVar, Bool.and_eq_true, decide_eq_true_eq, dbg, Bool.not_eq_true'] at h
  obtain ⟨⟨⟨h1, h2⟩, h3⟩, h4⟩ := h
  exact pe_var (by rw [g.hN]; exact h1) (g.vis h2) h3 h4
theorem c_var {i : Nat} {x : Str} {p : Pos} (h : mVar N sc i x = true) (j : Nat) : PE X (.Name x p) (tE C cf ca X.K EX W j (.var i)) := by
  refine PEimp (mVar_ok g h p) fun σ H Q q => ?_
  obtain ⟨H0, S, ts, r, st, q⟩ := q
  simp only [ev] at q
  cases e : getv r i with
  | none => rw [e] at q; exact q.elim
  | some a =>
    obtain ⟨l, d⟩ := a
    rw [e] at q
    by_cases hl : l < 100
    · simp only [if_pos hl] at q
      obtain ⟨v, e1, st1⟩ := st.read (j := j) e hl
      refine ⟨v, e1, q v H ?_⟩
      cases j with
      | zero => exact st1.brw0
      | succ j => exact st1
    · simp only [if_neg hl] at q
      exact q.elim
theorem c_mv {i : Nat} {x : Str} {p : Pos} (h : mVar N sc i x = true) : PE X (.Name x p) (tE C cf ca X.K EX W 0 (.mv i)) := by
  refine PEimp (mVar_ok g h p) fun σ H Q q => ?_
  obtain ⟨H0, S, ts, r, st, q⟩ := q
  simp only [ev] at q
  cases e : getv r i with
  | none => rw [e] at q; exact q.elim
  | some a =>
    obtain ⟨l, d⟩ := a
    rw [e] at q
    by_cases hl : l < 100
    · simp only [if_pos hl] at q
      obtain ⟨v, e1, st1⟩ := st.move e hl
      exact ⟨v, e1, q v H st1⟩
    · simp only [if_neg hl] at q
      exact q.elim
theorem c_cst {d : D} {c : Const} {k : Nat} {p : Pos} (h : mK d c = true) : PE X (.Constant c k p) (tE C cf ca X.K EX W 0 (.cst d)) := by
  have fin : ∀ v, (∀ H hot, Rep X.K H hot 0 v d []) → ∀ σ H Q, tE C cf ca X.K EX W 0 (.cst d) σ H Q → tC v σ H Q := fun v f σ H Q q => by
    obtain ⟨H0, S, ts, r, st, q⟩ := q
    exact q v H (st.push0 (f H))
  cases d <;> cases c <;> simp only [mK, Bool.false_eq_true] at h
  · exact PEimp pe_non (fin _ fun _ _ => .non 0)
  · rw [beq_iff_eq] at h; subst h; exact PEimp pe_bl (fin _ fun _ _ => .bl 0 _)
  · rw [decide_eq_true_eq] at h; subst h; exact PEimp pe_int (fin _ fun _ _ => .int 0 _)
  · rw [decide_eq_true_eq] at h; subst h; exact PEimp pe_str (fin _ fun _ _ => .str 0 _)
theorem c_glb {i : Nat} {q : Str × D} {p : Pos} (e : C.gls[i]? = some q) (hg : glB sc q.1 = true) (hd : dbg q.1 = true) : PE X (.Name q.1 p) (tE C cf ca X.K EX W 0 (.glb i)) := by
  obtain ⟨u, v, h1, h2, h3⟩ := g.gls i q e
  simp only [dbg, Bool.not_eq_true'] at hd
  refine PEimp (pe_glob (g.gl hg) h1 h2 hd) fun σ H Q z => ?_
  obtain ⟨H0, S, ts, r, st, z⟩ := z
  simp only [ev, Cfg.G, e, Option.map_some, R.of, R.bind] at z
  exact z v H (st.push0 fun hot => h3 H hot)
theorem c_bin {a b : E} {x y : Expr} {o : Bo} {p : Pos} (ha : PE X x (tE C cf ca X.K EX W 1 a)) (hb : PE X y (tE C cf ca X.K EX W 1 b)) : PE X (.BinOp x (opOf o) y p) (tE C cf ca X.K EX W 0 (.bin o a b)) := by
  refine PEimp (pe_op (op_bin (EX := EX) o) ha hb) fun σ H Q z => ?_
  obtain ⟨H0, S, ts, r, st, z⟩ := z
  simp only [ev] at z
  refine ⟨H0, S, ts, r, st, z.bind.imp fun a1 k v H1 st1 => ?_⟩
  refine ⟨H0, S, _, _, st1, k.bind.deep.imp fun a2 k w H2 st2 => ?_⟩
  obtain ⟨⟨l, d⟩, e, k⟩ := k.bind.of
  exact ⟨H0, S, ts, σ, a2.1, a1.2.2, a2.2.2, l, d, st2, e, k⟩
theorem c_neg {a : E} {x : Expr} {p : Pos} (ha : PE X x (tE C cf ca X.K EX W 9 a)) : PE X (.UnaryOp .USub x p) (tE C cf ca X.K EX W 0 (.neg a)) := by
  refine PEimp (pe_un un_neg ha) fun σ H Q z => ?_
  obtain ⟨H0, S, ts, r, st, z⟩ := z
  simp only [ev] at z
  refine ⟨H0, S, ts, r, st, z.bind.imp fun a1 k v H1 st1 => ?_⟩
  obtain ⟨r1, l1, d1⟩ := a1
  obtain ⟨hot, rp⟩ := Sta.peek st1
  cases d1 <;> first | exact k.elim | skip
  rename_i i
  exact ⟨i, rp.int_eq, k _ _ (st1.pop.push0 fun _ => .int 0 _)⟩
theorem c_not {a : E} {x : Expr} {p : Pos} (ha : PE X x (tE C cf ca X.K EX W 9 a)) : PE X (.UnaryOp .Not x p) (tE C cf ca X.K EX W 0 (.not a)) := by
  refine PEimp (pe_not ha) fun σ H Q z => ?_
  obtain ⟨H0, S, ts, r, st, z⟩ := z
  simp only [ev] at z
  refine ⟨H0, S, ts, r, st, z.bind.imp fun a1 k v H1 st1 => ?_⟩
  obtain ⟨r1, l1, d1⟩ := a1
  obtain ⟨hot, rp⟩ := Sta.peek st1
  cases d1 <;> first | exact k.elim | skip
  rename_i i
  exact ⟨i, rp.bl_eq, k _ _ (st1.pop.push0 fun _ => .bl 0 _)⟩
theorem t_not {a : E} {x : Expr} {p : Pos} (ha : PT X x (tT C cf ca X.K EX W a)) : PT X (.UnaryOp .Not x p) (tT C cf ca X.K EX W (.not a)) := by
  refine PTimp (pt_not ha) fun σ H Q z => ?_
  obtain ⟨H0, S, ts, r, st, z⟩ := z
  simp only [ev] at z
  refine ⟨H0, S, ts, r, st, z.bind.imp fun a1 k => ?_⟩
  obtain ⟨r1, l1, d1⟩ := a1
  cases d1 <;> first | exact k.elim | skip
  rename_i i
  obtain ⟨b, e, k⟩ := k
  cases e
  exact ⟨i, rfl, k⟩
theorem c_cmp {a b : E} {x y : Expr} {c : Co} {p : Pos} (hy : plainX y = true) (ha : PE X x (tE C cf ca X.K EX W 9 a)) (hb : PE X y (tE C cf ca X.K EX W 9 b)) : PE X (.Compare x [cmpOf c] [y] p) (tE C cf ca X.K EX W 0 (.cmp c a b)) := by
  refine PEimp (pe_cmpR (op_cmp (by have := g.un; omega) c) ha hb (plain_marks hy)) fun σ H Q z => ?_
  obtain ⟨H0, S, ts, r, st, z⟩ := z
  simp only [ev] at z
  refine ⟨H0, S, ts, r, st, z.bind.imp fun a1 k v H1 st1 => ?_⟩
  refine ⟨H0, S, _, _, st1, k.bind.deep.imp fun a2 k w H2 st2 => ?_⟩
  obtain ⟨d, e, k⟩ := k.bind.of
  obtain ⟨hot, h1, h2⟩ := Sta.peek2 st2
  exact ⟨S, hot, a1.2.2, a2.2.2, d, h1, h2, e, k _ H2 ((Sta.pop (Sta.pop st2)).push0 fun _ => .bl 0 _)⟩
theorem t_cmp {a b : E} {x y : Expr} {c : Co} {p : Pos} (hy : plainX y = true) (ha : PE X x (tE C cf ca X.K EX W 9 a)) (hb : PE X y (tE C cf ca X.K EX W 9 b)) : PT X (.Compare x [cmpOf c] [y] p) (tT C cf ca X.K EX W (.cmp c a b)) := by
  refine PTimp (pt_cmpR (op_cmp (by have := g.un; omega) c) ha hb (plain_marks hy)) fun σ H Q z => ?_
  obtain ⟨H0, S, ts, r, st, z⟩ := z
  simp only [ev] at z
  refine ⟨H0, S, ts, r, st, z.bind.imp fun a1 k v H1 st1 => ?_⟩
  refine ⟨H0, S, _, _, st1, k.bind.deep.imp fun a2 k w H2 st2 => ?_⟩
  obtain ⟨d, e, b, e', k⟩ := k.bind.of
  cases e'
  obtain ⟨hot, h1, h2⟩ := Sta.peek2 st2
  exact ⟨S, hot, a1.2.2, a2.2.2, _, h1, h2, e, _, rfl, k H2 (Sta.pop (Sta.pop st2))⟩
theorem c_chain {a b u : E} {x y z : Expr} {c c' : Co} {p : Pos} (hy : plainX z = true) (ha : PE X x (tE C cf ca X.K EX W 9 a)) (hb : PE X y (tE C cf ca X.K EX W 9 b)) (hc : PE X z (tE C cf ca X.K EX W 9 u)) : PE X (.Compare x [cmpOf c, cmpOf c'] [y, z] p) (tE C cf ca X.K EX W 0 (.chain c c' a b u)) := by
  have hu : X.A.units + 65 < cLine := by have := g.un; omega
  refine PEimp (pe_chain (op_cmp hu c) (op_cmp hu c') ha hb hc (plain_last hy)) fun σ H Q z => ?_
  obtain ⟨H0, S, ts, r, st, z⟩ := z
  simp only [ev] at z
  refine ⟨H0, S, ts, r, st, z.bind.imp fun a1 k v H1 st1 => ?_⟩
  refine ⟨H0, S, _, _, st1, k.bind.deep.imp fun a2 k w H2 st2 => ?_⟩
  obtain ⟨d, e, k⟩ := k.bind.of
  obtain ⟨hot, h1, h2⟩ := Sta.peek2 st2
  refine ⟨S, hot, a1.2.2, a2.2.2, d, h1, h2, e, d, rfl, ?_⟩
  cases d with
  | false => exact k _ H2 ((Sta.pop (Sta.pop st2)).push0 fun _ => .bl 0 _)
  | true =>
    refine ⟨H0, S, _, _, st2, (Post.bind k).deep.deep.imp fun a3 k u H3 st3 => ?_⟩
    obtain ⟨d', e', k⟩ := k.bind.of
    obtain ⟨hot', g1, g2⟩ := Sta.peek2 st3
    exact ⟨S, hot', a2.2.2, a3.2.2, d', g1, g2, e', k _ H3 ((Sta.pop (Sta.pop (Sta.pop st3))).push0 fun _ => .bl 0 _)⟩
theorem t_chain {a b u : E} {x y z : Expr} {c c' : Co} {p : Pos} (hy : plainX z = true) (ha : PE X x (tE C cf ca X.K EX W 9 a)) (hb : PE X y (tE C cf ca X.K EX W 9 b)) (hc : PE X z (tE C cf ca X.K EX W 9 u)) : PT X (.Compare x [cmpOf c, cmpOf c'] [y, z] p) (tT C cf ca X.K EX W (.chain c c' a b u)) := by
  have hu : X.A.units + 65 < cLine := by have := g.un; omega
  refine PTimp (pt_chain (op_cmp hu c) (op_cmp hu c') ha hb hc (plain_last hy)) fun σ H Q z => ?_
  obtain ⟨H0, S, ts, r, st, z⟩ := z
  simp only [ev] at z
  refine ⟨H0, S, ts, r, st, z.bind.imp fun a1 k v H1 st1 => ?_⟩
  refine ⟨H0, S, _, _, st1, k.bind.deep.imp fun a2 k w H2 st2 => ?_⟩
  obtain ⟨d, e, k⟩ := k.bind.of
  obtain ⟨hot, h1, h2⟩ := Sta.peek2 st2
  refine ⟨S, hot, a1.2.2, a2.2.2, d, h1, h2, e, d, rfl, ?_⟩
  cases d with
  | false =>
    obtain ⟨b, e', k⟩ := k
    cases e'
    exact ⟨false, rfl, k H2 (Sta.pop (Sta.pop st2))⟩
  | true =>
    refine ⟨H0, S, _, _, st2, (Post.bind k).deep.deep.imp fun a3 k u H3 st3 => ?_⟩
    obtain ⟨d', e', b, e2, k⟩ := k.bind.of
    cases e2
    obtain ⟨hot', g1, g2⟩ := Sta.peek2 st3
    exact ⟨S, hot', a2.2.2, a3.2.2, _, g1, g2, e', _, rfl, k H3 (Sta.pop (Sta.pop (Sta.pop st3)))⟩
/-- a value that is a truth, as a test -/
theorem t_val {a : E} {x : Expr} (h : PE X x (tE C cf ca X.K EX W 9 a)) (he : ∀ whole, isTrue x X.env whole = (do let v ← whole; standAt x.pos; holding [v] (truthy v))) : PT X x (tT C cf ca X.K EX W a) := by
  refine PTimp (pt_val h he) fun σ H Q z => ?_
  obtain ⟨H0, S, ts, r, st, z⟩ := z
  refine ⟨H0, S, ts, r, st, z.imp fun a1 k v H1 st1 => ?_⟩
  obtain ⟨b, e, k⟩ := k
  obtain ⟨r1, l1, d1⟩ := a1
  cases e
  obtain ⟨hot, rp⟩ := Sta.peek st1
  exact ⟨b, rp.bl_eq, k _ (Sta.pop st1)⟩
def tBo (C : Cfg) (cf : Nat → List D → CR) (ca : Nat → Addr) (K : PySem.W.Frag) (EX : Addr → Nat → Prop) (W : WX) (b : Bool) (es : Es) : TE := fun σ H Q => ∃ H0 S ts r, Sta K EX H0 S ts σ r H ∧ Post K ca EX W H0 S ts σ (evBop C.G C.sub cf b es r) fun p => ∀ v H', Sta K EX H0 S (tm 0 v p.2.1 p.2.2 :: ts) σ p.1 H' → Q v H'
def tBoT (C : Cfg) (cf : Nat → List D → CR) (ca : Nat → Addr) (K : PySem.W.Frag) (EX : Addr → Nat → Prop) (W : WX) (b : Bool) (es : Es) : TT := fun σ H Q => ∃ H0 S ts r, Sta K EX H0 S ts σ r H ∧ Post K ca EX W H0 S ts σ (evBop C.G C.sub cf b es r) fun p => ∃ b, p.2.2 = .bl b ∧ ∀ H', Sta K EX H0 S ts σ p.1 H' → Q b H'
theorem bo_one {b : Bool} {e : E} {x : Expr} {p : Pos} {o : BoolOp} (h : PE X x (tE C cf ca X.K EX W 9 e)) : PE X (.BoolOp o [x] p) (tBo C cf ca X.K EX W b (.cons e .nil)) := by
  refine PEimp (pe_one h) fun σ H Q z => ?_
  obtain ⟨H0, S, ts, r, st, z⟩ := z
  simp only [evBop] at z
  refine ⟨H0, S, ts, r, st, z.bind.imp fun a1 k v H1 st1 => ?_⟩
  obtain ⟨r1, l1, d1⟩ := a1
  obtain ⟨hot, rp⟩ := Sta.peek st1
  cases d1 <;> first | exact k.elim | skip
  rw [rp.bl_eq]
  exact k _ _ (st1.pop.push0 fun _ => .bl 0 _)
theorem bo_and {e e' : E} {es : Es} {x y : Expr} {xs : List Expr} {p : Pos} (h : PE X x (tE C cf ca X.K EX W 9 e)) (h2 : PE X (.BoolOp .And (y :: xs) p) (tBo C cf ca X.K EX W true (.cons e' es))) : PE X (.BoolOp .And (x :: y :: xs) p) (tBo C cf ca X.K EX W true (.cons e (.cons e' es))) := by
  refine PEimp (pe_and h h2) fun σ H Q z => ?_
  obtain ⟨H0, S, ts, r, st, z⟩ := z
  rw [evBop] at z
  refine ⟨H0, S, ts, r, st, z.bind.imp fun a1 k v H1 st1 => ?_⟩
  obtain ⟨r1, l1, d1⟩ := a1
  obtain ⟨hot, rp⟩ := Sta.peek st1
  cases d1 <;> first | exact k.elim | skip
  rename_i b
  refine ⟨b, rp.bl_eq, ?_⟩
  cases b with
  | true => exact ⟨H0, S, ts, r1, st1.pop, k⟩
  | false => exact k _ _ (st1.pop.push0 fun _ => .bl 0 _)
theorem bo_or {e e' : E} {es : Es} {x y : Expr} {xs : List Expr} {p : Pos} (h : PE X x (tE C cf ca X.K EX W 9 e)) (h2 : PE X (.BoolOp .Or (y :: xs) p) (tBo C cf ca X.K EX W false (.cons e' es))) : PE X (.BoolOp .Or (x :: y :: xs) p) (tBo C cf ca X.K EX W false (.cons e (.cons e' es))) := by
  refine PEimp (pe_or h h2) fun σ H Q z => ?_
  obtain ⟨H0, S, ts, r, st, z⟩ := z
  rw [evBop] at z
  refine ⟨H0, S, ts, r, st, z.bind.imp fun a1 k v H1 st1 => ?_⟩
  obtain ⟨r1, l1, d1⟩ := a1
  obtain ⟨hot, rp⟩ := Sta.peek st1
  cases d1 <;> first | exact k.elim | skip
  rename_i b
  refine ⟨b, rp.bl_eq, ?_⟩
  cases b with
  | false => exact ⟨H0, S, ts, r1, st1.pop, k⟩
  | true => exact k _ _ (st1.pop.push0 fun _ => .bl 0 _)
theorem bt_one {b : Bool} {e : E} {x : Expr} {p : Pos} (h : PT X x (tT C cf ca X.K EX W e)) : PW X (.BoolOp (if b then .And else .Or) [x] p) (tBoT C cf ca X.K EX W b (.cons e .nil)) := by
  have f : ∀ σ H Q, tBoT C cf ca X.K EX W b (.cons e .nil) σ H Q → tT C cf ca X.K EX W e σ H Q := fun σ H Q z => by
    obtain ⟨H0, S, ts, r, st, z⟩ := z
    simp only [evBop] at z
    refine ⟨H0, S, ts, r, st, z.bind.imp fun a1 k => ?_⟩
    obtain ⟨r1, l1, d1⟩ := a1
    cases d1 <;> first | exact k.elim | exact k
  cases b with
  | true => exact ⟨fun wh pins s σ H Q I z => (pw_and1 h).run wh pins s σ H Q I (f σ H Q z)⟩
  | false => exact ⟨fun wh pins s σ H Q I z => (pw_or1 h).run wh pins s σ H Q I (f σ H Q z)⟩
theorem bt_cons {b : Bool} {e e' : E} {es : Es} {x y : Expr} {xs : List Expr} {p : Pos} (h : PT X x (tT C cf ca X.K EX W e)) (h2 : PW X (.BoolOp (if b then .And else .Or) (y :: xs) p) (tBoT C cf ca X.K EX W b (.cons e' es))) : PW X (.BoolOp (if b then .And else .Or) (x :: y :: xs) p) (tBoT C cf ca X.K EX W b (.cons e (.cons e' es))) := by
  cases b with
  | true =>
    refine ⟨fun wh pins s σ H Q I z => (pw_and h h2).run wh pins s σ H Q I ?_⟩
    obtain ⟨H0, S, ts, r, st, z⟩ := z
    rw [evBop] at z
    refine ⟨H0, S, ts, r, st, z.bind.imp fun a1 k => ?_⟩
    obtain ⟨r1, l1, d1⟩ := a1
    cases d1 <;> first | exact k.elim | skip
    rename_i b
    refine ⟨b, rfl, fun H1 st1 => ?_⟩
    cases b with
    | true => exact ⟨H0, S, ts, r1, st1, k⟩
    | false =>
      obtain ⟨b', e2, k⟩ := k
      cases e2
      exact k H1 st1
  | false =>
    refine ⟨fun wh pins s σ H Q I z => (pw_or h h2).run wh pins s σ H Q I ?_⟩
    obtain ⟨H0, S, ts, r, st, z⟩ := z
    rw [evBop] at z
    refine ⟨H0, S, ts, r, st, z.bind.imp fun a1 k => ?_⟩
    obtain ⟨r1, l1, d1⟩ := a1
    cases d1 <;> first | exact k.elim | skip
    rename_i b
    refine ⟨b, rfl, fun H1 st1 => ?_⟩
    cases b with
    | false => exact ⟨H0, S, ts, r1, st1, k⟩
    | true =>
      obtain ⟨b', e2, k⟩ := k
      cases e2
      exact k H1 st1
theorem c_ife {c a b : E} {x y z : Expr} {p : Pos} {j : Nat} (hc : PT X x (tT C cf ca X.K EX W c)) (ha : PE X y (tE C cf ca X.K EX W j a)) (hb : PE X z (tE C cf ca X.K EX W j b)) : PE X (.IfExp x y z p) (tE C cf ca X.K EX W j (.ife c a b)) := by
  refine PEimp (pe_ifExp hc ha hb) fun σ H Q z => ?_
  obtain ⟨H0, S, ts, r, st, z⟩ := z
  simp only [ev] at z
  refine ⟨H0, S, ts, r, st, z.bind.imp fun a1 k => ?_⟩
  obtain ⟨r1, l1, d1⟩ := a1
  cases d1 <;> first | exact k.elim | skip
  rename_i b
  refine ⟨b, rfl, fun H1 st1 => ?_⟩
  cases b with
  | true => exact ⟨H0, S, ts, r1, st1, k⟩
  | false => exact ⟨H0, S, ts, r1, st1, k⟩
/-! displays, arguments -/
theorem a_nil {j h : Nat} : PA X [] (tEs C cf ca X.K EX W j h .nil) := by
  refine PAimp pa_nil fun σ H Q z => ?_
  obtain ⟨H0, S, ts, r, st, z⟩ := z
  simp only [evs] at z
  refine z [] H rfl ?_
  cases j with
  | zero => exact st.noArgs
  | succ j => exact st.noArgsB
theorem a_cons {j h : Nat} {e : E} {es : Es} {x : Expr} {xs : List Expr} (hx : plainX x = true) (he : PE X x (tE C cf ca X.K EX W j e)) (hs : PA X xs (tEs C cf ca X.K EX W j h es)) : PA X (x :: xs) (tEs C cf ca X.K EX W j h (.cons e es)) := by
  refine PAimp (pa_cons he hs (star_cons hx)) fun σ H Q z => ?_
  obtain ⟨H0, S, ts, r, st, z⟩ := z
  simp only [evs] at z
  refine ⟨H0, S, ts, r, st, z.bind.imp fun a1 k v H1 st1 => ?_⟩
  obtain ⟨r1, l1, d1⟩ := a1
  by_cases hl : h ≤ l1
  · rw [if_pos hl] at k
    refine ⟨H0, S, _, r1, st1, k.bind.deep.imp fun a2 k vs H2 hn st2 => ?_⟩
    refine k (v :: vs) H2 (by rw [List.length_cons, hn]; rfl) ?_
    cases j with
    | zero => exact st2.consArgs hl
    | succ j => exact st2.consArgsB
  · rw [if_neg hl] at k
    exact k.elim
theorem c_tup {h : Nat} {es : Es} {xs : List Expr} {k : Nat} {p : Pos} (hl : es.len ≤ 1000) (he : PA X xs (tEs C cf ca X.K EX W 0 h es)) : PE X (.Tuple xs k p) (tE C cf ca X.K EX W 0 (.tup h es)) := by
  refine PEimp (pe_tup he) fun σ H Q z => ?_
  obtain ⟨H0, S, ts, r, st, z⟩ := z
  simp only [ev] at z
  exact ⟨H0, S, ts, r, st, z.bind.imp fun a1 k vs H1 hn st1 => ⟨by rw [hn, sizeLine_eq]; omega, fun p hp => k _ _ (Sta.mkT st1 hp)⟩⟩
theorem c_lst {h : Nat} {es : Es} {xs : List Expr} {p : Pos} (hl : es.len ≤ 1000) (he : PA X xs (tEs C cf ca X.K EX W 0 (h - 1) es)) : PE X (.List xs p) (tE C cf ca X.K EX W 0 (.lst h es)) := by
  refine PEimp (pe_lst he) fun σ H Q z => ?_
  obtain ⟨H0, S, ts, r, st, z⟩ := z
  simp only [ev] at z
  exact ⟨H0, S, ts, r, st, z.bind.imp fun a1 k vs H1 hn st1 => ⟨by rw [hn, sizeLine_eq]; omega, fun p hp => k _ _ ((Sta.mkL st1 hp).lowT (by show h ≤ h - 1 + 1; omega))⟩⟩
theorem c_ix {a k : E} {x y : Expr} {p : Pos} {j : Nat} (hy : plainX y = true) (ha : PE X x (tE C cf ca X.K EX W (j + 1) a)) (hk : PE X y (tE C cf ca X.K EX W 9 k)) : PE X (.Subscript x y p) (tE C cf ca X.K EX W j (.ix a k)) := by
  refine PEimp (pe_ix (ix_sem j) ha hk (plain_ix hy)) fun σ H Q z => ?_
  obtain ⟨H0, S, ts, r, st, z⟩ := z
  simp only [ev] at z
  refine ⟨H0, S, ts, r, st, z.bind.imp fun a1 k v H1 st1 => ?_⟩
  refine ⟨H0, S, _, _, st1, k.bind.deep.imp fun a2 k w H2 st2 => ?_⟩
  obtain ⟨d, e, k⟩ := k.bind.of
  obtain ⟨hot, h1, h2⟩ := Sta.peek2 st2
  refine ⟨S, hot, a1.2.2, a2.2.2, d, h1, h2, e, fun u hu => ?_⟩
  have st3 : Sta X.K EX H0 S (.brw u j d :: ts) σ a2.1 H2 := Sta.step (t1 := [.brw v (j + 1) a1.2.2]) (t2 := [.brw u j d]) (Sta.pop st2) (Same.refl H2) fun hot A1 nd sub dom hS q => ⟨[], .nil, fun _ z => (by simp at z), fun hot' h1 h2 h3 h4 => .mk1 (.brw ((hu hot q.brw1).less hS fun a ha => (h1 a ha).elim id fun z => by simp at z))⟩
  cases j with
  | zero => exact k u H2 (Sta.brw0 st3)
  | succ j => exact k u H2 st3
theorem o_no : PO X none (tEo C cf ca X.K EX W .no) := by
  refine POimp po_none fun σ H Q z => ?_
  obtain ⟨H0, S, ts, r, st, z⟩ := z
  exact z H st
theorem o_yes {e : E} {x : Expr} (h : PE X x (tE C cf ca X.K EX W 9 e)) : PO X (some x) (tEo C cf ca X.K EX W (.yes e)) := by
  refine POimp (po_some h) fun σ H Q z => ?_
  obtain ⟨H0, S, ts, r, st, z⟩ := z
  simp only [evo] at z
  refine ⟨H0, S, ts, r, st, z.bind.imp fun a1 k v H1 st1 => ?_⟩
  obtain ⟨r1, l1, d1⟩ := a1
  obtain ⟨hot, rp⟩ := Sta.peek st1
  cases d1 <;> first | exact k.elim | skip
  exact ⟨_, rp.int_eq, k _ (Sta.pop st1)⟩
theorem c_sl {a : E} {lo hi : Eo} {x : Expr} {l u : Option Expr} {p p2 : Pos} (ha : PE X x (tE C cf ca X.K EX W 1 a)) (hl : PO X l (tEo C cf ca X.K EX W lo)) (hu : PO X u (tEo C cf ca X.K EX W hi)) : PE X (.Subscript x (.Slice l u none p2) p) (tE C cf ca X.K EX W 0 (.sl a lo hi)) := by
  refine PEimp (pe_slice (sl_sem (EX := EX)) ha hl hu) fun σ H Q z => ?_
  obtain ⟨H0, S, ts, r, st, z⟩ := z
  simp only [ev] at z
  refine ⟨H0, S, ts, r, st, z.bind.imp fun a1 k v H1 st1 => ?_⟩
  refine ⟨H0, S, _, _, st1, k.bind.deep.imp fun a2 k H2 st2 => ?_⟩
  refine ⟨H0, S, _, _, st2, k.bind.deep.imp fun a3 k H3 st3 => ?_⟩
  obtain ⟨⟨l, d⟩, e, k⟩ := k.bind.of
  exact ⟨H0, S, ts, σ, _, a1.2.2, l, d, st3, e, k⟩
omit g in
theorem RepTs.rev {K : PySem.W.Frag} {H : Hp} {S hot : List Addr} {j : Nat} : ∀ {vs : List V} {ds : List D}, RepTs K H S hot j vs ds → RepTs K H S hot j vs.reverse ds.reverse
  | _, _, .nil _ => .nil j
  | _, _, .cons h hs => by
    rw [List.reverse_cons, List.reverse_cons]
    exact (RepTs.rev hs).append (.cons h (.nil j))
/-- .. what a list holds is one -/
def tU (K : PySem.W.Frag) (te : TE) : TE := fun σ H Q => te σ H fun x H1 => (∀ a xs ys, SqL K H1 a xs → SqL K H1 a ys → xs = ys) → Q x H1
omit g in
theorem pe_uniq {e : Expr} {te : TE} (he : PE X e te) : PE X e (tU X.K te) :=
  ⟨fun pins s σ H Q I h => thn (he.run pins s σ H _ I h) fun v s1 ⟨x, H1, I1, r1, q1⟩ => ⟨x, H1, I1, r1, q1 fun a xs ys h1 h2 => I1.list_inj h1 h2⟩⟩
theorem c_rev {a : E} {x : Expr} {k : Nat} {p1 p2 p3 p : Pos} (ha : PE X x (tE C cf ca X.K EX W 1 a)) : PE X (.Subscript x (.Slice none none (some (.UnaryOp .USub (.Constant (.int 1) k p1) p2)) p3) p) (tE C cf ca X.K EX W 0 (.rev a)) := by
  refine PEimp (pe_revL (pe_uniq ha)) fun σ H Q z => ?_
  obtain ⟨H0, S, ts, r, st, z⟩ := z
  simp only [ev] at z
  refine ⟨H0, S, ts, r, st, z.bind.imp fun a1 k v H1 st1 => fun uq => ?_⟩
  obtain ⟨r1, l1, d1⟩ := a1
  obtain ⟨hot, g1⟩ := Sta.peek st1
  cases d1 <;> first | exact k.elim | skip
  obtain ⟨b, vs, rfl, hb, hs⟩ := g1.lst_ex
  refine ⟨b, vs, rfl, hb, fun q hq => ?_⟩
  refine k _ _ (Sta.newL (t1 := [_]) st1 hq fun hot A q => ?_)
  obtain ⟨_, _, e3, k1, k2⟩ := q.brw1.lst_ex
  cases e3
  rw [uq _ _ _ hb k1]
  exact k2.rev
theorem c_call {b : Bool} {f : Nat} {es : Es} {x : Str} {a : Expr} {as : List Expr} {p q : Pos} (hc : cal = true) (e : C.fns[f]? = some x) (hg : glB sc x = true) (hd : dbg x = true) (hp : ∀ y ∈ a :: as, plainX y = true)
    (ha : PA X (a :: as) (tEs C cf ca X.K EX W (if b then 9 else 0) 0 es)) : PE X (.Call (.Name x p) (a :: as) [] q) (tE C cf ca X.K EX W 0 (.call b f es)) := by
  obtain ⟨fa, fd, ps, k, h1, h2, h3, h4, h5⟩ := g.fns hc f x e
  simp only [dbg, Bool.not_eq_true'] at hd
  refine PEimp (pe_callS h4 h5 (g.gl hg) h1 h2 h3 (E := WE W) (fun σ => passAt g.tk σ) ha hd (star_cons (hp a List.mem_cons_self)) (star_none fun y hy => hp y (List.mem_cons_of_mem _ hy))) fun σ H Q z => ?_
  obtain ⟨H0, S, ts, r, st, z⟩ := z
  simp only [ev] at z
  refine ⟨H0, S, ts, r, st, z.bind.imp fun a1 k vs H1 _ st1 => ?_⟩
  obtain ⟨r1, ds⟩ := a1
  cases b with
  | false =>
    obtain ⟨S', s1, s2, s3⟩ := Sta.call st1
    refine ⟨S', ds, s1, s2, ?_⟩
    simp only at k
    cases hcf : cf f ds with
    | bad => rw [hcf] at k; exact k.elim
    | ok l d =>
      rw [hcf] at k
      simp only [Bool.false_and, Bool.false_eq_true, if_false] at k
      exact fun v H' A sm nd nw rp => k v H' (s3 v l d H' A sm nd nw rp)
    | exc c =>
      rw [hcf] at k
      exact fun H' sm => k H' (Sta.same (Sta.pop st1) sm)
  | true =>
    obtain ⟨hot, s2⟩ := Sta.peeks st1
    refine ⟨[], ds, by simp, s2.cold, ?_⟩
    simp only at k
    cases hcf : cf f ds with
    | bad => rw [hcf] at k; exact k.elim
    | ok l d =>
      rw [hcf] at k
      by_cases hcl : d.clean l = true
      · simp only [hcl, Bool.not_true, Bool.and_false, Bool.false_eq_true, if_false] at k
        refine fun v H' A sm nd nw rp => k v H' (Sta.fresh (Sta.pop st1) sm nd nw fun hot' => rp.of_clean hcl)
      · simp only [hcl, Bool.not_false, Bool.and_true, if_true] at k
        exact k.elim
    | exc c =>
      rw [hcf] at k
      exact fun H' sm => k H' (Sta.same (Sta.pop st1) sm)
omit g in
theorem strs_rep {K : PySem.W.Frag} {H : Hp} {S hot : List Addr} {j : Nat} : ∀ ss : List Str, RepTs K H S hot j (ss.map V.str) (ss.map D.str)
  | [] => .nil j
  | s :: ss => .cons (.str j s) (strs_rep ss)
/-- f(e, ..), the last arguments left out -/
theorem c_callD {f : Nat} {es : Es} {ss : List Str} {x : Str} {a : Expr} {as : List Expr} {p q : Pos} (hc : cal = true) (e : C.fns[f]? = some x) (hs : (f, ss) ∈ C.dfl) (hg : glB sc x = true) (hd : dbg x = true) (hp : ∀ y ∈ a :: as, plainX y = true)
    (ha : PA X (a :: as) (tEs C cf ca X.K EX W 0 0 es)) : PE X (.Call (.Name x p) (a :: as) [] q) (tE C cf ca X.K EX W 0 (.callD f es ss)) := by
  obtain ⟨fa, fd, ps, k, dsv, h1, h2, h3, hv, h4, h5⟩ := g.dfl hc f ss hs x e
  simp only [dbg, Bool.not_eq_true'] at hd
  refine PEimp (pe_callSD h4 h5 (g.gl hg) h1 h2 h3 hv (E := WE W) (fun σ => passAt g.tk σ) ha hd (star_cons (hp a List.mem_cons_self)) (star_none fun y hy => hp y (List.mem_cons_of_mem _ hy))) fun σ H Q z => ?_
  obtain ⟨H0, S, ts, r, st, z⟩ := z
  simp only [ev] at z
  refine ⟨H0, S, ts, r, st, z.bind.imp fun a1 k vs H1 _ st1 => ?_⟩
  obtain ⟨r1, ds⟩ := a1
  obtain ⟨S', s1, s2, s3⟩ := Sta.call st1
  refine ⟨S', ds ++ ss.map D.str, s1, s2.append (strs_rep ss), ?_⟩
  simp only at k
  cases hcf : cf f (ds ++ ss.map D.str) with
  | bad => rw [hcf] at k; exact k.elim
  | ok l d =>
    rw [hcf] at k
    exact fun v H' A sm nd nw rp => k v H' (s3 v l d H' A sm nd nw rp)
  | exc c =>
    rw [hcf] at k
    exact fun H' sm => k H' (Sta.same (Sta.pop st1) sm)
end
end
end Ly

set_option Elab.async false
set_option linter.all false
set_option maxRecDepth 100000
set_option maxHeartbeats 2000000
/-! Built-in calls, comprehensions, and all expressions together. -/
namespace Ly
open PySem PySem.Spec PyProof.Rows L2
section
variable {C : Cfg} {cal : Bool} {N : List Str} {sc : Scope} {cf : Nat → List D → CR} {ca : Nat → Addr} {EX : Addr → Nat → Prop} {W : WX} {X : Cx}
section
variable (g : Good C cal N sc cf ca EX W X)
include g
theorem c_blt {f : Bi} {es : Es} {a : Expr} {as : List Expr} {p q : Pos} (hm : f ≠ .maxd) (hc : f.cold = true ∨ cal = true) (hg : glB sc f.name = true) (hp : ∀ y ∈ a :: as, plainX y = true)
    (ha : PA X (a :: as) (tEs C cf ca X.K EX W 1 0 es)) : PE X (.Call (.Name f.name p) (a :: as) [] q) (tE C cf ca X.K EX W 0 (.blt f es)) := by
  have cr := call_blt (X := X) (EX := EX) f hm (hc.imp id g.calm)
  have hn : X.mg f.name = none := g.bl _ (by cases f <;> decide)
  have n1 : f.name ≠ "__name__" := by cases f <;> decide
  have n2 : (f.name == ("__debug__" : Str)) = false := by cases f <;> decide
  have bo := f.boot
  have h1 := star_cons (env := X.env) (xs := as) (hp a List.mem_cons_self)
  have h2 := star_none (env := X.env) (pos := q) fun y hy => hp y (List.mem_cons_of_mem _ hy)
  have main : PE X (.Call (.Name f.name p) (a :: as) [] q) (tCB (rSBlt X.K EX f) (tEs C cf ca X.K EX W 1 0 es)) := by
    cases f <;> first
      | exact pe_callB cr (g.gl hg) hn bo ha n1 n2 h1 h2
      | exact pe_callTy cr (g.gl hg) hn bo ha n1 n2 h1 h2
  refine PEimp main fun σ H Q z => ?_
  obtain ⟨H0, S, ts, r, st, z⟩ := z
  simp only [ev] at z
  refine ⟨H0, S, ts, r, st, z.bind.imp fun a1 k vs H1 _ st1 => ?_⟩
  obtain ⟨⟨l, d⟩, e, k⟩ := k.bind.of
  exact ⟨H0, S, ts, σ, _, a1.2, l, d, st1, e, k⟩
theorem c_maxd {a b : E} {x y : Expr} {p q u : Pos} (hc : cal = true) (hg : glB sc "max" = true) (hp : plainX x = true)
    (ha : PE X x (tE C cf ca X.K EX W 1 a)) (hb : PE X y (tE C cf ca X.K EX W 1 b)) : PE X (.Call (.Name "max" p) [x] [⟨some "default", y, u⟩] q) (tE C cf ca X.K EX W 0 (.blt .maxd (.cons a (.cons b .nil)))) := by
  have cr := call_maxD (X := X) (g.calm hc) (by have := g.un; omega)
  have hn : X.mg "max" = none := g.bl _ (by decide)
  have h1 := star_cons (env := X.env) (xs := []) hp
  have h2 : backTo q (starEach [x] X.env) = (false, eval x X.env) :: backTo q (starEach [] X.env) := by rw [h1]; rfl
  refine PEimp (pe_callBK cr (g.gl hg) hn PyProof.Rows.boot_max (pa_cons ha pa_nil h1) (pk_cons hb pk_nil) (he := h2) (hpl := by rw [h2]; rfl)) fun σ H Q z => ?_
  obtain ⟨H0, S, ts, r, st, z⟩ := z
  simp only [ev, evs] at z
  refine ⟨H0, S, ts, r, st, z.bind.bind.imp fun a1 k v H1 st1 => ?_⟩
  rw [if_pos (Nat.zero_le _)] at k
  refine ⟨H0, S, _, _, st1, (k.bind.bind.deep).imp fun a2 k w H2 st2 => ?_⟩
  rw [if_pos (Nat.zero_le _)] at k
  obtain ⟨⟨l, d⟩, e, k⟩ := (Post.bind (show Post X.K ca EX W H0 S ts σ ((R.of (bltop .maxd [a1.2.2, a2.2.2])).bind fun x => R.ok (a2.1, x.1, x.2)) _ from k)).of
  obtain ⟨r1, l1, d1⟩ := a1
  obtain ⟨r2, l2, d2⟩ := a2
  obtain ⟨hot, g1, g2⟩ := Sta.peek2 st2
  cases d1 <;> cases d2 <;> simp only [bltop, reduceCtorEq, Option.map_eq_some_iff] at e
  obtain ⟨is, e1, e2⟩ := e
  cases e2
  obtain ⟨p, ws, e3, h4, h5⟩ := g1.lst_ex
  have h6 := h5.ints e1
  subst h6
  exact ⟨p, is, _, by rw [e3], by rw [g2.int_eq], h4, k _ _ ((Sta.pop (Sta.pop st2)).push0 fun _ => .int 0 _)⟩
theorem c_isi {a : E} {t : Ty} {y : Expr} {p p2 q : Pos} (hg : glB sc "isinstance" = true) (ht : glB sc t.word = true) (hp : plainX y = true)
    (ha : PE X y (tE C cf ca X.K EX W 9 a)) : PE X (.Call (.Name "isinstance" p) [y, .Name t.word p2] [] q) (tE C cf ca X.K EX W 0 (.isi a t)) := by
  have hn : X.mg "isinstance" = none := g.bl _ (by decide)
  have ht2 : X.mg t.word = none := g.bl _ (by cases t <;> decide)
  have hw : PE X (.Name t.word p2) (tC (.ty t.name)) := by
    cases t <;> exact pe_bltn (g.gl ht) ht2 (by first | exact PyProof.Rows.boot_tuple | exact PyProof.Rows.boot_int | exact PyProof.Rows.boot_bool | exact PyProof.Rows.boot_str | exact PyProof.Rows.boot_list) rfl
  have h1 := star_cons (env := X.env) (xs := [.Name t.word p2]) hp
  refine PEimp (pe_callB call_isi (g.gl hg) hn PyProof.Rows.boot_isinstance (pa_cons ha (pa_cons hw pa_nil) h1) (he := h1)) fun σ H Q z => ?_
  obtain ⟨H0, S, ts, r, st, z⟩ := z
  simp only [ev] at z
  refine ⟨H0, S, ts, r, st, z.bind.imp fun a1 k v H1 st1 => ?_⟩
  obtain ⟨d, e, k⟩ := k.bind.of
  obtain ⟨hot, rp⟩ := Sta.peek st1
  obtain ⟨n, e1, e2⟩ := isaop_kit e
  exact ⟨v, .ty t.name, .type n, .type t.name, d, rfl, .ty _, rp.tyX e1, kit_ty e2, k _ _ (st1.pop.push0 fun _ => .bl 0 _)⟩
theorem c_isx {i k : Nat} {x T : Str} {p p1 p2 q : Pos} (hcal : cal = false) (hg : glB sc "isinstance" = true) (hx : mVar N sc i x = true) (hT : C.exs[k]? = some T) (hgT : glB sc T = true) (hd : dbg T = true) :
    PE X (.Call (.Name "isinstance" p) [.Name x p1, .Name T p2] [] q) (tE C cf ca X.K EX W 0 (.isx i k)) := by
  have hn : X.mg "isinstance" = none := g.bl _ (by decide)
  obtain ⟨cv, vv, r1, r2, r3, r4⟩ := g.exN k T hT
  simp only [dbg, Bool.not_eq_true'] at hd
  have hw : PE X (.Name T p2) (tC vv) := by
    rcases r3 with r3 | ⟨r3, r5, r6⟩
    · exact pe_glob (g.gl hgT) r3 r1 hd
    · exact pe_bltn (g.gl hgT) r3 r5 r1 r6 hd
  have cr : CallR X (.builtin "isinstance") (fun xs H Q => ∃ a c, EX a c ∧ rIsE X.K (ca c) a xs H Q) := fun pins s σ H xs us Q I r h => by
    obtain ⟨a, c, h1, h2⟩ := h
    exact g.exI hcal a c h1 pins s σ H xs us Q I r (.inl h2)
  refine PEimp (pe_callB cr (g.gl hg) hn PyProof.Rows.boot_isinstance (pa_cons (mVar_ok g hx p1) (pa_cons hw pa_nil))) fun σ H Q z => ?_
  obtain ⟨H0, S, ts, r, st, z⟩ := z
  simp only [ev] at z
  cases e : getv r i with
  | none => rw [e] at z; exact z.elim
  | some a =>
    obtain ⟨l, d⟩ := a
    rw [e] at z
    cases d <;> first | exact z.elim | skip
    by_cases hl : 100 ≤ l
    · simp only [if_pos hl] at z
      obtain ⟨a, e1, e2⟩ := Sta.excAt st e hl
      refine ⟨.ref a, e1, ?_⟩
      exact ⟨a, l - 100, e2, vv, cv, _, rfl, r2, r4 hcal a _ e2, z _ H (st.push0 fun _ => .bl 0 _)⟩
    · simp only [if_neg hl] at z
      exact z.elim
theorem mCls_ok (hcal : cal = false) : ∀ (ks : List Nat) (ts : List Expr), mCls C sc ks ts = true → ∃ (vvs : List V) (cvs : List Value), PA X ts (fun _ H Q => Q vvs H) ∧ vvs.length = ts.length ∧ (∀ us, Vals vvs us → us = cvs) ∧ ∀ a c, EX a c → PySem.W.kitAny X.K (.ref (ca c)) cvs = some (ks.any fun k => C.sub c k)
  | [], [], _ => ⟨[], [], pa_nil, rfl, fun us r => (by cases r; rfl), fun a c _ => rfl⟩
  | [], _ :: _, h => by simp [mCls] at h
  | _ :: _, [], h => by simp [mCls] at h
  | k :: ks, t :: ts, h => by
    simp only [mCls, Bool.and_eq_true] at h
    obtain ⟨h, h'⟩ := h
    obtain ⟨vvs, cvs, i1, i2, i3, i4⟩ := mCls_ok hcal ks ts h'
    split at h
    · rename_i T e
      obtain ⟨p2, rfl⟩ := dName_eq e
      simp only [Bool.and_eq_true, decide_eq_true_eq, dbg, Bool.not_eq_true'] at h
      obtain ⟨⟨hT, hgT⟩, hd⟩ := h
      obtain ⟨cv, vv, r1, r2, r3, r4⟩ := g.exN k T hT
      have hw : PE X (.Name T p2) (tC vv) := by
        rcases r3 with r3 | ⟨r3, r5, r6⟩
        · exact pe_glob (g.gl hgT) r3 r1 hd
        · exact pe_bltn (g.gl hgT) r3 r5 r1 r6 hd
      refine ⟨vv :: vvs, cv :: cvs, (pa_cons hw i1 : PA X (.Name T p2 :: ts) (tCons (tC vv) (fun _ H Q => Q vvs H))), by simp [i2], fun us r => ?_, fun a c ha => ?_⟩
      · cases r with
        | cons ra rb => rw [r2 _ ra, i3 _ rb]
      · have e1 := r4 hcal a c ha
        have e2 := i4 a c ha
        unfold PySem.W.kitAny
        rw [e1, List.any_cons]
        cases C.sub c k
        · simpa using e2
        · rfl
    · cases h
theorem c_isxs {i : Nat} {ks : List Nat} {x : Str} {ts : List Expr} {kk : Nat} {p p1 p2 q : Pos} (hcal : cal = false) (hg : glB sc "isinstance" = true) (hx : mVar N sc i x = true) (hT : mCls C sc ks ts = true) (hl : ts.length ≤ 1000) :
    PE X (.Call (.Name "isinstance" p) [.Name x p1, .Tuple ts kk p2] [] q) (tE C cf ca X.K EX W 0 (.isxs i ks)) := by
  have hn : X.mg "isinstance" = none := g.bl _ (by decide)
  obtain ⟨vvs, cvs, i1, i2, i3, i4⟩ := mCls_ok g hcal ks ts hT
  have cr : CallR X (.builtin "isinstance") (fun xs H Q => ∃ a c, EX a c ∧ rIsT X.K (ca c) a xs H Q) := fun pins s σ H xs us Q I r h => by
    obtain ⟨a, c, h1, h2⟩ := h
    exact g.exI hcal a c h1 pins s σ H xs us Q I r (.inr h2)
  refine PEimp (pe_callB cr (g.gl hg) hn PyProof.Rows.boot_isinstance (pa_cons (mVar_ok g hx p1) (pa_cons (pe_tup i1) pa_nil))) fun σ H Q z => ?_
  obtain ⟨H0, S, ts', r, st, z⟩ := z
  simp only [ev] at z
  cases e : getv r i with
  | none => rw [e] at z; exact z.elim
  | some a =>
    obtain ⟨l, d⟩ := a
    rw [e] at z
    cases d <;> first | exact z.elim | skip
    by_cases hl' : 100 ≤ l
    · simp only [if_pos hl'] at z
      obtain ⟨a, e1, e2⟩ := Sta.excAt st e hl'
      refine ⟨.ref a, e1, ?_⟩
      refine ⟨by rw [i2, sizeLine_eq]; omega, fun p hp => ?_⟩
      refine ⟨a, l - 100, e2, p, vvs, cvs, _, rfl, upd_same, i3, i4 a _ e2, z _ _ ?_⟩
      exact Sta.step (t1 := []) (t2 := [.own (.bl _) 0 (.bl _)]) st (same_upd hp) fun hot A1 nd sub dom hS q => ⟨[], .nil, fun _ z => (by simp at z), fun hot' h1 h2 h3 h4 => .mk1 (.own (.bl 0 _))⟩
    · simp only [if_neg hl'] at z
      exact z.elim
omit g in
theorem insU_mem {x z : Int} : ∀ {l : List Int}, z ∈ insU x l ↔ z = x ∨ z ∈ l
  | [] => by simp [insU]
  | y :: ys => by
    rw [insU]
    split
    · simp
    · split
      · rename_i h; subst h; simp
      · rw [List.mem_cons, insU_mem (l := ys), List.mem_cons]
        constructor
        · rintro (h | h | h)
          · exact .inr (.inl h)
          · exact .inl h
          · exact .inr (.inr h)
        · rintro (h | h | h)
          · exact .inr (.inl h)
          · exact .inl h
          · exact .inr (.inr h)
omit g in
theorem insU_pw (x : Int) : ∀ {l : List Int}, l.Pairwise (· < ·) → (insU x l).Pairwise (· < ·)
  | [], _ => by simp [insU]
  | y :: ys, h => by
    have h1 := List.pairwise_cons.mp h
    rw [insU]
    split
    · rename_i hxy
      refine List.pairwise_cons.mpr ⟨fun z hz => ?_, h⟩
      rcases List.mem_cons.mp hz with rfl | hz
      · exact hxy
      · exact Int.lt_trans hxy (h1.1 z hz)
    · split
      · exact h
      · refine List.pairwise_cons.mpr ⟨fun z hz => ?_, insU_pw x h1.2⟩
        rcases insU_mem.mp hz with rfl | hz
        · omega
        · exact h1.1 z hz
omit g in
theorem usort_mem {z : Int} : ∀ {l : List Int}, z ∈ usortI l ↔ z ∈ l
  | [] => by simp [usortI]
  | x :: l => by rw [usortI, insU_mem, usort_mem (l := l), List.mem_cons]
omit g in
theorem usort_pw : ∀ l : List Int, (usortI l).Pairwise (· < ·)
  | [] => .nil
  | x :: l => insU_pw x (usort_pw l)
omit g in
theorem strict_uniq {a b : List Int} (ha : a.Pairwise (· < ·)) (hb : b.Pairwise (· < ·)) (h : ∀ k, k ∈ a ↔ k ∈ b) : a = b := by
  have na : a.Nodup := ha.imp fun h => Int.ne_of_lt h
  have nb : b.Nodup := hb.imp fun h => Int.ne_of_lt h
  exact sort_uniq a b ((List.perm_ext_iff_of_nodup na nb).mpr h) (ha.imp fun h => Int.le_of_lt h) (hb.imp fun h => Int.le_of_lt h)
/-- sorted(set([..])) -/
theorem c_sset {a : E} {z : Expr} {p p2 q q2 : Pos} (hc : cal = true) (hg : glB sc "sorted" = true) (hg2 : glB sc "set" = true) (hp : plainX z = true) (ha : PE X z (tE C cf ca X.K EX W 1 a)) :
    PE X (.Call (.Name "sorted" p) [.Call (.Name "set" p2) [z] [] q2] [] q) (tE C cf ca X.K EX W 0 (.sset a)) := by
  have m1 : X.mg "sorted" = none := g.bl _ (by decide)
  have m2 : X.mg "set" = none := g.bl _ (by decide)
  have b2 : bootBuiltins "set" = some (.type "set") := by decide +kernel
  have s1 := star_cons (env := X.env) (xs := []) hp
  have inner : PE X (.Call (.Name "set" p2) [z] [] q2) (tCB (rSetL X.K X.w) (tCons (tE C cf ca X.K EX W 1 a) tNil)) := pe_callTy (cr_setL (g.calm hc)) (g.gl hg2) m2 b2 (pa_cons ha pa_nil s1) (by decide) (by decide) s1 rfl
  have outer : PE X (.Call (.Name "sorted" p) [.Call (.Name "set" p2) [z] [] q2] [] q) (tCB (rSortedSet X.w) (tCons (tCB (rSetL X.K X.w) (tCons (tE C cf ca X.K EX W 1 a) tNil)) tNil)) := pe_callB (cr_sortedSet (g.calm hc)) (g.gl hg) m1 PyProof.Rows.boot_sorted (pa_cons inner pa_nil)
  refine PEimp outer fun σ H Q z => ?_
  obtain ⟨H0, S, ts, r, st, z⟩ := z
  simp only [ev] at z
  refine ⟨H0, S, ts, r, st, z.bind.imp fun a1 k v H1 st1 => ?_⟩
  obtain ⟨r1, l1, d1⟩ := a1
  obtain ⟨hot, g1⟩ := Sta.peek st1
  cases d1 <;> first | exact k.elim | skip
  rename_i ds
  obtain ⟨is, e1, k⟩ := (Post.bind k).of
  obtain ⟨b, vs, rfl, hb, hs⟩ := g1.lst_ex
  rw [hs.ints e1] at hb
  by_cases hl : is.length < 60
  · rw [if_pos hl] at k
    refine ⟨b, is, rfl, hb, hl, fun t c ht hct => ?_⟩
    refine ⟨t, _, c, rfl, upd_same, by omega, fun ns u h1 h2 _ hu => ?_⟩
    have en : ns = usortI is := strict_uniq h1 (usort_pw is) fun k => by rw [h2 k, usort_mem]; simp
    subst en
    refine k _ _ (Sta.newL (t1 := [_]) (Sta.same st1 (same_upd ht)) hu fun hot A q => ints_rep _)
  · rw [if_neg hl] at k
    exact k.elim
omit g in
theorem rgV_rep {K : PySem.W.Frag} {H : Hp} {S hot : List Addr} {j : Nat} : ∀ (n : Nat) (lo : Int), RepTs K H S hot j ((List.range n).map fun i : Nat => V.int (lo + i)) (rangeD lo n)
  | 0, lo => .nil j
  | n + 1, lo => by
    rw [List.range_succ_eq_map, List.map_cons, List.map_map, rangeD]
    refine .cons ?_ ?_
    · have e : lo + ((0 : Nat) : Int) = lo := by omega
      rw [e]
      exact .int j lo
    · have q := rgV_rep (K := K) (H := H) (S := S) (hot := hot) (j := j) n (lo + 1)
      have e : ((fun i : Nat => V.int (lo + i)) ∘ Nat.succ) = fun i : Nat => V.int (lo + 1 + i) := by
        funext i
        show V.int (lo + ((i + 1 : Nat) : Int)) = _
        congr 1
        omega
      rw [e]
      exact q
omit g in
theorem downV_rep {K : PySem.W.Frag} {H : Hp} {S hot : List Addr} {j : Nat} : ∀ (n : Nat) (hi : Int), RepTs K H S hot j (downV hi n) (downD hi n)
  | 0, hi => .nil j
  | n + 1, hi => .cons (.int j hi) (downV_rep n (hi - 1))
/-- list(range(n)) -/
theorem c_lrg {a : E} {z : Expr} {p p2 q q2 : Pos} (hc : cal = true) (hg : glB sc "list" = true) (hg2 : glB sc "range" = true) (hp : plainX z = true) (ha : PE X z (tE C cf ca X.K EX W 9 a)) :
    PE X (.Call (.Name "list" p) [.Call (.Name "range" p2) [z] [] q2] [] q) (tE C cf ca X.K EX W 0 (.lrg a)) := by
  have m1 : X.mg "list" = none := g.bl _ (by decide)
  have m2 : X.mg "range" = none := g.bl _ (by decide)
  have s1 := star_cons (env := X.env) (xs := []) hp
  refine PEimp (pe_listRg (g.calm hc) (g.gl hg) m1 (prg_1 (g.gl hg2) m2 ha s1)) fun σ H Q z => ?_
  obtain ⟨H0, S, ts, r, st, z⟩ := z
  simp only [ev] at z
  refine ⟨H0, S, ts, r, st, z.bind.imp fun a1 k v H1 st1 => ?_⟩
  obtain ⟨r1, l1, d1⟩ := a1
  obtain ⟨hot, g1⟩ := Sta.peek st1
  cases d1 <;> first | exact k.elim | skip
  rename_i n
  simp only at k
  by_cases hr : rng62 n = true
  · rw [if_pos hr] at k
    have hr' : n.natAbs ≤ 1000000 := of_decide_eq_true hr
    refine ⟨n, g1.int_eq, ⟨by omega, by omega, by omega, by omega, by omega⟩, fun u hu => ?_⟩
    refine k _ _ (Sta.newL (t1 := [_]) st1 hu fun hot A q => ?_)
    have := rgV_rep (K := X.K) (H := H1) (S := S) (hot := hot) (j := 0) n.toNat 0
    unfold rgV
    rw [Int.sub_zero]
    exact this
  · rw [if_neg hr] at k
    exact k.elim
/-- list(range(i, j, -1)) -/
theorem c_lrgd {a b : E} {x y : Expr} {kk : Nat} {p p2 q q2 p3 p4 : Pos} (hc : cal = true) (hg : glB sc "list" = true) (hg2 : glB sc "range" = true) (hx : plainX x = true) (hy : plainX y = true) (ha : PE X x (tE C cf ca X.K EX W 9 a)) (hb : PE X y (tE C cf ca X.K EX W 9 b)) :
    PE X (.Call (.Name "list" p) [.Call (.Name "range" p2) [x, y, .UnaryOp .USub (.Constant (.int 1) kk p3) p4] [] q2] [] q) (tE C cf ca X.K EX W 0 (.lrgd a b)) := by
  have m1 : X.mg "list" = none := g.bl _ (by decide)
  have m2 : X.mg "range" = none := g.bl _ (by decide)
  have s3 := star_cons (env := X.env) (x := .UnaryOp .USub (.Constant (.int 1) kk p3) p4) (xs := []) rfl
  have s2 := star_cons (env := X.env) (xs := [.UnaryOp .USub (.Constant (.int 1) kk p3) p4]) hy
  have s1 := star_cons (env := X.env) (xs := [y, .UnaryOp .USub (.Constant (.int 1) kk p3) p4]) hx
  have hm1 : PE X (.UnaryOp .USub (.Constant (.int 1) kk p3) p4) (tUn (rU fun i => .int (-i)) (tC (.int 1))) := pe_un un_neg pe_int
  have hpl : (backTo q2 (starEach [y, .UnaryOp .USub (.Constant (.int 1) kk p3) p4] X.env)).any (·.1) = false := star_none fun z hz => by
    simp only [List.mem_cons, List.mem_nil_iff, or_false] at hz
    rcases hz with rfl | rfl
    · exact hy
    · rfl
  refine PEimp (pe_listDown (g.calm hc) (g.gl hg) m1 (g.gl hg2) m2 (pa_cons ha (pa_cons hb (pa_cons hm1 pa_nil s3) s2) s1) s1 hpl) fun σ H Q z => ?_
  obtain ⟨H0, S, ts, r, st, z⟩ := z
  simp only [ev] at z
  refine ⟨H0, S, ts, r, st, z.bind.imp fun a1 k v H1 st1 => ?_⟩
  refine ⟨H0, S, _, _, st1, (k.bind.deep).imp fun a2 k w H2 st2 => ?_⟩
  obtain ⟨r1, l1, d1⟩ := a1
  obtain ⟨r2, l2, d2⟩ := a2
  obtain ⟨hot, g1, g2⟩ := Sta.peek2 st2
  refine ⟨1, rfl, ?_⟩
  cases d1 <;> cases d2 <;> first | exact k.elim | skip
  rename_i i k0 j
  simp only at k
  by_cases hr : (rng62 i && rng62 j) = true
  · rw [if_pos hr] at k
    rw [Bool.and_eq_true] at hr
    refine ⟨i, j, by rw [g1.int_eq, g2.int_eq], of_decide_eq_true hr.1, of_decide_eq_true hr.2, fun u hu => ?_⟩
    exact k _ _ (Sta.newL (t1 := [_, _]) st2 hu fun hot A q => downV_rep _ _)
  · rw [if_neg hr] at k
    exact k.elim
omit g in
theorem Sta.lstAt {i m : Nat} {ds : List D} {H0 H : Hp} {S : List Addr} {ts : List Tm} {σ : L2.St} {r : Env} {K : PySem.W.Frag} (st : Sta K EX H0 S ts σ r H) (e : getv r i = some (m + 1, .lst ds)) : ∃ a vs hot A, σ[i]? = some (some (.ref a)) ∧ H a = some (.lst vs) ∧ Reps K H hot m vs ds A := by
  obtain ⟨_, _, A, B, _, _, _, hS⟩ := st
  obtain ⟨o, x, _, A1, _, e1, e2, _, h1, _⟩ := hS.split i (getv_lt e)
  rw [getv_some e] at e2
  have e2' := Option.some.inj e2
  clear e2
  cases h1 with
  | non => cases e2'
  | exc h1 =>
    have z := congrArg Prod.snd (Option.some.inj e2')
    cases z
  | sm h1 =>
    cases e2'
    cases h1 with
    | lstS h hs => exact ⟨_, _, _, _, e1, h, hs⟩
omit g in
theorem few1 {x : Expr} {env : PySem.Env} {p : Pos} (h : plainX x = true) : ((backTo p (starEach [x] env)).all (fun x => !x.1) && (backToKw p (keywordEach [] env)).all (fun x => x.1.isSome) && decide (([x] : List Expr).length + ([] : List Keyword).length + (if ([] : List Keyword).isEmpty then 0 else 1) < 30)) = true := by
  rw [star_cons h]; rfl
omit g in
theorem idxD_sem : ∀ {ds : List D} {d : D} {j : Nat}, idxD ds d = some j → ∃ z, (pds ds)[j]? = some z ∧ PyData.eqv z d.pd = true ∧ ∀ (m : Nat) (z' : PyData), m < j → (pds ds)[m]? = some z' → PyData.eqv z' d.pd = false := by
  intro ds d j h
  unfold idxD at h
  rw [List.findIdx?_eq_some_iff_getElem] at h
  obtain ⟨h1, h2, h3⟩ := h
  rw [pds_map]
  refine ⟨ds[j].pd, by simp [h1], h2, fun m z' hm hz => ?_⟩
  have hml : m < ds.length := by omega
  rw [List.getElem?_map, List.getElem?_eq_getElem hml] at hz
  cases hz
  have := h3 m hm
  simpa [eqd] using this
omit g in
theorem Reps.strs {H : Hp} {hot : List Addr} {K : PySem.W.Frag} : ∀ {m : Nat} {vs : List V} {ds : List D} {A : List Addr} {ss : List Str}, Reps K H hot m vs ds A → asStrs ds = some ss → vs = ss.map V.str
  | _, _, _, _, _, .nil _, h => by cases h; rfl
  | _, _, _, _, _, .cons (d := d) h hs, e => by
    cases d <;> simp only [asStrs, reduceCtorEq, Option.map_eq_some_iff] at e
    obtain ⟨ss, e1, e2⟩ := e
    subst e2
    rw [Reps.strs hs e1]
    cases h
    rfl
theorem c_lidx {i : Nat} {e : E} {x : Expr} {y : Str} {p1 p2 p3 : Pos} (hy : mVar N sc i y = true) (hl : (p2.endLine == p3.line) = true) (hx : plainX x = true) (he : PE X x (tE C cf ca X.K EX W 9 e)) :
    PE X (.Call (.Attribute (.Name y p1) "index" p2) [x] [] p3) (tE C cf ca X.K EX W 0 (.lidx i e)) := by
  have hs := star_cons (env := X.env) (xs := []) hx
  refine PEimp (pe_bm F.plainAttrs_list F.slot_list_index (by with_unfolding_all rfl) (mt_indexD (by have := g.un; omega)) (mVar_ok g hy p1) (pa_cons he pa_nil hs) rfl (few1 hx) hl hs) fun σ H Q z => ?_
  obtain ⟨H0, S, ts, r, st, z⟩ := z
  simp only [ev] at z
  split at z
  · rename_i m0 ds0 e0
    obtain ⟨a, vs0, hot0, A0, h1, h2, h3⟩ := st.lstAt e0
    refine ⟨.ref a, h1, .inl ⟨rfl, vs0, SqL.of h2⟩, H0, S, ts, r, st, z.bind.imp fun a1 k v H1 st1 => ?_⟩
    obtain ⟨r1, l1, d1⟩ := a1
    obtain ⟨hot1, g1⟩ := Sta.peek st1
    simp only at k g1
    split at k
    · rename_i m ds e1
      split at k
      · rename_i hk
        rw [Bool.and_eq_true] at hk
        obtain ⟨j, e2, k⟩ := (Post.bind k).of
        obtain ⟨b, vs, hot, A, q1, q2, q3⟩ := st1.lstAt e1
        rw [h1] at q1
        cases q1
        obtain ⟨z, k1, k2, k3⟩ := idxD_sem e2
        have hdp : DpAll X.K H1 vs (pds ds) := RepTs.dp (S := []) (Reps.toT (j := m) (by simp) q3 (by simp) (Nat.le_refl _)) (by
          have := hk.1
          unfold okd D.okd at this
          exact this)
        refine ⟨a, v, d1.pd, pds ds, j, z, rfl, rfl, .lst (SqL.of q2) hdp, RepT.dp g1 hk.2, okd_shaped hk.1, okd_shaped hk.2, k1, k2, k3, ?_⟩
        exact k _ _ (st1.pop.push0 fun _ => .int 0 _)
      · exact k.elim
    · exact k.elim
  · exact z.elim
theorem c_lcnt {i : Nat} {e : E} {x : Expr} {y : Str} {p1 p2 p3 : Pos} (hy : mVar N sc i y = true) (hl : (p2.endLine == p3.line) = true) (hx : plainX x = true) (he : PE X x (tE C cf ca X.K EX W 9 e)) :
    PE X (.Call (.Attribute (.Name y p1) "count" p2) [x] [] p3) (tE C cf ca X.K EX W 0 (.lcnt i e)) := by
  have hs := star_cons (env := X.env) (xs := []) hx
  refine PEimp (pe_bm F.plainAttrs_list F.slot_list_count (by with_unfolding_all rfl) mt_countS (mVar_ok g hy p1) (pa_cons he pa_nil hs) rfl (few1 hx) hl hs) fun σ H Q z => ?_
  obtain ⟨H0, S, ts, r, st, z⟩ := z
  simp only [ev] at z
  split at z
  · rename_i m0 ds0 e0
    obtain ⟨a, vs0, hot0, A0, h1, h2, h3⟩ := st.lstAt e0
    refine ⟨.ref a, h1, .inl ⟨rfl, vs0, SqL.of h2⟩, H0, S, ts, r, st, z.bind.imp fun a1 k v H1 st1 => ?_⟩
    obtain ⟨r1, l1, d1⟩ := a1
    obtain ⟨hot1, g1⟩ := Sta.peek st1
    simp only at k g1
    split at k
    · rename_i m ds s e1
      obtain ⟨ss, e2, k⟩ := (Post.bind k).of
      obtain ⟨b, vs, hot, A, q1, q2, q3⟩ := st1.lstAt e1
      rw [h1] at q1
      cases q1
      have e3 := Reps.strs q3 e2
      subst e3
      refine ⟨a, ss, s, rfl, by cases g1; rfl, SqL.of q2, ?_⟩
      exact k _ _ (st1.pop.push0 fun _ => .int 0 _)
    · exact k.elim
  · exact z.elim
end
end
end Ly

set_option Elab.async false
set_option linter.all false
set_option maxRecDepth 100000
set_option maxHeartbeats 2000000
/-! What is walked; comprehensions. -/
namespace Ly
open PySem PySem.Spec PyProof.Rows L2
section
variable {C : Cfg} {cal : Bool} {N : List Str} {sc : Scope} {cf : Nat → List D → CR} {ca : Nat → Addr} {EX : Addr → Nat → Prop} {W : WX} {X : Cx} {K : PySem.W.Frag}
variable {H0 H H' : Hp} {S : List Addr} {ts : List Tm} {σ : L2.St} {r : Env}

/-! ### more of states -/
theorem Tms.perm {hot : List Addr} {t1 t2 : List Tm} (p : t1.Perm t2) : ∀ {A : List Addr}, Tms K H S hot t1 A → ∃ A', A.Perm A' ∧ Tms K H S hot t2 A' := by
  induction p with
  | nil => exact fun {A} h => ⟨A, .refl _, h⟩
  | cons t p ih =>
    intro A h
    cases h with
    | cons h hs =>
      obtain ⟨A', q, h'⟩ := ih hs
      exact ⟨_, List.Perm.append_left _ q, .cons h h'⟩
  | swap t u l =>
    intro A h
    cases h with
    | cons h hs =>
      cases hs with
      | cons h2 hs =>
        refine ⟨_, ?_, .cons h2 (.cons h hs)⟩
        rw [← List.append_assoc, ← List.append_assoc]
        exact List.Perm.append_right _ List.perm_append_comm
  | trans p q ih1 ih2 =>
    intro A h
    obtain ⟨A', q1, h1⟩ := ih1 h
    obtain ⟨A2, q2, h2⟩ := ih2 h1
    exact ⟨A2, q1.trans q2, h2⟩
theorem Sta.perm {t1 : List Tm} (st : Sta K EX H0 S t1 σ r H) (p : t1.Perm ts) : Sta K EX H0 S ts σ r H := by
  obtain ⟨ex, sd, A, B, nd, new, hT, hS⟩ := st
  obtain ⟨A', q, h⟩ := hT.perm p
  have pq : (A ++ B).Perm (A' ++ B) := List.Perm.append_right _ q
  have F : Fr H H S S (S ++ (A ++ B)) (S ++ (A' ++ B)) [] := ⟨fun a _ o e => e, fun _ z => (by simp at z), fun _ z => (by simp at z), fun a ha => by
    refine .inl ?_
    rcases List.mem_append.mp ha with z | z
    · exact List.mem_append_left _ z
    · exact List.mem_append_right _ (pq.mem_iff.mpr z), fun a ha => List.mem_append_left _ ha, fun a ha => .inl ha⟩
  exact ⟨ex, sd, A', B, pq.nodup_iff.mp nd, fun a ha => new a (pq.mem_iff.mpr ha), h.frame F (.inl (by simp)) (by simp), hS.frame F (by simp)⟩
theorem Slots.swap {hot : List Addr} : ∀ {σ σ' : L2.St} {r : Env} {A : List Addr}, Slots K EX H hot σ r A → σ'.length = σ.length → (∀ i : Nat, r[i]? = some none ∨ σ'[i]? = σ[i]?) → Slots K EX H hot σ' r A
  | _, σ', _, _, .nil, hl, _ => by
    have : σ' = [] := List.eq_nil_of_length_eq_zero hl
    subst this
    exact .nil
  | _, [], _, _, .cons _ _, hl, _ => by simp at hl
  | _, o' :: σ', _, _, .cons h hs, hl, e => by
    refine .cons ?_ (Slots.swap hs (by simpa using hl) fun i => by simpa using e (i + 1))
    rcases e 0 with z | z
    · simp at z
      subst z
      cases h
      exact .non
    · simp at z
      subst z
      exact h
theorem Sta.swapSt {σ' : L2.St} (st : Sta K EX H0 S ts σ r H) (hl : σ'.length = σ.length) (e : ∀ i : Nat, r[i]? = some none ∨ σ'[i]? = σ[i]?) : Sta K EX H0 S ts σ' r H := by
  obtain ⟨ex, sd, A, B, nd, new, hT, hS⟩ := st
  exact ⟨ex, sd, A, B, nd, new, hT, hS.swap hl e⟩
theorem wipeE_get {k : Nat} : ∀ {js : List Nat} {r : Env}, (wipeE js r)[k]? = if k ∈ js then (r[k]?).map (fun _ => none) else r[k]?
  | [], r => by simp [wipeE]
  | i :: js, r => by
    rw [wipeE, List.getElem?_set]
    by_cases hi : i = k
    · subst hi
      simp only [if_true, List.mem_cons, true_or]
      have hl : (wipeE js r).length = r.length := wipeE_len
      by_cases h : i < r.length
      · rw [if_pos (by omega)]
        simp [h]
      · rw [if_neg (by omega)]
        simp [List.getElem?_eq_none (Nat.le_of_not_lt h)]
    · rw [if_neg hi, wipeE_get]
      have : k ∈ i :: js ↔ k ∈ js := by simp [Ne.symm hi]
      simp only [this]
where
  wipeE_len : ∀ {js : List Nat} {r : Env}, (wipeE js r).length = r.length
  | [], _ => rfl
  | i :: js, r => by rw [wipeE, List.length_set, wipeE_len]
theorem wipe_get {k : Nat} : ∀ {js : List Nat} {r : L2.St}, (wipe r js)[k]? = if k ∈ js then (r[k]?).map (fun _ => none) else r[k]?
  | [], r => by simp [wipe]
  | i :: js, r => by
    rw [wipe, List.getElem?_set]
    by_cases hi : i = k
    · subst hi
      simp only [if_true, List.mem_cons, true_or]
      have hl : (wipe r js).length = r.length := wipe_length r js
      by_cases h : i < r.length
      · rw [if_pos (by omega)]
        simp [h]
      · rw [if_neg (by omega)]
        simp [List.getElem?_eq_none (Nat.le_of_not_lt h)]
    · rw [if_neg hi, wipe_get]
      have : k ∈ i :: js ↔ k ∈ js := by simp [Ne.symm hi]
      simp only [this]
theorem wipe_agree {σ σ' : L2.St} {js : List Nat} (hl : σ'.length = σ.length) (h : ∀ k, k ∉ js → σ'[k]? = σ[k]?) : wipe σ' js = wipe σ js := by
  refine List.ext_getElem? fun k => ?_
  rw [wipe_get, wipe_get]
  by_cases hk : k ∈ js
  · rw [if_pos hk, if_pos hk]
    by_cases hlt : k < σ.length
    · rw [List.getElem?_eq_getElem hlt, List.getElem?_eq_getElem (hl ▸ hlt)]; rfl
    · rw [List.getElem?_eq_none (Nat.le_of_not_lt hlt), List.getElem?_eq_none (by omega)]
  · rw [if_neg hk, if_neg hk]
    exact h k hk
theorem Sta.wiped (st : Sta K EX H0 S ts σ r H) : ∀ js : List Nat, Sta K EX H0 S ts (wipe σ js) (wipeE js r) H
  | [] => st
  | i :: js => by rw [wipe, wipeE]; exact (Sta.wiped st js).drop i none
theorem Sta.unwiped {js : List Nat} (st : Sta K EX H0 S ts (wipe σ js) r H) : Sta K EX H0 S ts σ (wipeE js r) H := by
  have h : ∀ js' : List Nat, Sta K EX H0 S ts (wipe σ js) (wipeE js' r) H := fun js' => by
    induction js' with
    | nil => exact st
    | cons i js' ih => rw [wipeE]; exact ih.drop' i
  refine (h js).swapSt (wipe_length σ js).symm fun i => ?_
  rw [wipeE_get, wipe_get]
  by_cases hi : i ∈ js
  · rw [if_pos hi, if_pos hi]
    by_cases hlt : i < r.length
    · left; rw [List.getElem?_eq_getElem hlt]; rfl
    · right
      have e := st.len
      rw [wipe_length] at e
      rw [List.getElem?_eq_none (by omega)]; rfl
  · rw [if_neg hi, if_neg hi]
    exact .inr rfl
theorem Sta.peekOwn {v : V} {l : Nat} {d : D} (st : Sta K EX H0 S (.own v l d :: ts) σ r H) : ∃ hot A, Rep K H hot l v d A := by
  obtain ⟨_, _, A, B, _, _, hT, _⟩ := st
  cases hT with
  | cons h hs =>
    cases h with
    | own h => exact ⟨_, _, h⟩
theorem Rep.lst_ex {hot A : List Addr} {v : V} {ds : List D} (h : Rep K H hot 0 v (.lst ds) A) : ∃ a vs, v = .ref a ∧ SqL K H a vs ∧ Reps K H hot 0 vs ds A := by
  cases h with
  | lst0 h hs => exact ⟨_, _, rfl, h.seq, hs⟩
theorem Rep.tup_ex {hot A : List Addr} {l : Nat} {v : V} {ds : List D} (h : Rep K H hot l v (.tup ds) A) : ∃ a vs, v = .ref a ∧ SqT K H a vs ∧ Reps K H hot (l - 1) vs ds A := by
  cases h with
  | tup h hs => exact ⟨_, _, rfl, h.sq, hs⟩
theorem Reps.length {hot : List Addr} {l : Nat} : ∀ {vs : List V} {ds : List D} {A : List Addr}, Reps K H hot l vs ds A → vs.length = ds.length
  | _, _, _, .nil _ => rfl
  | _, _, _, .cons _ hs => by rw [List.length_cons, List.length_cons, Reps.length hs]
theorem Reps.get {hot : List Addr} : ∀ {vs : List V} {ds : List D} {A : List Addr} {i : Nat} {d : D}, Reps K H hot 0 vs ds A → ds[i]? = some d → ∃ v, vs[i]? = some v ∧ Rep K H hot 0 v d []
  | _, _, _, _, _, .nil _, e => by simp at e
  | _, _, _, 0, _, .cons h _, e => by
    simp at e
    subst e
    have := h.zero
    subst this
    exact ⟨_, rfl, h⟩
  | _, _, _, i + 1, _, .cons _ hs, e => by
    obtain ⟨v, e1, h⟩ := Reps.get (i := i) hs (by simpa using e)
    exact ⟨v, by simpa using e1, h⟩

/-! ### what is walked -/
structure Src (K : PySem.W.Frag) (EX : Addr → Nat → Prop) (J : It) (xs : List D) (tt : List Tm) (bw : Bool) : Prop where
  mine : bw = false → ∀ t ∈ tt, t.mine = true
  turn : ∀ (i : Nat) (H0 : Hp) (S : List Addr) (ts : List Tm) (σ : L2.St) (r : Env) (H : Hp), Sta K EX H0 S (tt ++ ts) σ r H → (i = xs.length → J.stop i H) ∧
    ∀ d, xs[i]? = some d → J.go i H ∧ ∀ x H', J.yld i H x H' → Sta K EX H0 S (.own x 0 d :: (tt ++ ts)) σ r H'
def tSr (C : Cfg) (cf : Nat → List D → CR) (ca : Nat → Addr) (K : PySem.W.Frag) (EX : Addr → Nat → Prop) (W : WX) (src : Sr) : TI := fun σ H R => ∃ H0 S ts r, Sta K EX H0 S ts σ r H ∧
  Post K ca EX W H0 S ts σ (evSr C.G C.sub cf src r) fun p => ∀ J tt H1, Src K EX J p.2 tt src.bw → Sta K EX H0 S (tt ++ ts) σ p.1 H1 → R J H1
theorem PIimp {tg x : Expr} {t t' : TI} (h : PI X tg x t) (i : ∀ σ H Q, t' σ H Q → t σ H Q) : PI X tg x t' := ⟨fun pins s σ H Q I q => h.run pins s σ H Q I (i σ H Q q)⟩
/-- an item beside what it comes from -/
theorem Sta.item {tt : List Tm} {v : V} {d : D} (st : Sta K EX H0 S (tt ++ ts) σ r H) (h : ∀ hot A, Tms K H S hot tt A → Rep K H hot 0 v d []) : Sta K EX H0 S (.own v 0 d :: (tt ++ ts)) σ r H :=
  Sta.step (t1 := tt) (t2 := .own v 0 d :: tt) st (Same.refl H) fun hot A1 nd sub dom hS q => ⟨A1, nd, fun a ha => .inl ha, fun hot' h1 h2 h3 h4 => by
    have hh : ∀ a ∈ hot', a ∈ hot := fun a ha => (h1 a ha).elim id fun z => (sub a z).1
    have F : Fr H H S S hot hot' [] := ⟨fun a _ o e => e, fun _ z => (by simp at z), fun _ z => (by simp at z), fun a ha => .inl (hh a ha), hS, fun a ha => .inl ha⟩
    have q2 := Tms.cons (TmOk.own (S := S) ((h hot A1 q).hot hh)) (q.frame F (.inl (by simp)) (by simp))
    exact q2⟩
theorem Sta.itemN {tt : List Tm} {p : Addr} {vs : List V} {ds : List D} (st : Sta K EX H0 S (tt ++ ts) σ r H) (hp : H p = none) (h : ∀ hot A, Tms K H S hot tt A → Reps K H hot 0 vs ds []) : Sta K EX H0 S (.own (.ref p) 0 (.tup ds) :: (tt ++ ts)) σ r (upd H p (.tup vs)) :=
  Sta.step (t1 := tt) (t2 := .own (.ref p) 0 (.tup ds) :: tt) st (same_upd hp) fun hot A1 nd sub dom hS q => ⟨A1, nd, fun a ha => .inl ha, fun hot' h1 h2 h3 h4 => by
    have hh : ∀ a ∈ hot', a ∈ hot := fun a ha => (h1 a ha).elim id fun z => (sub a z).1
    have F : Fr H (upd H p (.tup vs)) S S hot hot' [] := ⟨fun a _ o e => same_upd hp a o e, fun _ z => (by simp at z), fun _ z => (by simp at z), fun a ha => .inl (hh a ha), hS, fun a ha => .inl ha⟩
    have q1 : Reps K (upd H p (.tup vs)) hot' 0 vs ds [] := (h hot A1 q).frame F.c1 F.c2 F.hX F.c4 (by simp)
    exact Tms.cons (TmOk.own (S := S) (Rep.tup (l := 0) (.inl upd_same) q1)) (q.frame F (.inl (by simp)) (by simp))⟩
theorem Tms.own1 {hot A : List Addr} {v : V} {l : Nat} {d : D} (q : Tms K H S hot [.own v l d] A) : Rep K H hot l v d A := by
  have h := q.one
  cases h with
  | own h => exact h
theorem Tms.own2 {hot A : List Addr} {v w : V} {d e : D} (q : Tms K H S hot [.own w 0 e, .own v 0 d] A) : Rep K H hot 0 v d [] ∧ Rep K H hot 0 w e [] := by
  obtain ⟨A1, A2, _, h1, h2⟩ := q.two
  cases h1 with
  | own h1 =>
    cases h2 with
    | own h2 =>
      have e1 := h1.zero
      have e2 := h2.zero
      subst e1 e2
      exact ⟨h2, h1⟩
theorem src_list {a : Addr} {ds : List D} {bw : Bool} : Src K EX (Itl K a) ds [.own (.ref a) 0 (.lst ds)] bw where
  mine := fun _ => by simp [Tm.mine]
  turn := fun i H0 S ts σ r H st => by
    obtain ⟨hot, A, rp⟩ := Sta.peekOwn st
    obtain ⟨_, vs, e1, h1, h2⟩ := rp.lst_ex
    cases e1
    refine ⟨fun e => ⟨vs, h1, by rw [h2.length, e]; exact Nat.le_refl _⟩, fun d e => ?_⟩
    obtain ⟨v, e2, _⟩ := h2.get e
    refine ⟨⟨vs, v, h1, e2⟩, fun x H' y => ?_⟩
    obtain ⟨rfl, y⟩ := y
    refine Sta.item (tt := [_]) st fun hot A q => ?_
    obtain ⟨_, ws, e3, k1, k2⟩ := q.own1.lst_ex
    cases e3
    obtain ⟨u, e4, k3⟩ := k2.get e
    rw [y ws k1] at e4
    cases e4
    exact k3
theorem src_tup {a : Addr} {ds : List D} {bw : Bool} : Src K EX (Itt K a) ds [.own (.ref a) 0 (.tup ds)] bw where
  mine := fun _ => by simp [Tm.mine]
  turn := fun i H0 S ts σ r H st => by
    obtain ⟨hot, A, rp⟩ := Sta.peekOwn st
    obtain ⟨_, vs, e1, h1, h2⟩ := rp.tup_ex
    cases e1
    refine ⟨fun e => ⟨vs, h1, by rw [h2.length, e]; exact Nat.le_refl _⟩, fun d e => ?_⟩
    obtain ⟨v, e2, _⟩ := h2.get e
    refine ⟨⟨vs, v, h1, e2⟩, fun x H' y => ?_⟩
    obtain ⟨rfl, y⟩ := y
    refine Sta.item (tt := [_]) st fun hot A q => ?_
    obtain ⟨_, ws, e3, k1, k2⟩ := q.own1.tup_ex
    cases e3
    obtain ⟨u, e4, k3⟩ := k2.get e
    rw [y ws k1] at e4
    cases e4
    exact k3
theorem rangeD_len : ∀ (n : Nat) (lo : Int), (rangeD lo n).length = n
  | 0, _ => rfl
  | n + 1, lo => by rw [rangeD, List.length_cons, rangeD_len]
theorem rangeD_get : ∀ {n : Nat} {lo : Int} {i : Nat} {d : D}, (rangeD lo n)[i]? = some d → i < n ∧ d = .int (lo + i)
  | 0, _, _, _, e => by simp [rangeD] at e
  | n + 1, lo, 0, d, e => by simp [rangeD] at e; subst e; exact ⟨by omega, by simp⟩
  | n + 1, lo, i + 1, d, e => by
    rw [rangeD, List.getElem?_cons_succ] at e
    obtain ⟨h1, h2⟩ := rangeD_get e
    refine ⟨by omega, ?_⟩
    rw [h2]
    congr 1
    omega
theorem src_range {lo : Int} {n : Nat} {bw : Bool} : Src K EX (Itr lo n) (rangeD lo n) [] bw where
  mine := fun _ => by simp
  turn := fun i H0 S ts σ r H st => by
    refine ⟨fun e => ?_, fun d e => ?_⟩
    · rw [rangeD_len] at e
      exact Nat.le_of_eq e.symm
    · obtain ⟨h1, rfl⟩ := rangeD_get e
      refine ⟨h1, fun x H' y => ?_⟩
      obtain ⟨rfl, rfl⟩ := y
      exact Sta.push0 st fun _ => .int 0 _
theorem enumD_len : ∀ (ds : List D) (n : Nat), (enumD n ds).length = ds.length
  | [], _ => rfl
  | d :: ds, n => by rw [enumD, List.length_cons, List.length_cons, enumD_len]
theorem enumD_get : ∀ {ds : List D} {n i : Nat} {e : D}, (enumD n ds)[i]? = some e → ∃ d, ds[i]? = some d ∧ e = .tup [.int ((n + i : Nat) : Int), d]
  | [], _, _, _, h => by simp [enumD] at h
  | d :: ds, n, 0, e, h => by simp [enumD] at h; subst h; exact ⟨d, rfl, rfl⟩
  | d :: ds, n, i + 1, e, h => by
    rw [enumD, List.getElem?_cons_succ] at h
    obtain ⟨d', h1, rfl⟩ := enumD_get h
    refine ⟨d', by simpa using h1, ?_⟩
    congr 4
    omega
def dK (t : Bool) (ds : List D) : D := if t = true then .tup ds else .lst ds
theorem items_dK {d : D} {ds : List D} (h : itemsOf d = some ds) : ∃ t, d = dK t ds := by
  cases d <;> simp only [itemsOf, reduceCtorEq] at h
  · cases h; exact ⟨true, rfl⟩
  · cases h; exact ⟨false, rfl⟩
theorem Rep.seq_ex {hot A : List Addr} {v : V} {ds : List D} {t : Bool} (h : Rep K H hot 0 v (dK t ds) A) : ∃ a vs, v = .ref a ∧ SqK t K H a vs ∧ Reps K H hot 0 vs ds A := by
  cases t with
  | true => exact Rep.tup_ex (l := 0) h
  | false => exact Rep.lst_ex h
theorem src_enum {t : Bool} {a : Addr} {ds : List D} {bw : Bool} : Src K EX (IteK t K a) (enumD 0 ds) [.own (.ref a) 0 (dK t ds)] bw where
  mine := fun _ => by simp [Tm.mine]
  turn := fun i H0 S ts σ r H st => by
    obtain ⟨hot, A, rp⟩ := Sta.peekOwn st
    obtain ⟨_, vs, e1, h1, h2⟩ := rp.seq_ex
    cases e1
    refine ⟨fun e => ⟨vs, h1, by rw [h2.length, e, enumD_len]⟩, fun d e => ?_⟩
    obtain ⟨d', e', rfl⟩ := enumD_get e
    obtain ⟨v, e2, _⟩ := h2.get e'
    refine ⟨⟨vs, v, h1, e2⟩, fun x H' y => ?_⟩
    obtain ⟨T, x', rfl, hT, rfl, y⟩ := y
    refine Sta.itemN (tt := [_]) st hT fun hot A q => ?_
    obtain ⟨_, ws, e3, k1, k2⟩ := q.own1.seq_ex
    cases e3
    obtain ⟨u, e4, k3⟩ := k2.get e'
    rw [y ws k1] at e4
    cases e4
    rw [Nat.zero_add]
    exact Reps.cons (A := []) (.int 0 _) (Reps.cons (A := []) k3 (.nil 0))
theorem zipD_get : ∀ {as bs : List D} {i : Nat} {e : D}, (zipD as bs)[i]? = some e → ∃ x y, as[i]? = some x ∧ bs[i]? = some y ∧ e = .tup [x, y]
  | [], _, _, _, h => by simp [zipD] at h
  | _ :: _, [], _, _, h => by simp [zipD] at h
  | a :: as, b :: bs, 0, e, h => by simp [zipD] at h; subst h; exact ⟨a, b, rfl, rfl, rfl⟩
  | a :: as, b :: bs, i + 1, e, h => by
    rw [zipD, List.getElem?_cons_succ] at h
    obtain ⟨x, y, h1, h2, rfl⟩ := zipD_get h
    exact ⟨x, y, by simpa using h1, by simpa using h2, rfl⟩
theorem zipD_len : ∀ {as bs : List D}, (zipD as bs).length = min as.length bs.length
  | [], _ => by simp [zipD]
  | _ :: _, [] => by simp [zipD]
  | a :: as, b :: bs => by rw [zipD, List.length_cons, List.length_cons, List.length_cons, zipD_len]; omega
theorem src_zip {t u : Bool} {a b : Addr} {ds es : List D} {bw : Bool} : Src K EX (ItzK t u K a b) (zipD ds es) [.own (.ref b) 0 (dK u es), .own (.ref a) 0 (dK t ds)] bw where
  mine := fun _ => by simp [Tm.mine]
  turn := fun i H0 S ts σ r H st => by
    obtain ⟨hot, A, rp⟩ := Sta.peekOwn st
    obtain ⟨hot', A', rp'⟩ := Sta.peekOwn (Sta.pop st)
    obtain ⟨_, ws, e1, h1, h2⟩ := rp.seq_ex
    cases e1
    obtain ⟨_, vs, e1, g1, g2⟩ := rp'.seq_ex
    cases e1
    have l1 := h2.length
    have l2 := g2.length
    refine ⟨fun e => ⟨vs, ws, g1, h1, ?_⟩, fun d e => ?_⟩
    · rw [zipD_len] at e
      omega
    · obtain ⟨x, y, e1, e2, rfl⟩ := zipD_get e
      obtain ⟨v, e3, _⟩ := g2.get e1
      obtain ⟨w, e4, _⟩ := h2.get e2
      refine ⟨⟨vs, ws, v, w, g1, h1, e3, e4⟩, fun x H' yy => ?_⟩
      obtain ⟨T, x', y', rfl, hT, rfl, y1, y2⟩ := yy
      refine Sta.itemN (tt := [_, _]) st hT fun hot A q => ?_
      obtain ⟨q1, q2⟩ := q.own2
      obtain ⟨_, _, e5, k1, k2⟩ := q1.seq_ex
      cases e5
      obtain ⟨_, _, e5, m1, m2⟩ := q2.seq_ex
      cases e5
      obtain ⟨u, e6, k3⟩ := k2.get e1
      rw [y1 _ k1] at e6
      cases e6
      obtain ⟨u, e6, m3⟩ := m2.get e2
      rw [y2 _ m1] at e6
      cases e6
      exact Reps.cons (A := []) k3 (Reps.cons (A := []) m3 (.nil 0))
section
variable (g : Good C cal N sc cf ca EX W X)
include g
omit g in
theorem Sta.open2 {v w : V} {as bs : List D} (st : Sta K EX H0 S (.brw w 1 (.lst bs) :: .brw v 1 (.lst as) :: ts) σ r H) : ∃ a b xs ys, v = .ref a ∧ w = .ref b ∧ SqL K H a xs ∧ SqL K H b ys ∧ xs.length = as.length ∧ ys.length = bs.length ∧ Sta K EX H0 S (.owns [] 0 [] :: .brws ys 0 bs :: .brws xs 0 as :: ts) σ r H := by
  obtain ⟨ex, sd, A, B, nd, new, hT, hS⟩ := st
  cases hT with
  | cons h hs =>
    cases h with
    | brw h =>
      cases hs with
      | cons h' hs =>
        cases h' with
        | brw h' =>
          obtain ⟨b, ys, rfl, h1, h2⟩ := h.lst_ex
          obtain ⟨a, xs, rfl, g1, g2⟩ := h'.lst_ex
          exact ⟨a, b, xs, ys, rfl, rfl, g1, h1, g2.length, h2.length, ex, sd, _, B, nd, new, Tms.cons (A := []) (.owns (.nil 0)) (Tms.cons (A := []) (.brws h2) (Tms.cons (A := []) (.brws g2) hs)), hS⟩
omit g in
theorem zip_step {p : Addr} {x y : V} {d e : D} {vs xs ys : List V} {ds as bs : List D} (st : Sta K EX H0 S (.owns vs 0 ds :: .brws (y :: ys) 0 (e :: bs) :: .brws (x :: xs) 0 (d :: as) :: ts) σ r H) (hp : H p = none) :
    Sta K EX H0 S (.owns (vs ++ [V.ref p]) 0 (ds ++ [D.tup [d, e]]) :: .brws ys 0 bs :: .brws xs 0 as :: ts) σ r (upd H p (HO.tup [x, y])) :=
  Sta.step (t1 := [.owns vs 0 ds, .brws (y :: ys) 0 (e :: bs), .brws (x :: xs) 0 (d :: as)]) (t2 := [.owns (vs ++ [V.ref p]) 0 (ds ++ [D.tup [d, e]]), .brws ys 0 bs, .brws xs 0 as]) st (same_upd hp) fun hot A1 nd sub dom hS q => ⟨[], .nil, by simp, fun hot' h1 h2 h3 h4 => by
    have hh : ∀ a ∈ hot', a ∈ hot := fun a ha => (h1 a ha).elim id fun z => by simp at z
    have F : Fr H (upd H p (.tup [x, y])) S S hot hot' [] := ⟨fun a _ o e => same_upd hp a o e, fun _ z => (by simp at z), fun _ z => (by simp at z), fun a ha => .inl (hh a ha), hS, fun a ha => .inl ha⟩
    have q2 := q.frame F (.inl (by simp)) (by simp)
    cases q2 with
    | cons k1 ks =>
      cases k1 with
      | owns k1 =>
        cases ks with
        | cons k2 ks =>
          cases k2 with
          | brws k2 =>
            cases ks with
            | cons k3 ks =>
              cases k3 with
              | brws k3 =>
                cases ks
                cases k2 with
                | cons ry rys =>
                  cases k3 with
                  | cons rx rxs =>
                    have e1 := k1.zero
                    subst e1
                    have tp : Rep K (upd H p (.tup [x, y])) hot' 0 (.ref p) (.tup [d, e]) [] := Rep.tup (l := 0) (.inl upd_same) (Reps.cons (A := []) rx.zero (Reps.cons (A := []) ry.zero (.nil 0)))
                    have ap := k1.append (Reps.cons (A := []) tp (.nil 0))
                    exact Tms.cons (A := []) (.owns ap) (Tms.cons (A := []) (.brws rys) (Tms.cons (A := []) (.brws rxs) .nil))⟩
omit g in
theorem zip_all : ∀ {as bs : List D} {xs ys vs : List V} {ds : List D} {ps : List Addr} {H H' : Hp}, Sta K EX H0 S (.owns vs 0 ds :: .brws ys 0 bs :: .brws xs 0 as :: ts) σ r H → xs.length = as.length → ys.length = bs.length → TupsAt H (xs.zip ys) ps H' → Sta K EX H0 S (.owns (vs ++ ps.map V.ref) 0 (ds ++ zipD as bs) :: ts) σ r H'
  | [], bs, [], ys, vs, ds, ps, H, H', st, _, _, t => by
    rw [List.zip_nil_left] at t
    cases t
    simp only [List.map_nil, List.append_nil, zipD]
    exact Sta.step (t1 := [_, _, _]) (t2 := [.owns vs 0 ds]) st (Same.refl H) fun hot A1 nd sub dom hS q => by
      cases q with
      | cons k1 ks =>
        cases k1 with
        | owns k1 =>
          have e1 := k1.zero
          subst e1
          exact ⟨[], .nil, by simp, fun hot' h1 h2 h3 h4 => Tms.mk1 (.owns (k1.hot fun a ha => (h1 a ha).elim id fun z => by simp at z))⟩
  | d :: as, [], x :: xs, [], vs, ds, ps, H, H', st, _, _, t => by
    rw [List.zip_nil_right] at t
    cases t
    simp only [List.map_nil, List.append_nil, zipD]
    exact Sta.step (t1 := [_, _, _]) (t2 := [.owns vs 0 ds]) st (Same.refl H) fun hot A1 nd sub dom hS q => by
      cases q with
      | cons k1 ks =>
        cases k1 with
        | owns k1 =>
          have e1 := k1.zero
          subst e1
          exact ⟨[], .nil, by simp, fun hot' h1 h2 h3 h4 => Tms.mk1 (.owns (k1.hot fun a ha => (h1 a ha).elim id fun z => by simp at z))⟩
  | d :: as, e :: bs, x :: xs, y :: ys, vs, ds, ps, H, H', st, l1, l2, t => by
    rw [List.zip_cons_cons] at t
    cases t with
    | cons h t =>
      have st2 := zip_all (zip_step st h) (by simpa using l1) (by simpa using l2) t
      simpa [zipD] using st2
  | _ :: _, _, [], _, _, _, _, _, _, _, l1, _, _ => by simp at l1
  | [], _, _ :: _, _, _, _, _, _, _, _, l1, _, _ => by simp at l1
  | _, _ :: _, _, [], _, _, _, _, _, _, _, l2, _ => by simp at l2
  | _, [], _, _ :: _, _, _, _, _, _, _, _, l2, _ => by simp at l2
omit g in
theorem RepTs.pick {K : PySem.W.Frag} {H : Hp} {S hot : List Addr} {j : Nat} {vs : List V} {ds : List D} (h : RepTs K H S hot j vs ds) : ∀ is : List Nat, RepTs K H S hot j (is.filterMap (vs[·]?)) (is.filterMap (ds[·]?))
  | [] => .nil j
  | i :: is => by
    rw [List.filterMap_cons, List.filterMap_cons]
    have q : (∃ v d, vs[i]? = some v ∧ ds[i]? = some d ∧ RepT K H S hot j v d) ∨ (vs[i]? = none ∧ ds[i]? = none) := by
      clear is
      induction i generalizing vs ds with
      | zero => cases h with
        | nil => exact .inr ⟨by simp, by simp⟩
        | cons h hs => exact .inl ⟨_, _, rfl, rfl, h⟩
      | succ i ih => cases h with
        | nil => exact .inr ⟨by simp, by simp⟩
        | cons h hs => simpa using ih hs
    rcases q with ⟨v, d, e1, e2, r⟩ | ⟨e1, e2⟩
    · rw [e1, e2]; exact .cons r (RepTs.pick h is)
    · rw [e1, e2]; exact RepTs.pick h is
/-- xs[i::k] -/
theorem c_stp {a b c : E} {x y z : Expr} {p3 p : Pos} (ha : PE X x (tE C cf ca X.K EX W 1 a)) (hb : PE X y (tE C cf ca X.K EX W 9 b)) (hc : PE X z (tE C cf ca X.K EX W 9 c)) :
    PE X (.Subscript x (.Slice (some y) none (some z) p3) p) (tE C cf ca X.K EX W 0 (.stp a b c)) := by
  refine PEimp (pe_stepL ha hb (pe_uniq hc)) fun σ H Q z => ?_
  obtain ⟨H0, S, ts, r, st, z⟩ := z
  simp only [ev] at z
  refine ⟨H0, S, ts, r, st, z.bind.imp fun a1 k v H1 st1 => ?_⟩
  refine ⟨H0, S, _, _, st1, (k.bind.deep).imp fun a2 k w H2 st2 => ?_⟩
  obtain ⟨r1, l1, d1⟩ := a1
  obtain ⟨r2, l2, d2⟩ := a2
  obtain ⟨hot, rp⟩ := Sta.peek st2
  simp only at k rp st2
  cases d2 <;> first | exact k.elim | skip
  rename_i i
  refine ⟨i, rp.int_eq, H0, S, _, _, Sta.pop st2, (k.bind.deep).imp fun a3 k u H3 st3 => fun uq => ?_⟩
  obtain ⟨r3, l3, d3⟩ := a3
  obtain ⟨hot, rp⟩ := Sta.peek st3
  simp only at k rp st3
  cases d1 <;> cases d3 <;> simp only at k <;> first | exact k.elim | skip
  rename_i ds j
  split at k
  · rename_i hj
    have st4 := Sta.pop st3
    obtain ⟨hot, g1⟩ := Sta.peek st4
    obtain ⟨b', vs, rfl, hb', hs⟩ := g1.lst_ex
    refine ⟨j, rp.int_eq, b', vs, rfl, hj, hb', fun q hq => ?_⟩
    have hlen := hs.length
    refine k _ _ (Sta.newL (t1 := [_]) st4 hq fun hot A q => ?_)
    obtain ⟨_, _, e3, k1, k2⟩ := q.brw1.lst_ex
    cases e3
    rw [uq _ _ _ hb' k1]
    have hl2 := k2.length
    unfold stepD
    rw [← hl2]
    exact k2.pick _
  · exact k.elim
/-- list(zip(xs, ys)) -/
theorem c_lzip {a b : E} {x y : Expr} {p p2 q q2 : Pos} (hc : cal = true) (hg : glB sc "list" = true) (hg2 : glB sc "zip" = true) (hx : plainX x = true) (hy : plainX y = true) (ha : PE X x (tE C cf ca X.K EX W 1 a)) (hb : PE X y (tE C cf ca X.K EX W 1 b)) :
    PE X (.Call (.Name "list" p) [.Call (.Name "zip" p2) [x, y] [] q2] [] q) (tE C cf ca X.K EX W 0 (.lzip a b)) := by
  have m1 : X.mg "list" = none := g.bl _ (by decide)
  have m2 : X.mg "zip" = none := g.bl _ (by decide)
  have s2 := star_cons (env := X.env) (xs := []) hy
  have s1 := star_cons (env := X.env) (xs := [y]) hx
  refine PEimp (pe_listZip (g.calm hc) (g.gl hg) m1 (g.gl hg2) m2 (pa_cons ha (pa_cons hb pa_nil s2) s1) s1 (by rw [s2]; rfl)) fun σ H Q z => ?_
  obtain ⟨H0, S, ts, r, st, z⟩ := z
  simp only [ev] at z
  refine ⟨H0, S, ts, r, st, z.bind.imp fun a1 k v H1 st1 => ?_⟩
  refine ⟨H0, S, _, _, st1, (k.bind.deep).imp fun a2 k w H2 st2 => ?_⟩
  obtain ⟨r1, l1, d1⟩ := a1
  obtain ⟨r2, l2, d2⟩ := a2
  cases d1 <;> cases d2 <;> first | exact k.elim | skip
  obtain ⟨a, b, xs, ys, rfl, rfl, h1, h2, h3, h4, st3⟩ := Sta.open2 st2
  refine ⟨a, b, xs, ys, rfl, h1, h2, fun ps l H' t hl => ?_⟩
  have st4 := zip_all st3 h3 h4 t
  simp only [List.nil_append] at st4
  exact k _ _ (Sta.mkL st4 hl)
theorem i_seq {e : E} {x tg : Expr} (h : PE X x (tE C cf ca X.K EX W 0 e)) : PI X tg x (tSr C cf ca X.K EX W (.seq e)) := by
  refine PIimp (pi_seq h) fun σ H R z => ?_
  obtain ⟨H0, S, ts, r, st, z⟩ := z
  simp only [evSr] at z
  refine ⟨H0, S, ts, r, st, z.bind.imp fun a1 k v H1 st1 => ?_⟩
  obtain ⟨ds, e, k⟩ := k.bind.of
  obtain ⟨r1, l1, d1⟩ := a1
  have st2 := Sta.lowT st1 (Nat.zero_le l1)
  obtain ⟨hot, A, rp⟩ := Sta.peekOwn st2
  cases d1 <;> simp only [itemsOf, reduceCtorEq] at e
  · cases e
    obtain ⟨a, vs, rfl, h1, h2⟩ := rp.tup_ex
    exact ⟨a, rfl, .inr ⟨⟨vs, h1⟩, k _ _ H1 src_tup st2⟩⟩
  · cases e
    obtain ⟨a, vs, rfl, h1, h2⟩ := rp.lst_ex
    exact ⟨a, rfl, .inl ⟨⟨vs, h1⟩, k _ _ H1 src_list st2⟩⟩
omit g in
theorem src_brw {a : Addr} {ds : List D} : Src K EX (Itl K a) ds [.brw (.ref a) 1 (.lst ds)] true where
  mine := fun h => by cases h
  turn := fun i H0 S ts σ r H st => by
    obtain ⟨hot, rp⟩ := Sta.peek st
    obtain ⟨_, vs, e1, h1, h2⟩ := rp.lst_ex
    cases e1
    refine ⟨fun e => ⟨vs, h1, by rw [h2.length, e]; exact Nat.le_refl _⟩, fun d e => ?_⟩
    obtain ⟨v, e2, _⟩ := h2.zero.get e
    refine ⟨⟨vs, v, h1, e2⟩, fun x H' y => ?_⟩
    obtain ⟨rfl, y⟩ := y
    refine Sta.item (tt := [_]) st fun hot A q => ?_
    have q1 := q.one
    cases q1 with
    | brw q1 =>
      obtain ⟨_, ws, e3, k1, k2⟩ := q1.lst_ex
      cases e3
      obtain ⟨u, e4, k3⟩ := k2.zero.get e
      rw [y ws k1] at e4
      cases e4
      exact k3
theorem i_seqB {e : E} {x tg : Expr} (h : PE X x (tE C cf ca X.K EX W 1 e)) : PI X tg x (tSr C cf ca X.K EX W (.seqB e)) := by
  refine PIimp (pi_seq h) fun σ H R z => ?_
  obtain ⟨H0, S, ts, r, st, z⟩ := z
  simp only [evSr] at z
  refine ⟨H0, S, ts, r, st, z.bind.imp fun a1 k v H1 st1 => ?_⟩
  obtain ⟨r1, l1, d1⟩ := a1
  obtain ⟨hot, rp⟩ := Sta.peek st1
  cases d1 <;> first | exact k.elim | skip
  obtain ⟨a, vs, rfl, h1, h2⟩ := rp.lst_ex
  exact ⟨a, rfl, .inl ⟨⟨vs, h1⟩, k _ _ H1 src_brw st1⟩⟩
theorem rng62_ok {i : Int} (h : rng62 i = true) : -(2 ^ 62) ≤ i ∧ i < 2 ^ 62 := by
  have h' : i.natAbs ≤ 1000000 := by simpa [rng62] using h
  omega
theorem i_range1 {es : Es} {x tg : Expr} {p q : Pos} (hg : glB sc "range" = true) (hx : plainX x = true) (hl : es.len = 1) (h : PA X [x] (tEs C cf ca X.K EX W 9 0 es)) : PI X tg (.Call (.Name "range" p) [x] [] q) (tSr C cf ca X.K EX W (.range es)) := by
  refine PIimp (pi_range1 (g.gl hg) (g.bl _ (by decide)) h (star_cons hx)) fun σ H R z => ?_
  obtain ⟨H0, S, ts, r, st, z⟩ := z
  simp only [evSr] at z
  refine ⟨H0, S, ts, r, st, z.bind.imp fun a1 k vs H1 hn st1 => ?_⟩
  obtain ⟨xs, e, k⟩ := k.bind.of
  obtain ⟨r1, ds⟩ := a1
  obtain ⟨hot, rp⟩ := Sta.peeks st1
  have hlen := rp.length
  rw [hn, hl] at hlen
  match ds, hlen with
  | [d], _ =>
    obtain ⟨v, rfl, rq⟩ := rp.one_ex
    cases d <;> simp only [rangeop, reduceCtorEq] at e
    split at e
    · rename_i hr
      cases e
      obtain ⟨h1, h2⟩ := rng62_ok g hr
      exact ⟨_, by rw [rq.int_eq], h1, h2, k _ [] H1 src_range (Sta.pop st1)⟩
    · cases e
theorem i_range2 {es : Es} {x y tg : Expr} {p q : Pos} (hg : glB sc "range" = true) (hx : plainX x = true) (hy : plainX y = true) (hl : es.len = 2) (h : PA X [x, y] (tEs C cf ca X.K EX W 9 0 es)) : PI X tg (.Call (.Name "range" p) [x, y] [] q) (tSr C cf ca X.K EX W (.range es)) := by
  refine PIimp (pi_range2 (g.gl hg) (g.bl _ (by decide)) h (by rw [star_cons hx, star_cons hy]; rfl) (star_cons hy)) fun σ H R z => ?_
  obtain ⟨H0, S, ts, r, st, z⟩ := z
  simp only [evSr] at z
  refine ⟨H0, S, ts, r, st, z.bind.imp fun a1 k vs H1 hn st1 => ?_⟩
  obtain ⟨xs, e, k⟩ := k.bind.of
  obtain ⟨r1, ds⟩ := a1
  obtain ⟨hot, rp⟩ := Sta.peeks st1
  have hlen := rp.length
  rw [hn, hl] at hlen
  match ds, hlen with
  | [d, d'], _ =>
    obtain ⟨v, w, rfl, rq, rq'⟩ := rp.two_ex
    cases d <;> cases d' <;> simp only [rangeop, reduceCtorEq] at e
    split at e
    · rename_i hr
      cases e
      rw [Bool.and_eq_true] at hr
      obtain ⟨h1, h2⟩ := rng62_ok g hr.1
      obtain ⟨h3, h4⟩ := rng62_ok g hr.2
      exact ⟨_, _, by rw [rq.int_eq, rq'.int_eq], ⟨h1, h2, h3, h4⟩, k _ [] H1 src_range (Sta.pop st1)⟩
    · cases e
theorem i_enum {e : E} {x tg : Expr} {p q : Pos} (ht : isTupE tg = true) (hg : glB sc "enumerate" = true) (hx : plainX x = true) (h : PE X x (tE C cf ca X.K EX W 0 e)) : PI X tg (.Call (.Name "enumerate" p) [x] [] q) (tSr C cf ca X.K EX W (.enum e)) := by
  cases tg <;> first | cases ht | skip
  refine PIimp (pi_enumK (g.gl hg) (g.bl _ (by decide)) (pa_cons h pa_nil (star_cons hx)) (star_cons hx)) fun σ H R z => ?_
  obtain ⟨H0, S, ts, r, st, z⟩ := z
  simp only [evSr] at z
  refine ⟨H0, S, ts, r, st, z.bind.imp fun a1 k v H1 st1 => ?_⟩
  obtain ⟨ds, e, k⟩ := k.bind.of
  obtain ⟨r1, l1, d1⟩ := a1
  have st2 := Sta.lowT st1 (Nat.zero_le l1)
  obtain ⟨hot, A, rp⟩ := Sta.peekOwn st2
  simp only [enumOf, Option.map_eq_some_iff] at e
  obtain ⟨es, e, rfl⟩ := e
  obtain ⟨t, rfl⟩ := items_dK e
  obtain ⟨a, vs, rfl, h1, h2⟩ := rp.seq_ex
  exact ⟨a, vs, t, rfl, h1, k _ _ H1 src_enum st2⟩
theorem i_zip {a b : E} {x y tg : Expr} {p q : Pos} (ht : isTupE tg = true) (hg : glB sc "zip" = true) (hx : plainX x = true) (hy : plainX y = true) (ha : PE X x (tE C cf ca X.K EX W 0 a)) (hb : PE X y (tE C cf ca X.K EX W 0 b)) : PI X tg (.Call (.Name "zip" p) [x, y] [] q) (tSr C cf ca X.K EX W (.zip a b)) := by
  cases tg <;> first | cases ht | skip
  have h1 := star_cons (env := X.env) (xs := [y]) hx
  have h2 := star_cons (env := X.env) (xs := []) hy
  refine PIimp (pi_zipK (g.gl hg) (g.bl _ (by decide)) (pa_cons ha (pa_cons hb pa_nil h2) h1) h1 (by rw [h2]; rfl)) fun σ H R z => ?_
  obtain ⟨H0, S, ts, r, st, z⟩ := z
  simp only [evSr] at z
  refine ⟨H0, S, ts, r, st, z.bind.imp fun a1 k v H1 st1 => ?_⟩
  have st2 := Sta.lowT st1 (Nat.zero_le _)
  refine ⟨H0, S, _, _, st2, (Post.deep (Post.bind k)).imp fun a2 k w H2 st3 => ?_⟩
  have st4 := Sta.lowT st3 (Nat.zero_le _)
  obtain ⟨ds, e, kk⟩ := k.bind.of
  obtain ⟨r1, l1, d1⟩ := a1
  obtain ⟨r2, l2, d2⟩ := a2
  obtain ⟨hot, A, rp⟩ := Sta.peekOwn st4
  obtain ⟨hot', A', rp'⟩ := Sta.peekOwn (Sta.pop st4)
  unfold zipOf at e
  split at e
  · rename_i as bs ea eb
    cases e
    obtain ⟨t, rfl⟩ := items_dK ea
    obtain ⟨u, rfl⟩ := items_dK eb
    obtain ⟨a, vs, rfl, h1, h2⟩ := rp'.seq_ex
    obtain ⟨b, ws, rfl, h3, h4⟩ := rp.seq_ex
    exact ⟨a, b, vs, ws, t, u, rfl, h1, h3, kk _ _ H2 src_zip st4⟩
  · cases e
end
end
end Ly

set_option Elab.async false
set_option linter.all false
set_option maxRecDepth 100000
set_option maxHeartbeats 2000000
/-! Dicts in expressions. -/
namespace Ly
open PySem PySem.Spec PyProof.Rows L2
section
variable {C : Cfg} {cal : Bool} {N : List Str} {sc : Scope} {cf : Nat → List D → CR} {ca : Nat → Addr} {EX : Addr → Nat → Prop} {W : WX} {X : Cx} {K : PySem.W.Frag}
variable {H0 H H' : Hp} {S : List Addr} {ts : List Tm} {σ : L2.St} {r : Env}
theorem RepT.dic_ex {hot : List Addr} {j : Nat} {v : V} {t : Bool} {ks : List (List L2.Key)} {ds : List D} (h : RepT K H S hot j v (.dic t ks ds)) : ∃ a vs, v = .ref a ∧ Rd H a (dOb t ks vs) ∧ dOk t ks ∧ ks.length = vs.length ∧ RepTs K H S hot 0 vs ds := by
  cases h with
  | dic0 h k e hs => exact ⟨_, _, rfl, h.1, k, e, hs⟩
  | dicS h k e hs => exact ⟨_, _, rfl, h.1, k, e, hs⟩
theorem zip_inj {α : Type} : ∀ {ks : List α} {vs ws : List V}, ks.length = vs.length → ks.length = ws.length → ks.zip vs = ks.zip ws → vs = ws
  | [], [], [], _, _, _ => rfl
  | [], _ :: _, _, h, _, _ => by simp at h
  | [], [], _ :: _, _, h, _ => by simp at h
  | k :: ks, [], _, h, _, _ => by simp at h
  | k :: ks, _ :: _, [], _, h, _ => by simp at h
  | k :: ks, v :: vs, w :: ws, h1, h2, e => by
    simp only [List.zip_cons_cons, List.cons.injEq, Prod.mk.injEq, true_and] at e
    rw [e.1, zip_inj (by simpa using h1) (by simpa using h2) e.2]
theorem dOb_inj {t : Bool} {ks : List (List L2.Key)} {vs ws : List V} (h1 : ks.length = vs.length) (h2 : ks.length = ws.length) (e : dOb t ks vs = dOb t ks ws) : vs = ws := by
  cases t with
  | true =>
    have e' : ks.zip vs = ks.zip ws := by
      have : HO.dT (ks.zip vs) = HO.dT (ks.zip ws) := e
      injection this
    exact zip_inj h1 h2 e'
  | false =>
    have e' : (ks.map k1).zip vs = (ks.map k1).zip ws := by
      have : HO.dK ((ks.map k1).zip vs) = HO.dK ((ks.map k1).zip ws) := e
      injection this
    exact zip_inj (by simpa using h1) (by simpa using h2) e'
theorem rd_dic {a : Addr} {t : Bool} {ks : List (List L2.Key)} {vs ws : List V} (h1 : ks.length = vs.length) (h2 : ks.length = ws.length) (r1 : Rd H a (dOb t ks vs)) (r2 : Rd H a (dOb t ks ws)) : vs = ws := by
  refine dOb_inj (t := t) h1 h2 ?_
  rcases r1 with r1 | ⟨o, r1⟩
  · rcases r2 with r2 | ⟨o', r2⟩
    · rw [r1] at r2; exact Option.some.inj r2
    · rw [r1] at r2; exact absurd (Option.some.inj r2) dOb_frz
  · rcases r2 with r2 | ⟨o', r2⟩
    · rw [r1] at r2; exact absurd (Option.some.inj r2).symm dOb_frz
    · rw [r1] at r2
      have := Option.some.inj r2
      injection this
/-- y in d -/
def rDin (neg : Bool) : R2 := fun y x H Q => ∃ a o, x = .ref a ∧ DGet H a y o ∧ Q (.bl (neg ^^ o.isSome)) H
def inOf (neg : Bool) : CmpOp := if neg then .NotIn else .In
theorem op_din (hu : X.A.units + 1 < cLine) (neg : Bool) : OpR X (compareOp (inOf neg)) (rDin neg) := by
  intro pins s σ H x y v u Q I rx ry h
  obtain ⟨a, o, rfl, g, q⟩ := h
  obtain rfl : u = Value.ref a := ry
  cases neg with
  | false =>
    refine d_in hu I g rx fun s' I' => ⟨.bl o.isSome, H, I', rfl, ?_⟩
    simpa using q
  | true =>
    refine d_notIn hu I g rx fun s' I' => ⟨.bl (!o.isSome), H, I', rfl, ?_⟩
    simpa using q
variable (g : Good C cal N sc cf ca EX W X)
include g
omit g in
theorem c_dnew {t : Bool} {p : Pos} : PE X (.Dict [] [] p) (tE C cf ca X.K EX W 0 (.dnew t)) := by
  cases t with
  | false =>
    refine PEimp pe_dnewK fun σ H Q z => ?_
    obtain ⟨H0, S, ts, r, st, z⟩ := z
    simp only [ev] at z
    exact fun p hp => z _ _ (st.fresh (A := [p]) (same_upd hp) (by simp) (by simp [hp]) fun hot => .dicS (t := false) (ks := []) (vs := []) upd_same (fun _ k hk => by simp at hk) rfl (.nil 0))
  | true =>
    refine PEimp pe_dnewT fun σ H Q z => ?_
    obtain ⟨H0, S, ts, r, st, z⟩ := z
    simp only [ev] at z
    exact fun p hp => z _ _ (st.fresh (A := [p]) (same_upd hp) (by simp) (by simp [hp]) fun hot => .dicS (t := true) (ks := []) (vs := []) upd_same (fun h => by cases h) rfl (.nil 0))
omit g in
/-- a key looked up in a dict, both read -/
theorem Sta.look {v w : V} {i j : Nat} {t : Bool} {ks : List (List L2.Key)} {ds : List D} {y : D} {q : List L2.Key} (hot : List Addr) (h1 : RepT K H S hot i v (.dic t ks ds)) (h2 : RepT K H S hot j w y) (e : keyD t y = some q) :
    ∃ a vs, v = .ref a ∧ Rd H a (dOb t ks vs) ∧ ks.length = vs.length ∧ DGet H a w (valV (ks.zip vs) q) ∧ RepTs K H S hot 0 vs ds := by
  obtain ⟨a, vs, rfl, hr, ok, hl, hs⟩ := h1.dic_ex
  exact ⟨a, vs, rfl, hr, hl, dget_of hr ok (key_is h2 e), hs⟩
theorem c_din {neg : Bool} {k a : E} {x y : Expr} {p : Pos} (hy : plainX y = true) (hk : PE X x (tE C cf ca X.K EX W 9 k)) (ha : PE X y (tE C cf ca X.K EX W 1 a)) : PE X (.Compare x [inOf neg] [y] p) (tE C cf ca X.K EX W 0 (.din neg k a)) := by
  refine PEimp (pe_cmpR (op_din (by have := g.un; omega) neg) hk ha (plain_marks hy)) fun σ H Q z => ?_
  obtain ⟨H0, S, ts, r, st, z⟩ := z
  simp only [ev] at z
  refine ⟨H0, S, ts, r, st, z.bind.imp fun a1 k v H1 st1 => ?_⟩
  refine ⟨H0, S, _, _, st1, k.bind.deep.imp fun a2 k w H2 st2 => ?_⟩
  obtain ⟨r2, l2, d2⟩ := a2
  simp only at k st2
  cases d2 <;> first | exact k.elim | skip
  rename_i t ks ds
  obtain ⟨q, e, k⟩ := k.bind.of
  obtain ⟨hot, h1, h2⟩ := Sta.peek2 st2
  obtain ⟨b, vs, rfl, hr, hl, dg, hs⟩ := Sta.look hot h2 h1 e
  refine ⟨b, _, rfl, dg, ?_⟩
  have hsome : (valV (ks.zip vs) q).isSome = (dval ks ds q).isSome := by
    rcases rep_val q (ks := ks) hs with ⟨v', d', e1, e2, _⟩ | ⟨e1, e2⟩
    · rw [e1, e2]; rfl
    · rw [e1, e2]; rfl
  rw [hsome]
  exact k _ H2 ((Sta.pop (Sta.pop st2)).push0 fun _ => .bl 0 _)
theorem t_din {neg : Bool} {k a : E} {x y : Expr} {p : Pos} (hy : plainX y = true) (hk : PE X x (tE C cf ca X.K EX W 9 k)) (ha : PE X y (tE C cf ca X.K EX W 1 a)) : PT X (.Compare x [inOf neg] [y] p) (tT C cf ca X.K EX W (.din neg k a)) := by
  refine PTimp (pt_cmpR (op_din (by have := g.un; omega) neg) hk ha (plain_marks hy)) fun σ H Q z => ?_
  obtain ⟨H0, S, ts, r, st, z⟩ := z
  simp only [ev] at z
  refine ⟨H0, S, ts, r, st, z.bind.imp fun a1 k v H1 st1 => ?_⟩
  refine ⟨H0, S, _, _, st1, k.bind.deep.imp fun a2 k w H2 st2 => ?_⟩
  obtain ⟨r2, l2, d2⟩ := a2
  simp only at k st2
  cases d2 <;> first | exact k.elim | skip
  rename_i t ks ds
  obtain ⟨q, e, b', e', k⟩ := k.bind.of
  cases e'
  obtain ⟨hot, h1, h2⟩ := Sta.peek2 st2
  obtain ⟨b, vs, rfl, hr, hl, dg, hs⟩ := Sta.look hot h2 h1 e
  refine ⟨b, _, rfl, dg, ?_⟩
  have hsome : (valV (ks.zip vs) q).isSome = (dval ks ds q).isSome := by
    rcases rep_val q (ks := ks) hs with ⟨v', d', e1, e2, _⟩ | ⟨e1, e2⟩
    · rw [e1, e2]; rfl
    · rw [e1, e2]; rfl
  rw [hsome]
  exact ⟨_, rfl, k H2 (Sta.pop (Sta.pop st2))⟩
omit g in
/-- what is found is handed on -/
theorem Sta.found {w u : V} {t : Bool} {ks : List (List L2.Key)} {vs : List V} {ds : List D} {y d : D} {q : List L2.Key} {a : Addr} (st : Sta K EX H0 S (.brw w 9 y :: .brw (.ref a) 1 (.dic t ks ds) :: ts) σ r H) (hr : Rd H a (dOb t ks vs)) (hl : ks.length = vs.length) (e1 : valV (ks.zip vs) q = some u) (e2 : dval ks ds q = some d) : Sta K EX H0 S (.own u 0 d :: ts) σ r H := by
  refine Sta.brw0 (Sta.step (t1 := [.brw (.ref a) 1 (.dic t ks ds)]) (t2 := [.brw u 0 d]) (Sta.pop st) (Same.refl H) fun hot A1 nd sub dom hS qq => ⟨[], .nil, fun _ z => (by simp at z), fun hot' h1 h2 h3 h4 => .mk1 (.brw ?_)⟩)
  obtain ⟨b, ws, eb, hr2, ok2, hl2, hs⟩ := qq.brw1.dic_ex
  cases eb
  have ew := rd_dic hl hl2 hr hr2
  subst ew
  rcases rep_val q (ks := ks) hs with ⟨v', d', k1, k2, k3⟩ | ⟨k1, k2⟩
  · rw [e1] at k1
    rw [e2] at k2
    cases k1
    cases k2
    exact k3.less hS fun a ha => (h1 a ha).elim id fun z => by simp at z
  · rw [e1] at k1; cases k1
omit g in
theorem noSl {y : Expr} (hy : plainX y = true) : NoSl y := by
  intro ov iv
  cases y <;> first | rfl | cases hy
theorem c_dix {k a : E} {x y : Expr} {p : Pos} (hy : plainX y = true) (ha : PE X x (tE C cf ca X.K EX W 1 a)) (hk : PE X y (tE C cf ca X.K EX W 9 k)) : PE X (.Subscript x y p) (tE C cf ca X.K EX W 0 (.dix a k)) := by
  refine PEimp (pe_dget (by have := g.un; omega) ha hk (noSl hy)) fun σ H Q z => ?_
  obtain ⟨H0, S, ts, r, st, z⟩ := z
  simp only [ev] at z
  refine ⟨H0, S, ts, r, st, z.bind.imp fun a1 k v H1 st1 => ?_⟩
  refine ⟨H0, S, _, _, st1, k.bind.deep.imp fun a2 k w H2 st2 => ?_⟩
  obtain ⟨r1, l1, d1⟩ := a1
  obtain ⟨r2, l2, d2⟩ := a2
  simp only at k st2
  cases d1 with
  | dic t ks ds =>
    obtain ⟨q, e, k⟩ := k.bind.of
    obtain ⟨d, e2, k⟩ := (Post.bind k).of
    obtain ⟨hot, h1, h2⟩ := Sta.peek2 st2
    obtain ⟨b, vs, rfl, hr, hl, dg, hs⟩ := Sta.look hot h1 h2 e
    rcases rep_val q (ks := ks) hs with ⟨v', d', k1, k2, k3⟩ | ⟨k1, k2⟩
    · rw [e2] at k2
      cases k2
      rw [k1] at dg
      exact ⟨b, v', rfl, dg, k _ H2 (Sta.found st2 hr hl k1 e2)⟩
    · rw [e2] at k2; cases k2
  | _ => exact k.elim
omit g in
theorem isD_of {a : Addr} {t : Bool} {ks : List (List L2.Key)} {vs : List V} (h : Rd H a (dOb t ks vs)) : IsD H a := by
  cases t with
  | false => exact .inl ⟨_, h⟩
  | true => exact .inr ⟨_, h⟩
theorem c_dgt {a k : E} {x : Expr} {y : Str} {p1 p2 p3 : Pos} (hl : (p2.endLine == p3.line) = true) (hx : plainX x = true) (ha : PE X (.Name y p1) (tE C cf ca X.K EX W 1 a)) (hk : PE X x (tE C cf ca X.K EX W 9 k)) :
    PE X (.Call (.Attribute (.Name y p1) "get" p2) [x] [] p3) (tE C cf ca X.K EX W 0 (.dgt a k)) := by
  have hs := star_cons (env := X.env) (xs := []) hx
  refine PEimp (pe_dget1 (by have := g.un; omega) ha hk ⟨rfl, few1 hx, hl, by rw [hs]; rfl⟩) fun σ H Q z => ?_
  obtain ⟨H0, S, ts, r, st, z⟩ := z
  simp only [ev] at z
  refine ⟨H0, S, ts, r, st, z.bind.imp fun a1 k v H1 st1 => ?_⟩
  obtain ⟨r1, l1, d1⟩ := a1
  simp only at k st1
  cases d1 <;> first | exact k.elim | skip
  rename_i t ks ds
  obtain ⟨hot0, g0⟩ := Sta.peek st1
  obtain ⟨b, vs, rfl, hr0, ok0, hl0, hs0⟩ := g0.dic_ex
  refine ⟨b, rfl, isD_of hr0, H0, S, _, _, st1, k.bind.deep.imp fun a2 k w H2 st2 => ?_⟩
  obtain ⟨r2, l2, d2⟩ := a2
  obtain ⟨q, e, k⟩ := k.bind.of
  obtain ⟨hot, h1, h2⟩ := Sta.peek2 st2
  obtain ⟨b', vs', eb, hr, hl', dg, hs'⟩ := Sta.look hot h1 h2 e
  cases eb
  rcases rep_val q (ks := ks) hs' with ⟨v', d', k1, k2, k3⟩ | ⟨k1, k2⟩
  · rw [k1] at dg
    rw [k2] at k
    exact ⟨_, dg, k _ H2 (Sta.found st2 hr hl' k1 k2)⟩
  · rw [k1] at dg
    rw [k2] at k
    exact ⟨_, dg, k _ H2 ((Sta.pop (Sta.pop st2)).push0 fun _ => .non 0)⟩
end
end Ly

set_option Elab.async false
set_option linter.all false
set_option maxRecDepth 100000
set_option maxHeartbeats 2000000
/-! Comprehensions, and all expressions together. -/
namespace Ly
open PySem PySem.Spec PyProof.Rows L2
section
variable {C : Cfg} {cal : Bool} {N : List Str} {sc : Scope} {cf : Nat → List D → CR} {ca : Nat → Addr} {EX : Addr → Nat → Prop} {W : WX} {X : Cx} {K : PySem.W.Frag}
variable {H0 H H' : Hp} {S : List Addr} {ts : List Tm} {σ : L2.St} {r : Env}

/-! ### targets -/
def gLocs : List Nat → TGs
  | [] => gNil
  | i :: js => gCons (gName i) (gLocs js)
def gTg (K : PySem.W.Frag) : Tg → TG
  | .name i => gName i
  | .tup js => gTup K js.length (gLocs js)
theorem Sta.uncons {v : V} {d : D} {vs : List V} {ds : List D} (st : Sta K EX H0 S (.owns (v :: vs) 0 (d :: ds) :: ts) σ r H) : Sta K EX H0 S (.own v 0 d :: .owns vs 0 ds :: ts) σ r H :=
  Sta.step (t1 := [.owns (v :: vs) 0 (d :: ds)]) (t2 := [.own v 0 d, .owns vs 0 ds]) st (Same.refl H) fun hot A1 nd sub dom hS q => by
    have q1 := q.one
    clear q
    cases q1 with
    | owns q1 =>
      refine ⟨[], .nil, fun _ z => (by simp at z), fun hot' h1 h2 h3 h4 => ?_⟩
      have hh : ∀ a ∈ hot', a ∈ hot := fun a ha => (h1 a ha).elim id fun z => by simp at z
      have q2 := q1.hot hh
      cases q2 with
      | cons q3 q4 =>
        have e1 := q3.zero
        have e2 := q4.zero
        subst e1 e2
        exact Tms.cons (A := []) (.own q3) (.mk1 (.owns q4))
theorem put_many {Q : L2.St → Hp → Prop} : ∀ {js : List Nat} {vs : List V} {ds : List D} {σ : L2.St} {r : Env}, Sta K EX H0 S (.owns vs 0 ds :: ts) σ r H → ds.length = js.length →
    (∀ σ', σ'.length = σ.length → (∀ k, k ∉ js → σ'[k]? = σ[k]?) → Sta K EX H0 S ts σ' (setAll js ds r) H → Q σ' H) → gLocs js vs σ H Q
  | [], vs, ds, σ, r, st, hl, h => by
    obtain ⟨_, _, A, B, _, _, hT, _⟩ := id st
    obtain ⟨A1, A2, _, h1, _⟩ := Tms.split (t1 := [_]) hT
    have h1 := h1.one
    cases h1 with
    | owns h1 =>
      have e := h1.length
      rw [hl] at e
      have e1 : vs = [] := List.eq_nil_of_length_eq_zero e
      have e2 : ds = [] := List.eq_nil_of_length_eq_zero hl
      subst e1 e2
      exact ⟨rfl, h σ rfl (fun _ _ => rfl) st.pop⟩
  | i :: js, vs, [], σ, r, st, hl, h => by simp at hl
  | i :: js, vs, d :: ds, σ, r, st, hl, h => by
    obtain ⟨_, _, A, B, _, _, hT, _⟩ := id st
    obtain ⟨A1, A2, _, h1, _⟩ := Tms.split (t1 := [_]) hT
    have h1 := h1.one
    cases h1 with
    | owns h1 =>
      have e := h1.length
      cases vs with
      | nil => simp at e
      | cons v vs =>
        refine ⟨v, vs, rfl, ?_⟩
        have st2 := (Sta.uncons st).store i
        refine put_many st2 (by simpa using hl) fun σ' h1 h2 st3 => h σ' (by rw [h1, List.length_set]) (fun k hk => ?_) st3
        simp only [List.mem_cons, not_or] at hk
        rw [h2 k hk.2, List.getElem?_set_ne (Ne.symm hk.1)]
theorem Sta.openT {v : V} {ds : List D} (st : Sta K EX H0 S (.own v 0 (.tup ds) :: ts) σ r H) : ∃ a vs, v = .ref a ∧ SqT K H a vs ∧ vs.length = ds.length ∧ Sta K EX H0 S (.owns vs 0 ds :: ts) σ r H := by
  obtain ⟨ex, sd, A, B, nd, new, hT, hS⟩ := st
  cases hT with
  | cons h hs =>
    cases h with
    | own h =>
      obtain ⟨a, vs, rfl, h1, h2⟩ := h.tup_ex
      exact ⟨a, vs, rfl, h1, h2.length, ex, sd, _, B, nd, new, .cons (.owns h2) hs, hS⟩
theorem put_sem {t : Tg} {v : V} {d : D} {r' : Env} {Q : L2.St → Hp → Prop} (st : Sta K EX H0 S (.own v 0 d :: ts) σ r H) (e : t.put d r = some r') (h : ∀ σ', σ'.length = σ.length → (∀ k, k ∉ t.ids → σ'[k]? = σ[k]?) → Sta K EX H0 S ts σ' r' H → Q σ' H) : gTg K t v σ H Q := by
  cases t with
  | name i =>
    cases e
    refine h _ (List.length_set ..) (fun k hk => ?_) (st.store i)
    rw [List.getElem?_set_ne (fun e => hk (by rw [e]; simp [Tg.ids]))]
  | tup js =>
    cases d <;> simp only [Tg.put, reduceCtorEq] at e
    rename_i ds
    split at e
    · rename_i hl
      cases e
      obtain ⟨a, vs, rfl, h1, h2, st2⟩ := Sta.openT st
      exact ⟨a, vs, rfl, h1, by rw [h2, hl], put_many st2 hl h⟩
    · cases e
/-! ### a list of a comprehension's own -/
/-- D is laid: nobody's own from now on -/
theorem Sta.enter {p : Addr} {k : Nat} (st : Sta K EX H0 S ts σ r H) (hp : H p = none) : Sta K EX H0 (p :: S) (.owns [] k [] :: ts) σ r (upd H p (.lst [])) := by
  have sm : Same H (upd H p (.lst [])) := same_upd hp
  obtain ⟨ex, sd, A, B, nd, new, hT, hS⟩ := st
  have F : Fr H (upd H p (.lst [])) S (p :: S) (S ++ (A ++ B)) (p :: S ++ (A ++ B)) [] := ⟨fun a _ o e => sm a o e, fun _ z => (by simp at z), fun _ z => (by simp at z), fun a ha => by
    rw [List.cons_append] at ha
    rcases List.mem_cons.mp ha with e | z
    · subst e; exact .inr hp
    · exact .inl z, fun a ha => List.mem_append_left _ ha, fun a ha => by
    rcases List.mem_cons.mp ha with e | z
    · subst e; exact .inr hp
    · exact .inl z⟩
  refine ⟨ex.trans sm, fun a ha => ?_, A, B, nd, fun a ha => ⟨(new a ha).1, fun hm => ?_⟩, Tms.cons (A := []) (.owns (.nil k)) (hT.frame F (.inl (by simp)) (by simp)), hS.frame F (by simp)⟩
  · rcases List.mem_cons.mp ha with e | z
    · subst e; rw [upd_same]; exact fun z => nomatch z
    · cases e : H a with
      | none => exact absurd e (sd a z)
      | some o => rw [sm a o e]; exact fun z => nomatch z
  · rcases List.mem_cons.mp hm with e | z
    · subst e
      have hh : H a ≠ none := by
        rcases List.mem_append.mp ha with z | z
        · exact (hT.mem a z).ne
        · exact (hS.mem a z).ne
      exact hh hp
    · exact (new a ha).2 z
/-- a list that is nobody's is written -/
theorem Sta.write {p : Addr} {xs ys : List V} (st : Sta K EX H0 S ts σ r H) (hp : p ∈ S) (hx : H p = some (.lst xs)) (h0 : H0 p = none) : Sta K EX H0 S ts σ r (upd H p (.lst ys)) := by
  obtain ⟨ex, sd, A, B, nd, new, hT, hS⟩ := st
  have F : Fr H (upd H p (.lst ys)) S S (S ++ (A ++ B)) (S ++ (A ++ B)) [p] := ⟨fun a ha o e => by rw [upd_ne (by simpa using ha)]; exact e, fun a ha => by
    obtain rfl : a = p := by simpa using ha
    exact .inl ⟨xs, hx⟩, fun a ha => by
    obtain rfl : a = p := by simpa using ha
    exact List.mem_append_left _ hp, fun a ha => .inl ha, fun a ha => List.mem_append_left _ ha, fun a ha => .inl ha⟩
  have nn : ∀ a ∈ [p], a ∉ A ++ B := fun a ha hm => by
    obtain rfl : a = p := by simpa using ha
    exact (new a hm).2 hp
  refine ⟨fun b o e => ?_, fun a ha => ?_, A, B, nd, new, hT.frame F (.inl fun a ha => ?_) fun a ha hm => nn a ha (List.mem_append_left _ hm), hS.frame F fun a ha hm => nn a ha (List.mem_append_right _ hm)⟩
  · rw [upd_ne (fun h => by subst h; rw [h0] at e; cases e)]
    exact ex b o e
  · by_cases h : a = p
    · subst h; rw [upd_same]; exact fun z => nomatch z
    · rw [upd_ne h]; exact sd a ha
  · obtain rfl : a = p := by simpa using ha
    exact hp
/-- it is one's own at last -/
theorem Sta.leave {p : Addr} {k : Nat} {vs : List V} {ds : List D} (st : Sta K EX H0 (p :: S) (.owns vs k ds :: ts) σ r H) (hx : H p = some (.lst vs)) (h0 : H0 p = none) (hn : p ∉ S) : Sta K EX H0 S (.own (.ref p) (k + 1) (.lst ds) :: ts) σ r H := by
  obtain ⟨ex, sd, A0, B, nd, new, hT, hS⟩ := st
  obtain ⟨A1, A2, rfl, h1, h2⟩ := Tms.split (t1 := [_]) hT
  have h1' := h1.one
  clear h1
  cases h1' with
  | owns h1 =>
    have hD : p ∉ A1 ++ A2 ++ B := fun hm => (new p hm).2 List.mem_cons_self
    have F : Fr H H (p :: S) S (p :: S ++ (A1 ++ A2 ++ B)) (S ++ (p :: A1 ++ A2 ++ B)) [] := ⟨fun a _ o e => e, fun _ z => (by simp at z), fun _ z => (by simp at z), fun a ha => by
      refine .inl ?_
      simp only [List.mem_append, List.mem_cons, List.cons_append] at ha ⊢
      rcases ha with z | z | z
      · exact .inr (.inl z)
      · exact .inl z
      · exact .inr (.inr z), fun a ha => List.mem_append_left _ ha, fun a ha => .inl (List.mem_cons_of_mem _ ha)⟩
    refine ⟨ex, fun a ha => sd a (List.mem_cons_of_mem _ ha), p :: A1 ++ A2, B, ?_, fun a ha => ?_, Tms.cons (A := p :: A1) (.own (.lstS hx (h1.frame F.c1 F.c2 F.hX F.c4 (by simp)))) (h2.frame F (.inl (by simp)) (by simp)), hS.frame F (by simp)⟩
    · simp only [List.cons_append]
      exact List.nodup_cons.mpr ⟨hD, nd⟩
    · simp only [List.cons_append] at ha
      rcases List.mem_cons.mp ha with e | z
      · subst e; exact ⟨h0, hn⟩
      · exact ⟨(new a z).1, fun hm => (new a z).2 (List.mem_cons_of_mem _ hm)⟩
theorem Sta.under {tt : List Tm} {t : Tm} (st : Sta K EX H0 S (tt ++ t :: ts) σ r H) : Sta K EX H0 S (t :: ts) σ r H := by
  induction tt with
  | nil => exact st
  | cons u tt ih => exact ih (Sta.pop st)
theorem perm_mid {t : Tm} {tt : List Tm} : (tt ++ t :: ts).Perm (t :: (tt ++ ts)) := List.perm_middle

/-- a nobody's list is held as it is -/
theorem Sta.hold {p : Addr} {o : HO} (st : Sta K EX H0 S ts σ r H) (hp : p ∈ S) (hx : H p = some o) : Sta K EX (upd H0 p o) S ts σ r H := by
  obtain ⟨ex, sd, A, B, nd, new, hT, hS⟩ := st
  refine ⟨fun b u e => ?_, sd, A, B, nd, fun a ha => ⟨?_, (new a ha).2⟩, hT, hS⟩
  · by_cases h : b = p
    · subst h; rw [upd_same] at e; cases e; exact hx
    · rw [upd_ne h] at e; exact ex b u e
  · rw [upd_ne (fun e => (new a ha).2 (by rw [e]; exact hp))]
    exact (new a ha).1
theorem Sta.unhold {p : Addr} {o : HO} (st : Sta K EX (upd H0 p o) S ts σ r H) (h0 : H0 p = none) : Sta K EX H0 S ts σ r H ∧ H p = some o := by
  obtain ⟨ex, sd, A, B, nd, new, hT, hS⟩ := st
  have sm := same_upd (o := o) h0
  exact ⟨⟨sm.trans ex, sd, A, B, nd, fun a ha => ⟨sm.free (new a ha).1, (new a ha).2⟩, hT, hS⟩, ex p o upd_same⟩
def W0 : WX := fun _ _ _ _ => False
section
variable (g : Good C cal N sc cf ca EX W X)
include g
theorem comp_tLc {h : Nat} {elt : E} {t : Tg} {src : Sr} {cond : Eo} {σ : L2.St} {H : Hp} {Q : VK} (z : tE C cf ca X.K EX W 0 (.comp h elt t src cond) σ H Q) : tLc (tSr C cf ca X.K EX W src) (gTg X.K t) (tIf C cf ca X.K EX W0 cond) (tE C cf ca X.K EX W0 0 elt) t.ids σ H Q := by
  obtain ⟨H0, S, ts, r, st, z⟩ := z
  simp only [ev] at z
  refine ⟨H0, S, ts, r, st, z.bind.imp fun a1 k J tt H1 sj st1 L hD => ?_⟩
  obtain ⟨r1, xs⟩ := a1
  obtain ⟨⟨r2, yy⟩, e, k⟩ := k.bind.of
  simp only at e k sj st1
  unfold compT at e
  generalize hF : (fun (q : Env) (x : D) => (Ly.R.of (t.put x q)).bind fun q1 => (evc C.G C.sub cf cond q1).bind fun x => if x.snd = true then (ev C.G C.sub cf 0 elt x.fst).bind fun x => if h - 1 ≤ x.2.fst then Ly.R.ok (wipeE t.ids x.fst, some x.2.snd) else Ly.R.bad else Ly.R.ok (wipeE t.ids x.fst, none)) = F at e
  have h0 : H0 L = none := st1.ex.free hD
  have hDS : L ∉ S := fun hm => st1.sd L hm hD
  refine ⟨fun i m H => m = xs.length - i ∧ i ≤ xs.length ∧ ∃ acc rq ys, H L = some (.lst acc) ∧ acc.length = ys.length ∧ Sta X.K EX H0 (L :: S) (tt ++ .owns acc (h - 1) ys :: ts) (wipe σ t.ids) rq H ∧ compLoop F (xs.drop i) rq ys = some (r2, yy),
    ⟨xs.length, by simp, Nat.zero_le _, [], _, [], upd_same, rfl, ((Sta.enter st1 hD).perm perm_mid.symm).wiped t.ids, by rw [List.drop_zero]; exact e⟩, ?_⟩
  rintro i m H2 ⟨rfl, hle, acc, rq, ys, hacc, hlen, st2, e2⟩
  by_cases hlt : i < xs.length
  · obtain ⟨d, hd⟩ : ∃ d, xs[i]? = some d := ⟨xs[i], List.getElem?_eq_getElem hlt⟩
    obtain ⟨go, step⟩ := (sj.turn i _ (L :: S) _ _ _ H2 (Sta.hold st2 List.mem_cons_self hacc)).2 d hd
    have hdrop : xs.drop i = d :: xs.drop (i + 1) := by
      rw [List.drop_eq_getElem_cons hlt]
      rw [List.getElem?_eq_getElem hlt] at hd
      cases hd
      rfl
    rw [hdrop, compLoop] at e2
    refine .inr ⟨go, fun H => ∃ acc rq ys, H L = some (.lst acc) ∧ acc.length = ys.length ∧ Sta X.K EX H0 (L :: S) (tt ++ .owns acc (h - 1) ys :: ts) (wipe σ t.ids) rq H ∧ compLoop F (xs.drop (i + 1)) rq ys = some (r2, yy), fun H' nx => ⟨xs.length - (i + 1), by omega, rfl, hlt, nx⟩, fun v H3 y => ?_⟩
    have st3 := step v H3 y
    have hFd : F rq d = (Ly.R.of (t.put d rq)).bind fun q1 => (evc C.G C.sub cf cond q1).bind fun x => if x.snd = true then (ev C.G C.sub cf 0 elt x.fst).bind fun x => if h - 1 ≤ x.2.fst then Ly.R.ok (wipeE t.ids x.fst, some x.2.snd) else Ly.R.bad else Ly.R.ok (wipeE t.ids x.fst, none) := by rw [← hF]
    cases e3 : t.put d rq with
    | none => rw [hFd, e3] at e2; cases e2
    | some q1 =>
      rw [e3] at hFd
      simp only [R.of, R.bind] at hFd
      refine put_sem st3 e3 fun σ2 l2 ag st4 => ?_
      have wp : wipe σ2 t.ids = wipe σ t.ids := by
        rw [wipe_agree l2 ag]
        refine wipe_agree (wipe_length ..) fun k hk => ?_
        rw [wipe_get, if_neg hk]
      refine ⟨wp, ?_⟩
      cases e4 : evc C.G C.sub cf cond q1 with
      | bad => rw [hFd, e4] at e2; cases e2
      | exc _ _ => rw [hFd, e4] at e2; cases e2
      | ok qb =>
        obtain ⟨q2, b⟩ := qb
        rw [e4] at hFd
        simp only at hFd
        refine ⟨_, L :: S, _, q1, st4, ?_⟩
        rw [e4]
        intro H5 st5
        cases b with
        | false =>
          simp only [Bool.false_eq_true, if_false] at hFd ⊢
          rw [hFd] at e2
          obtain ⟨st6, hc6⟩ := Sta.unhold st5 h0
          exact ⟨acc, _, ys, hc6, hlen, by rw [← wp]; exact st6.wiped t.ids, e2⟩
        | true =>
          simp only [if_true] at hFd ⊢
          cases e5 : ev C.G C.sub cf 0 elt q2 with
          | bad => rw [hFd, e5] at e2; cases e2
          | exc _ _ => rw [hFd, e5] at e2; cases e2
          | ok a3 =>
            obtain ⟨q3, l3, d3⟩ := a3
            rw [e5] at hFd
            simp only at hFd
            refine ⟨_, L :: S, _, q2, st5, ?_⟩
            rw [e5]
            intro w H6 st6
            by_cases hl : h - 1 ≤ l3
            · rw [if_pos hl] at hFd
              rw [hFd] at e2
              simp only at e2
              split at e2
              · rename_i hz
                have st7 : Sta X.K EX (upd H0 L (.lst acc)) (L :: S) (tt ++ .owns (acc ++ [w]) (h - 1) (ys ++ [d3]) :: ts) σ2 q3 H6 :=
                  (Sta.snoc (st6.perm ((List.Perm.cons _ perm_mid))) hl).perm perm_mid.symm
                obtain ⟨st8, hc8⟩ := Sta.unhold st7 h0
                refine ⟨acc, hc8, by rw [hlen, ← ln_eq]; exact hz, acc ++ [w], _, ys ++ [d3], upd_same, by rw [List.length_append, List.length_append, hlen]; rfl, ?_, e2⟩
                rw [← wp]
                exact (st8.write List.mem_cons_self hc8 h0).wiped t.ids
              · cases e2
            · rw [if_neg hl] at hFd
              rw [hFd] at e2
              cases e2
  · have ei : i = xs.length := by omega
    subst ei
    refine .inl ⟨(sj.turn _ H0 (L :: S) _ _ _ H2 st2).1 rfl, ?_⟩
    rw [List.drop_length] at e2
    cases e2
    exact k _ _ ((Sta.leave (Sta.under st2) hacc h0 hDS).lowT (by show h ≤ h - 1 + 1; omega)).unwiped
theorem c_comp {h : Nat} {elt : E} {t : Tg} {src : Sr} {cond : Eo} {x tg it : Expr} {ifs : List Expr} {scope : Scope} {p : Pos} (hc : cal = true) (ok : BlkOk X.N X.env.scope scope (ownOf N t.ids)) (hi : PI X tg it (tSr C cf ca X.K EX W src))
    (hg : ∀ (s : Shared) (H : Hp) (C' : Addr) (cl : List (Str × Addr)) (fp : List Addr), PG (X.blk s H scope (compEnvC scope cl C' X.env) fp) tg (gTg X.K t))
    (ht : ∀ (s : Shared) (H : Hp) (C' : Addr) (cl : List (Str × Addr)) (fp : List Addr), PTs (X.blk s H scope (compEnvC scope cl C' X.env) fp) ifs (tIf C cf ca X.K EX W0 cond))
    (he : ∀ (s : Shared) (H : Hp) (C' : Addr) (cl : List (Str × Addr)) (fp : List Addr), PE (X.blk s H scope (compEnvC scope cl C' X.env) fp) x (tE C cf ca X.K EX W0 0 elt)) (hs : plainX it = true) :
    PE X (.ListComp x [⟨tg, it, ifs, 0⟩] scope p) (tE C cf ca X.K EX W 0 (.comp h elt t src cond)) := by
  have hids : (ownOf N t.ids).map (·.2) = t.ids := by simp [ownOf, Function.comp_def]
  refine PEimp (pe_lc (g.calm hc) (by rw [g.hN]; exact g.nd) hi ok hg ht he (plain_fold hs)) fun σ H Q z => ?_
  rw [hids]
  exact comp_tLc g z
end
end
end Ly

set_option Elab.async false
set_option linter.all false
set_option maxRecDepth 100000
set_option maxHeartbeats 2000000
/-! All expressions together. -/
namespace Ly
open PySem PySem.Spec PyProof.Rows L2
section
variable {C : Cfg} {cal : Bool} {N : List Str} {sc : Scope} {cf : Nat → List D → CR} {ca : Nat → Addr} {EX : Addr → Nat → Prop} {W : WX} {X : Cx}

theorem t_ife {c a b : E} {x y z : Expr} {p : Pos} (hc : PT X x (tT C cf ca X.K EX W c)) (ha : PT X y (tT C cf ca X.K EX W a)) (hb : PT X z (tT C cf ca X.K EX W b)) : PT X (.IfExp x y z p) (tT C cf ca X.K EX W (.ife c a b)) := by
  refine ⟨fun pins s σ H Q I h => ?_⟩
  show wpAny _ _ (do if ← isTrue x X.env (eval x X.env) then isTrue y X.env (eval y X.env) else isTrue z X.env (eval z X.env)) _ _ s
  obtain ⟨H0, S, ts, r, st, k⟩ := h
  simp only [ev] at k
  refine wpAny_bind (thn (hc.run pins s σ H (fun d H1 => if d = true then tT C cf ca X.K EX W a σ H1 Q else tT C cf ca X.K EX W b σ H1 Q) I ⟨H0, S, ts, r, st, k.bind.imp fun a1 k => ?_⟩) fun d s1 ⟨H1, I1, q1⟩ => ?_)
  · obtain ⟨r1, l1, d1⟩ := a1
    cases d1 <;> first | exact k.elim | skip
    rename_i b
    refine ⟨b, rfl, fun H1 st1 => ?_⟩
    cases b with
    | true => exact ⟨H0, S, ts, r1, st1, k⟩
    | false => exact ⟨H0, S, ts, r1, st1, k⟩
  · cases d with
    | true => exact ha.run pins s1 σ H1 Q I1 q1
    | false => exact hb.run pins s1 σ H1 Q I1 q1
theorem if_no : PTs X [] (tIf C cf ca X.K EX W .no) := ⟨fun pins s σ H Q I z => pts_nil.run pins s σ H Q I (by
  obtain ⟨H0, S, ts, r, st, z⟩ := z
  exact z H st)⟩
theorem if_yes {e : E} {x : Expr} (h : PT X x (tT C cf ca X.K EX W e)) : PTs X [x] (tIf C cf ca X.K EX W (.yes e)) := ⟨fun pins s σ H Q I z => (pts_one h).run pins s σ H Q I (by
  obtain ⟨H0, S, ts, r, st, z⟩ := z
  simp only [evc] at z
  refine ⟨H0, S, ts, r, st, z.bind.imp fun a1 k => ?_⟩
  obtain ⟨r1, l1, d1⟩ := a1
  cases d1 <;> first | exact k.elim | exact ⟨_, rfl, k⟩)⟩
/-- forms that are tested by their value -/
def valE : E → Bool
  | .not _ => false
  | .cmp _ _ _ => false
  | .din _ _ _ => false
  | .chain _ _ _ _ _ => false
  | .bop _ _ => false
  | .ife _ _ _ => false
  | _ => true
theorem mE_test : ∀ (e : E) (x : Expr), mE C cal N sc e x = true → valE e = true → ∀ (env : PySem.Env) whole, isTrue x env whole = (do let v ← whole; standAt x.pos; holding [v] (truthy v)) := by
  intro e x h hv
  cases x with
  | UnaryOp o a p =>
    cases e with
    | neg a' =>
      simp only [mE, dUn, Bool.and_eq_true, decide_eq_true_eq] at h
      obtain ⟨rfl, _⟩ := h
      intro env whole
      rfl
    | not a' => cases hv
    | _ => first | (exfalso; revert h; simp [mE, dName, dConst, dBin, dCmp, dCmp2, dBool, dIf, dTup, dLst, dSub, dCall, dCallK, dComp, dRev, dStep, isD0, dMeth]; done) | (exfalso; rename_i f _; revert h; cases f <;> simp [mE, dCall, dCallK, dRev, dStep, isD0, dMeth])
  | BoolOp o a p => exfalso; revert h hv; cases e <;> (try (rename_i f _; cases f)) <;> simp [valE, mE, dName, dConst, dBin, dUn, dCmp, dCmp2, dBool, dIf, dTup, dLst, dSub, dCall, dCallK, dComp, dRev, dStep, isD0, dMeth]
  | IfExp a b c p => exfalso; revert h hv; cases e <;> (try (rename_i f _; cases f)) <;> simp [valE, mE, dName, dConst, dBin, dUn, dCmp, dCmp2, dBool, dIf, dTup, dLst, dSub, dCall, dCallK, dComp, dRev, dStep, isD0, dMeth]
  | Compare a o b p => exfalso; revert h hv; cases e <;> (try (rename_i f _; cases f)) <;> simp [valE, mE, dName, dConst, dBin, dUn, dBool, dIf, dTup, dLst, dSub, dCall, dCallK, dComp, dRev, dStep, isD0, dMeth]
  | _ => exact fun env whole => rfl
theorem ScRel.blk {sc sc' scope : Scope} (r : ScRel sc sc') (hk : scope.kind = .function) : ScRel scope (relS scope sc') := by
  refine ⟨hk, fun x k h => ?_⟩
  show ∃ k', List.lookup x (scope.names.map _) = some k' ∧ _
  generalize scope.names = l at h
  induction l with
  | nil => cases h
  | cons y l ih =>
    obtain ⟨n, k0⟩ := y
    simp only [List.lookup_cons, List.map_cons] at h ⊢
    by_cases hc : (k0 == NameKind.free && sc'.kind == .function && sc'.names.lookup n == some .cell) = true
    · rw [if_pos hc, List.lookup_cons]
      cases hx : x == n with
      | true =>
        rw [hx] at h
        cases h
        simp only [Bool.and_eq_true, beq_iff_eq] at hc
        exact ⟨.cell, rfl, .inr ⟨hc.1.1, rfl⟩⟩
      | false =>
        rw [hx] at h
        exact ih h
    · rw [if_neg hc, List.lookup_cons]
      cases hx : x == n with
      | true =>
        rw [hx] at h
        cases h
        exact ⟨_, rfl, .inl rfl⟩
      | false =>
        rw [hx] at h
        exact ih h
theorem Good.blk (g : Good C cal N sc cf ca EX W X) (hc : cal = true) {scope : Scope} (hk : scope.kind = .function) (s : Shared) (H : Hp) (C' : Addr) (cl : List (Str × Addr)) (fp : List Addr) :
    Good C cal N scope cf ca EX W0 (X.blk s H scope (compEnvC scope cl C' X.env) fp) where
  hN := g.hN
  nd := g.nd
  sr := g.sr.blk hk
  fo := fun x h => by
    show (scope.names.lookup x == some .cell) = true
    rw [h]; rfl
  calm := g.calm
  un := g.un
  tk := takes0
  fns := g.fns
  dfl := g.dfl
  bl := g.bl
  gls := g.gls
  exN := g.exN
  exI := fun h => by rw [hc] at h; cases h
theorem Good.blkOk (g : Good C cal N sc cf ca EX W X) {scope : Scope} {own : List (Str × Nat)} (h : blkC N sc scope own = true) : BlkOk X.N X.env.scope scope own := by
  have b := blkOk_by h
  rw [g.hN]
  refine ⟨b.kind, b.uniq, b.ix, fun y hy e => ?_, b.own⟩
  rcases b.free y hy e with z | z
  · obtain ⟨k', e', q | ⟨q, _⟩⟩ := g.sr.2 _ _ z
    · subst q; exact .inl e'
    · cases q
  · obtain ⟨k', e', q | ⟨_, q⟩⟩ := g.sr.2 _ _ z
    · subst q; exact .inr e'
    · subst q; exact .inl e'
theorem g_loc (g : Good C cal N sc cf ca EX W X) {i : Nat} {x : Expr} (h : mLoc N sc i x = true) : ∃ n p, x = .Name n p ∧ PG X x (gName i) := by
  unfold mLoc at h
  split at h
  · rename_i n e
    obtain ⟨p, rfl⟩ := dName_eq e
    rw [Bool.and_eq_true, decide_eq_true_eq] at h
    obtain ⟨l1, l2⟩ := g.loc h.2
    exact ⟨n, p, rfl, pg_name (by rw [g.hN]; exact g.nd) (by rw [g.hN]; exact h.1) l1 l2⟩
  · cases h
theorem g_locs (g : Good C cal N sc cf ca EX W X) : ∀ {js : List Nat} {xs : List Expr}, mLocs N sc js xs = true → PGs X xs (gLocs js) ∧ (assignEach xs X.env).length = js.length ∧ (assignEach xs X.env).findIdx? (·.1) = none
  | [], [], _ => ⟨pgs_nil, rfl, rfl⟩
  | [], _ :: _, h => by simp [mLocs] at h
  | _ :: _, [], h => by simp [mLocs] at h
  | i :: js, x :: xs, h => by
    simp only [mLocs, Bool.and_eq_true] at h
    obtain ⟨n, p, rfl, h1⟩ := g_loc g h.1
    obtain ⟨h2, h3, h4⟩ := g_locs g h.2
    have e : assignEach (.Name n p :: xs) X.env = (false, assign (.Name n p) X.env) :: assignEach xs X.env := rfl
    refine ⟨pgs_cons h1 h2 (by rw [e]; rfl), by rw [e, List.length_cons, List.length_cons, h3], ?_⟩
    rw [e, List.findIdx?_cons]
    simp [h4]
theorem g_tg (g : Good C cal N sc cf ca EX W X) (hc : cal = true) {t : Tg} {x : Expr} (h : mTg N sc t x = true) : PG X x (gTg X.K t) := by
  cases t with
  | name i =>
    obtain ⟨n, p, rfl, h1⟩ := g_loc g h
    exact h1
  | tup js =>
    simp only [mTg] at h
    split at h
    · rename_i es e
      obtain ⟨k, p, rfl⟩ := dTup_eq e
      obtain ⟨h1, h2, h3⟩ := g_locs g h
      exact pg_tup (g.calm hc) h1 h2 h3
    · cases h
theorem mSr_plain : ∀ (e : Sr) (tg x : Expr), mSr C cal N sc e tg x = true → plainX x = true
  | .seq a, tg, x, h => mE_plain a x (by simpa [mSr] using h)
  | .seqB a, tg, x, h => mE_plain a x (by simpa [mSr] using h)
  | .range es, tg, x, h => by
    cases x <;> first | rfl | simp [mSr, dCall] at h
  | .enum a, tg, x, h => by
    cases x <;> first | rfl | simp [mSr, dCall] at h
  | .zip a b, tg, x, h => by
    cases x <;> first | rfl | simp [mSr, dCall] at h
mutual
theorem sE : ∀ (e : E) (x : Expr) (sc : Scope) (W : WX) (X : Cx), Good C cal N sc cf ca EX W X → mE C cal N sc e x = true → (∀ j, PE X x (tE C cf ca X.K EX W j e)) ∧ PT X x (tT C cf ca X.K EX W e)
  | .var i, x, sc, W, X, g, h => by
    have main : ∀ j, PE X x (tE C cf ca X.K EX W j (.var i)) := by
      have hm := h
      simp only [mE] at hm
      split at hm
      · rename_i n e
        obtain ⟨p, rfl⟩ := dName_eq e
        exact c_var g hm
      · cases hm
    exact ⟨main, t_val g (main 9) (mE_test _ _ h rfl X.env)⟩
  | .mv i, x, sc, W, X, g, h => by
    have main : ∀ j, PE X x (tE C cf ca X.K EX W j (.mv i)) := by
      have hm := h
      simp only [mE] at hm
      split at hm
      · rename_i n e
        obtain ⟨p, rfl⟩ := dName_eq e
        exact modes (c_mv g hm) (fun _ _ => by simp only [ev])
      · cases hm
    exact ⟨main, t_val g (main 9) (mE_test _ _ h rfl X.env)⟩
  | .cst d, x, sc, W, X, g, h => by
    have main : ∀ j, PE X x (tE C cf ca X.K EX W j (.cst d)) := by
      have hm := h
      simp only [mE] at hm
      split at hm
      · rename_i n e
        obtain ⟨k, p, rfl⟩ := dConst_eq e
        exact modes (c_cst g hm) (fun _ _ => by simp only [ev])
      · cases hm
    exact ⟨main, t_val g (main 9) (mE_test _ _ h rfl X.env)⟩
  | .glb i, x, sc, W, X, g, h => by
    have main : ∀ j, PE X x (tE C cf ca X.K EX W j (.glb i)) := by
      have hm := h
      simp only [mE] at hm
      split at hm
      · rename_i n q e e2
        obtain ⟨p, rfl⟩ := dName_eq e
        simp only [Bool.and_eq_true, decide_eq_true_eq] at hm
        obtain ⟨⟨rfl, h1⟩, h2⟩ := hm
        exact modes (c_glb g e2 h1 h2) (fun _ _ => by simp only [ev])
      · cases hm
    exact ⟨main, t_val g (main 9) (mE_test _ _ h rfl X.env)⟩
  | .bin o a b, x, sc, W, X, g, h => by
    have main : ∀ j, PE X x (tE C cf ca X.K EX W j (.bin o a b)) := by
      have hm := h
      simp only [mE] at hm
      split at hm
      · rename_i y op z e
        obtain ⟨p, rfl⟩ := dBin_eq e
        simp only [Bool.and_eq_true, decide_eq_true_eq] at hm
        obtain ⟨⟨rfl, h1⟩, h2⟩ := hm
        exact modes (c_bin g ((sE a y sc W X g h1).1 1) ((sE b z sc W X g h2).1 1)) (fun _ _ => by simp only [ev])
      · cases hm
    exact ⟨main, t_val g (main 9) (mE_test _ _ h rfl X.env)⟩
  | .neg a, x, sc, W, X, g, h => by
    have main : ∀ j, PE X x (tE C cf ca X.K EX W j (.neg a)) := by
      have hm := h
      simp only [mE] at hm
      split at hm
      · rename_i op y e
        obtain ⟨p, rfl⟩ := dUn_eq e
        simp only [Bool.and_eq_true, decide_eq_true_eq] at hm
        obtain ⟨rfl, h1⟩ := hm
        exact modes (c_neg g ((sE a y sc W X g h1).1 9)) (fun _ _ => by simp only [ev])
      · cases hm
    exact ⟨main, t_val g (main 9) (mE_test _ _ h rfl X.env)⟩
  | .not a, x, sc, W, X, g, h => by
    simp only [mE] at h
    split at h
    · rename_i op y e
      obtain ⟨p, rfl⟩ := dUn_eq e
      simp only [Bool.and_eq_true, decide_eq_true_eq] at h
      obtain ⟨rfl, h1⟩ := h
      have q := sE a y sc W X g h1
      exact ⟨modes (c_not g (q.1 9)) (fun _ _ => by simp only [ev]), t_not g q.2⟩
    · cases h
  | .cmp c a b, x, sc, W, X, g, h => by
    simp only [mE] at h
    split at h
    · rename_i y op z e
      obtain ⟨p, rfl⟩ := dCmp_eq e
      simp only [Bool.and_eq_true, decide_eq_true_eq] at h
      obtain ⟨⟨rfl, h1⟩, h2⟩ := h
      have q1 := (sE a y sc W X g h1).1 9
      have q2 := (sE b z sc W X g h2).1 9
      exact ⟨modes (c_cmp g (mE_plain b z h2) q1 q2) (fun _ _ => by simp only [ev]), t_cmp g (mE_plain b z h2) q1 q2⟩
    · cases h
  | .chain c c' a b u, x, sc, W, X, g, h => by
    simp only [mE] at h
    split at h
    · rename_i y op z op' w e
      obtain ⟨p, rfl⟩ := dCmp2_eq e
      simp only [Bool.and_eq_true, decide_eq_true_eq] at h
      obtain ⟨⟨⟨⟨rfl, rfl⟩, h1⟩, h2⟩, h3⟩ := h
      have q1 := (sE a y sc W X g h1).1 9
      have q2 := (sE b z sc W X g h2).1 9
      have q3 := (sE u w sc W X g h3).1 9
      exact ⟨modes (c_chain g (mE_plain u w h3) q1 q2 q3) (fun _ _ => by simp only [ev]), t_chain g (mE_plain u w h3) q1 q2 q3⟩
    · cases h
  | .bop isAnd es, x, sc, W, X, g, h => by
    simp only [mE] at h
    split at h
    · rename_i op xs e
      obtain ⟨p, rfl⟩ := dBool_eq e
      simp only [Bool.and_eq_true, decide_eq_true_eq] at h
      obtain ⟨rfl, h1⟩ := h
      obtain ⟨_, q⟩ := sEs es xs sc W X g h1
      have hne : es ≠ .nil ∨ es = .nil := by cases es <;> simp
      rcases hne with hne | hne
      · obtain ⟨q1, q2⟩ := q hne isAnd p
        refine ⟨modes ?_ (fun _ _ => by simp only [ev]), ?_⟩
        · exact PEimp q1 fun σ H Q z => by
            obtain ⟨H0, S, ts, r, st, z⟩ := z
            simp only [ev] at z
            exact ⟨H0, S, ts, r, st, z⟩
        · exact PTimp q2.pt fun σ H Q z => by
            obtain ⟨H0, S, ts, r, st, z⟩ := z
            simp only [ev] at z
            exact ⟨H0, S, ts, r, st, z⟩
      · subst hne
        refine ⟨modes ⟨fun pins s σ H Q I z => ?_⟩ (fun _ _ => by simp only [ev]), ⟨fun pins s σ H Q I z => ?_⟩⟩
        · obtain ⟨H0, S, ts, r, st, z⟩ := z
          simp only [ev, evBop] at z
          exact z.elim
        · obtain ⟨H0, S, ts, r, st, z⟩ := z
          simp only [ev, evBop] at z
          exact z.elim
    · cases h
  | .ife c a b, x, sc, W, X, g, h => by
    simp only [mE] at h
    split at h
    · rename_i y z w e
      obtain ⟨p, rfl⟩ := dIf_eq e
      simp only [Bool.and_eq_true] at h
      obtain ⟨⟨h1, h2⟩, h3⟩ := h
      have q1 := sE c y sc W X g h1
      have q2 := sE a z sc W X g h2
      have q3 := sE b w sc W X g h3
      exact ⟨fun j => c_ife g q1.2 (q2.1 j) (q3.1 j), t_ife q1.2 q2.2 q3.2⟩
    · cases h
  | .tup hh es, x, sc, W, X, g, h => by
    have main : ∀ j, PE X x (tE C cf ca X.K EX W j (.tup hh es)) := by
      have hm := h
      simp only [mE] at hm
      split at hm
      · rename_i xs e
        obtain ⟨k, p, rfl⟩ := dTup_eq e
        simp only [Bool.and_eq_true, decide_eq_true_eq] at hm
        exact modes (c_tup g hm.2 ((sEs es xs sc W X g hm.1).1 0 hh)) (fun _ _ => by simp only [ev])
      · cases hm
    exact ⟨main, t_val g (main 9) (mE_test _ _ h rfl X.env)⟩
  | .lst hh es, x, sc, W, X, g, h => by
    have main : ∀ j, PE X x (tE C cf ca X.K EX W j (.lst hh es)) := by
      have hm := h
      simp only [mE] at hm
      split at hm
      · rename_i xs e
        obtain ⟨p, rfl⟩ := dLst_eq e
        simp only [Bool.and_eq_true, decide_eq_true_eq] at hm
        exact modes (c_lst g hm.2 ((sEs es xs sc W X g hm.1).1 0 (hh - 1))) (fun _ _ => by simp only [ev])
      · cases hm
    exact ⟨main, t_val g (main 9) (mE_test _ _ h rfl X.env)⟩
  | .ix a k, x, sc, W, X, g, h => by
    have main : ∀ j, PE X x (tE C cf ca X.K EX W j (.ix a k)) := by
      have hm := h
      simp only [mE] at hm
      split at hm
      · rename_i y z e
        obtain ⟨p, rfl⟩ := dSub_eq e
        simp only [Bool.and_eq_true] at hm
        exact fun j => c_ix g (mE_plain k z hm.2) ((sE a y sc W X g hm.1).1 (j + 1)) ((sE k z sc W X g hm.2).1 9)
      · cases hm
    exact ⟨main, t_val g (main 9) (mE_test _ _ h rfl X.env)⟩
  | .sl a lo hi, x, sc, W, X, g, h => by
    have main : ∀ j, PE X x (tE C cf ca X.K EX W j (.sl a lo hi)) := by
      have hm := h
      simp only [mE] at hm
      split at hm
      · rename_i y z e
        obtain ⟨p, rfl⟩ := dSub_eq e
        split at hm
        · rename_i l u e2
          obtain ⟨p2, rfl⟩ := dSlice_eq e2
          simp only [Bool.and_eq_true] at hm
          obtain ⟨⟨h1, h2⟩, h3⟩ := hm
          exact modes (c_sl g ((sE a y sc W X g h1).1 1) (sEo lo l sc W X g h2) (sEo hi u sc W X g h3)) (fun _ _ => by simp only [ev])
        · cases hm
      · cases hm
    exact ⟨main, t_val g (main 9) (mE_test _ _ h rfl X.env)⟩
  | .rev a, x, sc, W, X, g, h => by
    have main : ∀ j, PE X x (tE C cf ca X.K EX W j (.rev a)) := by
      have hm := h
      simp only [mE] at hm
      split at hm
      · rename_i y e
        obtain ⟨k, p1, p2, p3, p, rfl⟩ := dRev_eq e
        exact modes (c_rev g ((sE a y sc W X g hm).1 1)) (fun _ _ => by simp only [ev])
      · cases hm
    exact ⟨main, t_val g (main 9) (mE_test _ _ h rfl X.env)⟩
  | .stp a b c, x, sc, W, X, g, h => by
    have main : ∀ j, PE X x (tE C cf ca X.K EX W j (.stp a b c)) := by
      have hm := h
      simp only [mE] at hm
      split at hm
      · rename_i y z u e
        obtain ⟨p3, p, rfl⟩ := dStep_eq e
        simp only [Bool.and_eq_true] at hm
        obtain ⟨⟨h1, h2⟩, h3⟩ := hm
        exact modes (c_stp g ((sE a y sc W X g h1).1 1) ((sE b z sc W X g h2).1 9) ((sE c u sc W X g h3).1 9)) (fun _ _ => by simp only [ev])
      · cases hm
    exact ⟨main, t_val g (main 9) (mE_test _ _ h rfl X.env)⟩
  | .dnew t, x, sc, W, X, g, h => by
    have main : ∀ j, PE X x (tE C cf ca X.K EX W j (.dnew t)) := by
      have hm := h
      simp only [mE] at hm
      obtain ⟨p, rfl⟩ := isD0_eq hm
      exact modes c_dnew (fun _ _ => by simp only [ev])
    exact ⟨main, t_val g (main 9) (mE_test _ _ h rfl X.env)⟩
  | .din neg k a, x, sc, W, X, g, h => by
    simp only [mE] at h
    split at h
    · rename_i y op z e
      obtain ⟨p, rfl⟩ := dCmp_eq e
      simp only [Bool.and_eq_true, decide_eq_true_eq] at h
      obtain ⟨⟨rfl, h1⟩, h2⟩ := h
      have hp := mE_plain a z h2
      have e1 := (sE k y sc W X g h1).1 9
      have e2 := (sE a z sc W X g h2).1 1
      exact ⟨modes (c_din (neg := neg) g hp e1 e2) (fun _ _ => by simp only [ev]), t_din (neg := neg) g hp e1 e2⟩
    · cases h
  | .dix a k, x, sc, W, X, g, h => by
    have main : ∀ j, PE X x (tE C cf ca X.K EX W j (.dix a k)) := by
      have hm := h
      simp only [mE] at hm
      split at hm
      · rename_i y z e
        obtain ⟨p, rfl⟩ := dSub_eq e
        simp only [Bool.and_eq_true] at hm
        exact modes (c_dix g (mE_plain k z hm.2) ((sE a y sc W X g hm.1).1 1) ((sE k z sc W X g hm.2).1 9)) (fun _ _ => by simp only [ev])
      · cases hm
    exact ⟨main, t_val g (main 9) (mE_test _ _ h rfl X.env)⟩
  | .dgt a k, x, sc, W, X, g, h => by
    have main : ∀ j, PE X x (tE C cf ca X.K EX W j (.dgt a k)) := by
      have hm := h
      simp only [mE] at hm
      split at hm
      · rename_i y m z e
        obtain ⟨p1, p2, p3, rfl, hl⟩ := dMeth_eq e
        simp only [Bool.and_eq_true, decide_eq_true_eq] at hm
        obtain ⟨⟨rfl, h1⟩, h2⟩ := hm
        cases a <;> first | cases h1 | skip
        rename_i i
        exact modes (c_dgt g hl (mE_plain k z h2) (c_var g h1 1) ((sE k z sc W X g h2).1 9)) (fun _ _ => by simp only [ev])
      · cases hm
    exact ⟨main, t_val g (main 9) (mE_test _ _ h rfl X.env)⟩
  | .sset a, x, sc, W, X, g, h => by
    have main : ∀ j, PE X x (tE C cf ca X.K EX W j (.sset a)) := by
      have hm := h
      simp only [mE] at hm
      split at hm
      · rename_i y u e
        obtain ⟨p, q, rfl⟩ := dCall_eq e
        simp only [Bool.and_eq_true, decide_eq_true_eq] at hm
        obtain ⟨⟨⟨h1, rfl⟩, h3⟩, h4⟩ := hm
        split at h4
        · rename_i y2 z e2
          obtain ⟨p2, q2, rfl⟩ := dCall_eq e2
          simp only [Bool.and_eq_true, decide_eq_true_eq] at h4
          obtain ⟨⟨rfl, h5⟩, h6⟩ := h4
          exact modes (c_sset g h1 h3 h5 (mE_plain a z h6) ((sE a z sc W X g h6).1 1)) (fun _ _ => by simp only [ev])
        · cases h4
      · cases hm
    exact ⟨main, t_val g (main 9) (mE_test _ _ h rfl X.env)⟩
  | .lrg a, x, sc, W, X, g, h => by
    have main : ∀ j, PE X x (tE C cf ca X.K EX W j (.lrg a)) := by
      have hm := h
      simp only [mE] at hm
      split at hm
      · rename_i y u e
        obtain ⟨p, q, rfl⟩ := dCall_eq e
        simp only [Bool.and_eq_true, decide_eq_true_eq] at hm
        obtain ⟨⟨⟨h1, rfl⟩, h3⟩, h4⟩ := hm
        split at h4
        · rename_i y2 z e2
          obtain ⟨p2, q2, rfl⟩ := dCall_eq e2
          simp only [Bool.and_eq_true, decide_eq_true_eq] at h4
          obtain ⟨⟨rfl, h5⟩, h6⟩ := h4
          exact modes (c_lrg g h1 h3 h5 (mE_plain a z h6) ((sE a z sc W X g h6).1 9)) (fun _ _ => by simp only [ev])
        · cases h4
      · cases hm
    exact ⟨main, t_val g (main 9) (mE_test _ _ h rfl X.env)⟩
  | .lrgd a b, x, sc, W, X, g, h => by
    have main : ∀ j, PE X x (tE C cf ca X.K EX W j (.lrgd a b)) := by
      have hm := h
      simp only [mE] at hm
      split at hm
      · rename_i y u e
        obtain ⟨p, q, rfl⟩ := dCall_eq e
        simp only [Bool.and_eq_true, decide_eq_true_eq] at hm
        obtain ⟨⟨⟨h1, rfl⟩, h3⟩, h4⟩ := hm
        split at h4
        · rename_i y2 z z2 z3 e2
          obtain ⟨p2, q2, rfl⟩ := dCall_eq e2
          simp only [Bool.and_eq_true, decide_eq_true_eq] at h4
          obtain ⟨⟨⟨⟨rfl, h5⟩, h6⟩, h7⟩, h8⟩ := h4
          obtain ⟨kk, p3, p4, rfl⟩ := isM1_eq h8
          exact modes (c_lrgd g h1 h3 h5 (mE_plain a z h6) (mE_plain b z2 h7) ((sE a z sc W X g h6).1 9) ((sE b z2 sc W X g h7).1 9)) (fun _ _ => by simp only [ev])
        · cases h4
      · cases hm
    exact ⟨main, t_val g (main 9) (mE_test _ _ h rfl X.env)⟩
  | .lzip a b, x, sc, W, X, g, h => by
    have main : ∀ j, PE X x (tE C cf ca X.K EX W j (.lzip a b)) := by
      have hm := h
      simp only [mE] at hm
      split at hm
      · rename_i y u e
        obtain ⟨p, q, rfl⟩ := dCall_eq e
        simp only [Bool.and_eq_true, decide_eq_true_eq] at hm
        obtain ⟨⟨⟨h1, rfl⟩, h3⟩, h4⟩ := hm
        split at h4
        · rename_i y2 z z2 e2
          obtain ⟨p2, q2, rfl⟩ := dCall_eq e2
          simp only [Bool.and_eq_true, decide_eq_true_eq] at h4
          obtain ⟨⟨⟨rfl, h5⟩, h6⟩, h7⟩ := h4
          exact modes (c_lzip g h1 h3 h5 (mE_plain a z h6) (mE_plain b z2 h7) ((sE a z sc W X g h6).1 1) ((sE b z2 sc W X g h7).1 1)) (fun _ _ => by simp only [ev])
        · cases h4
      · cases hm
    exact ⟨main, t_val g (main 9) (mE_test _ _ h rfl X.env)⟩
  | .lidx i a, x, sc, W, X, g, h => by
    have main : ∀ j, PE X x (tE C cf ca X.K EX W j (.lidx i a)) := by
      have hm := h
      simp only [mE] at hm
      split at hm
      · rename_i y m z e
        obtain ⟨p1, p2, p3, rfl, hl⟩ := dMeth_eq e
        simp only [Bool.and_eq_true, decide_eq_true_eq] at hm
        obtain ⟨⟨rfl, h1⟩, h2⟩ := hm
        exact modes (c_lidx g h1 hl (mE_plain a z h2) ((sE a z sc W X g h2).1 9)) (fun _ _ => by simp only [ev])
      · cases hm
    exact ⟨main, t_val g (main 9) (mE_test _ _ h rfl X.env)⟩
  | .lcnt i a, x, sc, W, X, g, h => by
    have main : ∀ j, PE X x (tE C cf ca X.K EX W j (.lcnt i a)) := by
      have hm := h
      simp only [mE] at hm
      split at hm
      · rename_i y m z e
        obtain ⟨p1, p2, p3, rfl, hl⟩ := dMeth_eq e
        simp only [Bool.and_eq_true, decide_eq_true_eq] at hm
        obtain ⟨⟨rfl, h1⟩, h2⟩ := hm
        exact modes (c_lcnt g h1 hl (mE_plain a z h2) ((sE a z sc W X g h2).1 9)) (fun _ _ => by simp only [ev])
      · cases hm
    exact ⟨main, t_val g (main 9) (mE_test _ _ h rfl X.env)⟩
  | .call b f es, x, sc, W, X, g, h => by
    have main : ∀ j, PE X x (tE C cf ca X.K EX W j (.call b f es)) := by
      have hm := h
      simp only [mE] at hm
      split at hm
      · rename_i y a as e
        obtain ⟨p, q, rfl⟩ := dCall_eq e
        simp only [Bool.and_eq_true, decide_eq_true_eq] at hm
        obtain ⟨⟨⟨⟨h1, h2⟩, h3⟩, h4⟩, h5⟩ := hm
        exact modes (c_call g h1 h2 h3 h4 (mEs_plain es _ h5) ((sEs es _ sc W X g h5).1 _ 0)) (fun _ _ => by simp only [ev])
      · cases hm
    exact ⟨main, t_val g (main 9) (mE_test _ _ h rfl X.env)⟩
  | .callD f es ss, x, sc, W, X, g, h => by
    have main : ∀ j, PE X x (tE C cf ca X.K EX W j (.callD f es ss)) := by
      have hm := h
      simp only [mE] at hm
      split at hm
      · rename_i y a as e
        obtain ⟨p, q, rfl⟩ := dCall_eq e
        simp only [Bool.and_eq_true, decide_eq_true_eq] at hm
        obtain ⟨⟨⟨⟨⟨h1, h2⟩, h6⟩, h3⟩, h4⟩, h5⟩ := hm
        exact modes (c_callD g h1 h2 h6 h3 h4 (mEs_plain es _ h5) ((sEs es _ sc W X g h5).1 _ 0)) (fun _ _ => by simp only [ev])
      · cases hm
    exact ⟨main, t_val g (main 9) (mE_test _ _ h rfl X.env)⟩
  | .blt f es, x, sc, W, X, g, h => by
    have main : ∀ j, PE X x (tE C cf ca X.K EX W j (.blt f es)) := by
      have hm := h
      by_cases hf : f = .maxd
      · subst hf
        simp only [mE] at hm
        split at hm
        · rename_i y a k b e
          obtain ⟨p, q, u, rfl⟩ := dCallK_eq e
          simp only [Bool.and_eq_true, decide_eq_true_eq] at hm
          obtain ⟨⟨⟨⟨h1, rfl⟩, rfl⟩, h4⟩, h5⟩ := hm
          match es, h5 with
          | .cons e1 (.cons e2 .nil), h5 =>
            simp only [mEs, Bool.and_eq_true] at h5
            exact modes (c_maxd g h1 h4 (mE_plain e1 a h5.1) ((sE e1 a sc W X g h5.1).1 1) ((sE e2 b sc W X g h5.2.1).1 1)) (fun _ _ => by simp only [ev])
          | .nil, h5 => simp [mEs] at h5
          | .cons _ .nil, h5 => simp [mEs] at h5
          | .cons _ (.cons _ (.cons _ _)), h5 => simp [mEs] at h5
        · cases hm
      · have h' : (match dCall x with
            | some (x, a, as) => (cal || f.cold) && decide (x = f.name) && glB sc x && mEs C cal N sc es (a :: as)
            | none => false) = true := by
          cases f <;> first | exact absurd rfl hf | (simp only [mE] at hm; exact hm)
        split at h'
        · rename_i y a as e
          obtain ⟨p, q, rfl⟩ := dCall_eq e
          simp only [Bool.and_eq_true, decide_eq_true_eq, Bool.or_eq_true] at h'
          obtain ⟨⟨⟨h1, rfl⟩, h3⟩, h4⟩ := h'
          exact modes (c_blt g hf h1.symm h3 (mEs_plain es _ h4) ((sEs es _ sc W X g h4).1 1 0)) (fun _ _ => by simp only [ev])
        · cases h'
    exact ⟨main, t_val g (main 9) (mE_test _ _ h rfl X.env)⟩
  | .isi a t, x, sc, W, X, g, h => by
    have main : ∀ j, PE X x (tE C cf ca X.K EX W j (.isi a t)) := by
      have hm := h
      simp only [mE] at hm
      split at hm
      · rename_i y u v e
        obtain ⟨p, q, rfl⟩ := dCall_eq e
        simp only [Bool.and_eq_true, decide_eq_true_eq] at hm
        obtain ⟨⟨⟨rfl, h2⟩, h3⟩, h4⟩ := hm
        split at h4
        · rename_i T e2
          obtain ⟨p2, rfl⟩ := dName_eq e2
          simp only [Bool.and_eq_true, decide_eq_true_eq] at h4
          obtain ⟨rfl, h5⟩ := h4
          exact modes (c_isi g h2 h5 (mE_plain a u h3) ((sE a u sc W X g h3).1 9)) (fun _ _ => by simp only [ev])
        · cases h4
      · cases hm
    exact ⟨main, t_val g (main 9) (mE_test _ _ h rfl X.env)⟩
  | .isx i k, x, sc, W, X, g, h => by
    have main : ∀ j, PE X x (tE C cf ca X.K EX W j (.isx i k)) := by
      have hm := h
      simp only [mE] at hm
      split at hm
      · rename_i y u v e
        obtain ⟨p, q, rfl⟩ := dCall_eq e
        simp only [Bool.and_eq_true, decide_eq_true_eq, Bool.not_eq_true'] at hm
        obtain ⟨⟨⟨h0, rfl⟩, h2⟩, h4⟩ := hm
        split at h4
        · rename_i n T e1 e2
          obtain ⟨p1, rfl⟩ := dName_eq e1
          obtain ⟨p2, rfl⟩ := dName_eq e2
          simp only [Bool.and_eq_true, decide_eq_true_eq] at h4
          obtain ⟨⟨⟨h5, h6⟩, h7⟩, h8⟩ := h4
          exact modes (c_isx g h0 h2 h5 h6 h7 h8) (fun _ _ => by simp only [ev])
        · cases h4
      · cases hm
    exact ⟨main, t_val g (main 9) (mE_test _ _ h rfl X.env)⟩
  | .isxs i ks, x, sc, W, X, g, h => by
    have main : ∀ j, PE X x (tE C cf ca X.K EX W j (.isxs i ks)) := by
      have hm := h
      simp only [mE] at hm
      split at hm
      · rename_i y u v e
        obtain ⟨p, q, rfl⟩ := dCall_eq e
        simp only [Bool.and_eq_true, decide_eq_true_eq, Bool.not_eq_true'] at hm
        obtain ⟨⟨⟨h0, rfl⟩, h2⟩, h4⟩ := hm
        split at h4
        · rename_i n T e1 e2
          obtain ⟨p1, rfl⟩ := dName_eq e1
          obtain ⟨kk, p2, rfl⟩ := dTup_eq e2
          simp only [Bool.and_eq_true, decide_eq_true_eq] at h4
          obtain ⟨⟨h5, h6⟩, h7⟩ := h4
          exact modes (c_isxs g h0 h2 h5 h6 h7) (fun _ _ => by simp only [ev])
        · cases h4
      · cases hm
    exact ⟨main, t_val g (main 9) (mE_test _ _ h rfl X.env)⟩
  | .comp hh elt t src cond, x, sc, W, X, g, h => by
    have main : ∀ j, PE X x (tE C cf ca X.K EX W j (.comp hh elt t src cond)) := by
      have hm := h
      simp only [mE] at hm
      split at hm
      · rename_i y tg it ifs sc' e
        obtain ⟨p, rfl⟩ := dComp_eq e
        simp only [Bool.and_eq_true] at hm
        obtain ⟨⟨⟨⟨⟨h1, h2⟩, h3⟩, h4⟩, h5⟩, h6⟩ := hm
        have hk := (blkOk_by h3).kind
        exact modes (c_comp g h1 (g.blkOk h3) (sSr src tg it sc W X g h2)
          (fun s H C' cl fp => g_tg (g.blk h1 hk s H C' cl fp) h1 h4)
          (fun s H C' cl fp => sIf cond ifs sc' W0 _ (g.blk h1 hk s H C' cl fp) h6)
          (fun s H C' cl fp => (sE elt y sc' W0 _ (g.blk h1 hk s H C' cl fp) h5).1 0) (mSr_plain src tg it h2)) (fun _ _ => by simp only [ev])
      · cases hm
    exact ⟨main, t_val g (main 9) (mE_test _ _ h rfl X.env)⟩
theorem sEs : ∀ (es : Es) (xs : List Expr) (sc : Scope) (W : WX) (X : Cx), Good C cal N sc cf ca EX W X → mEs C cal N sc es xs = true → (∀ j h, PA X xs (tEs C cf ca X.K EX W j h es)) ∧
    (es ≠ .nil → ∀ b p, PE X (.BoolOp (if b then .And else .Or) xs p) (tBo C cf ca X.K EX W b es) ∧ PW X (.BoolOp (if b then .And else .Or) xs p) (tBoT C cf ca X.K EX W b es))
  | .nil, [], sc, W, X, g, h => ⟨fun j hh => a_nil g, fun n => absurd rfl n⟩
  | .nil, _ :: _, sc, W, X, g, h => by simp [mEs] at h
  | .cons _ _, [], sc, W, X, g, h => by simp [mEs] at h
  | .cons e es, x :: xs, sc, W, X, g, h => by
    simp only [mEs, Bool.and_eq_true] at h
    have q1 := sE e x sc W X g h.1
    have q2 := sEs es xs sc W X g h.2
    refine ⟨fun j hh => a_cons g (mE_plain e x h.1) (q1.1 j) (q2.1 j hh), fun _ b p => ?_⟩
    match es, xs, h.2, q2.2 with
    | .nil, [], _, _ => exact ⟨bo_one g (q1.1 9), bt_one g q1.2⟩
    | .nil, _ :: _, h, _ => simp [mEs] at h
    | .cons _ _, [], h, _ => simp [mEs] at h
    | .cons e' es', y :: ys, _, q3 =>
      obtain ⟨q4, q5⟩ := q3 (by simp) b p
      refine ⟨?_, bt_cons g q1.2 q5⟩
      cases b with
      | true => exact bo_and g (q1.1 9) q4
      | false => exact bo_or g (q1.1 9) q4
theorem sEo : ∀ (e : Eo) (x : Option Expr) (sc : Scope) (W : WX) (X : Cx), Good C cal N sc cf ca EX W X → mEo C cal N sc e x = true → PO X x (tEo C cf ca X.K EX W e)
  | .no, none, sc, W, X, g, h => o_no g
  | .no, some _, sc, W, X, g, h => by simp [mEo] at h
  | .yes _, none, sc, W, X, g, h => by simp [mEo] at h
  | .yes e, some x, sc, W, X, g, h => o_yes g ((sE e x sc W X g (by simpa [mEo] using h)).1 9)
theorem sIf : ∀ (e : Eo) (xs : List Expr) (sc : Scope) (W : WX) (X : Cx), Good C cal N sc cf ca EX W X → mIf C cal N sc e xs = true → PTs X xs (tIf C cf ca X.K EX W e)
  | .no, [], sc, W, X, g, h => if_no
  | .no, _ :: _, sc, W, X, g, h => by simp [mIf] at h
  | .yes _, [], sc, W, X, g, h => by simp [mIf] at h
  | .yes _, _ :: _ :: _, sc, W, X, g, h => by simp [mIf] at h
  | .yes e, [x], sc, W, X, g, h => if_yes (sE e x sc W X g (by simpa [mIf] using h)).2
theorem sSr : ∀ (e : Sr) (tg x : Expr) (sc : Scope) (W : WX) (X : Cx), Good C cal N sc cf ca EX W X → mSr C cal N sc e tg x = true → PI X tg x (tSr C cf ca X.K EX W e)
  | .seq a, tg, x, sc, W, X, g, h => i_seq g ((sE a x sc W X g (by simpa [mSr] using h)).1 0)
  | .seqB a, tg, x, sc, W, X, g, h => i_seqB g ((sE a x sc W X g (by simpa [mSr] using h)).1 1)
  | .range es, tg, x, sc, W, X, g, h => by
    simp only [mSr] at h
    split at h
    · rename_i n a as e
      obtain ⟨p, q, rfl⟩ := dCall_eq e
      simp only [Bool.and_eq_true, decide_eq_true_eq] at h
      obtain ⟨⟨⟨rfl, h2⟩, h3⟩, h4⟩ := h
      have q1 := (sEs es _ sc W X g h4).1 9 0
      have hp := mEs_plain es _ h4
      match as, h3, q1, hp, h4 with
      | [], _, q1, hp, h4 =>
        refine i_range1 g h2 (hp a List.mem_cons_self) ?_ q1
        match es, h4 with
        | .cons _ .nil, _ => rfl
        | .nil, h4 => simp [mEs] at h4
        | .cons _ (.cons _ _), h4 => simp [mEs] at h4
      | [b], _, q1, hp, h4 =>
        refine i_range2 g h2 (hp a List.mem_cons_self) (hp b (by simp)) ?_ q1
        match es, h4 with
        | .cons _ (.cons _ .nil), _ => rfl
        | .nil, h4 => simp [mEs] at h4
        | .cons _ .nil, h4 => simp [mEs] at h4
        | .cons _ (.cons _ (.cons _ _)), h4 => simp [mEs] at h4
      | _ :: _ :: _, h3, _, _, _ => simp at h3
    · cases h
  | .enum a, tg, x, sc, W, X, g, h => by
    simp only [mSr] at h
    split at h
    · rename_i n y e
      obtain ⟨p, q, rfl⟩ := dCall_eq e
      simp only [Bool.and_eq_true, decide_eq_true_eq] at h
      obtain ⟨⟨⟨h1, rfl⟩, h3⟩, h4⟩ := h
      exact i_enum g h1 h3 (mE_plain a y h4) ((sE a y sc W X g h4).1 0)
    · cases h
  | .zip a b, tg, x, sc, W, X, g, h => by
    simp only [mSr] at h
    split at h
    · rename_i n y z e
      obtain ⟨p, q, rfl⟩ := dCall_eq e
      simp only [Bool.and_eq_true, decide_eq_true_eq] at h
      obtain ⟨⟨⟨⟨h1, rfl⟩, h3⟩, h4⟩, h5⟩ := h
      exact i_zip g h1 h3 (mE_plain a y h4) (mE_plain b z h5) ((sE a y sc W X g h4).1 0) ((sE b z sc W X g h5).1 0)
    · cases h
end
end
end Ly

set_option Elab.async false
set_option linter.all false
set_option maxRecDepth 100000
set_option maxHeartbeats 2000000
/-! Statements: what they leave of a state; the cases. -/
namespace Ly
open PySem PySem.Spec PyProof.Rows L2
section
variable {K : PySem.W.Frag} {EX : Addr → Nat → Prop} {H0 H H' : Hp} {S : List Addr} {ts : List Tm} {σ : L2.St} {r : Env}

/-! ### one's own list is written -/
theorem Sta.lowS {i l l' : Nat} {ds : List D} (st : Sta K EX H0 S ts σ r H) (e : getv r i = some (l, .lst ds)) (h : l' ≤ l) : Sta K EX H0 S ts σ (r.set i (some (l', .lst ds))) H := by
  obtain ⟨o, x, e1, e2, f⟩ := st.slot i (getv_lt e)
  rw [getv_some e] at e2
  cases e2
  have q := f o (some (l', .lst ds)) [] fun hot A hs nd ns => by
    generalize hd : D.lst ds = d at hs
    generalize hx : some (l, d) = x at hs
    cases hs with
    | non => cases hx
    | exc _ => cases hx; cases hd
    | sm hr =>
      cases hx
      obtain ⟨B', s, g⟩ := hr.low h nd
      exact ⟨[], B', s, fun hot' h1 h2 h4 => ⟨.nil, .sm (hd ▸ g hot' h1 h2)⟩⟩
  rw [set_same e1] at q
  exact q
theorem Sta.peekL {i m : Nat} {ds : List D} (st : Sta K EX H0 S ts σ r H) (e : getv r i = some (m + 1, .lst ds)) : ∃ a vs, σ[i]? = some (some (.ref a)) ∧ H a = some (.lst vs) ∧ vs.length = ds.length := by
  obtain ⟨_, _, A, B, _, _, _, hS⟩ := st
  obtain ⟨o, x, _, A1, _, e1, e2, _, h1, _⟩ := hS.split i (getv_lt e)
  rw [getv_some e] at e2
  have e2' := Option.some.inj e2
  clear e2
  cases h1 with
  | non => cases e2'
  | exc h1 =>
    have z := congrArg Prod.snd (Option.some.inj e2')
    cases z
  | sm h1 =>
    cases e2'
    cases h1 with
    | lstS h hs => exact ⟨_, _, e1, h, hs.length⟩
theorem Sta.mutate {t1 : List Tm} {i k : Nat} {ds : List D} (st : Sta K EX H0 S (t1 ++ ts) σ r H) (mine : ∀ t ∈ ts, t.mine = true) (e : getv r i = some (k + 1, .lst ds)) : ∃ a vs, σ[i]? = some (some (.ref a)) ∧ H a = some (.lst vs) ∧ vs.length = ds.length ∧
    ∀ (vs' : List V) (ds' : List D), (∀ hot A1 A0, Tms K H S hot t1 A1 → Reps K H hot k vs ds A0 → (A1 ++ A0).Nodup → ∃ A', A'.Nodup ∧ (∀ b ∈ A', b ∈ A1 ++ A0) ∧ Reps K H hot k vs' ds' A') →
      Sta K EX H0 S ts σ (r.set i (some (k + 1, .lst ds'))) (upd H a (.lst vs')) := by
  obtain ⟨ex, sd, A, B, nd, new, hT, hS⟩ := st
  obtain ⟨A1, A2, rfl, h1, h2⟩ := Tms.split hT
  obtain ⟨o, x, B1, C, B2, e1, e2, rfl, h3, f⟩ := hS.split i (getv_lt e)
  rw [getv_some e] at e2
  have e2' := Option.some.inj e2
  clear e2
  cases h3 with
  | non => cases e2'
  | exc h3 =>
    have z := congrArg Prod.snd (Option.some.inj e2')
    cases z
  | sm h3 =>
    cases e2'
    cases h3 with
    | lstS h hs =>
      rename_i a vs A0
      refine ⟨a, vs, e1, h, hs.length, fun vs' ds' g => ?_⟩
      have perm : (A1 ++ A2 ++ (B1 ++ (a :: A0 ++ B2))).Perm (a :: ((A1 ++ A0) ++ (A2 ++ (B1 ++ B2)))) := by
        rw [List.perm_iff_count]
        intro b
        simp only [List.count_append, List.count_cons]
        omega
      have nd2 := perm.nodup_iff.mp nd
      obtain ⟨na, nd3⟩ := List.nodup_cons.mp nd2
      obtain ⟨n1, n2, n3⟩ := List.nodup_append.mp nd3
      obtain ⟨A', m1, m2, m3⟩ := g _ A1 A0 h1 hs n1
      have inh : ∀ b, b ∈ a :: ((A1 ++ A0) ++ (A2 ++ (B1 ++ B2))) → b ∈ A1 ++ A2 ++ (B1 ++ (a :: A0 ++ B2)) := fun b hb => perm.mem_iff.mpr hb
      have perm2 : (A2 ++ (B1 ++ (a :: A' ++ B2))).Perm (a :: (A' ++ (A2 ++ (B1 ++ B2)))) := by
        rw [List.perm_iff_count]
        intro b
        simp only [List.count_append, List.count_cons]
        omega
      have sub : ∀ b, b ∈ A2 ++ (B1 ++ (a :: A' ++ B2)) → b ∈ A1 ++ A2 ++ (B1 ++ (a :: A0 ++ B2)) := fun b hb => by
        refine inh b ?_
        rcases List.mem_cons.mp (perm2.mem_iff.mp hb) with z | z
        · exact List.mem_cons.mpr (.inl z)
        · refine List.mem_cons_of_mem _ ?_
          rcases List.mem_append.mp z with z | z
          · exact List.mem_append_left _ (m2 b z)
          · exact List.mem_append_right _ z
      have F : Fr H (upd H a (.lst vs')) S S (S ++ (A1 ++ A2 ++ (B1 ++ (a :: A0 ++ B2)))) (S ++ (A2 ++ (B1 ++ (a :: A' ++ B2)))) [a] := ⟨fun b hb o e => by rw [upd_ne (by simpa using hb)]; exact e, fun b hb => by
        obtain rfl : b = a := by simpa using hb
        exact .inl ⟨vs, h⟩, fun b hb => by
        obtain rfl : b = a := by simpa using hb
        exact List.mem_append_right _ (inh b List.mem_cons_self), fun b hb => by
        rcases List.mem_append.mp hb with z | z
        · exact .inl (List.mem_append_left _ z)
        · exact .inl (List.mem_append_right _ (sub b z)), fun b hb => List.mem_append_left _ hb, fun b hb => .inl hb⟩
      have nA : ∀ l : List Addr, (∀ b ∈ l, b ∈ (A1 ++ A0) ++ (A2 ++ (B1 ++ B2))) → ∀ b ∈ [a], b ∉ l := fun l hl b hb hm => by
        obtain rfl : b = a := by simpa using hb
        exact na (hl b hm)
      refine ⟨fun b u e' => ?_, fun b hb => ?_, A2, B1 ++ (a :: A' ++ B2), ?_, fun b hb => new b (sub b hb), h2.frame F (.inr mine) (nA _ fun b hb => List.mem_append_right _ (List.mem_append_left _ hb)), ?_⟩
      · rw [upd_ne (fun z => by subst z; rw [(new b (inh b List.mem_cons_self)).1] at e'; cases e')]
        exact ex b u e'
      · by_cases z : b = a
        · subst z; rw [upd_same]; exact fun z => nomatch z
        · rw [upd_ne z]; exact sd b hb
      · rw [perm2.nodup_iff]
        refine List.nodup_cons.mpr ⟨fun hm => na ?_, List.nodup_append.mpr ⟨m1, n2, fun b hb c hc e' => n3 b (m2 b hb) c hc e'⟩⟩
        rcases List.mem_append.mp hm with z | z
        · exact List.mem_append_left _ (m2 a z)
        · exact List.mem_append_right _ z
      · have q := f (upd H a (.lst vs')) S S _ [a] (some (.ref a)) (some (k + 1, .lst ds')) (a :: A') F (fun b hb => ⟨nA _ (fun b hb => List.mem_append_right _ (List.mem_append_right _ (List.mem_append_left _ hb))) b hb, nA _ (fun b hb => List.mem_append_right _ (List.mem_append_right _ (List.mem_append_right _ hb))) b hb⟩)
          (.sm (.lstS upd_same (m3.frame F.c1 F.c2 F.hX F.c4 (nA _ fun b hb => List.mem_append_left _ (m2 b hb)))))
        rw [set_same e1] at q
        exact q
theorem Sta.mutateD {t1 : List Tm} {i k : Nat} {t : Bool} {ks : List (List L2.Key)} {ds : List D} (st : Sta K EX H0 S (t1 ++ ts) σ r H) (mine : ∀ t ∈ ts, t.mine = true) (e : getv r i = some (k + 1, .dic t ks ds)) : ∃ a vs, σ[i]? = some (some (.ref a)) ∧ H a = some (dOb t ks vs) ∧ dOk t ks ∧ ks.length = vs.length ∧
    ∀ (ks' : List (List L2.Key)) (vs' : List V) (ds' : List D), dOk t ks' → ks'.length = vs'.length → (∀ hot A1, Tms K H S hot t1 A1 → Reps K H hot 0 vs ds [] → Reps K H hot 0 vs' ds' []) →
      Sta K EX H0 S ts σ (r.set i (some (1, .dic t ks' ds'))) (upd H a (dOb t ks' vs')) := by
  obtain ⟨ex, sd, A, B, nd, new, hT, hS⟩ := st
  obtain ⟨A1, A2, rfl, h1, h2⟩ := Tms.split hT
  obtain ⟨o, x, B1, C, B2, e1, e2, rfl, h3, f⟩ := hS.split i (getv_lt e)
  rw [getv_some e] at e2
  have e2' := Option.some.inj e2
  clear e2
  cases h3 with
  | non => cases e2'
  | exc h3 =>
    have z := congrArg Prod.snd (Option.some.inj e2')
    cases z
  | sm h3 =>
    cases e2'
    cases h3 with
    | dicS h ok hl hs =>
      rename_i a vs
      refine ⟨a, vs, e1, h, ok, hl, fun ks' vs' ds' ok' hl' g => ?_⟩
      have perm : (A1 ++ A2 ++ (B1 ++ ([a] ++ B2))).Perm (a :: (A1 ++ (A2 ++ (B1 ++ B2)))) := by
        rw [List.perm_iff_count]
        intro b
        simp only [List.count_append, List.count_cons, List.count_nil]
        omega
      have nd2 := perm.nodup_iff.mp nd
      obtain ⟨na, nd3⟩ := List.nodup_cons.mp nd2
      obtain ⟨n1, n2, n3⟩ := List.nodup_append.mp nd3
      have m3 := g _ A1 h1 hs
      have inh : ∀ b, b ∈ a :: (A1 ++ (A2 ++ (B1 ++ B2))) → b ∈ A1 ++ A2 ++ (B1 ++ ([a] ++ B2)) := fun b hb => perm.mem_iff.mpr hb
      have perm2 : (A2 ++ (B1 ++ ([a] ++ B2))).Perm (a :: (A2 ++ (B1 ++ B2))) := by
        rw [List.perm_iff_count]
        intro b
        simp only [List.count_append, List.count_cons, List.count_nil]
        omega
      have sub : ∀ b, b ∈ A2 ++ (B1 ++ ([a] ++ B2)) → b ∈ A1 ++ A2 ++ (B1 ++ ([a] ++ B2)) := fun b hb => by
        refine inh b ?_
        rcases List.mem_cons.mp (perm2.mem_iff.mp hb) with z | z
        · exact List.mem_cons.mpr (.inl z)
        · exact List.mem_cons_of_mem _ (List.mem_append_right _ z)
      have F : Fr H (upd H a (dOb t ks' vs')) S S (S ++ (A1 ++ A2 ++ (B1 ++ ([a] ++ B2)))) (S ++ (A2 ++ (B1 ++ ([a] ++ B2)))) [a] := ⟨fun b hb o e => by rw [upd_ne (by simpa using hb)]; exact e, fun b hb => by
        obtain rfl : b = a := by simpa using hb
        exact .inr ⟨t, ks, vs, h⟩, fun b hb => by
        obtain rfl : b = a := by simpa using hb
        exact List.mem_append_right _ (inh b List.mem_cons_self), fun b hb => by
        rcases List.mem_append.mp hb with z | z
        · exact .inl (List.mem_append_left _ z)
        · exact .inl (List.mem_append_right _ (sub b z)), fun b hb => List.mem_append_left _ hb, fun b hb => .inl hb⟩
      have nA : ∀ l : List Addr, (∀ b ∈ l, b ∈ A1 ++ (A2 ++ (B1 ++ B2))) → ∀ b ∈ [a], b ∉ l := fun l hl b hb hm => by
        obtain rfl : b = a := by simpa using hb
        exact na (hl b hm)
      refine ⟨fun b u e' => ?_, fun b hb => ?_, A2, B1 ++ ([a] ++ B2), ?_, fun b hb => new b (sub b hb), h2.frame F (.inr mine) (nA _ fun b hb => List.mem_append_right _ (List.mem_append_left _ hb)), ?_⟩
      · rw [upd_ne (fun z => by subst z; rw [(new b (inh b List.mem_cons_self)).1] at e'; cases e')]
        exact ex b u e'
      · by_cases z : b = a
        · subst z; rw [upd_same]; exact fun z => nomatch z
        · rw [upd_ne z]; exact sd b hb
      · rw [perm2.nodup_iff]
        exact List.nodup_cons.mpr ⟨fun hm => na (List.mem_append_right _ hm), n2⟩
      · have q := f (upd H a (dOb t ks' vs')) S S _ [a] (some (.ref a)) (some (1, .dic t ks' ds')) [a] F (fun b hb => ⟨nA _ (fun b hb => List.mem_append_right _ (List.mem_append_right _ (List.mem_append_left _ hb))) b hb, nA _ (fun b hb => List.mem_append_right _ (List.mem_append_right _ (List.mem_append_right _ hb))) b hb⟩)
          (.sm (.dicS upd_same ok' hl' (m3.frame F.c1 F.c2 F.hX F.c4 (nA _ (by simp)))))
        rw [set_same e1] at q
        exact q
end

/-! ### statements -/
section
variable {C : Cfg} {cal : Bool} {N : List Str} {sc : Scope} {cf : Nat → List D → CR} {ca : Nat → Addr} {EX : Addr → Nat → Prop} {W : WX} {X : Cx} {K : PySem.W.Frag} {fu : Nat}
def PostS (K : PySem.W.Frag) (ca : Nat → Addr) (EX : Addr → Nat → Prop) (W : WX) (H0 : Hp) (S : List Addr) (ts : List Tm) (E : Ends) (o : O) : Prop :=
  match o with
  | .nx r => ∀ σ H, Sta K EX H0 S ts σ r H → E.nx σ H
  | .bk r => ∀ σ H, Sta K EX H0 S ts σ r H → E.bk σ H
  | .ct r => ∀ σ H, Sta K EX H0 S ts σ r H → E.ct σ H
  | .ret l d => ∀ v H' A, Same H0 H' → A.Nodup → (∀ a ∈ A, H0 a = none ∧ a ∉ S) → Rep K H' (S ++ A) l v d A → E.rt v H'
  | .exc r c => ∀ σ H, Sta K EX H0 S ts σ r H → W (.ref (ca c)) none σ H
  | .bad => False
def tS (K : PySem.W.Frag) (ca : Nat → Addr) (EX : Addr → Nat → Prop) (W : WX) (f : Env → O) : TS := fun E σ H => ∃ H0 S ts r, (∀ t ∈ ts, t.mine = true) ∧ Sta K EX H0 S ts σ r H ∧ PostS K ca EX W H0 S ts E (f r)
theorem PSimp {x : Stmt} {t t' : TS} (h : PS X x t) (i : ∀ E σ H, t' E σ H → t E σ H) : PS X x t' := ⟨fun pins s σ H E I q => h.run pins s σ H E I (i E σ H q)⟩
theorem PSsimp {x : List Stmt} {t t' : TS} (h : PSs X x t) (i : ∀ E σ H, t' E σ H → t E σ H) : PSs X x t' := ⟨fun pins s σ H E I q => h.run pins s σ H E I (i E σ H q)⟩
section
variable {H0 H : Hp} {S : List Addr} {ts : List Tm} {σ : L2.St} {r : Env} {En : Ends}
theorem PostS.toO {α : Type} {x : Ly.R α} {f : α → O} (h : PostS K ca EX W H0 S ts En (x.toO f)) : Post K ca EX W H0 S ts σ x fun a => PostS K ca EX W H0 S ts En (f a) := by
  cases x with
  | ok a => exact h
  | exc r c => exact fun H' st => h σ H' st
  | bad => exact h
end
/-- the context of statements -/
structure GoodS (C : Cfg) (cal : Bool) (N : List Str) (sc : Scope) (cf : Nat → List D → CR) (ca : Nat → Addr) (EX : Addr → Nat → Prop) (W : WX) (X : Cx) : Prop where
  g : Good C cal N sc cf ca EX W X
  esc : X.env.scope = sc
  po : cal = true → PassesOwn (model X.prog X.w) X.A X.env X.xe
  stk : X.stack = X.env :: X.outer
  frm : X.env.frame = some X.env.locals
  exK : ∀ (k : Nat) (T : Str), C.exs[k]? = some T → ∃ cv vv, RelV vv cv ∧ (∀ u, RelV vv u → u = cv) ∧ (X.mg T = some cv ∨ (X.mg T = none ∧ bootBuiltins T = some cv ∧ T ≠ "__name__")) ∧ ∀ c, PySem.W.kitOne X.K (.ref (ca c)) cv = some (C.sub c k) ∧ PySem.W.exmOne X.K (.ref (ca c)) cv = some (C.sub c k)
  exC : C.exs ≠ [] → ∀ c, ExcC X.K (ca c)
  rs : ∀ (k : Nat) (T : Str), C.exs[k]? = some T → k < C.nown → ∃ (newId initId B : String) (bmB : List Value), ExcBaseFacts B newId initId bmB ∧ PySem.W.excIn X.K (ca k) bmB newId = true ∧ X.mg T = some (.ref (ca k)) ∧ PySem.W.keepIn X.K (.ref (ca k)) = true ∧ Raises X (.ref (ca k))
section
variable (G : GoodS C cal N sc cf ca EX W X)
include G
theorem s_set0 {i h : Nat} {e : E} {x : Expr} {y : Str} {py p : Pos} (hi : N[i]? = some y) (hl : locB sc y = true) (hs : swapsWith x (some (.Name y py)) p.line X.env = pure false) (he : PE X x (tE C cf ca X.K EX W 0 e)) :
    PS X (.Assign [.Name y py] x p) (tS X.K ca EX W (evS C.G C.sub cf fu (.set i h e))) := by
  obtain ⟨l1, l2⟩ := G.g.loc hl
  refine PSimp (ps_set (by rw [G.g.hN]; exact G.g.nd) (by rw [G.g.hN]; exact hi) l1 he hs l2) fun E σ H z => ?_
  obtain ⟨H0, S, ts, r, mine, st, z⟩ := z
  simp only [evS] at z
  exact ⟨H0, S, ts, r, st, z.toO.imp fun a1 k v H1 st1 => k _ _ ((Sta.lowT st1 (Nat.min_le_left ..)).store i)⟩
theorem s_drop {e : E} {x : Expr} {p : Pos} (hs : swapsWith x none p.line X.env = pure false) (he : PE X x (tE C cf ca X.K EX W 9 e)) : PS X (.Expr x p) (tS X.K ca EX W (evS C.G C.sub cf fu (.drop e))) := by
  refine PSimp (ps_expr he hs) fun E σ H z => ?_
  obtain ⟨H0, S, ts, r, mine, st, z⟩ := z
  simp only [evS] at z
  exact ⟨H0, S, ts, r, st, z.toO.imp fun a1 k v H1 st1 => k _ _ (Sta.pop st1)⟩
theorem s_ret {e : E} {x : Expr} {p : Pos} (he : PE X x (tE C cf ca X.K EX W 0 e)) : PS X (.Return (some x) p) (tS X.K ca EX W (evS C.G C.sub cf fu (.ret e))) := by
  refine PSimp (ps_ret he) fun E σ H z => ?_
  obtain ⟨H0, S, ts, r, mine, st, z⟩ := z
  simp only [evS] at z
  refine ⟨H0, S, ts, r, st, z.toO.imp fun a1 k v H1 st1 => ?_⟩
  obtain ⟨ex, sd, A, B, nd, new, hT, hS⟩ := st1
  obtain ⟨A1, A2, rfl, h1, h2⟩ := Tms.split (t1 := [_]) hT
  have h1 := h1.one
  cases h1 with
  | own h1 =>
    refine k v H1 A1 ex (List.nodup_append.mp (List.nodup_append.mp nd).1).1 (fun a ha => new a (List.mem_append_left _ (List.mem_append_left _ ha))) (h1.hot fun a ha => ?_)
    rcases List.mem_append.mp ha with z | z
    · exact List.mem_append_left _ z
    · exact List.mem_append_right _ (List.mem_append_left _ (List.mem_append_left _ z))
theorem s_retN {p : Pos} : PS X (.Return none p) (tS X.K ca EX W (evS C.G C.sub cf fu .retN)) := by
  refine PSimp ps_retN fun E σ H z => ?_
  obtain ⟨H0, S, ts, r, mine, st, z⟩ := z
  simp only [evS] at z
  exact z .non H [] st.ex .nil (by simp) (.non 0)
theorem s_nx {x : Stmt} {s : S} (h : PS X x tNext) (e : ∀ r, evS C.G C.sub cf fu s r = .nx r) : PS X x (tS X.K ca EX W (evS C.G C.sub cf fu s)) := by
  refine PSimp h fun E σ H z => ?_
  obtain ⟨H0, S, ts, r, mine, st, z⟩ := z
  rw [e] at z
  exact z σ H st
theorem s_brk {p : Pos} : PS X (.Break p) (tS X.K ca EX W (evS C.G C.sub cf fu .brk)) := by
  refine PSimp ps_break fun E σ H z => ?_
  obtain ⟨H0, S, ts, r, mine, st, z⟩ := z
  exact z σ H st
theorem s_cont {p : Pos} : PS X (.Continue p) (tS X.K ca EX W (evS C.G C.sub cf fu .cont)) := by
  refine PSimp ps_continue fun E σ H z => ?_
  obtain ⟨H0, S, ts, r, mine, st, z⟩ := z
  exact z σ H st
theorem s_ife {c : E} {x : Expr} {a b : B} {xs ys : List Stmt} {p : Pos} (hc : PT X x (tT C cf ca X.K EX W c)) (ha : PSs X xs (tS X.K ca EX W (evB C.G C.sub cf fu a))) (hb : PSs X ys (tS X.K ca EX W (evB C.G C.sub cf fu b))) :
    PS X (.If x xs ys p) (tS X.K ca EX W (evS C.G C.sub cf fu (.ife c a b))) := by
  refine PSimp (ps_if hc ha hb) fun E σ H z => ?_
  obtain ⟨H0, S, ts, r, mine, st, z⟩ := z
  simp only [evS] at z
  refine ⟨H0, S, ts, r, st, z.toO.imp fun a1 k => ?_⟩
  obtain ⟨r1, l1, d1⟩ := a1
  cases d1 <;> first | exact k.elim | skip
  rename_i b
  refine ⟨b, rfl, fun H1 st1 => ?_⟩
  cases b with
  | true => exact ⟨H0, S, ts, r1, mine, st1, k⟩
  | false => exact ⟨H0, S, ts, r1, mine, st1, k⟩
theorem b_nil : PSs X [] (tS X.K ca EX W (evB C.G C.sub cf fu .nil)) := by
  refine PSsimp pss_nil fun E σ H z => ?_
  obtain ⟨H0, S, ts, r, mine, st, z⟩ := z
  exact z σ H st
theorem b_cons {s : S} {b : B} {x : Stmt} {xs : List Stmt} (hs : PS X x (tS X.K ca EX W (evS C.G C.sub cf fu s))) (hb : PSs X xs (tS X.K ca EX W (evB C.G C.sub cf fu b))) : PSs X (x :: xs) (tS X.K ca EX W (evB C.G C.sub cf fu (.cons s b))) := by
  refine PSsimp (pss_cons hs hb) fun E σ H z => ?_
  obtain ⟨H0, S, ts, r, mine, st, z⟩ := z
  refine ⟨H0, S, ts, r, mine, st, ?_⟩
  rw [evB] at z
  revert z
  cases evS C.G C.sub cf fu s r with
  | nx r1 => exact fun z σ H st1 => ⟨H0, S, ts, r1, mine, st1, z⟩
  | _ => exact id
end
end
end Ly

set_option Elab.async false
set_option linter.all false
set_option maxRecDepth 100000
set_option maxHeartbeats 2000000
/-! Statements: lists that are written, loops, errors. -/
namespace Ly
open PySem PySem.Spec PyProof.Rows L2
section
variable {C : Cfg} {cal : Bool} {N : List Str} {sc : Scope} {cf : Nat → List D → CR} {ca : Nat → Addr} {EX : Addr → Nat → Prop} {W : WX} {X : Cx} {K : PySem.W.Frag} {fu : Nat}
theorem Reps.set {H : Hp} {hot : List Addr} {k : Nat} : ∀ {vs : List V} {ds : List D} {A B : List Addr} {q : Nat} {v : V} {d : D}, Reps K H hot k vs ds A → Rep K H hot k v d B → q < ds.length → (B ++ A).Nodup → ∃ A', A'.Nodup ∧ (∀ b ∈ A', b ∈ B ++ A) ∧ Reps K H hot k (vs.set q v) (ds.set q d) A'
  | _, _, _, _, _, _, _, .nil _, _, hq, _ => by simp at hq
  | _, _, _, B, 0, v, d, .cons (A := A) (B := A2) h hs, hr, _, nd => by
    obtain ⟨n1, n2, n3⟩ := List.nodup_append.mp nd
    obtain ⟨n4, n5, n6⟩ := List.nodup_append.mp n2
    refine ⟨B ++ A2, List.nodup_append.mpr ⟨n1, n5, fun a ha b hb => n3 a ha b (List.mem_append_right _ hb)⟩, fun b hb => ?_, .cons hr hs⟩
    rcases List.mem_append.mp hb with z | z
    · exact List.mem_append_left _ z
    · exact List.mem_append_right _ (List.mem_append_right _ z)
  | _, _, _, B, q + 1, v, d, .cons (A := A) (B := A2) h hs, hr, hq, nd => by
    obtain ⟨n1, n2, n3⟩ := List.nodup_append.mp nd
    obtain ⟨n4, n5, n6⟩ := List.nodup_append.mp n2
    obtain ⟨A', m1, m2, m3⟩ := Reps.set (q := q) hs hr (by simpa using hq) (List.nodup_append.mpr ⟨n1, n5, fun a ha b hb => n3 a ha b (List.mem_append_right _ hb)⟩)
    refine ⟨A ++ A', List.nodup_append.mpr ⟨n4, m1, fun a ha b hb e => ?_⟩, fun b hb => ?_, .cons h m3⟩
    · rcases List.mem_append.mp (m2 b hb) with z | z
      · exact n3 b z a (List.mem_append_left _ ha) e.symm
      · exact n6 a ha b z e
    · rcases List.mem_append.mp hb with z | z
      · exact List.mem_append_right _ (List.mem_append_left _ z)
      · rcases List.mem_append.mp (m2 b z) with z | z
        · exact List.mem_append_left _ z
        · exact List.mem_append_right _ (List.mem_append_right _ z)
theorem Reps.dropLast0 {H : Hp} {hot : List Addr} : ∀ {vs : List V} {ds : List D} {A : List Addr}, Reps K H hot 0 vs ds A → Reps K H hot 0 vs.dropLast ds.dropLast []
  | _, _, _, .nil _ => .nil _
  | _, _, _, .cons h (.nil _) => .nil _
  | _, _, _, .cons h (.cons h2 hs) => by
    have q := Reps.dropLast0 (.cons h2 hs)
    have e := h.zero
    subst e
    exact Reps.cons (A := []) h q
theorem getv_set {r : Env} {i l : Nat} {d : D} (h : i < r.length) : getv (r.set i (some (l, d))) i = some (l, d) := by
  unfold getv
  rw [List.getElem?_set_self h]
theorem list_of_slot {H0 H : Hp} {S : List Addr} {ts : List Tm} {σ : L2.St} {r : Env} {i m : Nat} {ds : List D} (st : Sta K EX H0 S ts σ r H) (e : getv r i = some (m + 1, .lst ds)) : ∃ a, σ[i]? = some (some (.ref a)) ∧ tyV K "list" (.ref a) H := by
  obtain ⟨a, vs, h1, h2, h3⟩ := st.peekL e
  exact ⟨a, h1, .inl ⟨rfl, vs, SqL.of h2⟩⟩
theorem Sta.openB {H0 H : Hp} {S : List Addr} {ts : List Tm} {σ : L2.St} {r : Env} {v : V} {d : D} {xs : List D} (st : Sta K EX H0 S (.brw v 1 d :: ts) σ r H) (e : itemsOf d = some xs) : ∃ b zs, v = .ref b ∧ (SqL K H b zs ∨ SqT K H b zs) ∧ zs.length = xs.length ∧ Sta K EX H0 S (.brws zs 0 xs :: ts) σ r H := by
  obtain ⟨ex, sd, A, B, nd, new, hT, hS⟩ := st
  cases hT with
  | cons h hs =>
    cases h with
    | brw h =>
      cases d <;> simp only [itemsOf, reduceCtorEq] at e
      · cases e
        obtain ⟨a, vs, rfl, h1, h2⟩ := h.tup_ex
        exact ⟨a, vs, rfl, .inr h1, h2.length, ex, sd, _, B, nd, new, Tms.cons (A := []) (.brws h2) hs, hS⟩
      · cases e
        obtain ⟨a, vs, rfl, h1, h2⟩ := h.lst_ex
        exact ⟨a, vs, rfl, .inl h1, h2.length, ex, sd, _, B, nd, new, Tms.cons (A := []) (.brws h2) hs, hS⟩
theorem Sta.intAt {H0 H : Hp} {S : List Addr} {ts : List Tm} {σ : L2.St} {r : Env} {i l : Nat} {d : D} (st : Sta K EX H0 S ts σ r H) (e : getv r i = some (l, d)) : ∃ v, σ[i]? = some (some v) ∧ ∀ n, d = .int n → v = .int n := by
  obtain ⟨_, _, A, B, _, _, _, hS⟩ := st
  obtain ⟨o, x, _, A1, _, e1, e2, _, h1, _⟩ := hS.split i (getv_lt e)
  rw [getv_some e] at e2
  have e2' := Option.some.inj e2
  clear e2
  cases h1 with
  | non => cases e2'
  | exc h1 =>
    have z := congrArg Prod.snd (Option.some.inj e2')
    exact ⟨_, e1, fun n e => by rw [e] at z; cases z⟩
  | sm h1 =>
    cases e2'
    refine ⟨_, e1, fun n e => ?_⟩
    subst e
    cases h1
    rfl
section
variable (G : GoodS C cal N sc cf ca EX W X)
include G
theorem s_app {i : Nat} {e : E} {x : Expr} {y : Str} {p1 p2 p3 p4 : Pos} (hy : mVar N sc i y = true) (hl : (p2.endLine == p3.line) = true) (hx : plainX x = true) (he : PE X x (tE C cf ca X.K EX W 0 e)) :
    PS X (.Expr (.Call (.Attribute (.Name y p1) "append" p2) [x] [] p3) p4) (tS X.K ca EX W (evS C.G C.sub cf fu (.app i e))) := by
  have hs := star_cons (env := X.env) (xs := []) hx
  refine PSimp (ps_expr (pe_bm F.plainAttrs_list F.slot_list_append (by with_unfolding_all rfl) mt_append (mVar_ok G.g hy p1) (pa_cons he pa_nil hs) rfl (few1 hx) hl hs)) fun En σ H z => ?_
  obtain ⟨H0, S, ts, r, mine, st, z⟩ := z
  simp only [evS] at z
  split at z
  · rename_i m0 ds0 e0
    obtain ⟨a, h1, h2⟩ := list_of_slot st e0
    refine ⟨.ref a, h1, h2, H0, S, ts, r, st, z.toO.imp fun a1 k v H1 st1 => ?_⟩
    obtain ⟨r1, l1, d1⟩ := a1
    simp only at k st1
    split at k
    · rename_i m ds e1
      split at k
      · rename_i hz
        have st2 := Sta.lowS (l' := min m l1 + 1) (Sta.lowT st1 (Nat.min_le_right m l1)) e1 (by omega)
        have e2 := getv_set (l := min m l1 + 1) (d := .lst ds) (getv_lt e1)
        obtain ⟨b, vs, h3, h4, h5, f⟩ := Sta.mutate (t1 := [_]) st2 mine e2
        rw [h1] at h3
        cases h3
        refine ⟨a, vs, v, rfl, rfl, h4, by rw [h5, ← ln_eq]; exact hz, ?_⟩
        have q := f (vs ++ [v]) (ds ++ [d1]) fun hot A1 A0 q1 q2 nd => by
          refine ⟨A0 ++ A1, ?_, fun b hb => ?_, ?_⟩
          · exact (List.perm_append_comm).nodup_iff.mp nd
          · exact (List.perm_append_comm).mem_iff.mp hb
          · have := q2.append (.cons q1.own1 (.nil _))
            rwa [List.append_nil] at this
        rw [List.set_set] at q
        exact k _ _ q
      · exact k.elim
    · exact k.elim
  · exact z.elim
theorem s_ext {i : Nat} {e : E} {x : Expr} {y : Str} {p1 p2 p3 p4 : Pos} (hy : mVar N sc i y = true) (hl : (p2.endLine == p3.line) = true) (hx : plainX x = true) (he : PE X x (tE C cf ca X.K EX W 1 e)) :
    PS X (.Expr (.Call (.Attribute (.Name y p1) "extend" p2) [x] [] p3) p4) (tS X.K ca EX W (evS C.G C.sub cf fu (.ext i e))) := by
  have hs := star_cons (env := X.env) (xs := []) hx
  refine PSimp (ps_expr (pe_bm F.plainAttrs_list F.slot_list_extend (by with_unfolding_all rfl) mt_extA (mVar_ok G.g hy p1) (pa_cons he pa_nil hs) rfl (few1 hx) hl hs)) fun En σ H z => ?_
  obtain ⟨H0, S, ts, r, mine, st, z⟩ := z
  simp only [evS] at z
  split at z
  · rename_i m0 ds0 e0
    obtain ⟨a, h1, h2⟩ := list_of_slot st e0
    refine ⟨.ref a, h1, h2, H0, S, ts, r, st, z.toO.imp fun a1 k v H1 st1 => ?_⟩
    obtain ⟨r1, l1, d1⟩ := a1
    simp only at k st1
    split at k
    · rename_i m ds e1
      split at k
      · rename_i xs ex
        split at k
        · rename_i hz
          have st2 := Sta.lowS (l' := 0 + 1) st1 e1 (by omega)
          have e2 := getv_set (l := 0 + 1) (d := .lst ds) (getv_lt e1)
          obtain ⟨b, zs, rfl, hb, hlen, st3⟩ := Sta.openB st2 ex
          obtain ⟨b', vs, h3, h4, h5, f⟩ := Sta.mutate (t1 := [_]) st3 mine e2
          rw [h1] at h3
          cases h3
          refine ⟨a, b, vs, zs, rfl, rfl, h4, hb, by rw [h5, hlen, ← ln_eq]; exact hz, ?_⟩
          have q := f (vs ++ zs) (ds ++ xs) fun hot A1 A0 q1 q2 nd => ⟨A0, (List.nodup_append.mp nd).2.1, fun b hb => List.mem_append_right _ hb, by
            have := q2.append q1.brws1.zero
            rwa [List.append_nil] at this⟩
          rw [List.set_set] at q
          exact k _ _ q
        · exact k.elim
      · exact k.elim
    · exact k.elim
  · exact z.elim
theorem s_clear {i : Nat} {y : Str} {p1 p2 p3 p4 : Pos} (hy : mVar N sc i y = true) (hl : (p2.endLine == p3.line) = true) :
    PS X (.Expr (.Call (.Attribute (.Name y p1) "clear" p2) [] [] p3) p4) (tS X.K ca EX W (evS C.G C.sub cf fu (.clear i))) := by
  refine PSimp (ps_expr (pe_bm0 F.plainAttrs_list F.slot_list_clear (by with_unfolding_all rfl) mt_clear (mVar_ok G.g hy p1) rfl hl)) fun En σ H z => ?_
  obtain ⟨H0, S, ts, r, mine, st, z⟩ := z
  simp only [evS] at z
  split at z
  · rename_i m ds e1
    obtain ⟨a, h1, h2⟩ := list_of_slot st e1
    have st2 := Sta.lowS (l' := 0 + 1) st e1 (by omega)
    have e2 := getv_set (l := 0 + 1) (d := .lst ds) (getv_lt e1)
    obtain ⟨b, vs, h3, h4, h5, f⟩ := Sta.mutate (t1 := []) st2 mine e2
    rw [h1] at h3
    cases h3
    refine ⟨.ref a, h1, h2, a, vs, rfl, rfl, h4, ?_⟩
    have q := f [] [] fun hot A1 A0 q1 q2 nd => ⟨[], .nil, by simp, .nil _⟩
    rw [List.set_set] at q
    exact z _ _ q
  · exact z.elim
theorem s_pop {i : Nat} {y : Str} {p1 p2 p3 p4 : Pos} (hy : mVar N sc i y = true) (hl : (p2.endLine == p3.line) = true) :
    PS X (.Expr (.Call (.Attribute (.Name y p1) "pop" p2) [] [] p3) p4) (tS X.K ca EX W (evS C.G C.sub cf fu (.popS i))) := by
  refine PSimp (ps_expr (pe_bm0 F.plainAttrs_list F.slot_list_pop (by with_unfolding_all rfl) mt_pop (mVar_ok G.g hy p1) rfl hl)) fun En σ H z => ?_
  obtain ⟨H0, S, ts, r, mine, st, z⟩ := z
  simp only [evS] at z
  split at z
  · rename_i m ds e1
    split at z
    · exact z.elim
    · rename_i hne
      obtain ⟨a, h1, h2⟩ := list_of_slot st e1
      have st2 := Sta.lowS (l' := 0 + 1) st e1 (by omega)
      have e2 := getv_set (l := 0 + 1) (d := .lst ds) (getv_lt e1)
      obtain ⟨b, vs, h3, h4, h5, f⟩ := Sta.mutate (t1 := []) st2 mine e2
      rw [h1] at h3
      cases h3
      have hpos : 0 < ds.length := by
        cases ds with
        | nil => simp at hne
        | cons _ _ => simp
      have hlt : vs.length - 1 < vs.length := by omega
      refine ⟨.ref a, h1, h2, a, vs, vs[vs.length - 1], rfl, rfl, h4, List.getElem?_eq_getElem hlt, ?_⟩
      have q := f vs.dropLast ds.dropLast fun hot A1 A0 q1 q2 nd => ⟨[], .nil, by simp, Reps.dropLast0 q2⟩
      rw [List.set_set] at q
      exact z _ _ q
  · exact z.elim
theorem s_aug {i : Nat} {o : Bo} {op : Operator} {e : E} {x : Expr} {y : Str} {p p2 : Pos} (hi : N[i]? = some y) (hl : locB sc y = true) (ho : (o = .add ∧ op = .Add) ∨ (o = .sub ∧ op = .Sub)) (he : PE X x (tE C cf ca X.K EX W 9 e)) :
    PS X (.AugAssign (.Name y p2) op x p) (tS X.K ca EX W (evS C.G C.sub cf fu (.aug i o e))) := by
  obtain ⟨l1, l2⟩ := G.g.loc hl
  have hN : X.N.Nodup := by rw [G.g.hN]; exact G.g.nd
  have hi' : X.N[i]? = some y := by rw [G.g.hN]; exact hi
  rcases ho with ⟨rfl, rfl⟩ | ⟨rfl, rfl⟩
  · refine PSimp (ps_aug hN hi' l1 he ip_add l2) fun En σ H z => ?_
    obtain ⟨H0, S, ts, r, mine, st, z⟩ := z
    simp only [evS] at z
    split at z
    · rename_i l d e0
      obtain ⟨v, h1, h2⟩ := st.intAt e0
      refine ⟨v, h1, H0, S, ts, r, st, z.toO.imp fun a1 k w H1 st1 => ?_⟩
      obtain ⟨r1, lw, dw⟩ := a1
      obtain ⟨hot, rp⟩ := Sta.peek st1
      simp only at k rp st1
      cases d <;> cases dw <;> simp only at k
      all_goals first | exact k.elim | skip
      exact ⟨_, _, h2 _ rfl, rp.int_eq, k _ _ (((Sta.pop st1).push0 fun _ => .int 0 _).store i)⟩
    · exact z.elim
  · refine PSimp (ps_aug hN hi' l1 he ip_sub l2) fun En σ H z => ?_
    obtain ⟨H0, S, ts, r, mine, st, z⟩ := z
    simp only [evS] at z
    split at z
    · rename_i l d e0
      obtain ⟨v, h1, h2⟩ := st.intAt e0
      refine ⟨v, h1, H0, S, ts, r, st, z.toO.imp fun a1 k w H1 st1 => ?_⟩
      obtain ⟨r1, lw, dw⟩ := a1
      obtain ⟨hot, rp⟩ := Sta.peek st1
      simp only at k rp st1
      cases d <;> cases dw <;> simp only at k
      all_goals first | exact k.elim | skip
      exact ⟨_, _, h2 _ rfl, rp.int_eq, k _ _ (((Sta.pop st1).push0 fun _ => .int 0 _).store i)⟩
    · exact z.elim
theorem s_seti {i : Nat} {k e : E} {x u : Expr} {y : Str} {p p1 p2 : Pos} (hy : mVar N sc i y = true) (hu : PE X u (tE C cf ca X.K EX W 9 k)) (he : PE X x (tE C cf ca X.K EX W 0 e)) (hx : plainX x = true) (hpu : plainX u = true) :
    PS X (.Assign [.Subscript (.Name y p1) u p2] x p) (tS X.K ca EX W (evS C.G C.sub cf fu (.seti i k e))) := by
  refine PSimp (ps_asg he (pg_sub (mVar_ok G.g hy p1) hu set_list (by intro _; cases u <;> first | rfl | cases hpu)) (by cases x <;> first | rfl | cases hx) rfl) fun En σ H z => ?_
  obtain ⟨H0, S, ts, r, mine, st, z⟩ := z
  simp only [evS] at z
  split at z
  · rename_i m0 ds0 e0
    obtain ⟨a, h1, h2⟩ := list_of_slot st e0
    refine ⟨H0, S, ts, r, st, z.toO.imp fun a1 k v H1 st1 => ?_⟩
    refine ⟨.ref a, h1, H0, S, _, _, st1, (Post.deep k.toO).imp fun a2 k w H2 st2 => ?_⟩
    obtain ⟨r1, l1, d1⟩ := a1
    obtain ⟨r2, l2, d2⟩ := a2
    obtain ⟨hot, rp⟩ := Sta.peek st2
    have st3 := Sta.pop st2
    simp only at k rp st3
    split at k
    · rename_i m ds pp e1
      split at k
      · rename_i q eq
        have st4 := Sta.lowS (l' := min m l1 + 1) (Sta.lowT st3 (Nat.min_le_right m l1)) e1 (by omega)
        have e2 := getv_set (l := min m l1 + 1) (d := .lst ds) (getv_lt e1)
        obtain ⟨b, vs, h3, h4, h5, f⟩ := Sta.mutate (t1 := [_]) st4 mine e2
        rw [h1] at h3
        cases h3
        refine ⟨a, vs, pp, q, rfl, rp.int_eq, h4, by rw [h5]; exact eq, ?_⟩
        have qq := f (vs.set q v) (ds.set q d1) fun hot A1 A0 q1 q2 nd => Reps.set q2 q1.own1 (by
          obtain ⟨k1, k2, k3, k4⟩ := ixN_seq eq
          omega) nd
        rw [List.set_set] at qq
        exact k _ _ qq
      · exact k.elim
    · exact k.elim
  · exact z.elim
theorem s_dput {i : Nat} {k e : E} {x u : Expr} {y : Str} {p p1 p2 : Pos} (hy : mVar N sc i y = true) (hu : PE X u (tE C cf ca X.K EX W 9 k)) (he : PE X x (tE C cf ca X.K EX W 0 e)) (hx : plainX x = true) (hpu : plainX u = true) :
    PS X (.Assign [.Subscript (.Name y p1) u p2] x p) (tS X.K ca EX W (evS C.G C.sub cf fu (.dput i k e))) := by
  refine PSimp (ps_dput (by have := G.g.un; omega) (mVar_ok G.g hy p1) hu he (by cases x <;> first | rfl | cases hx)) fun En σ H z => ?_
  obtain ⟨H0, S, ts, r, mine, st, z⟩ := z
  simp only [evS] at z
  split at z
  · rename_i m0 t0 ks0 ds0 e0
    refine ⟨H0, S, ts, r, st, z.toO.imp fun a1 k v H1 st1 => ?_⟩
    obtain ⟨a, vs0, h1, _⟩ := Sta.mutateD (t1 := []) st mine e0
    refine ⟨.ref a, h1, H0, S, _, _, st1, (Post.deep k.toO).imp fun a2 k w H2 st2 => ?_⟩
    obtain ⟨r1, l1, d1⟩ := a1
    obtain ⟨r2, l2, d2⟩ := a2
    obtain ⟨hot, rp⟩ := Sta.peek st2
    have st3 := Sta.lowT (Sta.pop st2) (Nat.zero_le _)
    simp only at k rp st3
    split at k
    · rename_i m t ks ds e1
      split at k
      · rename_i q eq
        split at k
        · rename_i hz
          obtain ⟨b, vs, h3, h4, ok, hl, f⟩ := Sta.mutateD (t1 := [_]) st3 mine e1
          rw [h1] at h3
          cases h3
          have hk := key_is rp eq
          refine ⟨a, _, rfl, dput_of h4 ok hl (by rw [← ln_eq]; exact hz) hk, ?_⟩
          refine k _ _ (f (dputK ks q) (dputV ks vs q v) (dputV ks ds q d1) (dOk_put ok hk.one) (dputK_len ks vs q v hl) fun hot A1 q1 q2 => ?_)
          have q3 := q1.own1
          have e3 := q3.zero
          subst e3
          exact Reps.dput q q2 q3
        · exact k.elim
      · exact k.elim
    · exact k.elim
  · exact z.elim
theorem s_for {t : Tg} {src : Sr} {b : B} {tg it : Expr} {xs : List Stmt} {p : Pos} (hc : cal = true) (hw : src.bw = false) (hi : PI X tg it (tSr C cf ca X.K EX W src)) (hg : PG X tg (gTg X.K t)) (hb : PSs X xs (tS X.K ca EX W (evB C.G C.sub cf fu b))) (hx : plainX it = true) :
    PS X (.For tg it xs [] p) (tS X.K ca EX W (evS C.G C.sub cf fu (.for_ t src b))) := by
  refine PSimp (ps_for (G.po hc) (G.g.calm hc) hi hg hb (plain_fold hx)) fun En σ H z => ?_
  obtain ⟨H0, S, ts, r, mine, st, z⟩ := z
  simp only [evS] at z
  refine ⟨H0, S, ts, r, st, z.toO.imp fun a1 k J tt H1 sj st1 => ?_⟩
  obtain ⟨r1, xs⟩ := a1
  simp only at k sj st1
  unfold forT at k
  generalize hF : (fun (q : Env) (x : D) => match t.put x q with
    | some q1 => evB C.G C.sub cf fu b q1
    | none => O.bad) = F at k
  have mine2 : ∀ u ∈ tt ++ ts, u.mine = true := fun u hu => (List.mem_append.mp hu).elim (sj.mine hw u) (mine u)
  have under : ∀ {σ : L2.St} {r : Env} {H : Hp}, Sta X.K EX H0 S (tt ++ ts) σ r H → Sta X.K EX H0 S ts σ r H := fun {σ r H} st => by
    clear sj st1 mine2
    induction tt with
    | nil => exact st
    | cons u tt ih => exact ih (Sta.pop st)
  refine ⟨fun i m σ H => m = xs.length - i ∧ i ≤ xs.length ∧ ∃ r, Sta X.K EX H0 S (tt ++ ts) σ r H ∧ PostS X.K ca EX W H0 S ts En (forLoop F (xs.drop i) r), ⟨xs.length, by simp, Nat.zero_le _, r1, st1, by rw [List.drop_zero]; exact k⟩, ?_⟩
  rintro i m σ2 H2 ⟨rfl, hle, r2, st2, k2⟩
  by_cases hlt : i < xs.length
  · obtain ⟨d, hd⟩ : ∃ d, xs[i]? = some d := ⟨xs[i], List.getElem?_eq_getElem hlt⟩
    obtain ⟨go, step⟩ := (sj.turn i _ S _ _ _ H2 st2).2 d hd
    have hdrop : xs.drop i = d :: xs.drop (i + 1) := by
      rw [List.drop_eq_getElem_cons hlt]
      rw [List.getElem?_eq_getElem hlt] at hd
      cases hd
      rfl
    rw [hdrop, forLoop] at k2
    refine .inr ⟨go, fun σ H => ∃ r, Sta X.K EX H0 S (tt ++ ts) σ r H ∧ PostS X.K ca EX W H0 S ts En (forLoop F (xs.drop (i + 1)) r), fun σ' H' nx => ⟨xs.length - (i + 1), by omega, rfl, hlt, nx⟩, fun v H3 y => ?_⟩
    have st3 := step v H3 y
    have hFd : F r2 d = match t.put d r2 with
      | some q1 => evB C.G C.sub cf fu b q1
      | none => O.bad := by rw [← hF]
    cases e3 : t.put d r2 with
    | none => rw [hFd, e3] at k2; exact k2.elim
    | some q1 =>
      rw [e3] at hFd
      refine put_sem st3 e3 fun σ3 l3 ag st4 => ⟨H0, S, tt ++ ts, q1, mine2, st4, ?_⟩
      simp only at hFd
      rw [hFd] at k2
      revert k2
      cases evB C.G C.sub cf fu b q1 with
      | nx r4 => exact fun k2 σ H st5 => ⟨r4, st5, k2⟩
      | ct r4 => exact fun k2 σ H st5 => ⟨r4, st5, k2⟩
      | bk r4 => exact fun k2 σ H st5 => k2 σ H (under st5)
      | ret l d => exact fun k2 => k2
      | exc r4 c => exact fun k2 σ H st5 => k2 σ H (under st5)
      | bad => exact fun k2 => k2
  · have ei : i = xs.length := by omega
    subst ei
    refine .inl ⟨(sj.turn _ H0 S _ _ _ H2 st2).1 rfl, ?_⟩
    rw [List.drop_length] at k2
    exact k2 _ _ (under st2)
theorem s_whl {c : E} {b : B} {x : Expr} {xs : List Stmt} {p : Pos} (hc : cal = true) (ht : PT X x (tT C cf ca X.K EX W c)) (hb : PSs X xs (tS X.K ca EX W (evB C.G C.sub cf fu b))) :
    PS X (.While x xs [] p) (tS X.K ca EX W (evS C.G C.sub cf fu (.whl c b))) := by
  refine PSimp (ps_while (G.po hc) ht hb) fun En σ H z => ?_
  obtain ⟨H0, S, ts, r, mine, st, z⟩ := z
  simp only [evS] at z
  refine ⟨fun m σ H => ∃ r, Sta X.K EX H0 S ts σ r H ∧ PostS X.K ca EX W H0 S ts En (whlLoop (ev C.G C.sub cf 9 c) (evB C.G C.sub cf fu b) m r), ⟨fu, r, st, z⟩, ?_⟩
  rintro m σ1 H1 ⟨r1, st1, k⟩
  cases m with
  | zero => exact k.elim
  | succ m =>
    rw [whlLoop] at k
    refine ⟨H0, S, ts, r1, st1, k.toO.imp fun a1 k => ?_⟩
    obtain ⟨r2, l2, d2⟩ := a1
    cases d2 <;> first | exact k.elim | skip
    rename_i bb
    refine ⟨bb, rfl, fun H2 st2 => ?_⟩
    cases bb with
    | false => exact k _ _ st2
    | true =>
      simp only at k
      refine ⟨fun σ H => ∃ r, Sta X.K EX H0 S ts σ r H ∧ PostS X.K ca EX W H0 S ts En (whlLoop (ev C.G C.sub cf 9 c) (evB C.G C.sub cf fu b) m r), fun σ' H' nx => ⟨m, Nat.lt_succ_self m, nx⟩, H0, S, ts, r2, mine, st2, ?_⟩
      revert k
      cases evB C.G C.sub cf fu b r2 with
      | nx r4 => exact fun k2 σ H st5 => ⟨r4, st5, k2⟩
      | ct r4 => exact fun k2 σ H st5 => ⟨r4, st5, k2⟩
      | bk r4 => exact fun k2 => k2
      | ret l d => exact fun k2 => k2
      | exc r4 c => exact fun k2 => k2
      | bad => exact fun k2 => k2
theorem s_raise {k : Nat} {m : Str} {T : Str} {j : Nat} {p p1 p2 p3 : Pos} (hc : cal = true) (hT : C.exs[k]? = some T) (hk : k < C.nown) (hg : glB sc T = true) (hd : dbg T = true) :
    PS X (.Raise (some (.Call (.Name T p1) [.Constant (.str m) j p2] [] p3)) none p) (tS X.K ca EX W (evS C.G C.sub cf fu (.raise k m))) := by
  obtain ⟨newId, initId, B, bmB, h1, h2, h3, h4, h5⟩ := G.rs k T hT hk
  simp only [dbg, Bool.not_eq_true'] at hd
  refine PSimp (ps_raise (G.g.calm hc) G.g.tk (pmk_own h1 h2 h3 h4 h5 (G.g.gl hg) hd)) fun En σ H z => ?_
  obtain ⟨H0, S, ts, r, mine, st, z⟩ := z
  simp only [evS] at z
  exact z σ H st
end
end
end Ly

set_option Elab.async false
set_option linter.all false
set_option maxRecDepth 100000
set_option maxHeartbeats 2000000
/-! Statements: targets, comprehensions stored, errors caught; all together. -/
namespace Ly
open PySem PySem.Spec PyProof.Rows L2

/-! ### taking statements apart -/
def dAsg : Stmt → Option (Expr × Expr × Pos)
  | .Assign [t] e p => some (t, e, p)
  | _ => none
theorem dAsg_eq {s : Stmt} {t e : Expr} {p : Pos} (h : dAsg s = some (t, e, p)) : s = .Assign [t] e p := by
  unfold dAsg at h; split at h <;> first | (cases h; rfl) | cases h
def dNameP : Expr → Option (Str × Pos)
  | .Name x p => some (x, p)
  | _ => none
theorem dNameP_eq {e : Expr} {x : Str} {p : Pos} (h : dNameP e = some (x, p)) : e = .Name x p := by
  unfold dNameP at h; split at h <;> first | (cases h; rfl) | cases h
def dExp : Stmt → Option Expr
  | .Expr e _ => some e
  | _ => none
theorem dExp_eq {s : Stmt} {e : Expr} (h : dExp s = some e) : ∃ p, s = .Expr e p := by
  unfold dExp at h; split at h <;> first | (cases h; exact ⟨_, rfl⟩) | cases h
def dMeth0 : Expr → Option (Str × Str)
  | .Call (.Attribute (.Name y _) m p2) [] [] p3 => if p2.endLine == p3.line then some (y, m) else none
  | _ => none
theorem dMeth0_eq {e : Expr} {y m : Str} (h : dMeth0 e = some (y, m)) : ∃ p1 p2 p3, e = .Call (.Attribute (.Name y p1) m p2) [] [] p3 ∧ (p2.endLine == p3.line) = true := by
  unfold dMeth0 at h
  split at h
  · split at h
    · cases h; exact ⟨_, _, _, rfl, by assumption⟩
    · cases h
  · cases h
def dAug : Stmt → Option (Expr × Operator × Expr)
  | .AugAssign t o e _ => some (t, o, e)
  | _ => none
theorem dAug_eq {s : Stmt} {t e : Expr} {o : Operator} (h : dAug s = some (t, o, e)) : ∃ p, s = .AugAssign t o e p := by
  unfold dAug at h; split at h <;> first | (cases h; exact ⟨_, rfl⟩) | cases h
def dIfS : Stmt → Option (Expr × List Stmt × List Stmt)
  | .If c a b _ => some (c, a, b)
  | _ => none
theorem dIfS_eq {s : Stmt} {c : Expr} {a b : List Stmt} (h : dIfS s = some (c, a, b)) : ∃ p, s = .If c a b p := by
  unfold dIfS at h; split at h <;> first | (cases h; exact ⟨_, rfl⟩) | cases h
def dFor : Stmt → Option (Expr × Expr × List Stmt)
  | .For t i b [] _ => some (t, i, b)
  | _ => none
theorem dFor_eq {s : Stmt} {t i : Expr} {b : List Stmt} (h : dFor s = some (t, i, b)) : ∃ p, s = .For t i b [] p := by
  unfold dFor at h; split at h <;> first | (cases h; exact ⟨_, rfl⟩) | cases h
def dWhl : Stmt → Option (Expr × List Stmt)
  | .While c b [] _ => some (c, b)
  | _ => none
theorem dWhl_eq {s : Stmt} {c : Expr} {b : List Stmt} (h : dWhl s = some (c, b)) : ∃ p, s = .While c b [] p := by
  unfold dWhl at h; split at h <;> first | (cases h; exact ⟨_, rfl⟩) | cases h
def dRet : Stmt → Option (Option Expr)
  | .Return e _ => some e
  | _ => none
theorem dRet_eq {s : Stmt} {e : Option Expr} (h : dRet s = some e) : ∃ p, s = .Return e p := by
  unfold dRet at h; split at h <;> first | (cases h; exact ⟨_, rfl⟩) | cases h
def dRaise : Stmt → Option (Str × Str)
  | .Raise (some (.Call (.Name x _) [.Constant (.str m) _ _] [] _)) none _ => some (x, m)
  | _ => none
theorem dRaise_eq {s : Stmt} {x m : Str} (h : dRaise s = some (x, m)) : ∃ j p p1 p2 p3, s = .Raise (some (.Call (.Name x p1) [.Constant (.str m) j p2] [] p3)) none p := by
  unfold dRaise at h; split at h <;> first | (cases h; exact ⟨_, _, _, _, _, rfl⟩) | cases h
def dTry : Stmt → Option (List Stmt × Str × Option Str × Stmt × List Stmt)
  | .Try b [.ExceptHandler (some (.Name x _)) n (h0 :: h) _] [] [] _ => some (b, x, n, h0, h)
  | _ => none
theorem dTry_eq {s h0 : Stmt} {b h : List Stmt} {x : Str} {n : Option Str} (e : dTry s = some (b, x, n, h0, h)) : ∃ p p1 p2, s = .Try b [.ExceptHandler (some (.Name x p1)) n (h0 :: h) p2] [] [] p := by
  unfold dTry at e; split at e <;> first | (cases e; exact ⟨_, _, _, rfl⟩) | cases e
def dTry2 : Stmt → Option (List Stmt × Str × Stmt × List Stmt × Str × Stmt × List Stmt)
  | .Try b [.ExceptHandler (some (.Name x _)) none (h0 :: h) _, .ExceptHandler (some (.Name y _)) none (k0 :: k) _] [] [] _ => some (b, x, h0, h, y, k0, k)
  | _ => none
theorem dTry2_eq {s h0 k0 : Stmt} {b h k : List Stmt} {x y : Str} (e : dTry2 s = some (b, x, h0, h, y, k0, k)) : ∃ p p1 p2 p3 p4, s = .Try b [.ExceptHandler (some (.Name x p1)) none (h0 :: h) p2, .ExceptHandler (some (.Name y p3)) none (k0 :: k) p4] [] [] p := by
  unfold dTry2 at e; split at e <;> first | (cases e; exact ⟨_, _, _, _, _, rfl⟩) | cases e
def isPass : Stmt → Bool
  | .Pass _ => true
  | .Expr (.Constant (.str _) _ _) _ => true
  | _ => false
def isBrk : Stmt → Bool
  | .Break _ => true
  | _ => false
def isCont : Stmt → Bool
  | .Continue _ => true
  | _ => false
def isCompE : Expr → Bool
  | .ListComp _ _ _ _ => true
  | _ => false
/-- stored within the comprehension itself -/
def swB (sc : Scope) (t : Str) (pos : Pos) : Expr → Bool
  | .ListComp _ _ s p => (sc.names.lookup t == some .local) && (pos.line == p.line) && !(s.names.any fun (n, k) => n == t && (k == .local || k == .cell))
  | _ => false
theorem swB_eq {C : Cfg} {cal : Bool} {N : List Str} {sc : Scope} {e : E} {x : Expr} {t : Str} {pos : Pos} {l : Nat} {env : PySem.Env} (h : mE C cal N sc e x = true) (hs : env.scope = sc) (hk : sc.kind = .function) : swapsWith x (some (.Name t pos)) l env = pure (swB sc t pos x) := by
  have hb : env.blockKind = .function := by unfold Env.blockKind; rw [hs, hk]; rfl
  have hp := mE_plain e x h
  cases x <;> first | rfl | cases hp | skip
  show (pure (env.blockKind == ScopeKind.function && env.kindOf t == some NameKind.local && _ && _) : Sem Bool) = _
  rw [hb]
  unfold swB Env.kindOf
  rw [hs]
  rfl

section
variable (C : Cfg) (N : List Str) (sc : Scope)
mutual
def mS (cal : Bool) : S → Stmt → Bool
  | .set i _ e, s => match dAsg s with
    | some (t, x, _) => (match dNameP t with
      | some (y, py) => decide (N[i]? = some y) && locB sc y && mE C cal N sc e x && (!swB sc y py x || (cal && (match e with
        | .comp _ _ _ _ _ => true
        | _ => false)))
      | none => false)
    | none => false
  | .setT js e, s => match dAsg s with
    | some (t, x, _) => cal && mTg N sc (.tup js) t && mE C cal N sc e x && !isTupE x
    | none => false
  | .drop e, s => match dExp s with
    | some x => mE C cal N sc e x && !isCompE x
    | none => false
  | .app i e, s => match dExp s with
    | some c => (match dMeth c with
      | some (y, m, x) => decide (m = "append") && mVar N sc i y && mE C cal N sc e x
      | none => false)
    | none => false
  | .ext i e, s => match dExp s with
    | some c => (match dMeth c with
      | some (y, m, x) => decide (m = "extend") && mVar N sc i y && mE C cal N sc e x
      | none => false)
    | none => false
  | .appP _ _ _, _ => false
  | .clear i, s => match dExp s with
    | some c => (match dMeth0 c with
      | some (y, m) => decide (m = "clear") && mVar N sc i y
      | none => false)
    | none => false
  | .aug i o e, s => match dAug s with
    | some (t, op, x) => (match dName t with
      | some y => decide (N[i]? = some y) && locB sc y && mE C cal N sc e x && (decide (o = .add ∧ op = .Add) || decide (o = .sub ∧ op = .Sub))
      | none => false)
    | none => false
  | .seti i k e, s => match dAsg s with
    | some (t, x, _) => (match dSub t with
      | some (n, u) => (match dName n with
        | some y => mVar N sc i y && mE C cal N sc k u && mE C cal N sc e x
        | none => false)
      | none => false)
    | none => false
  | .dput i k e, s => match dAsg s with
    | some (t, x, _) => (match dSub t with
      | some (n, u) => (match dName n with
        | some y => mVar N sc i y && mE C cal N sc k u && mE C cal N sc e x
        | none => false)
      | none => false)
    | none => false
  | .ife c a b, s => match dIfS s with
    | some (x, xs, ys) => mE C cal N sc c x && mB cal a xs && mB cal b ys
    | none => false
  | .for_ t src b, s => match dFor s with
    | some (tg, it, xs) => cal && !src.bw && mSr C cal N sc src tg it && mTg N sc t tg && mB cal b xs
    | none => false
  | .whl c b, s => match dWhl s with
    | some (x, xs) => cal && mE C cal N sc c x && mB cal b xs
    | none => false
  | .ret e, s => match dRet s with
    | some (some x) => mE C cal N sc e x
    | _ => false
  | .retN, s => match dRet s with
    | some none => true
    | _ => false
  | .raise c m, s => match dRaise s with
    | some (x, m') => cal && decide (C.exs[c]? = some x) && decide (c < C.nown) && decide (m' = m) && glB sc x && dbg x
    | none => false
  | .try_ b c i h, s => match dTry s with
    | some (xs, x, n, y, ys) => cal && decide (C.exs[c]? = some x) && glB sc x && dbg x && mB true b xs && mB false h (y :: ys) && (match i, n with
      | some j, some m => decide (N[j]? = some m) && decide (sc.names.lookup m = some .local)
      | none, none => true
      | _, _ => false)
    | none => false
  | .try2 b c1 h1 c2 h2, s => match dTry2 s with
    | some (xs, x, y, ys, x', y', ys') => cal && decide (C.exs[c1]? = some x) && glB sc x && dbg x && decide (C.exs[c2]? = some x') && glB sc x' && dbg x' && mB true b xs && mB false h1 (y :: ys) && mB false h2 (y' :: ys')
    | none => false
  | .popS i, s => match dExp s with
    | some c => (match dMeth0 c with
      | some (y, m) => decide (m = "pop") && mVar N sc i y
      | none => false)
    | none => false
  | .pass, s => isPass s
  | .brk, s => isBrk s
  | .cont, s => isCont s
  | .bad, _ => true
def mB (cal : Bool) : B → List Stmt → Bool
  | .nil, [] => true
  | .cons s b, x :: xs => mS cal s x && mB cal b xs
  | _, _ => false
end
end

section
variable {C : Cfg} {cal : Bool} {N : List Str} {sc : Scope} {cf : Nat → List D → CR} {ca : Nat → Addr} {EX EX' : Addr → Nat → Prop} {W : WX} {X : Cx} {K : PySem.W.Frag} {fu : Nat}
section
variable {H0 H : Hp} {S : List Addr} {ts : List Tm} {σ : L2.St} {r : Env}
theorem Slots.noX {hot : List Addr} : ∀ {σ : L2.St} {r : Env} {A : List Addr}, Slots K EX H hot σ r A → Ly.noX r = true → Slots K EX' H hot σ r A
  | _, _, _, .nil, _ => .nil
  | _, _, _, .cons h hs, e => by
    cases h with
    | non => exact .cons .non (Slots.noX hs (by simpa [Ly.noX] using e))
    | exc h =>
      simp [Ly.noX] at e
      omega
    | sm h =>
      simp only [Ly.noX, Bool.and_eq_true] at e
      exact .cons (.sm h) (Slots.noX hs e.2)
theorem Sta.noX (st : Sta K EX H0 S ts σ r H) (h : Ly.noX r = true) : Sta K EX' H0 S ts σ r H := by
  obtain ⟨ex, sd, A, B, nd, new, hT, hS⟩ := st
  exact ⟨ex, sd, A, B, nd, new, hT, hS.noX h⟩
theorem Slots.mono {hot : List Addr} (f : ∀ a c, EX a c → EX' a c) : ∀ {σ : L2.St} {r : Env} {A : List Addr}, Slots K EX H hot σ r A → Slots K EX' H hot σ r A
  | _, _, _, .nil => .nil
  | _, _, _, .cons h hs => by
    cases h with
    | non => exact .cons .non (Slots.mono f hs)
    | exc h => exact .cons (.exc (f _ _ h)) (Slots.mono f hs)
    | sm h => exact .cons (.sm h) (Slots.mono f hs)
theorem Sta.mono (st : Sta K EX H0 S ts σ r H) (f : ∀ a c, EX a c → EX' a c) : Sta K EX' H0 S ts σ r H := by
  obtain ⟨ex, sd, A, B, nd, new, hT, hS⟩ := st
  exact ⟨ex, sd, A, B, nd, new, hT, hS.mono f⟩
theorem Sta.putExc {a : Addr} {c : Nat} (st : Sta K EX H0 S ts σ r H) (h : EX a c) (j : Nat) : Sta K EX H0 S ts (σ.set j (some (.ref a))) (r.set j (some (100 + c, .exn))) H := by
  by_cases hi : j < r.length
  · obtain ⟨o, x, e1, e2, f⟩ := st.slot j hi
    exact f (some (.ref a)) (some (100 + c, .exn)) [] fun hot A _ nd ns => ⟨[], [], List.nil_sublist _, fun hot' h1 h2 h4 => ⟨.nil, .exc h⟩⟩
  · rw [set_ge (by rw [st.len]; omega), set_ge (by omega)]
    exact st
end
theorem GoodS.tr {W' : WX} (G : GoodS C cal N sc cf ca EX W X) (hc : cal = true) {pn : List (Addr × Obj)} {xe : Value → Shared → Prop} (tk : Takes (X.tr pn xe) W') (po : PassesOwn (model X.prog X.w) X.A X.env xe) : GoodS C cal N sc cf ca EX W' (X.tr pn xe) where
  g := { hN := G.g.hN, nd := G.g.nd, sr := G.g.sr, fo := G.g.fo, calm := G.g.calm, un := G.g.un, tk := tk, fns := G.g.fns, dfl := G.g.dfl, bl := G.g.bl, gls := G.g.gls, exN := G.g.exN, exI := fun h => by rw [hc] at h; cases h }
  esc := G.esc
  po := fun _ => po
  stk := G.stk
  frm := G.frm
  exK := G.exK
  exC := G.exC
  rs := G.rs
theorem GoodS.suite (G : GoodS C cal N sc cf ca EX W X) {a : Addr} {oe : Obj} {pn : List (Addr × Obj)} (hx : ∀ b c, EX' b c → CallR (X.suite a ((a, oe) :: pn)) (.builtin "isinstance") (rIsX X.K (ca c) b)) : GoodS C false N sc cf ca EX' W0 (X.suite a ((a, oe) :: pn)) where
  g := { hN := G.g.hN, nd := G.g.nd, sr := G.g.sr, fo := G.g.fo, calm := fun h => (nomatch h), un := G.g.un, tk := takes0, fns := fun h => (nomatch h), dfl := fun h => (nomatch h), bl := G.g.bl, gls := G.g.gls
         exN := fun k T h => by
          obtain ⟨cv, vv, h1, h2, h3, h4⟩ := G.exK k T h
          exact ⟨cv, vv, h1, h2, h3, fun _ a c _ => (h4 c).1⟩
         exI := fun _ => hx }
  esc := G.esc
  po := fun h => (nomatch h)
  stk := G.stk
  frm := G.frm
  exK := G.exK
  exC := G.exC
  rs := G.rs
theorem PostS.mono {H0 : Hp} {S : List Addr} {ts : List Tm} {En : Ends} {o : O} (h : PostS K ca EX W H0 S ts En o) (hx : ∀ r c, o ≠ .exc r c) {W' : WX} : PostS K ca EX W' H0 S ts En o := by
  cases o with
  | exc r c => exact absurd rfl (hx r c)
  | _ => exact h
section
variable (G : GoodS C cal N sc cf ca EX W X)
include G
theorem GoodS.names {k : Nat} {x : Str} (h : C.exs[k]? = some x) (hg : glB sc x = true) (hd : dbg x = true) : ∃ cv, Names X x cv ∧ ∀ c, PySem.W.exmOne X.K (.ref (ca c)) cv = some (C.sub c k) := by
  obtain ⟨cv, vv, h1, h2, h3, h4⟩ := G.exK k x h
  simp only [dbg, Bool.not_eq_true'] at hd
  exact ⟨cv, ⟨G.g.gl hg, hd, h3⟩, fun c => (h4 c).2⟩
theorem s_setc {i h : Nat} {h' : Nat} {elt : E} {t : Tg} {src : Sr} {cond : Eo} {x tg it : Expr} {y : Str} {ifs : List Expr} {scope : Scope} {p py p2 : Pos} (hc : cal = true) (hy : N[i]? = some y) (hl : sc.names.lookup y = some .local)
    (hsw : swapsWith (.ListComp x [⟨tg, it, ifs, 0⟩] scope p) (some (.Name y py)) p2.line X.env = pure true)
    (ok : BlkOk X.N X.env.scope scope (ownOf N t.ids)) (hi : PI X tg it (tSr C cf ca X.K EX W src))
    (hg : ∀ (s : Shared) (H : Hp) (C' : Addr) (cl : List (Str × Addr)) (fp : List Addr), PG (X.blk s H scope (compEnvC scope cl C' X.env) fp) tg (gTg X.K t))
    (ht : ∀ (s : Shared) (H : Hp) (C' : Addr) (cl : List (Str × Addr)) (fp : List Addr), PTs (X.blk s H scope (compEnvC scope cl C' X.env) fp) ifs (tIf C cf ca X.K EX W0 cond))
    (he : ∀ (s : Shared) (H : Hp) (C' : Addr) (cl : List (Str × Addr)) (fp : List Addr), PE (X.blk s H scope (compEnvC scope cl C' X.env) fp) x (tE C cf ca X.K EX W0 0 elt)) (hs : plainX it = true) :
    PS X (.Assign [.Name y py] (.ListComp x [⟨tg, it, ifs, 0⟩] scope p) p2) (tS X.K ca EX W (evS C.G C.sub cf fu (.set i h (.comp h' elt t src cond)))) := by
  have hids : (ownOf N t.ids).map (·.2) = t.ids := by simp [ownOf, Function.comp_def]
  refine PSimp (ps_setLc (G.g.calm hc) (by rw [G.g.hN]; exact G.g.nd) (by rw [G.g.hN]; exact hy) (by rw [G.esc]; exact hl) hsw hi ok hg ht he (plain_fold hs)) fun En σ H z => ?_
  rw [hids]
  obtain ⟨H0, S, ts, r, mine, st, z⟩ := z
  simp only [evS] at z
  exact comp_tLc G.g ⟨H0, S, ts, r, st, z.toO.imp fun a1 k v H1 st1 => k _ _ ((Sta.lowT st1 (Nat.min_le_left ..)).store i)⟩
theorem s_setT {js : List Nat} {e : E} {x t : Expr} {p : Pos} (hg : PG X t (gTg X.K (.tup js))) (ht : ∃ es k p, t = .Tuple es k p) (hx : isTupE x = false) (hp : plainX x = true) (he : PE X x (tE C cf ca X.K EX W 0 e)) :
    PS X (.Assign [t] x p) (tS X.K ca EX W (evS C.G C.sub cf fu (.setT js e))) := by
  obtain ⟨es, kk, p2, rfl⟩ := ht
  refine PSimp (ps_asg he hg (by cases x <;> first | rfl | cases hp) (by cases x <;> first | rfl | cases hx)) fun En σ H z => ?_
  obtain ⟨H0, S, ts, r, mine, st, z⟩ := z
  simp only [evS] at z
  refine ⟨H0, S, ts, r, st, z.toO.imp fun a1 k v H1 st1 => ?_⟩
  obtain ⟨r1, l1, d1⟩ := a1
  simp only at k
  cases d1 <;> first | exact k.elim | skip
  rename_i ds
  simp only at k
  split at k
  · rename_i hl
    exact put_sem (t := .tup js) (Sta.lowT st1 (Nat.zero_le _)) (show (if ds.length = js.length then some (setAll js ds r1) else none) = some (setAll js ds r1) by rw [if_pos hl]) fun σ' _ _ st2 => k σ' H1 st2
  · exact k.elim
theorem s_tryAs {b h : B} {c j : Nat} {xs ys : List Stmt} {x n : Str} {y : Stmt} {p p1 p2 : Pos} (nx : ∀ a c, ¬ EX a c) (hc : cal = true) (hx : C.exs[c]? = some x) (hg : glB sc x = true) (hd : dbg x = true) (hj : N[j]? = some n) (hl : sc.names.lookup n = some .local)
    (hb : ∀ W X, GoodS C true N sc cf ca EX W X → PSs X xs (tS X.K ca EX W (evB C.G C.sub cf fu b)))
    (hh : ∀ EX X, GoodS C false N sc cf ca EX W0 X → PSs X (y :: ys) (tS X.K ca EX W0 (evB C.G C.sub cf fu h))) :
    PS X (.Try xs [.ExceptHandler (some (.Name x p1)) (some n) (y :: ys) p2] [] [] p) (tS X.K ca EX W (evS C.G C.sub cf fu (.try_ b c (some j) h))) := by
  subst hc
  obtain ⟨cv, nm, em⟩ := G.names hx hg hd
  refine PSimp (ps_try_as (i := j) (tb := fun W' => tS X.K ca EX W' (evB C.G C.sub cf fu b)) (ts := fun a cls d En σ H => ∃ c', cls = .ref (ca c') ∧ d = none ∧ tS X.K ca (fun b k => b = a ∧ k = c') W0 (evB C.G C.sub cf fu h) En σ H)
    G.stk G.frm (by rw [G.g.hN]; exact G.g.nd) (by rw [G.g.hN]; exact hj) (by unfold Env.kindOf; rw [G.esc]; exact hl) nm G.g.tk (fun W' pn xe tk po => hb W' _ (G.tr rfl tk po)) (fun a oe cls d pn hz hf => ?_)) fun En σ H z => ?_
  · refine ⟨fun pins s σ H En I q => ?_⟩
    obtain ⟨c', rfl, rfl, q⟩ := q
    exact (hh _ _ (G.suite (EX' := fun b k => b = a ∧ k = c') (oe := oe) (pn := pn) fun b k e => by
      obtain ⟨rfl, rfl⟩ := e
      exact call_isX (G.exC (fun e => by rw [e] at hx; simp at hx) k) hz hf)).run pins s σ H En I q
  · obtain ⟨H0, S, ts, r, mine, st, z⟩ := z
    simp only [evS] at z
    refine ⟨H0, S, ts, r, mine, st, ?_⟩
    revert z
    cases evB C.G C.sub cf fu b r with
    | nx r1 => exact fun z => z
    | bk r1 => exact fun z => z
    | ct r1 => exact fun z => z
    | ret l d => exact fun z => z
    | bad => exact fun z => z
    | exc r1 k =>
      intro z σ1 H1 st1
      simp only at z
      refine ⟨C.sub k c, em k, fun hs a ha => ?_, fun hs => ?_⟩
      · rw [if_pos hs] at z
        refine ⟨k, rfl, rfl, H0, S, ts, r1.set j (some (100 + k, .exn)), mine, (st1.mono fun a c e => absurd e (nx a c)).putExc ⟨rfl, rfl⟩ j, ?_⟩
        revert z
        cases evB C.G C.sub cf fu h (r1.set j (some (100 + k, .exn))) with
        | nx r2 =>
          intro z σ2 H2 st2
          simp only at z
          split at z
          · rename_i hn
            exact z _ _ ((st2.drop j none).noX hn)
          · exact z.elim
        | bk r2 =>
          intro z σ2 H2 st2
          simp only at z
          split at z
          · rename_i hn
            exact z _ _ ((st2.drop j none).noX hn)
          · exact z.elim
        | ct r2 =>
          intro z σ2 H2 st2
          simp only at z
          split at z
          · rename_i hn
            exact z _ _ ((st2.drop j none).noX hn)
          · exact z.elim
        | ret l d => exact fun z => z
        | exc r2 c2 => exact fun z => z.elim
        | bad => exact fun z => z
      · rw [if_neg (by rw [hs]; exact Bool.false_ne_true)] at z
        exact z _ _ st1
theorem s_tryOnly {b h : B} {c : Nat} {xs ys : List Stmt} {x : Str} {y : Stmt} {p p1 p2 : Pos} (nx : ∀ a c, ¬ EX a c) (hc : cal = true) (hx : C.exs[c]? = some x) (hg : glB sc x = true) (hd : dbg x = true)
    (hb : ∀ W X, GoodS C true N sc cf ca EX W X → PSs X xs (tS X.K ca EX W (evB C.G C.sub cf fu b)))
    (hh : ∀ EX X, GoodS C false N sc cf ca EX W0 X → PSs X (y :: ys) (tS X.K ca EX W0 (evB C.G C.sub cf fu h))) :
    PS X (.Try xs [.ExceptHandler (some (.Name x p1)) none (y :: ys) p2] [] [] p) (tS X.K ca EX W (evS C.G C.sub cf fu (.try_ b c none h))) := by
  subst hc
  obtain ⟨cv, nm, em⟩ := G.names hx hg hd
  refine PSimp (ps_try_only (tb := fun W' => tS X.K ca EX W' (evB C.G C.sub cf fu b)) (ts := fun a cls d En σ H => tS X.K ca EX W0 (evB C.G C.sub cf fu h) En σ H)
    G.stk G.frm nm G.g.tk (fun W' pn xe tk po => hb W' _ (G.tr rfl tk po)) (fun a oe cls d pn hz hf => ?_)) fun En σ H z => ?_
  · exact hh _ _ (G.suite (EX' := EX) (oe := oe) (pn := pn) fun b k e => absurd e (nx b k))
  · obtain ⟨H0, S, ts, r, mine, st, z⟩ := z
    simp only [evS] at z
    refine ⟨H0, S, ts, r, mine, st, ?_⟩
    revert z
    cases evB C.G C.sub cf fu b r with
    | nx r1 => exact fun z => z
    | bk r1 => exact fun z => z
    | ct r1 => exact fun z => z
    | ret l d => exact fun z => z
    | bad => exact fun z => z
    | exc r1 k =>
      intro z σ1 H1 st1
      simp only at z
      refine ⟨C.sub k c, em k, fun hs a ha => ?_, fun hs => ?_⟩
      · rw [if_pos hs] at z
        refine ⟨H0, S, ts, r1, mine, st1, ?_⟩
        revert z
        cases evB C.G C.sub cf fu h r1 with
        | exc r2 c2 => exact fun z => z.elim
        | _ => exact fun z => z
      · rw [if_neg (by rw [hs]; exact Bool.false_ne_true)] at z
        exact z _ _ st1
theorem s_try2 {b h h' : B} {c c' : Nat} {xs ys ys' : List Stmt} {x x' : Str} {y y' : Stmt} {p p1 p2 p3 p4 : Pos} (nx : ∀ a c, ¬ EX a c) (hc : cal = true) (hx : C.exs[c]? = some x) (hg : glB sc x = true) (hd : dbg x = true) (hx' : C.exs[c']? = some x') (hg' : glB sc x' = true) (hd' : dbg x' = true)
    (hb : ∀ W X, GoodS C true N sc cf ca EX W X → PSs X xs (tS X.K ca EX W (evB C.G C.sub cf fu b)))
    (hh : ∀ EX X, GoodS C false N sc cf ca EX W0 X → PSs X (y :: ys) (tS X.K ca EX W0 (evB C.G C.sub cf fu h)))
    (hh' : ∀ EX X, GoodS C false N sc cf ca EX W0 X → PSs X (y' :: ys') (tS X.K ca EX W0 (evB C.G C.sub cf fu h'))) :
    PS X (.Try xs [.ExceptHandler (some (.Name x p1)) none (y :: ys) p2, .ExceptHandler (some (.Name x' p3)) none (y' :: ys') p4] [] [] p) (tS X.K ca EX W (evS C.G C.sub cf fu (.try2 b c h c' h'))) := by
  subst hc
  obtain ⟨cv, nm, em⟩ := G.names hx hg hd
  obtain ⟨cv', nm', em'⟩ := G.names hx' hg' hd'
  refine PSimp (ps_try_many (tb := fun W' => tS X.K ca EX W' (evB C.G C.sub cf fu b)) (l := [(cv, fun a cls d En σ H => tS X.K ca EX W0 (evB C.G C.sub cf fu h) En σ H), (cv', fun a cls d En σ H => tS X.K ca EX W0 (evB C.G C.sub cf fu h') En σ H)])
    G.stk G.frm G.g.tk (fun W' pn xe tk po => hb W' _ (G.tr rfl tk po)) (.cons nm (fun a oe cls d pn hz hf => ?_) (.cons nm' (fun a oe cls d pn hz hf => ?_) .nil))) fun En σ H z => ?_
  · exact hh _ _ (G.suite (EX' := EX) (oe := oe) (pn := pn) fun b k e => absurd e (nx b k))
  · exact hh' _ _ (G.suite (EX' := EX) (oe := oe) (pn := pn) fun b k e => absurd e (nx b k))
  · obtain ⟨H0, S, ts, r, mine, st, z⟩ := z
    simp only [evS] at z
    refine ⟨H0, S, ts, r, mine, st, ?_⟩
    revert z
    cases evB C.G C.sub cf fu b r with
    | nx r1 => exact fun z => z
    | bk r1 => exact fun z => z
    | ct r1 => exact fun z => z
    | ret l d => exact fun z => z
    | bad => exact fun z => z
    | exc r1 k =>
      intro z σ1 H1 st1
      simp only at z
      refine ⟨C.sub k c, em k, fun hs a ha => ?_, fun hs => ⟨C.sub k c', em' k, fun hs' a ha => ?_, fun hs' => ?_⟩⟩
      · rw [if_pos hs] at z
        refine ⟨H0, S, ts, r1, mine, st1, ?_⟩
        revert z
        cases evB C.G C.sub cf fu h r1 with
        | exc r2 c2 => exact fun z => z.elim
        | _ => exact fun z => z
      · rw [if_neg (by rw [hs]; exact Bool.false_ne_true), if_pos hs'] at z
        refine ⟨H0, S, ts, r1, mine, st1, ?_⟩
        revert z
        cases evB C.G C.sub cf fu h' r1 with
        | exc r2 c2 => exact fun z => z.elim
        | _ => exact fun z => z
      · rw [if_neg (by rw [hs]; exact Bool.false_ne_true), if_neg (by rw [hs']; exact Bool.false_ne_true)] at z
        exact z _ _ st1
end
end
end Ly

set_option Elab.async false
set_option linter.all false
set_option maxRecDepth 100000
set_option maxHeartbeats 2000000
/-! All statements together; defs; the law's entry. -/
namespace Ly
open PySem PySem.Spec PyProof.Rows L2
section
variable {C : Cfg} {N : List Str} {sc : Scope} {cf : Nat → List D → CR} {ca : Nat → Addr} {fu : Nat}
/-- what is never come to -/
theorem s_bad {EX : Addr → Nat → Prop} {W : WX} {X : Cx} (x : Stmt) : PS X x (tS X.K ca EX W (evS C.G C.sub cf fu .bad)) := ⟨fun pins s σ H E I q => by
  obtain ⟨_, _, _, _, _, _, z⟩ := q
  simp only [evS] at z
  exact z.elim⟩
mutual
theorem sS : ∀ (s : S) (x : Stmt) (cal : Bool) (EX : Addr → Nat → Prop) (W : WX) (X : Cx), GoodS C cal N sc cf ca EX W X → (cal = true → ∀ a c, ¬ EX a c) → mS C N sc cal s x = true → PS X x (tS X.K ca EX W (evS C.G C.sub cf fu s))
  | .set i h e, s, cal, EX, W, X, G, nx, hm => by
    simp only [mS] at hm
    split at hm
    · rename_i t x p e1
      obtain rfl := dAsg_eq e1
      split at hm
      · rename_i y py e2
        obtain rfl := dNameP_eq e2
        simp only [Bool.and_eq_true, decide_eq_true_eq, Bool.or_eq_true, Bool.not_eq_true'] at hm
        obtain ⟨⟨⟨h1, h2⟩, h3⟩, h4⟩ := hm
        have hk : sc.kind = .function := by have := G.g.sr.1; rw [G.esc] at this; exact this
        have sw := fun l => swB_eq (t := y) (pos := py) (l := l) (env := X.env) h3 G.esc hk
        rcases h4 with h4 | ⟨hc, h4⟩
        · exact s_set0 G h1 h2 (by rw [sw, h4]) ((sE e x sc W X G.g h3).1 0)
        · cases hsw : swB sc y py x with
          | false => exact s_set0 G h1 h2 (by rw [sw, hsw]) ((sE e x sc W X G.g h3).1 0)
          | true =>
            cases e <;> first | cases h4 | skip
            rename_i hh elt tt src cond
            have h3' := h3
            simp only [mE] at h3'
            split at h3'
            · rename_i u tg it ifs sc' e3
              obtain ⟨p3, rfl⟩ := dComp_eq e3
              simp only [Bool.and_eq_true] at h3'
              obtain ⟨⟨⟨⟨⟨k1, k2⟩, k3⟩, k4⟩, k5⟩, k6⟩ := h3'
              have hk' := (blkOk_by k3).kind
              have hloc : sc.names.lookup y = some .local := by
                have z := hsw
                unfold swB at z
                simp only [Bool.and_eq_true, beq_iff_eq] at z
                exact z.1.1
              exact s_setc G hc h1 hloc (by rw [sw, hsw]) (G.g.blkOk k3) (sSr src tg it sc W X G.g k2)
                (fun s H C' cl fp => g_tg (G.g.blk hc hk' s H C' cl fp) hc k4)
                (fun s H C' cl fp => sIf cond ifs sc' W0 _ (G.g.blk hc hk' s H C' cl fp) k6)
                (fun s H C' cl fp => (sE elt u sc' W0 _ (G.g.blk hc hk' s H C' cl fp) k5).1 0) (mSr_plain src tg it k2)
            · cases h3'
      · cases hm
    · cases hm
  | .setT js e, s, cal, EX, W, X, G, nx, hm => by
    simp only [mS] at hm
    split at hm
    · rename_i t x p e1
      obtain rfl := dAsg_eq e1
      simp only [Bool.and_eq_true, Bool.not_eq_true'] at hm
      obtain ⟨⟨⟨h1, h2⟩, h3⟩, h4⟩ := hm
      refine s_setT G (g_tg G.g h1 h2) ?_ h4 (mE_plain e x h3) ((sE e x sc W X G.g h3).1 0)
      simp only [mTg] at h2
      split at h2
      · rename_i es e2
        obtain ⟨k, p, rfl⟩ := dTup_eq e2
        exact ⟨es, k, p, rfl⟩
      · cases h2
    · cases hm
  | .drop e, s, cal, EX, W, X, G, nx, hm => by
    simp only [mS] at hm
    split at hm
    · rename_i x e1
      obtain ⟨p, rfl⟩ := dExp_eq e1
      simp only [Bool.and_eq_true, Bool.not_eq_true'] at hm
      have hp := mE_plain e x hm.1
      exact s_drop G (by cases x <;> first | rfl | exact absurd (show true = false from hm.2) (by decide) | cases hp) ((sE e x sc W X G.g hm.1).1 9)
    · cases hm
  | .app i e, s, cal, EX, W, X, G, nx, hm => by
    simp only [mS] at hm
    split at hm
    · rename_i c e1
      obtain ⟨p, rfl⟩ := dExp_eq e1
      split at hm
      · rename_i y m x e2
        obtain ⟨p1, p2, p3, rfl, hl⟩ := dMeth_eq e2
        simp only [Bool.and_eq_true, decide_eq_true_eq] at hm
        obtain ⟨⟨rfl, h1⟩, h2⟩ := hm
        exact s_app G h1 hl (mE_plain e x h2) ((sE e x sc W X G.g h2).1 0)
      · cases hm
    · cases hm
  | .ext i e, s, cal, EX, W, X, G, nx, hm => by
    simp only [mS] at hm
    split at hm
    · rename_i c e1
      obtain ⟨p, rfl⟩ := dExp_eq e1
      split at hm
      · rename_i y m x e2
        obtain ⟨p1, p2, p3, rfl, hl⟩ := dMeth_eq e2
        simp only [Bool.and_eq_true, decide_eq_true_eq] at hm
        obtain ⟨⟨rfl, h1⟩, h2⟩ := hm
        exact s_ext G h1 hl (mE_plain e x h2) ((sE e x sc W X G.g h2).1 1)
      · cases hm
    · cases hm
  | .appP _ _ _, s, cal, EX, W, X, G, nx, hm => by simp [mS] at hm
  | .clear i, s, cal, EX, W, X, G, nx, hm => by
    simp only [mS] at hm
    split at hm
    · rename_i c e1
      obtain ⟨p, rfl⟩ := dExp_eq e1
      split at hm
      · rename_i y m e2
        obtain ⟨p1, p2, p3, rfl, hl⟩ := dMeth0_eq e2
        simp only [Bool.and_eq_true, decide_eq_true_eq] at hm
        obtain ⟨rfl, h1⟩ := hm
        exact s_clear G h1 hl
      · cases hm
    · cases hm
  | .aug i o e, s, cal, EX, W, X, G, nx, hm => by
    simp only [mS] at hm
    split at hm
    · rename_i t op x e1
      obtain ⟨p, rfl⟩ := dAug_eq e1
      split at hm
      · rename_i y e2
        obtain ⟨p2, rfl⟩ := dName_eq e2
        simp only [Bool.and_eq_true, decide_eq_true_eq, Bool.or_eq_true] at hm
        obtain ⟨⟨⟨h1, h2⟩, h3⟩, h4⟩ := hm
        exact s_aug G h1 h2 h4 ((sE e x sc W X G.g h3).1 9)
      · cases hm
    · cases hm
  | .seti i k e, s, cal, EX, W, X, G, nx, hm => by
    simp only [mS] at hm
    split at hm
    · rename_i t x p e1
      obtain rfl := dAsg_eq e1
      split at hm
      · rename_i n u e2
        obtain ⟨p2, rfl⟩ := dSub_eq e2
        split at hm
        · rename_i y e3
          obtain ⟨p3, rfl⟩ := dName_eq e3
          simp only [Bool.and_eq_true] at hm
          obtain ⟨⟨h1, h2⟩, h3⟩ := hm
          exact s_seti G h1 ((sE k u sc W X G.g h2).1 9) ((sE e x sc W X G.g h3).1 0) (mE_plain e x h3) (mE_plain k u h2)
        · cases hm
      · cases hm
    · cases hm
  | .dput i k e, s, cal, EX, W, X, G, nx, hm => by
    simp only [mS] at hm
    split at hm
    · rename_i t x p e1
      obtain rfl := dAsg_eq e1
      split at hm
      · rename_i n u e2
        obtain ⟨p2, rfl⟩ := dSub_eq e2
        split at hm
        · rename_i y e3
          obtain ⟨p3, rfl⟩ := dName_eq e3
          simp only [Bool.and_eq_true] at hm
          obtain ⟨⟨h1, h2⟩, h3⟩ := hm
          exact s_dput G h1 ((sE k u sc W X G.g h2).1 9) ((sE e x sc W X G.g h3).1 0) (mE_plain e x h3) (mE_plain k u h2)
        · cases hm
      · cases hm
    · cases hm
  | .ife c a b, s, cal, EX, W, X, G, nx, hm => by
    simp only [mS] at hm
    split at hm
    · rename_i x xs ys e1
      obtain ⟨p, rfl⟩ := dIfS_eq e1
      simp only [Bool.and_eq_true] at hm
      obtain ⟨⟨h1, h2⟩, h3⟩ := hm
      exact s_ife G (sE c x sc W X G.g h1).2 (sB a xs cal EX W X G nx h2) (sB b ys cal EX W X G nx h3)
    · cases hm
  | .for_ t src b, s, cal, EX, W, X, G, nx, hm => by
    simp only [mS] at hm
    split at hm
    · rename_i tg it xs e1
      obtain ⟨p, rfl⟩ := dFor_eq e1
      simp only [Bool.and_eq_true, Bool.not_eq_true'] at hm
      obtain ⟨⟨⟨⟨h1, h0⟩, h2⟩, h3⟩, h4⟩ := hm
      exact s_for G h1 h0 (sSr src tg it sc W X G.g h2) (g_tg G.g h1 h3) (sB b xs cal EX W X G nx h4) (mSr_plain src tg it h2)
    · cases hm
  | .whl c b, s, cal, EX, W, X, G, nx, hm => by
    simp only [mS] at hm
    split at hm
    · rename_i x xs e1
      obtain ⟨p, rfl⟩ := dWhl_eq e1
      simp only [Bool.and_eq_true] at hm
      obtain ⟨⟨h1, h2⟩, h3⟩ := hm
      exact s_whl G h1 (sE c x sc W X G.g h2).2 (sB b xs cal EX W X G nx h3)
    · cases hm
  | .ret e, s, cal, EX, W, X, G, nx, hm => by
    simp only [mS] at hm
    split at hm
    · rename_i x e1
      obtain ⟨p, rfl⟩ := dRet_eq e1
      exact s_ret G ((sE e x sc W X G.g hm).1 0)
    · cases hm
  | .retN, s, cal, EX, W, X, G, nx, hm => by
    simp only [mS] at hm
    split at hm
    · rename_i e1
      obtain ⟨p, rfl⟩ := dRet_eq e1
      exact s_retN G
    · cases hm
  | .raise c m, s, cal, EX, W, X, G, nx, hm => by
    simp only [mS] at hm
    split at hm
    · rename_i x m' e1
      obtain ⟨j, p, p1, p2, p3, rfl⟩ := dRaise_eq e1
      simp only [Bool.and_eq_true, decide_eq_true_eq] at hm
      obtain ⟨⟨⟨⟨⟨h1, h2⟩, h3⟩, rfl⟩, h5⟩, h6⟩ := hm
      exact s_raise G h1 h2 h3 h5 h6
    · cases hm
  | .try_ b c i h, s, cal, EX, W, X, G, nx, hm => by
    simp only [mS] at hm
    split at hm
    · rename_i xs x n y ys e1
      obtain ⟨p, p1, p2, rfl⟩ := dTry_eq e1
      simp only [Bool.and_eq_true, decide_eq_true_eq] at hm
      obtain ⟨⟨⟨⟨⟨⟨h1, h2⟩, h3⟩, h4⟩, h5⟩, h6⟩, h7⟩ := hm
      cases i with
      | some j =>
        cases n with
        | some m =>
          simp only [Bool.and_eq_true, decide_eq_true_eq] at h7
          exact s_tryAs G (nx h1) h1 h2 h3 h4 h7.1 h7.2 (fun W X G' => sB b xs true EX W X G' (fun _ => nx h1) h5) (fun EX' X G' => sB h (y :: ys) false EX' W0 X G' (fun z => nomatch z) h6)
        | none => cases h7
      | none =>
        cases n with
        | some m => cases h7
        | none => exact s_tryOnly G (nx h1) h1 h2 h3 h4 (fun W X G' => sB b xs true EX W X G' (fun _ => nx h1) h5) (fun EX' X G' => sB h (y :: ys) false EX' W0 X G' (fun z => nomatch z) h6)
    · cases hm
  | .try2 b c1 h1 c2 h2, s, cal, EX, W, X, G, nx, hm => by
    simp only [mS] at hm
    split at hm
    · rename_i xs x y ys x' y' ys' e1
      obtain ⟨p, p1, p2, p3, p4, rfl⟩ := dTry2_eq e1
      simp only [Bool.and_eq_true, decide_eq_true_eq] at hm
      obtain ⟨⟨⟨⟨⟨⟨⟨⟨⟨k1, k2⟩, k3⟩, k4⟩, k5⟩, k6⟩, k7⟩, k8⟩, k9⟩, k10⟩ := hm
      exact s_try2 G (nx k1) k1 k2 k3 k4 k5 k6 k7 (fun W X G' => sB b xs true EX W X G' (fun _ => nx k1) k8) (fun EX' X G' => sB h1 (y :: ys) false EX' W0 X G' (fun z => nomatch z) k9) (fun EX' X G' => sB h2 (y' :: ys') false EX' W0 X G' (fun z => nomatch z) k10)
    · cases hm
  | .popS i, s, cal, EX, W, X, G, nx, hm => by
    simp only [mS] at hm
    split at hm
    · rename_i c e1
      obtain ⟨p, rfl⟩ := dExp_eq e1
      split at hm
      · rename_i y m e2
        obtain ⟨p1, p2, p3, rfl, hl⟩ := dMeth0_eq e2
        simp only [Bool.and_eq_true, decide_eq_true_eq] at hm
        obtain ⟨rfl, h1⟩ := hm
        exact s_pop G h1 hl
      · cases hm
    · cases hm
  | .pass, s, cal, EX, W, X, G, nx, hm => by
    simp only [mS] at hm
    unfold isPass at hm
    split at hm
    · exact s_nx G ps_pass fun r => by simp only [evS]
    · exact s_nx G ps_doc fun r => by simp only [evS]
    · cases hm
  | .brk, s, cal, EX, W, X, G, nx, hm => by
    simp only [mS] at hm
    unfold isBrk at hm
    split at hm
    · exact s_brk G
    · cases hm
  | .cont, s, cal, EX, W, X, G, nx, hm => by
    simp only [mS] at hm
    unfold isCont at hm
    split at hm
    · exact s_cont G
    · cases hm
  | .bad, s, cal, EX, W, X, G, nx, hm => s_bad s
theorem sB : ∀ (b : B) (xs : List Stmt) (cal : Bool) (EX : Addr → Nat → Prop) (W : WX) (X : Cx), GoodS C cal N sc cf ca EX W X → (cal = true → ∀ a c, ¬ EX a c) → mB C N sc cal b xs = true → PSs X xs (tS X.K ca EX W (evB C.G C.sub cf fu b))
  | .nil, [], cal, EX, W, X, G, nx, hm => b_nil G
  | .nil, _ :: _, cal, EX, W, X, G, nx, hm => by simp [mB] at hm
  | .cons _ _, [], cal, EX, W, X, G, nx, hm => by simp [mB] at hm
  | .cons s b, x :: xs, cal, EX, W, X, G, nx, hm => by
    simp only [mB, Bool.and_eq_true] at hm
    exact b_cons G (sS s x cal EX W X G nx hm.1) (sB b xs cal EX W X G nx hm.2)
end
end

/-! ### defs -/
/-- a def as it stands behind the top, with defaults or without -/
def FunX (K : PySem.W.Frag) (x : Str) (st : Stmt) (fa : Addr) (fd : FuncData) : Prop := ∃ dvs, FunD K x x (defArgs st) (defBody st) (defScope st) dvs [] fa fd
theorem FunX.of {K : PySem.W.Frag} {x : Str} {st : Stmt} {fa : Addr} {fd : FuncData} (F : Fun K x x st fa fd) : FunX K x st fa fd := by
  obtain ⟨oc, od, kV, doc, pm, an, cdv, ct, osl, e, lk, hcd⟩ := F.ex
  exact ⟨[], ⟨oc, od, .none, kV, doc, pm, an, cdv, ct, osl, e, lk, hcd, .inl ⟨rfl, rfl⟩, .inl rfl⟩, F.kp⟩
/-- a def of the program, of ours -/
def DefAt (K : PySem.W.Frag) (mg : Str → Option Value) (C : Cfg) (T : List Fn) (f : Nat) (x : Str) (fa : Addr) (fd : FuncData) (ps : List Str) : Prop :=
  ∃ (st : Stmt) (N : List Str) (F : Fn), mg x = some (.ref fa) ∧ PySem.W.keepIn K (.ref fa) = true ∧ FunX K x st fa fd ∧ Binds K fd ps [] ∧ (∀ ss, (f, ss) ∈ C.dfl → ∃ dsv, Vals (ss.map V.str) dsv ∧ Binds K fd ps dsv) ∧ FnScope N ps (defScope st) ∧ T[f]? = some F ∧ F.np = ps.length ∧ F.nn = N.length ∧ mB C N (defScope st) true F.body (defBody st) = true
structure DefOk (K : PySem.W.Frag) (mg : Str → Option Value) (C : Cfg) (T : List Fn) (f : Nat) (x : Str) : Prop where
  ex : ∃ (fa : Addr) (fd : FuncData) (ps : List Str), DefAt K mg C T f x fa fd ps
structure Tops (K : PySem.W.Frag) (mg : Str → Option Value) (C : Cfg) (ca : Nat → Addr) : Prop where
  bl : ∀ x ∈ bNames, mg x = none
  gls : ∀ (g : Nat) (p : Str × D), C.gls[g]? = some p → ∃ u v, mg p.1 = some u ∧ RelV v u ∧ ∀ H hot, Rep K H hot 0 v p.2 []
  exK : ∀ (k : Nat) (T : Str), C.exs[k]? = some T → ∃ cv vv, RelV vv cv ∧ (∀ u, RelV vv u → u = cv) ∧ (mg T = some cv ∨ (mg T = none ∧ bootBuiltins T = some cv ∧ T ≠ "__name__")) ∧ ∀ c, PySem.W.kitOne K (.ref (ca c)) cv = some (C.sub c k) ∧ PySem.W.exmOne K (.ref (ca c)) cv = some (C.sub c k)
  exC : C.exs ≠ [] → ∀ c, ExcC K (ca c)
  rs : ∀ (k : Nat) (T : Str), C.exs[k]? = some T → k < C.nown → ∃ (newId initId B : String) (bmB : List Value), ExcBaseFacts B newId initId bmB ∧ PySem.W.excIn K (ca k) bmB newId = true ∧ mg T = some (.ref (ca k)) ∧ PySem.W.keepIn K (.ref (ca k)) = true ∧ PySem.W.subIn K (.ref (ca k)) (.type "BaseException") = some true ∧ PySem.W.typeIn K (.ref (ca k)) = some (.type "type")
def NoEX : Addr → Nat → Prop := fun _ _ => False
section
variable {P : Program} {w : World} {K : PySem.W.Frag} {mg : Str → Option Value} {base : Heap} {C : Cfg} {ca : Nat → Addr} {fu : Nat} {T : List Fn}
theorem Slots.args {H : Hp} {hot : List Addr} : ∀ {vs : List V} {ds : List D} {A : List Addr}, Reps K H hot 0 vs ds A → ∀ n, Slots K NoEX H hot (vs.map some ++ List.replicate n none) (ds.map (fun d => some (0, d)) ++ List.replicate n none) A
  | _, _, _, .nil _, n => by
    induction n with
    | zero => exact .nil
    | succ n ih => exact Slots.cons (A := []) .non ih
  | _, _, _, .cons h hs, n => Slots.cons (.sm h) (Slots.args hs n)
theorem fns_ok (D : ∀ f x, C.fns[f]? = some x → DefOk K mg C T f x) (Tp : Tops K mg C ca) : ∀ (n : Nat) (f : Nat) (x : Str) (fa : Addr) (fd : FuncData) (ps : List Str), DefAt K mg C T f x fa fd ps → FnOk P w K mg base (L2.CX P w) n fa fd ps (spF K ca (callF C.G C.sub T fu n) f) := by
  intro n
  induction n with
  | zero =>
    intro f x fa fd ps hf
    refine ⟨fun vs H Q E h => ?_, fun A outer s H args us vs Q E hr he hb hv h => ?_⟩
    · obtain ⟨S, ds, _, _, h⟩ := h
      exact h.elim
    · obtain ⟨S, ds, _, _, h⟩ := h
      exact h.elim
  | succ n ih =>
    intro f x fa fd ps hf
    obtain ⟨st, N, F, h1, h2, ⟨dvs, h3⟩, h4, _, h5, h6, h7, h8, h9⟩ := hf
    refine h3.ok h5 (fun vs H Q E h => ?_) fun cdv A outer s H vs Q E hr h => ⟨tS K ca NoEX (fun cls d _ H => E cls d H) (evB C.G C.sub (callF C.G C.sub T fu n) fu F.body), ?_, ?_⟩
    · obtain ⟨S, ds, _, rp, h⟩ := h
      rw [callF, h6] at h
      simp only at h
      rw [rp.length]
      split at h
      · rename_i e
        split at e
        · rw [← h7]; assumption
        · cases e
      · rename_i e
        split at e
        · rw [← h7]; assumption
        · cases e
      · exact h.elim
    · refine sB F.body (defBody st) true NoEX _ _ (sc := defScope st) ?_ (fun _ _ _ h => h) h9
      refine { g := { hN := rfl, nd := h5.nd, sr := ⟨h5.kind, fun x k h => ⟨k, h, .inl rfl⟩⟩, fo := fun x h => rfl, calm := fun _ => rfl, un := ?_, tk := takes_of rfl rfl rfl rfl, fns := fun _ f' x' hf' => ?_, dfl := fun _ f' ss hs x' hf' => ?_, bl := Tp.bl, gls := Tp.gls, exN := fun k T' h => ?_, exI := fun h => nomatch h }, esc := rfl, po := fun _ => passes_of rfl, stk := rfl, frm := rfl, exK := Tp.exK, exC := Tp.exC, rs := fun k T' h hk => ?_ }
      · have := hr.un
        show (A.deeper _).units + 70 < cLine
        omega
      · obtain ⟨fa', fd', ps', hd⟩ := (D f' x' hf').ex
        have k4 := ih f' x' fa' fd' ps' hd
        obtain ⟨st', N', F', k1, k2, _, k3, _⟩ := hd
        exact ⟨fa', fd', ps', n, k1, k2, k3, k4, hr⟩
      · obtain ⟨fa', fd', ps', hd⟩ := (D f' x' hf').ex
        have k4 := ih f' x' fa' fd' ps' hd
        obtain ⟨st', N', F', k1, k2, _, _, k3, _⟩ := hd
        obtain ⟨dsv, k5, k6⟩ := k3 ss hs
        exact ⟨fa', fd', ps', n, dsv, k1, k2, k6, k5, k4, hr⟩
      · obtain ⟨cv, vv, k1, k2, k3, k4⟩ := Tp.exK k T' h
        exact ⟨cv, vv, k1, k2, k3, fun z => nomatch z⟩
      · obtain ⟨newId, initId, B, bmB, k1, k2, k3, k4, k5, k6⟩ := Tp.rs k T' h hk
        exact ⟨newId, initId, B, bmB, k1, k2, k3, k4, raises_own k5 k6⟩
    · obtain ⟨S, ds, hd, rp, h⟩ := h
      rw [callF, h6] at h
      simp only at h
      have hl := rp.length
      have sta : Sta K NoEX H S [] (L2.start N vs) (startE F.nn ds) H := by
        refine ⟨Same.refl H, hd, [], [], .nil, by simp, .nil, ?_⟩
        unfold L2.start startE
        rw [h8, ← hl, List.append_nil, List.append_nil]
        exact Slots.args rp.zero _
      refine ⟨H, S, [], startE F.nn ds, by simp, sta, ?_⟩
      by_cases hnp : ds.length = F.np
      · rw [if_pos hnp] at h
        revert h
        cases evB C.G C.sub (callF C.G C.sub T fu n) fu F.body (startE F.nn ds) with
        | nx r => exact fun h σ H' st => h .non H' [] st.ex .nil (by simp) (.non 0)
        | bk r => exact fun h => h.elim
        | ct r => exact fun h => h.elim
        | bad => exact fun h => h.elim
        | exc r c => exact fun h σ H' st => h H' st.ex
        | ret l d => exact fun h v H' A sm nd nw rp => h v H' A sm nd (fun a ha => (nw a ha).1) rp
      · rw [if_neg hnp] at h
        exact h.elim
/-- the law's own call -/
theorem spF_law {n f : Nat} {H : Hp} {a : Addr} {ns : List Int} (hS : SqL K H a (ns.map V.int)) (hl : ∃ l, callF C.G C.sub T fu n f [.lst (ns.map D.int)] = .ok l (.bl true)) : spF K ca (callF C.G C.sub T fu n) f [.ref a] H (fun v _ => v = .bl true) fun _ _ _ => False := by
  obtain ⟨l, hl⟩ := hl
  have mkI : ∀ ns : List Int, RepTs K H [] [] 0 (ns.map V.int) (ns.map D.int) := fun ns => by
    induction ns with
    | nil => exact .nil 0
    | cons n ns ih => exact .cons (.int 0 n) ih
  refine ⟨[], [.lst (ns.map D.int)], by simp, .cons (.lst0 ?_ (mkI ns)) (.nil 0), ?_⟩
  · rcases hS with h | h
    · exact .inl ⟨h, by simp⟩
    · exact .inr h
  · rw [hl]
    intro v H' A _ _ _ rp
    cases rp
    rfl
end
end Ly

set_option Elab.async false
set_option linter.all false
set_option maxRecDepth 100000
set_option maxHeartbeats 2000000
/-! Reckoning in the small language. -/
namespace Ly
open PySem

/-- a for over xs: P of what is still to come and the frame -/
theorem forT_list {α : Type} {g : α → D} {t : Tg} {f : Env → O} (P : List α → Env → Prop) : ∀ (l : List α) (r : Env), P l r →
    (∀ x rest q, P (x :: rest) q → ∃ q1 q2, t.put (g x) q = some q1 ∧ (f q1 = .nx q2 ∨ f q1 = .ct q2) ∧ P rest q2) → ∃ q, forT t f (l.map g) r = .nx q ∧ P [] q
  | [], r, h, _ => ⟨r, rfl, h⟩
  | x :: l, r, h, st => by
    obtain ⟨q1, q2, e1, e2, h2⟩ := st x l r h
    obtain ⟨q, e3, h3⟩ := forT_list P l q2 h2 st
    refine ⟨q, ?_, h3⟩
    unfold forT at e3 ⊢
    rw [List.map_cons, forLoop, e1]
    simp only
    rcases e2 with e2 | e2
    · rw [e2]; exact e3
    · rw [e2]; exact e3
/-- .. with an exit: at the first x that is out -/
theorem forT_find {α : Type} {g : α → D} {t : Tg} {f : Env → O} (out : O) (P : List α → Env → Prop) (ho : ∀ r, out ≠ .nx r ∧ out ≠ .ct r ∧ out ≠ .bk r) : ∀ (l : List α) (r : Env), P l r →
    (∀ x rest q, P (x :: rest) q → ∃ q1, t.put (g x) q = some q1 ∧ (f q1 = out ∨ ∃ q2, (f q1 = .nx q2 ∨ f q1 = .ct q2) ∧ P rest q2)) → forT t f (l.map g) r = out ∨ ∃ q, forT t f (l.map g) r = .nx q ∧ P [] q
  | [], r, h, _ => .inr ⟨r, rfl, h⟩
  | x :: l, r, h, st => by
    obtain ⟨q1, e1, e2 | ⟨q2, e2, h2⟩⟩ := st x l r h
    · left
      unfold forT
      rw [List.map_cons, forLoop, e1]
      simp only
      rw [e2]
      have h1 := ho
      cases out with
      | nx r1 => exact absurd rfl (h1 r1).1
      | ct r1 => exact absurd rfl (h1 r1).2.1
      | bk r1 => exact absurd rfl (h1 r1).2.2
      | _ => rfl
    · have ih := forT_find out P ho l q2 h2 st
      unfold forT at ih ⊢
      rw [List.map_cons, forLoop, e1]
      simp only
      rcases e2 with e2 | e2
      · rw [e2]; exact ih
      · rw [e2]; exact ih
theorem compLoop_map {α : Type} {g : α → D} {w : α → D} {F : Env → D → R (Env × Option D)} {r : Env} : ∀ (l : List α) (acc : List D), (∀ x ∈ l, F r (g x) = .ok (r, some (w x))) → acc.length + l.length ≤ LN → compLoop F (l.map g) r acc = some (r, acc ++ l.map w)
  | [], acc, _, _ => by simp [compLoop]
  | x :: l, acc, h, hl => by
    rw [List.map_cons, compLoop, h x List.mem_cons_self]
    simp only
    rw [List.length_cons] at hl
    rw [if_pos (by omega), compLoop_map l (acc ++ [w x]) (fun y hy => h y (List.mem_cons_of_mem _ hy)) (by simp; omega)]
    simp
/-- a comprehension's turn -/
def compF (t : Tg) (h : Nat) (c : Env → R (Env × Bool)) (e : Env → R (Env × Nat × D)) (q : Env) (x : D) : R (Env × Option D) :=
  (R.of (t.put x q)).bind fun q1 => (c q1).bind fun (q2, b) =>
    if b then (e q2).bind fun (q3, l, y) => if h ≤ l then .ok (wipeE t.ids q3, some y) else .bad else .ok (wipeE t.ids q2, none)
/-- [e for t in xs], a value of each -/
theorem compT_map {α : Type} {g : α → D} (w : α → D) {t : Tg} {h : Nat} {c : Env → R (Env × Bool)} {e : Env → R (Env × Nat × D)} {r : Env} (l : List α)
    (st : ∀ x ∈ l, compF t h c e r (g x) = .ok (r, some (w x))) (hl : l.length ≤ 16777216) : compT t h c e (l.map g) r = some (r, l.map w) := by
  have q := compLoop_map (F := compF t h c e) (g := g) (w := w) (r := r) l [] st (by simpa using hl)
  exact q
theorem compLoop_filter {α : Type} {g : α → D} {w : α → Option D} {F : Env → D → R (Env × Option D)} {r : Env} : ∀ (l : List α) (acc : List D), (∀ x ∈ l, F r (g x) = .ok (r, w x)) → acc.length + l.length ≤ LN → compLoop F (l.map g) r acc = some (r, acc ++ l.filterMap w)
  | [], acc, _, _ => by simp [compLoop]
  | x :: l, acc, h, hl => by
    rw [List.map_cons, compLoop, h x List.mem_cons_self]
    rw [List.length_cons] at hl
    cases e : w x with
    | none =>
      simp only
      rw [compLoop_filter l acc (fun y hy => h y (List.mem_cons_of_mem _ hy)) (by omega), List.filterMap_cons, e]
    | some d =>
      simp only
      rw [if_pos (by omega), compLoop_filter l (acc ++ [d]) (fun y hy => h y (List.mem_cons_of_mem _ hy)) (by simp; omega), List.filterMap_cons, e]
      simp
/-- [e for t in xs if c] -/
theorem compT_filter {α : Type} {g : α → D} (w : α → Option D) {t : Tg} {h : Nat} {c : Env → R (Env × Bool)} {e : Env → R (Env × Nat × D)} {r : Env} (l : List α)
    (st : ∀ x ∈ l, compF t h c e r (g x) = .ok (r, w x)) (hl : l.length ≤ 16777216) : compT t h c e (l.map g) r = some (r, l.filterMap w) := by
  have q := compLoop_filter (F := compF t h c e) (g := g) (w := w) (r := r) l [] st (by simpa using hl)
  exact q
theorem filterMap_if {α β : Type} (p : α → Bool) (f : α → β) : ∀ l : List α, (l.filterMap fun x => if p x then some (f x) else none) = (l.filter p).map f
  | [] => rfl
  | x :: l => by
    rw [List.filterMap_cons, List.filter_cons]
    cases p x with
    | true => simp only [if_true, List.map_cons]; rw [filterMap_if p f l]
    | false => simp only [Bool.false_eq_true, if_false]; rw [filterMap_if p f l]
theorem cut_from {α : Type} (xs : List α) (lo : Option Int) : cutD xs lo none = xs.drop (HT.sIx xs.length 0 lo) := by
  unfold cutD
  have h : HT.sIx xs.length xs.length none = xs.length := rfl
  rw [h]
  exact List.take_of_length_le (by simp)
theorem cut_to {α : Type} (xs : List α) (hi : Option Int) : cutD xs none hi = xs.take (HT.sIx xs.length xs.length hi) := by
  unfold cutD
  have h : HT.sIx xs.length 0 none = 0 := rfl
  rw [h, List.drop_zero, Nat.sub_zero]
theorem sIx_some (n : Nat) (d : Nat) (i : Int) (h : 0 ≤ i) : HT.sIx n d (some i) = min i.toNat n := by
  unfold HT.sIx
  simp only
  rw [if_neg (by omega)]
theorem at_last {ds : List D} {d : D} : atD (ds ++ [d]) (-1) = some d := by
  unfold atD L2.atI L2.ixN
  have h1 : ¬ (0 : Int) ≤ -1 := by omega
  have h2 : -(((ds ++ [d]).length : Nat) : Int) ≤ -1 := by simp; omega
  have h3 : ((-1 : Int) + (((ds ++ [d]).length : Nat) : Int)).toNat = ds.length := by simp; omega
  rw [if_neg h1, if_pos h2, h3]
  simp
/-! equal data -/
mutual
theorem eqd_refl : ∀ (n : Nat) (d : D), d.okd n = true → eqd d d = true
  | _, .non, _ => by simp [eqd, D.pd, PyData.eqv]
  | _, .bl _, _ => by simp [eqd, D.pd, PyData.eqv]
  | _, .int _, _ => by simp [eqd, D.pd, PyData.eqv]
  | _, .str _, _ => by simp [eqd, D.pd, PyData.eqv]
  | 0, .tup ds, h => by simp [D.okd] at h
  | n + 1, .tup ds, h => by
    have q := eqds_refl n ds (by simpa [D.okd] using h)
    simpa [eqd, D.pd, PyData.eqv] using q
  | 0, .lst ds, h => by simp [D.okd] at h
  | n + 1, .lst ds, h => by
    have q := eqds_refl n ds (by simpa [D.okd] using h)
    simpa [eqd, D.pd, PyData.eqv] using q
  | n, .dic _ _ _, h => by cases n <;> simp [D.okd] at h
  | n, .exn, h => by cases n <;> simp [D.okd] at h
theorem eqds_refl : ∀ (n : Nat) (ds : List D), okds n ds = true → PyData.eqvAll (pds ds) (pds ds) = true
  | _, [], _ => by simp [pds, PyData.eqvAll]
  | n, d :: ds, h => by
    simp only [okds, Bool.and_eq_true] at h
    have q1 := eqd_refl n d h.1
    have q2 := eqds_refl n ds h.2
    simp only [pds, PyData.eqvAll, Bool.and_eq_true]
    exact ⟨q1, q2⟩
end
mutual
theorem okd_up : ∀ {n m : Nat} {d : D}, d.okd n = true → n ≤ m → d.okd m = true
  | _, m, .non, _, _ => by cases m <;> rfl
  | _, m, .bl _, _, _ => by cases m <;> rfl
  | _, m, .int _, _, _ => by cases m <;> rfl
  | n, m, .str _, h, _ => by cases n <;> cases m <;> simpa [D.okd] using h
  | 0, _, .tup ds, h, _ => by simp [D.okd] at h
  | n + 1, 0, .tup ds, h, e => by omega
  | n + 1, m + 1, .tup ds, h, e => by
    simp only [D.okd] at h ⊢
    exact okds_up h (by omega)
  | 0, _, .lst ds, h, _ => by simp [D.okd] at h
  | n + 1, 0, .lst ds, h, e => by omega
  | n + 1, m + 1, .lst ds, h, e => by
    simp only [D.okd] at h ⊢
    exact okds_up h (by omega)
  | n, _, .dic _ _ _, h, _ => by cases n <;> simp [D.okd] at h
  | n, _, .exn, h, _ => by cases n <;> simp [D.okd] at h
theorem okds_up : ∀ {n m : Nat} {ds : List D}, okds n ds = true → n ≤ m → okds m ds = true
  | _, _, [], _, _ => by simp [okds]
  | n, m, d :: ds, h, e => by
    simp only [okds, Bool.and_eq_true] at h ⊢
    exact ⟨okd_up h.1 e, okds_up h.2 e⟩
end
theorem okd_lst {n : Nat} {ds : List D} (h : okds n ds = true) (hn : n ≤ 59) : okd (.lst ds) = true := by
  show D.okd 60 (.lst ds) = true
  simp only [D.okd]
  exact okds_up h hn
theorem okd_tup {n : Nat} {ds : List D} (h : okds n ds = true) (hn : n ≤ 59) : okd (.tup ds) = true := by
  show D.okd 60 (.tup ds) = true
  simp only [D.okd]
  exact okds_up h hn
theorem cmp_nil {ds : List D} (h : okd (.lst ds) = true) : cmpop .eq (.lst ds) (.lst []) = some ds.isEmpty := by
  have h2 : okd (.lst []) = true := by decide
  simp only [cmpop, h, h2, Bool.and_self, if_true]
  cases ds <;> simp [eqd, D.pd, pds, PyData.eqv, PyData.eqvAll]
theorem cmpne_nil {ds : List D} (h : okd (.lst ds) = true) : cmpop .ne (.lst ds) (.lst []) = some (!ds.isEmpty) := by
  have h2 : okd (.lst []) = true := by decide
  simp only [cmpop, h, h2, Bool.and_self, if_true]
  cases ds <;> simp [eqd, D.pd, pds, PyData.eqv, PyData.eqvAll]
/-- .. whatever is in it -/
theorem cmp_nil0 (ds : List D) : cmpop .eq (.lst ds) (.lst []) = some ds.isEmpty := by
  cases ds with
  | nil => exact cmp_nil (by decide)
  | cons d ds =>
    by_cases h : okd (.lst (d :: ds)) = true
    · exact cmp_nil h
    · have h2 : okd (.lst []) = true := by decide
      simp only [cmpop, h, h2, Bool.false_and, nilC]
      simp
theorem cmpne_nil0 (ds : List D) : cmpop .ne (.lst ds) (.lst []) = some (!ds.isEmpty) := by
  cases ds with
  | nil => exact cmpne_nil (by decide)
  | cons d ds =>
    by_cases h : okd (.lst (d :: ds)) = true
    · exact cmpne_nil h
    · have h2 : okd (.lst []) = true := by decide
      simp only [cmpop, h, h2, Bool.false_and, nilC]
      simp
theorem cmp_refl {d : D} (h : okd d = true) : cmpop .eq d d = some true := by
  simp only [cmpop, h, Bool.and_self, if_true, eqd_refl 60 d h]
theorem cmpne_refl {d : D} (h : okd d = true) : cmpop .ne d d = some false := by
  simp only [cmpop, h, Bool.and_self, if_true, eqd_refl 60 d h, Bool.not_true]
theorem cmp_int (i j : Int) : cmpop .eq (.int i) (.int j) = some (i == j) := by
  simp [cmpop, okd, D.okd, eqd, D.pd, PyData.eqv]
theorem cmpne_int (i j : Int) : cmpop .ne (.int i) (.int j) = some (!(i == j)) := by
  simp [cmpop, okd, D.okd, eqd, D.pd, PyData.eqv]
theorem asInts_map {α : Type} (f : α → Int) : ∀ l : List α, asInts (l.map fun x => D.int (f x)) = some (l.map f)
  | [] => rfl
  | x :: l => by rw [List.map_cons, asInts, asInts_map f l]; rfl
/-! steps -/
def seqB (o : O) (k : Env → O) : O :=
  match o with
  | .nx r => k r
  | o => o
def endF (o : O) : CR :=
  match o with
  | .ret l d => .ok l d
  | .nx _ => .ok 0 .non
  | .exc _ c => .exc c
  | _ => .bad
theorem seqB_nx {r : Env} {k : Env → O} : seqB (.nx r) k = k r := rfl
theorem seqB_ret {l : Nat} {d : D} {k : Env → O} : seqB (.ret l d) k = .ret l d := rfl
theorem seqB_exc {r : Env} {c : Nat} {k : Env → O} : seqB (.exc r c) k = .exc r c := rfl
theorem seqB_bk {r : Env} {k : Env → O} : seqB (.bk r) k = .bk r := rfl
theorem seqB_ct {r : Env} {k : Env → O} : seqB (.ct r) k = .ct r := rfl
theorem endF_ret {l : Nat} {d : D} : endF (.ret l d) = .ok l d := rfl
theorem endF_nx {r : Env} : endF (.nx r) = .ok 0 .non := rfl
theorem endF_exc {r : Env} {c : Nat} : endF (.exc r c) = .exc c := rfl
section
variable {G : Nat → Option D} {sub : Nat → Nat → Bool} {cf : Nat → List D → CR} {fu : Nat}
theorem evB_cons {s : S} {b : B} {r : Env} : evB G sub cf fu (.cons s b) r = seqB (evS G sub cf fu s r) (evB G sub cf fu b) := by
  rw [evB]
  unfold seqB
  cases evS G sub cf fu s r <;> rfl
theorem evB_nil {r : Env} : evB G sub cf fu .nil r = .nx r := by rw [evB]
theorem callF_s {T : List Fn} {n f : Nat} {ds : List D} (F : Fn) (h : T[f]? = some F) (hl : ds.length = F.np) : callF G sub T fu (n + 1) f ds = endF (evB G sub (callF G sub T fu n) fu F.body (startE F.nn ds)) := by
  rw [callF, h]
  simp only [hl, if_true]
  unfold endF
  cases evB G sub (callF G sub T fu n) fu F.body (startE F.nn ds) <;> rfl
end
/-! bodies cut -/
def takeB : Nat → B → B
  | 0, _ => .nil
  | _ + 1, .nil => .nil
  | n + 1, .cons s b => .cons s (takeB n b)
def dropB : Nat → B → B
  | 0, b => b
  | _ + 1, .nil => .nil
  | n + 1, .cons _ b => dropB n b
def sAt : Nat → B → S
  | _, .nil => .pass
  | 0, .cons s _ => s
  | n + 1, .cons _ b => sAt n b
theorem seqB_seqB {o : O} {k k' : Env → O} : seqB (seqB o k) k' = seqB o fun r => seqB (k r) k' := by
  cases o <;> rfl
theorem evB_cut {G : Nat → Option D} {sub : Nat → Nat → Bool} {cf : Nat → List D → CR} {fu : Nat} : ∀ (n : Nat) (b : B) (r : Env), evB G sub cf fu b r = seqB (evB G sub cf fu (takeB n b) r) (evB G sub cf fu (dropB n b))
  | 0, b, r => by rw [takeB, evB_nil]; rfl
  | n + 1, .nil, r => by rw [takeB, evB_nil, seqB_nx, dropB, evB_nil]
  | n + 1, .cons s b, r => by
    rw [takeB, dropB, evB_cons, evB_cons, seqB_seqB]
    congr 1
    funext q
    exact evB_cut n b q
theorem bin_add (i j : Int) : binop .add (.int i) (.int j) = some (0, .int (i + j)) := rfl
theorem bin_sub (i j : Int) : binop .sub (.int i) (.int j) = some (0, .int (i - j)) := rfl
theorem bin_mod (i j : Int) (h : 0 < j) : binop .mod (.int i) (.int j) = some (0, .int (i % j)) := by simp [binop, h]
theorem bin_div (i j : Int) (h : 0 < j) (h2 : j.natAbs < 2 ^ 64) : binop .div (.int i) (.int j) = some (0, .int (i / j)) := by
  have : j.natAbs < 2 ^ 4096 := Nat.lt_trans h2 (Nat.pow_lt_pow_right (by omega) (by omega))
  show (if 0 < j ∧ j.natAbs < 2 ^ 4096 then some (0, D.int (i / j)) else none) = _
  rw [if_pos ⟨h, this⟩]
theorem bin_mul (i j : Int) (h : j.natAbs < 2 ^ 64) : binop .mul (.int i) (.int j) = some (0, .int (i * j)) := by
  show (if i.natAbs < 2 ^ 64 ∨ j.natAbs < 2 ^ 64 ∨ (i.natAbs < 2 ^ 4096 ∧ j.natAbs < 2 ^ 4096) then some (0, D.int (i * j)) else none) = _
  rw [if_pos (.inr (.inl h))]
theorem bin_cat (a b : List D) (h : a.length + b.length ≤ 16777216) : binop .add (.lst a) (.lst b) = some (1, .lst (a ++ b)) := by
  show (if a.length + b.length ≤ LN then some (1, D.lst (a ++ b)) else none) = _
  rw [if_pos h]
theorem bin_catT (a b : List D) (h : a.length + b.length ≤ 16777216) : binop .add (.tup a) (.tup b) = some (0, .tup (a ++ b)) := by
  show (if a.length + b.length ≤ LN then some (0, D.tup (a ++ b)) else none) = _
  rw [if_pos h]
theorem cmp_lt (i j : Int) : cmpop .lt (.int i) (.int j) = some (decide (i < j)) := rfl
theorem cmp_le (i j : Int) : cmpop .le (.int i) (.int j) = some (decide (i ≤ j)) := rfl
theorem cmp_gt (i j : Int) : cmpop .gt (.int i) (.int j) = some (decide (j < i)) := rfl
theorem cmp_ge (i j : Int) : cmpop .ge (.int i) (.int j) = some (decide (j ≤ i)) := rfl
theorem cmp_str (a b : Str) (h : PyData.strOk a = true) (h2 : PyData.strOk b = true) : cmpop .eq (.str a) (.str b) = some (a == b) := by
  simp [cmpop, okd, D.okd, eqd, D.pd, PyData.eqv, h, h2]
theorem cmpne_str (a b : Str) (h : PyData.strOk a = true) (h2 : PyData.strOk b = true) : cmpop .ne (.str a) (.str b) = some (!(a == b)) := by
  simp [cmpop, okd, D.okd, eqd, D.pd, PyData.eqv, h, h2]
theorem R_ok {α β : Type} (a : α) (f : α → R β) : (R.ok a).bind f = f a := rfl
theorem R_exc {α β : Type} (r : Env) (c : Nat) (f : α → R β) : (R.exc r c : R α).bind f = .exc r c := rfl
theorem R_some {α : Type} (a : α) : R.of (some a) = .ok a := rfl
theorem O_ok {α : Type} (a : α) (f : α → O) : (R.ok a).toO f = f a := rfl
theorem O_exc {α : Type} (r : Env) (c : Nat) (f : α → O) : (R.exc r c : R α).toO f = .exc r c := rfl
theorem ints_okd : ∀ (k : Nat) (p : List Int), okds k (p.map D.int) = true
  | k, [] => by simp [okds]
  | k, x :: p => by
    have e : D.okd k (.int x) = true := by cases k <;> rfl
    rw [List.map_cons, okds, e, ints_okd k p]
    rfl
theorem eqv_ints : ∀ a b : List Int, PyData.eqvAll (pds (a.map D.int)) (pds (b.map D.int)) = decide (a = b)
  | [], [] => by simp [pds, PyData.eqvAll]
  | [], _ :: _ => by simp [pds, PyData.eqvAll]
  | _ :: _, [] => by simp [pds, PyData.eqvAll]
  | x :: a, y :: b => by
    simp only [List.map_cons, pds, PyData.eqvAll, eqv_ints a b, D.pd, PyData.eqv]
    by_cases h : x = y
    · subst h
      simp
    · simp [h]
/-- tuples of whole numbers compared -/
theorem cmp_ints (a b : List Int) : cmpop .eq (.tup (a.map D.int)) (.tup (b.map D.int)) = some (decide (a = b)) := by
  have h1 := okd_tup (ints_okd 0 a) (by omega)
  have h2 := okd_tup (ints_okd 0 b) (by omega)
  simp only [cmpop, h1, h2, Bool.and_self, if_true]
  simp [eqd, D.pd, PyData.eqv, eqv_ints]
end Ly

set_option Elab.async false
set_option linter.all false
set_option maxRecDepth 100000
set_option maxHeartbeats 800000
namespace Ly
open PySem
def bd0_0 : B := (.cons (.ext 1 (.call false 0 (.cons (.var 2) .nil))) .nil)
def fn0 : Fn := ⟨1, 3, (.cons (.ife (.cmp .ne (.ix (.var 0) (.cst (.int 0))) (.cst (.str "rec"))) (.cons (.ret (.tup 0 (.cons (.var 0) .nil))) .nil) .nil) (.cons (.set 1 1 (.lst 1 .nil)) (.cons (.for_ (.name 2) (.seq (.ix (.var 0) (.cst (.int 1)))) bd0_0) (.cons (.ret (.blt .tuple (.cons (.var 1) .nil))) .nil))))⟩
def fn1 : Fn := ⟨2, 2, (.cons (.ife (.bop false (.cons (.cmp .ne (.ix (.var 0) (.cst (.int 0))) (.cst (.str "rec"))) (.cons (.not (.chain .le .lt (.cst (.int 0)) (.var 1) (.blt .len (.cons (.ix (.var 0) (.cst (.int 1))) .nil)))) .nil))) (.cons (.raise 1 "a path leads nowhere") .nil) .nil) (.cons (.ret (.ix (.ix (.var 0) (.cst (.int 1))) (.var 1))) .nil))⟩
def bd2_0 : B := (.cons (.set 0 1 (.call false 1 (.cons (.var 0) (.cons (.var 2) .nil)))) .nil)
def fn2 : Fn := ⟨2, 3, (.cons (.for_ (.name 2) (.seq (.var 1)) bd2_0) (.cons (.ret (.mv 0)) .nil))⟩
def bd3_0 : B := (.cons (.aug 2 .add (.blt .len (.cons (.call false 0 (.cons (.var 5) .nil)) .nil))) .nil)
def bd3_1 : B := (.cons (.set 4 0 (.call false 1 (.cons (.var 0) (.cons (.var 3) .nil)))) (.cons (.for_ (.name 5) (.seq (.sl (.ix (.var 0) (.cst (.int 1))) .no (.yes (.var 3)))) bd3_0) (.cons (.set 0 0 (.var 4)) .nil)))
def fn3 : Fn := ⟨2, 6, (.cons (.set 2 1 (.cst (.int 0))) (.cons (.for_ (.name 3) (.seq (.var 1)) bd3_1) (.cons (.ret (.mv 2)) .nil)))⟩
def fn4 : Fn := ⟨1, 1, (.cons (.ret (.cmp .nin (.tup 0 (.cons (.cst (.str "own")) .nil)) (.call false 0 (.cons (.var 0) .nil)))) .nil)⟩
def fn5 : Fn := ⟨1, 1, (.cons (.ret (.cmp .inn (.ix (.var 0) (.cst (.int 0))) (.tup 0 (.cons (.cst (.str "lent")) (.cons (.cst (.str "sole")) .nil))))) .nil)⟩
def fn6 : Fn := ⟨1, 1, (.cons (.ife (.call false 5 (.cons (.var 0) .nil)) (.cons (.ret (.ix (.var 0) (.cst (.int 1)))) .nil) .nil) (.cons (.ret (.mv 0)) .nil))⟩
def bd7_0 : B := (.cons (.ife (.cmp .eq (.var 2) (.var 1)) (.cons (.ret (.mv 3)) .nil) .nil) .nil)
def fn7 : Fn := ⟨2, 4, (.cons (.for_ (.tup [2, 3]) (.seq (.bin .add (.ix (.var 0) (.cst (.int 1))) (.ix (.var 0) (.cst (.int 3))))) bd7_0) (.cons (.raise 0 "the function has no such name") .nil))⟩
def fn8 : Fn := ⟨1, 1, (.cons (.ife (.cmp .inn (.ix (.var 0) (.cst (.int 0))) (.tup 0 (.cons (.cst (.str "put")) (.cons (.cst (.str "fill")) .nil)))) (.cons (.ret (.sl (.var 0) (.yes (.cst (.int 2))) .no)) .nil) .nil) (.cons (.ife (.cmp .eq (.ix (.var 0) (.cst (.int 0))) (.cst (.str "set"))) (.cons (.ret (.sl (.var 0) (.yes (.cst (.int 3))) .no)) .nil) .nil) (.cons (.ife (.cmp .eq (.ix (.var 0) (.cst (.int 0))) (.cst (.str "if"))) (.cons (.ret (.sl (.var 0) (.yes (.cst (.int 1))) (.yes (.cst (.int 3))))) .nil) .nil) (.cons (.ife (.cmp .eq (.ix (.var 0) (.cst (.int 0))) (.cst (.str "say"))) (.cons (.ret (.sl (.var 0) (.yes (.cst (.int 1))) .no)) .nil) .nil) (.cons (.ret (.tup 0 .nil)) .nil)))))⟩
def fn9 : Fn := ⟨4, 6, (.cons (.set 4 0 (.call false 6 (.cons (.call false 7 (.cons (.var 0) (.cons (.ix (.var 2) (.cst (.int 0))) .nil))) .nil))) (.cons (.set 5 0 (.blt .len (.cons (.call false 0 (.cons (.call false 2 (.cons (.var 4) (.cons (.ix (.var 2) (.cst (.int 2))) .nil))) .nil)) .nil))) (.cons (.ret (.tup 0 (.cons (.var 1) (.cons (.ix (.var 2) (.cst (.int 0))) (.cons (.ix (.var 2) (.cst (.int 1))) (.cons (.call false 3 (.cons (.var 4) (.cons (.ix (.var 2) (.cst (.int 2))) .nil))) (.cons (.var 5) (.cons (.var 3) .nil)))))))) .nil)))⟩
def fn10 : Fn := ⟨4, 4, (.cons (.ret (.call false 9 (.cons (.var 0) (.cons (.var 1) (.cons (.tup 0 (.cons (.var 2) (.cons (.call false 5 (.cons (.call false 7 (.cons (.var 0) (.cons (.var 2) .nil))) .nil)) (.cons (.tup 0 .nil) (.cons (.cst .non) .nil))))) (.cons (.var 3) .nil)))))) .nil)⟩
def fn11 : Fn := ⟨1, 1, (.cons (.ife (.isi (.ix (.var 0) (.cst (.int 3))) .str) (.cons (.ret (.lst 1 (.cons (.tup 0 (.cons (.cst (.str "read")) (.cons (.ix (.var 0) (.cst (.int 3))) (.cons (.cst (.bl false)) (.cons (.cst (.int 0)) (.cons (.cst (.int 1)) (.cons (.cst (.str "")) .nil))))))) .nil))) .nil) .nil) (.cons (.ret (.lst 1 .nil)) .nil))⟩
def bd12_0 : B := (.cons (.ife (.isi (.var 3) .tuple) (.cons (.set 2 1 (.bin .add (.bin .add (.var 2) (.call false 11 (.cons (.var 3) .nil))) (.lst 1 (.cons (.callD 9 (.cons (.var 0) (.cons (.cst (.str "read")) (.cons (.var 3) .nil))) [""]) .nil)))) .nil) .nil) .nil)
def fn12 : Fn := ⟨2, 4, (.cons (.set 2 1 (.lst 1 .nil)) (.cons (.for_ (.name 3) (.seq (.var 1)) bd12_0) (.cons (.ret (.mv 2)) .nil)))⟩
def fn13 : Fn := ⟨2, 2, (.cons (.ife (.cmp .isn (.ix (.var 1) (.cst (.int 3))) (.cst .non)) (.cons (.ret (.lst 1 (.cons (.callD 9 (.cons (.var 0) (.cons (.cst (.str "fill")) (.cons (.var 1) .nil))) [""]) .nil))) .nil) .nil) (.cons (.ret (.bin .add (.call false 11 (.cons (.var 1) .nil)) (.lst 1 (.cons (.callD 9 (.cons (.var 0) (.cons (.cst (.str "turn")) (.cons (.var 1) .nil))) [""]) .nil)))) .nil))⟩
def fn14 : Fn := ⟨2, 3, (.cons (.ife (.cmp .eq (.ix (.var 1) (.cst (.int 0))) (.cst (.str "drop"))) (.cons (.ret (.lst 1 (.cons (.callD 9 (.cons (.var 0) (.cons (.cst (.str "empty")) (.cons (.ix (.var 1) (.cst (.int 1))) .nil))) [""]) .nil))) .nil) .nil) (.cons (.set 2 0 (.cst (.str "empty"))) (.cons (.ife (.cmp .eq (.ix (.var 1) (.cst (.int 0))) (.cst (.str "copy"))) (.cons (.set 2 0 (.cst (.str "read"))) .nil) .nil) (.cons (.ret (.lst 1 (.cons (.callD 9 (.cons (.var 0) (.cons (.var 2) (.cons (.ix (.var 1) (.cst (.int 2))) .nil))) [""]) (.cons (.callD 9 (.cons (.var 0) (.cons (.cst (.str "fill")) (.cons (.ix (.var 1) (.cst (.int 1))) .nil))) [""]) .nil)))) .nil))))⟩
def fn15 : Fn := ⟨2, 2, (.cons (.ife (.call false 4 (.cons (.call false 7 (.cons (.var 0) (.cons (.var 1) .nil))) .nil)) (.cons (.ret (.callD 10 (.cons (.var 0) (.cons (.cst (.str "read")) (.cons (.var 1) .nil))) [""])) .nil) .nil) (.cons (.ret (.callD 10 (.cons (.var 0) (.cons (.cst (.str "empty")) (.cons (.var 1) .nil))) [""])) .nil))⟩
def bd16_0 : B := (.cons (.set 5 0 (.call false 7 (.cons (.var 0) (.cons (.var 4) .nil)))) (.cons (.ife (.cmp .eq (.ix (.var 5) (.cst (.int 0))) (.cst (.str "lent"))) (.cons (.app 2 (.call false 10 (.cons (.var 0) (.cons (.cst (.str "lend")) (.cons (.var 4) (.cons (.blt .str (.cons (.var 3) .nil)) .nil)))))) .nil) (.cons (.ife (.cmp .eq (.ix (.var 5) (.cst (.int 0))) (.cst (.str "sole"))) (.cons (.app 2 (.call false 10 (.cons (.var 0) (.cons (.cst (.str "sole")) (.cons (.var 4) (.cons (.blt .str (.cons (.var 3) .nil)) .nil)))))) .nil) (.cons (.app 2 (.call false 15 (.cons (.var 0) (.cons (.var 4) .nil)))) .nil)) .nil)) .nil))
def fn16 : Fn := ⟨2, 6, (.cons (.set 2 1 (.lst 1 .nil)) (.cons (.for_ (.tup [3, 4]) (.enum (.ix (.var 1) (.cst (.int 3)))) bd16_0) (.cons (.app 2 (.glb 1)) (.cons (.ife (.cmp .ne (.ix (.var 1) (.cst (.int 1))) (.cst (.str ""))) (.cons (.ife (.call false 5 (.cons (.call false 7 (.cons (.var 0) (.cons (.ix (.var 1) (.cst (.int 1))) .nil))) .nil)) (.cons (.app 2 (.tup 0 (.cons (.cst (.str "take")) (.cons (.cst (.str "")) (.cons (.cst (.bl false)) (.cons (.cst (.int 0)) (.cons (.cst (.int 0)) (.cons (.ix (.var 1) (.cst (.int 1))) .nil)))))))) .nil) (.cons (.app 2 (.callD 10 (.cons (.var 0) (.cons (.cst (.str "fill")) (.cons (.ix (.var 1) (.cst (.int 1))) .nil))) [""])) .nil)) .nil) .nil) (.cons (.ret (.mv 2)) .nil)))))⟩
def fn17 : Fn := ⟨2, 2, (.cons (.ife (.cmp .eq (.var 1) (.cst (.str ""))) (.cons (.ret (.lst 1 .nil)) .nil) .nil) (.cons (.ife (.call false 5 (.cons (.call false 7 (.cons (.var 0) (.cons (.var 1) .nil))) .nil)) (.cons (.ret (.lst 1 (.cons (.callD 10 (.cons (.var 0) (.cons (.cst (.str "give")) (.cons (.var 1) .nil))) [""]) .nil))) .nil) .nil) (.cons (.ret (.lst 1 (.cons (.call false 15 (.cons (.var 0) (.cons (.var 1) .nil))) .nil))) .nil)))⟩
def fn18 : Fn := ⟨2, 3, (.cons (.set 2 1 (.call false 12 (.cons (.var 0) (.cons (.call false 8 (.cons (.var 1) .nil)) .nil)))) (.cons (.ife (.cmp .inn (.ix (.var 1) (.cst (.int 0))) (.tup 0 (.cons (.cst (.str "put")) (.cons (.cst (.str "set")) (.cons (.cst (.str "fill")) .nil))))) (.cons (.set 2 1 (.bin .add (.var 2) (.call false 13 (.cons (.var 0) (.cons (.ix (.var 1) (.cst (.int 1))) .nil))))) .nil) (.cons (.ife (.cmp .inn (.ix (.var 1) (.cst (.int 0))) (.tup 0 (.cons (.cst (.str "copy")) (.cons (.cst (.str "move")) (.cons (.cst (.str "drop")) .nil))))) (.cons (.set 2 1 (.call false 14 (.cons (.var 0) (.cons (.var 1) .nil)))) .nil) (.cons (.ife (.cmp .inn (.ix (.var 1) (.cst (.int 0))) (.tup 0 (.cons (.cst (.str "lend")) (.cons (.cst (.str "sole")) .nil)))) (.cons (.set 2 1 (.lst 1 (.cons (.call false 9 (.cons (.var 0) (.cons (.ix (.var 1) (.cst (.int 0))) (.cons (.ix (.var 1) (.cst (.int 2))) (.cons (.ix (.var 1) (.cst (.int 1))) .nil))))) .nil))) .nil) (.cons (.ife (.cmp .eq (.ix (.var 1) (.cst (.int 0))) (.cst (.str "call"))) (.cons (.set 2 1 (.call false 16 (.cons (.var 0) (.cons (.var 1) .nil)))) .nil) (.cons (.ife (.cmp .eq (.ix (.var 1) (.cst (.int 0))) (.cst (.str "give"))) (.cons (.set 2 1 (.call false 17 (.cons (.var 0) (.cons (.ix (.var 1) (.cst (.int 1))) .nil)))) .nil) .nil) .nil)) .nil)) .nil)) .nil)) (.cons (.ife (.cmp .eq (.var 2) (.lst 1 .nil)) (.cons (.ret (.lst 1 (.cons (.glb 0) .nil))) .nil) .nil) (.cons (.ret (.mv 2)) .nil))))⟩
def bd19_0 : B := (.cons (.app 3 (.bin .add (.tup 0 (.cons (.var 4) .nil)) (.var 6))) .nil)
def bd19_1 : B := (.cons (.for_ (.name 6) (.seq (.call false 18 (.cons (.var 2) (.cons (.var 5) .nil)))) bd19_0) .nil)
def fn19 : Fn := ⟨2, 7, (.cons (.set 2 0 (.ix (.var 0) (.var 1))) (.cons (.set 3 1 (.lst 1 .nil)) (.cons (.for_ (.tup [4, 5]) (.enum (.ix (.var 2) (.cst (.int 4)))) bd19_1) (.cons (.ret (.mv 3)) .nil))))⟩
def fn20 : Fn := ⟨2, 2, (.cons (.ife (.cmp .lt (.var 1) (.blt .len (.cons (.var 0) .nil))) (.cons (.ret (.ix (.var 0) (.var 1))) .nil) .nil) (.cons (.ret (.cst (.int 0))) .nil))⟩
def fn21 : Fn := ⟨1, 1, (.cons (.ret (.lst 1 (.cons (.bin .mod (.bin .mul (.var 0) (.cst (.int 48271))) (.cst (.int 2147483647))) (.cons (.bin .mod (.bin .mul (.var 0) (.cst (.int 69621))) (.cst (.int 2147483629))) (.cons (.bin .mod (.bin .mul (.var 0) (.cst (.int 16807))) (.cst (.int 2147483587))) (.cons (.bin .mod (.bin .mul (.var 0) (.cst (.int 39373))) (.cst (.int 2147483579))) .nil)))))) .nil)⟩
def bd22_0 : B := (.cons (.set 7 0 (.bin .add (.var 7) (.ix (.var 2) (.bin .mod (.bin .add (.ix (.var 3) (.var 8)) (.bin .mul (.var 4) (.blt .int (.cons (.cmp .eq (.var 8) (.var 5)) .nil)))) (.cst (.int 26)))))) .nil)
def bd22_1 : B := (.cons (.set 7 0 (.cst (.str ""))) (.cons (.for_ (.name 8) (.range (.cons (.blt .len (.cons (.var 3) .nil)) .nil)) bd22_0) (.cons (.ife (.bop true (.cons (.cmp .eq (.bin .mod (.bin .div (.var 0) (.cst (.int 49))) (.cst (.int 2))) (.cst (.int 1))) (.cons (.cmp .eq (.bin .mod (.var 4) (.cst (.int 2))) (.cst (.int 1))) .nil))) (.cons (.set 7 0 (.bin .add (.var 7) (.ix (.var 2) (.bin .mod (.bin .div (.var 0) (.cst (.int 98))) (.cst (.int 26)))))) .nil) .nil) (.cons (.app 6 (.var 7)) .nil))))
def fn22 : Fn := ⟨2, 9, (.cons (.set 2 0 (.cst (.str "abcdefghijklmnopqrstuvwxyz"))) (.cons (.set 3 0 (.comp 1 (.bin .mod (.bin .add (.bin .div (.bin .div (.var 0) (.cst (.int 7))) (.bin .add (.bin .mul (.var 4) (.var 4)) (.cst (.int 1)))) (.bin .mul (.cst (.int 5)) (.var 4))) (.cst (.int 26))) (.name 4) (.range (.cons (.bin .add (.cst (.int 1)) (.bin .mod (.var 0) (.cst (.int 7)))) .nil)) .no)) (.cons (.set 5 0 (.bin .mod (.bin .div (.var 0) (.cst (.int 7))) (.blt .len (.cons (.var 3) .nil)))) (.cons (.set 6 1 (.lst 1 .nil)) (.cons (.for_ (.name 4) (.range (.cons (.var 1) .nil)) bd22_1) (.cons (.ret (.mv 6)) .nil))))))⟩
def fn23 : Fn := ⟨1, 2, (.cons (.ife (.cmp .ne (.ix (.var 0) (.cst (.int 0))) (.cst (.str "rec"))) (.cons (.ret (.cst (.int 1))) .nil) .nil) (.cons (.ret (.blt .sum (.cons (.comp 1 (.call false 23 (.cons (.var 1) .nil)) (.name 1) (.seq (.ix (.var 0) (.cst (.int 1)))) .no) .nil))) .nil))⟩
def bd24_0 : B := (.cons (.set 1 1 (.bin .add (.var 1) (.comp 1 (.tup 0 (.cons (.bin .add (.tup 0 (.cons (.var 3) .nil)) (.var 5)) (.cons (.bin .add (.var 2) (.var 6)) (.cons (.var 7) .nil)))) (.tup [5, 6, 7]) (.seq (.call false 24 (.cons (.var 4) .nil))) .no))) (.cons (.set 2 0 (.bin .add (.var 2) (.call false 23 (.cons (.var 4) .nil)))) .nil))
def fn24 : Fn := ⟨1, 8, (.cons (.set 1 1 (.lst 1 (.cons (.tup 0 (.cons (.tup 0 .nil) (.cons (.cst (.int 0)) (.cons (.var 0) .nil)))) .nil))) (.cons (.ife (.cmp .eq (.ix (.var 0) (.cst (.int 0))) (.cst (.str "rec"))) (.cons (.set 2 0 (.cst (.int 0))) (.cons (.for_ (.tup [3, 4]) (.enum (.ix (.var 0) (.cst (.int 1)))) bd24_0) .nil)) .nil) (.cons (.ret (.mv 1)) .nil)))⟩
def fn25 : Fn := ⟨1, 1, (.cons (.ife (.cmp .inn (.ix (.var 0) (.cst (.int 0))) (.tup 0 (.cons (.cst (.str "lent")) (.cons (.cst (.str "sole")) .nil)))) (.cons (.ret (.ix (.var 0) (.cst (.int 1)))) .nil) .nil) (.cons (.ret (.mv 0)) .nil))⟩
def fn26 : Fn := ⟨1, 8, (.cons (.set 1 0 (.tup 0 (.cons (.cst (.str "strip")) (.cons (.bin .add (.cst (.int 1)) (.bin .mod (.bin .div (.var 0) (.cst (.int 8))) (.cst (.int 8)))) .nil)))) (.cons (.set 2 0 (.tup 0 (.cons (.cst (.str "rec")) (.cons (.tup 0 (.cons (.tup 0 (.cons (.cst (.str "num")) .nil)) (.cons (.tup 0 (.cons (.cst (.str "num")) .nil)) .nil))) .nil)))) (.cons (.set 3 0 (.tup 0 (.cons (.cst (.str "rec")) (.cons (.tup 0 (.cons (.tup 0 (.cons (.cst (.str "rec")) (.cons (.tup 0 (.cons (.var 2) (.cons (.tup 0 (.cons (.cst (.str "own")) .nil)) .nil))) .nil))) (.cons (.var 1) .nil))) .nil)))) (.cons (.set 4 0 (.lst 1 (.cons (.tup 0 (.cons (.var 2) (.cons (.tup 0 (.cons (.cst (.str "num")) .nil)) .nil))) (.cons (.tup 0 (.cons (.tup 0 (.cons (.cst (.str "rec")) (.cons (.tup 0 (.cons (.tup 0 (.cons (.cst (.str "num")) .nil)) (.cons (.tup 0 (.cons (.cst (.str "own")) .nil)) .nil))) .nil))) (.cons (.tup 0 (.cons (.cst (.str "own")) .nil)) .nil))) (.cons (.tup 0 (.cons (.tup 0 (.cons (.cst (.str "rec")) (.cons (.tup 0 (.cons (.var 1) (.cons (.tup 0 (.cons (.cst (.str "num")) .nil)) .nil))) .nil))) (.cons (.var 1) .nil))) .nil))))) (.cons (.set 4 0 (.bin .add (.var 4) (.lst 1 (.cons (.tup 0 (.cons (.tup 0 (.cons (.cst (.str "rec")) (.cons (.tup 0 (.cons (.var 2) (.cons (.tup 0 (.cons (.cst (.str "num")) .nil)) .nil))) .nil))) (.cons (.var 2) .nil))) (.cons (.tup 0 (.cons (.var 3) (.cons (.var 1) .nil))) (.cons (.tup 0 (.cons (.var 1) (.cons (.var 2) .nil))) (.cons (.tup 0 (.cons (.tup 0 (.cons (.cst (.str "rec")) (.cons (.tup 0 (.cons (.var 2) (.cons (.var 2) (.cons (.var 2) (.cons (.var 2) .nil))))) .nil))) (.cons (.var 2) .nil))) .nil))))))) (.cons (.setT [5, 6] (.ix (.bin .add (.var 4) (.lst 1 (.cons (.tup 0 (.cons (.var 3) (.cons (.tup 0 (.cons (.cst (.str "own")) .nil)) .nil))) .nil))) (.bin .mod (.var 0) (.cst (.int 8))))) (.cons (.set 7 0 (.lst 1 (.cons (.tup 0 (.cons (.cst (.str "sole")) (.cons (.var 5) .nil))) (.cons (.tup 0 (.cons (.cst (.str "lent")) (.cons (.var 5) .nil))) (.cons (.tup 0 (.cons (.cst (.str "sole")) (.cons (.var 6) .nil))) (.cons (.tup 0 (.cons (.cst (.str "lent")) (.cons (.var 6) .nil))) .nil)))))) (.cons (.ret (.bin .add (.bin .add (.lst 1 (.cons (.tup 0 (.cons (.cst (.str "num")) .nil)) (.cons (.var 5) (.cons (.var 6) .nil)))) (.var 7)) (.lst 1 (.cons (.tup 0 (.cons (.cst (.str "lent")) (.cons (.tup 0 (.cons (.cst (.str "num")) .nil)) .nil))) .nil)))) .nil))))))))⟩
def bd27_0 : B := (.cons (.app 3 (.ix (.var 0) (.bin .mod (.var 1) (.blt .len (.cons (.var 0) .nil))))) (.cons (.set 1 0 (.bin .div (.var 1) (.blt .len (.cons (.var 0) .nil)))) .nil))
def fn27 : Fn := ⟨3, 5, (.cons (.set 3 1 (.lst 1 .nil)) (.cons (.for_ (.name 4) (.range (.cons (.var 2) .nil)) bd27_0) (.cons (.ret (.mv 3)) .nil)))⟩
def bd28_0 : B := (.cons (.ife (.cmp .eq (.var 6) (.ix (.var 2) (.cst (.int 2)))) (.cons (.ret (.tup 0 (.cons (.var 1) (.cons (.var 4) (.cons (.ix (.var 2) (.cst (.int 1))) (.cons (.var 7) (.cons (.call false 23 (.cons (.var 8) .nil)) (.cons (.var 3) .nil)))))))) .nil) .nil) .nil)
def bd28_1 : B := (.cons (.ife (.cmp .eq (.var 4) (.ix (.var 2) (.cst (.int 0)))) (.cons (.for_ (.tup [6, 7, 8]) (.seq (.call false 24 (.cons (.call false 25 (.cons (.var 5) .nil)) .nil))) bd28_0) .nil) .nil) .nil)
def fn28 : Fn := ⟨4, 9, (.cons (.for_ (.tup [4, 5]) (.seq (.var 0)) bd28_1) (.cons (.ret (.cst .non)) .nil))⟩
def fn29 : Fn := ⟨1, 1, (.cons (.ret (.bop true (.cons (.isi (.var 0) .int) (.cons (.not (.isi (.var 0) .bool)) .nil)))) .nil)⟩
def fn30 : Fn := ⟨2, 3, (.cons (.ife (.bop false (.cons (.not (.isi (.var 0) .tuple)) (.cons (.cmp .ne (.blt .len (.cons (.var 0) .nil)) (.cst (.int 7))) (.cons (.cmp .ne (.var 0) (.var 1)) .nil)))) (.cons (.ret (.cst (.bl false))) .nil) .nil) (.cons (.ife (.bop false (.cons (.not (.call false 29 (.cons (.ix (.var 0) (.cst (.int 0))) .nil))) (.cons (.not (.call false 29 (.cons (.ix (.var 0) (.cst (.int 4))) .nil))) (.cons (.not (.call false 29 (.cons (.ix (.var 0) (.cst (.int 5))) .nil))) .nil)))) (.cons (.ret (.cst (.bl false))) .nil) .nil) (.cons (.ret (.bop true (.cons (.isi (.ix (.var 0) (.cst (.int 3))) .bool) (.cons (.blt .all (.cons (.comp 1 (.isi (.ix (.var 0) (.var 2)) .str) (.name 2) (.seq (.tup 0 (.cons (.cst (.int 1)) (.cons (.cst (.int 2)) (.cons (.cst (.int 6)) .nil))))) .no) .nil)) .nil)))) .nil)))⟩
def bd31_0 : B := (.cons (.ife (.not (.call false 30 (.cons (.var 2) (.cons (.var 3) .nil)))) (.cons (.ret (.cst (.bl false))) .nil) .nil) .nil)
def fn31 : Fn := ⟨2, 4, (.cons (.ife (.bop false (.cons (.not (.isi (.var 0) .list)) (.cons (.cmp .ne (.blt .len (.cons (.var 0) .nil)) (.blt .len (.cons (.var 1) .nil))) .nil))) (.cons (.ret (.cst (.bl false))) .nil) .nil) (.cons (.for_ (.tup [2, 3]) (.zip (.var 0) (.var 1)) bd31_0) (.cons (.ret (.cst (.bl true))) .nil)))⟩
def bd32_0 : B := (.cons (.ife (.bop true (.cons (.cmp .inn (.ix (.var 6) (.cst (.int 0))) (.tup 0 (.cons (.cst (.str "lent")) (.cons (.cst (.str "sole")) .nil)))) (.cons (.cmp .eq (.bin .mod (.var 4) (.cst (.int 2))) (.cst (.int 0))) .nil))) (.cons (.app 3 (.var 5)) .nil) .nil) (.cons (.set 4 0 (.bin .div (.var 4) (.cst (.int 2)))) .nil))
def fn32 : Fn := ⟨3, 7, (.cons (.ife (.cmp .eq (.bin .mod (.var 2) (.cst (.int 4))) (.cst (.int 0))) (.cons (.ret (.cst .non)) .nil) .nil) (.cons (.ife (.cmp .eq (.bin .mod (.var 2) (.cst (.int 4))) (.cst (.int 1))) (.cons (.ret (.ix (.var 0) (.bin .mod (.bin .div (.var 2) (.cst (.int 4))) (.cst (.int 3))))) .nil) .nil) (.cons (.set 3 1 (.lst 1 .nil)) (.cons (.set 4 0 (.bin .div (.var 2) (.cst (.int 32)))) (.cons (.for_ (.tup [5, 6]) (.seq (.var 1)) bd32_0) (.cons (.ret (.bin .add (.ix (.var 0) (.bin .add (.cst (.int 3)) (.bin .mod (.bin .div (.var 2) (.cst (.int 4))) (.cst (.int 5))))) (.tup 0 (.cons (.blt .tuple (.cons (.var 3) .nil)) .nil)))) .nil))))))⟩
def fn33 : Fn := ⟨1, 1, (.cons (.ife (.bop false (.cons (.cmp .isn (.var 0) (.cst .non)) (.cons (.cmp .lt (.blt .len (.cons (.var 0) .nil)) (.cst (.int 3))) .nil))) (.cons (.ret (.mv 0)) .nil) .nil) (.cons (.ret (.sl (.var 0) .no (.yes (.cst (.int 2))))) .nil))⟩
def fn34 : Fn := ⟨4, 9, (.cons (.set 4 0 (.call false 21 (.cons (.var 3) .nil))) (.cons (.set 5 0 (.bin .mul (.lst 1 (.cons (.tup 0 (.cons (.cst (.str "num")) .nil)) .nil)) (.bin .mod (.ix (.var 4) (.cst (.int 0))) (.cst (.int 3))))) (.cons (.ife (.cmp .gt (.var 2) (.cst (.int 0))) (.cons (.set 5 0 (.call false 27 (.cons (.var 0) (.cons (.ix (.var 4) (.cst (.int 1))) (.cons (.bin .mod (.ix (.var 4) (.cst (.int 0))) (.cst (.int 5))) .nil))))) .nil) .nil) (.cons (.set 6 0 (.lzip (.var 1) (.var 5))) (.cons (.set 7 0 (.cst .non)) (.cons (.set 8 0 (.bin .add (.call false 27 (.cons (.var 0) (.cons (.ix (.var 4) (.cst (.int 3))) (.cons (.bin .mod (.bin .div (.ix (.var 4) (.cst (.int 0))) (.cst (.int 16))) (.cst (.int 7))) .nil)))) (.lst 1 (.cons (.tup 0 (.cons (.cst (.str "num")) .nil)) .nil)))) (.cons (.ife (.cmp .gt (.var 2) (.cst (.int 0))) (.cons (.set 7 0 (.call false 32 (.cons (.var 0) (.cons (.var 6) (.cons (.ix (.var 4) (.cst (.int 2))) .nil))))) .nil) .nil) (.cons (.ife (.cmp .nisn (.var 7) (.cst .non)) (.cons (.set 8 0 (.bin .add (.var 8) (.lst 1 (.cons (.call false 33 (.cons (.var 7) .nil)) .nil)))) .nil) .nil) (.cons (.ret (.tup 0 (.cons (.ix (.var 1) (.bin .sub (.cst (.int 15)) (.var 2))) (.cons (.var 6) (.cons (.var 7) (.cons (.lzip (.sl (.var 1) (.yes (.blt .len (.cons (.var 6) .nil))) .no) (.var 8)) .nil)))))) .nil)))))))))⟩
def fn35 : Fn := ⟨1, 5, (.cons (.set 1 0 (.call false 22 (.cons (.call false 20 (.cons (.var 0) (.cons (.cst (.int 0)) .nil))) (.cons (.cst (.int 16)) .nil)))) (.cons (.set 2 0 (.call false 26 (.cons (.bin .mod (.bin .mul (.call false 20 (.cons (.var 0) (.cons (.cst (.int 1)) .nil))) (.cst (.int 48271))) (.cst (.int 2147483647))) .nil))) (.cons (.set 3 0 (.bin .add (.cst (.int 1)) (.bin .mod (.call false 20 (.cons (.var 0) (.cons (.cst (.int 2)) .nil))) (.cst (.int 6))))) (.cons (.ret (.comp 1 (.call false 34 (.cons (.var 2) (.cons (.var 1) (.cons (.var 4) (.cons (.call false 20 (.cons (.var 0) (.cons (.bin .add (.cst (.int 3)) (.var 4)) .nil))) .nil))))) (.name 4) (.range (.cons (.var 3) .nil)) .no)) .nil))))⟩
def bd36_0 : B := (.cons (.set 12 0 (.comp 1 (.var 13) (.tup [13, 14]) (.seq (.var 1)) (.yes (.cmp .eq (.var 14) (.var 11))))) (.cons (.ife (.cmp .eq (.var 12) (.lst 1 .nil)) (.cons (.ret (.cst .non)) .nil) .nil) (.cons (.app 8 (.ix (.var 12) (.bin .mod (.var 9) (.blt .len (.cons (.var 12) .nil))))) (.cons (.set 9 0 (.bin .div (.var 9) (.cst (.int 8)))) .nil))))
def fn36 : Fn := ⟨3, 15, (.cons (.set 3 0 (.call false 21 (.cons (.var 2) .nil))) (.cons (.setT [4, 5, 6, 7] (.ix (.var 0) (.bin .mod (.ix (.var 3) (.cst (.int 0))) (.blt .len (.cons (.var 0) .nil))))) (.cons (.set 8 1 (.lst 1 .nil)) (.cons (.set 9 0 (.ix (.var 3) (.cst (.int 1)))) (.cons (.for_ (.tup [10, 11]) (.seq (.var 5)) bd36_0) (.cons (.ife (.cmp .isn (.var 6) (.cst .non)) (.cons (.ret (.tup 0 (.cons (.cst (.str "call")) (.cons (.cst (.str "")) (.cons (.var 4) (.cons (.blt .tuple (.cons (.var 8) .nil)) .nil)))))) .nil) .nil) (.cons (.set 12 0 (.comp 1 (.var 13) (.tup [13, 14]) (.seq (.var 1)) (.yes (.cmp .eq (.var 14) (.call false 33 (.cons (.var 6) .nil)))))) (.cons (.ife (.cmp .eq (.var 12) (.lst 1 .nil)) (.cons (.ret (.cst .non)) .nil) .nil) (.cons (.ret (.tup 0 (.cons (.cst (.str "call")) (.cons (.ix (.var 12) (.bin .mod (.ix (.var 3) (.cst (.int 2))) (.blt .len (.cons (.var 12) .nil)))) (.cons (.var 4) (.cons (.blt .tuple (.cons (.var 8) .nil)) .nil)))))) .nil)))))))))⟩
def fn37 : Fn := ⟨4, 9, (.cons (.set 4 0 (.bin .add (.ix (.var 1) (.cst (.int 1))) (.ix (.var 1) (.cst (.int 3))))) (.cons (.set 5 1 (.cst .non)) (.cons (.ife (.bop true (.cons (.cmp .eq (.bin .mod (.var 2) (.cst (.int 4))) (.cst (.int 0))) (.cons (.cmp .isn (.ix (.var 1) (.cst (.int 2))) (.cst .non)) .nil))) (.cons (.set 5 1 (.tup 0 (.cons (.cst (.str "give")) (.cons (.cst (.str "")) .nil)))) .nil) (.cons (.ife (.cmp .eq (.bin .mod (.var 2) (.cst (.int 4))) (.cst (.int 0))) (.cons (.set 6 0 (.comp 1 (.var 7) (.tup [7, 8]) (.seq (.var 4)) (.yes (.cmp .eq (.var 8) (.call false 33 (.cons (.ix (.var 1) (.cst (.int 2))) .nil)))))) (.cons (.set 5 1 (.tup 0 (.cons (.cst (.str "give")) (.cons (.ix (.var 6) (.bin .mod (.bin .div (.var 2) (.cst (.int 4))) (.blt .len (.cons (.var 6) .nil)))) .nil)))) .nil)) (.cons (.set 5 1 (.call false 36 (.cons (.var 0) (.cons (.var 4) (.cons (.var 2) .nil))))) .nil)) .nil)) (.cons (.ife (.cmp .isn (.var 5) (.cst .non)) (.cons (.ret (.tup 0 (.cons (.cst (.str "go")) (.cons (.bin .add (.var 3) (.cst (.int 1))) .nil)))) .nil) .nil) (.cons (.ret (.mv 5)) .nil)))))⟩
def bd38_0 : B := (.cons (.app 4 (.call false 37 (.cons (.var 0) (.cons (.var 3) (.cons (.var 5) (.cons (.blt .len (.cons (.var 4) .nil)) .nil)))))) .nil)
def fn38 : Fn := ⟨3, 6, (.cons (.set 3 0 (.ix (.var 0) (.var 1))) (.cons (.set 4 1 (.lst 1 .nil)) (.cons (.for_ (.name 5) (.seq (.sl (.stp (.var 2) (.var 1) (.blt .len (.cons (.var 0) .nil))) .no (.yes (.cst (.int 30))))) bd38_0) (.cons (.app 4 (.call false 37 (.cons (.var 0) (.cons (.var 3) (.cons (.cst (.int 0)) (.cons (.blt .len (.cons (.var 4) .nil)) .nil)))))) (.cons (.ret (.tup 0 (.cons (.ix (.var 3) (.cst (.int 0))) (.cons (.blt .tuple (.cons (.ix (.var 3) (.cst (.int 1))) .nil)) (.cons (.ix (.var 3) (.cst (.int 2))) (.cons (.blt .tuple (.cons (.ix (.var 3) (.cst (.int 3))) .nil)) (.cons (.blt .tuple (.cons (.var 4) .nil)) .nil))))))) .nil)))))⟩
def fn39 : Fn := ⟨1, 2, (.cons (.ret (.cmp .eq (.comp 1 (.var 1) (.name 1) (.seq (.call false 24 (.cons (.var 0) .nil))) (.yes (.cmp .eq (.ix (.var 1) (.cst (.int 2))) (.tup 0 (.cons (.cst (.str "own")) .nil))))) (.lst 1 .nil))) .nil)⟩
def fn40 : Fn := ⟨3, 7, (.cons (.set 3 0 (.ix (.comp 1 (.var 5) (.tup [4, 5]) (.seq (.var 0)) (.yes (.cmp .eq (.var 4) (.var 1)))) (.cst (.int 0)))) (.cons (.ife (.cmp .eq (.ix (.var 3) (.cst (.int 0))) (.cst (.str "lent"))) (.cons (.ret (.call false 28 (.cons (.var 0) (.cons (.cst (.str "lend")) (.cons (.tup 0 (.cons (.var 1) (.cons (.cst (.bl true)) (.cons (.tup 0 .nil) (.cons (.cst .non) .nil))))) (.cons (.var 2) .nil)))))) .nil) .nil) (.cons (.ife (.cmp .eq (.ix (.var 3) (.cst (.int 0))) (.cst (.str "sole"))) (.cons (.ret (.call false 28 (.cons (.var 0) (.cons (.cst (.str "sole")) (.cons (.tup 0 (.cons (.var 1) (.cons (.cst (.bl true)) (.cons (.tup 0 .nil) (.cons (.cst .non) .nil))))) (.cons (.var 2) .nil)))))) .nil) .nil) (.cons (.set 6 0 (.ix (.lst 1 (.cons (.cst (.str "empty")) (.cons (.cst (.str "read")) .nil))) (.blt .int (.cons (.call false 39 (.cons (.var 3) .nil)) .nil)))) (.cons (.ret (.call false 28 (.cons (.var 0) (.cons (.var 6) (.cons (.tup 0 (.cons (.var 1) (.cons (.cst (.bl false)) (.cons (.tup 0 .nil) (.cons (.cst .non) .nil))))) (.cons (.cst (.str "")) .nil)))))) .nil)))))⟩
def bd41_0 : B := (.cons (.ife (.bop true (.cons (.cmp .eq (.var 4) (.ix (.var 1) (.cst (.int 1)))) (.cons (.cmp .inn (.ix (.var 5) (.cst (.int 0))) (.tup 0 (.cons (.cst (.str "lent")) (.cons (.cst (.str "sole")) .nil)))) .nil))) (.cons (.app 2 (.tup 0 (.cons (.cst (.str "take")) (.cons (.cst (.str "")) (.cons (.cst (.bl false)) (.cons (.cst (.int 0)) (.cons (.cst (.int 0)) (.cons (.var 4) .nil)))))))) .nil) (.cons (.ife (.cmp .eq (.var 4) (.ix (.var 1) (.cst (.int 1)))) (.cons (.app 2 (.call false 28 (.cons (.var 0) (.cons (.cst (.str "fill")) (.cons (.tup 0 (.cons (.var 4) (.cons (.cst (.bl false)) (.cons (.tup 0 .nil) (.cons (.cst .non) .nil))))) (.cons (.cst (.str "")) .nil)))))) .nil) .nil) .nil)) .nil)
def fn41 : Fn := ⟨2, 6, (.cons (.ife (.bop false (.cons (.cmp .eq (.ix (.var 1) (.cst (.int 0))) (.cst (.str "go"))) (.cons (.cmp .eq (.var 1) (.tup 0 (.cons (.cst (.str "give")) (.cons (.cst (.str "")) .nil)))) .nil))) (.cons (.ret (.lst 1 (.cons (.tup 0 (.cons (.cst (.str "rest")) (.cons (.cst (.str "")) (.cons (.cst (.bl false)) (.cons (.cst (.int 0)) (.cons (.cst (.int 0)) (.cons (.cst (.str "")) .nil))))))) .nil))) .nil) .nil) (.cons (.ife (.cmp .eq (.ix (.var 1) (.cst (.int 0))) (.cst (.str "give"))) (.cons (.set 2 1 (.call false 40 (.cons (.var 0) (.cons (.ix (.var 1) (.cst (.int 1))) (.cons (.cst (.str "")) .nil))))) (.cons (.ife (.cmp .eq (.sl (.var 2) (.yes (.cst (.int 2))) (.yes (.cst (.int 3)))) (.tup 0 (.cons (.cst (.bl true)) .nil))) (.cons (.set 2 1 (.bin .add (.tup 0 (.cons (.cst (.str "give")) .nil)) (.sl (.var 2) (.yes (.cst (.int 1))) .no))) .nil) .nil) (.cons (.ret (.lst 1 (.cons (.var 2) .nil))) .nil))) .nil) (.cons (.set 2 1 (.comp 1 (.call false 40 (.cons (.var 0) (.cons (.var 4) (.cons (.blt .str (.cons (.var 3) .nil)) .nil)))) (.tup [3, 4]) (.enum (.ix (.var 1) (.cst (.int 3)))) .no)) (.cons (.app 2 (.tup 0 (.cons (.cst (.str "hand")) (.cons (.cst (.str "")) (.cons (.cst (.bl false)) (.cons (.cst (.int 0)) (.cons (.cst (.int 0)) (.cons (.cst (.str "")) .nil)))))))) (.cons (.for_ (.tup [4, 5]) (.seq (.var 0)) bd41_0) (.cons (.ret (.mv 2)) .nil))))))⟩
def bd42_0 : B := (.cons (.set 6 0 (.bin .add (.var 6) (.comp 1 (.bin .add (.tup 0 (.cons (.var 4) .nil)) (.var 9)) (.name 9) (.seq (.call false 41 (.cons (.var 7) (.cons (.var 8) .nil)))) .no))) .nil)
def bd42_1 : B := (.cons (.set 6 0 (.lst 1 .nil)) (.cons (.set 7 0 (.bin .add (.ix (.ix (.var 1) (.var 5)) (.cst (.int 1))) (.ix (.ix (.var 1) (.var 5)) (.cst (.int 3))))) (.cons (.for_ (.tup [4, 8]) (.enum (.ix (.ix (.var 3) (.var 5)) (.cst (.int 4)))) bd42_0) (.cons (.ife (.not (.call false 31 (.cons (.call false 19 (.cons (.var 3) (.cons (.var 5) .nil))) (.cons (.var 6) .nil)))) (.cons (.ret (.cst (.bl false))) .nil) .nil) .nil))))
def fn42 : Fn := ⟨1, 10, (.cons (.set 1 0 (.call false 35 (.cons (.var 0) .nil))) (.cons (.set 2 0 (.sl (.var 0) (.yes (.cst (.int 9))) (.yes (.cst (.int 72))))) (.cons (.set 3 0 (.blt .tuple (.cons (.comp 1 (.call false 38 (.cons (.var 1) (.cons (.var 4) (.cons (.var 2) .nil)))) (.name 4) (.range (.cons (.blt .len (.cons (.var 1) .nil)) .nil)) .no) .nil))) (.cons (.for_ (.name 5) (.range (.cons (.blt .len (.cons (.var 3) .nil)) .nil)) bd42_1) (.cons (.ret (.cst (.bl true))) .nil)))))⟩
def tab : List Fn := [fn0, fn1, fn2, fn3, fn4, fn5, fn6, fn7, fn8, fn9, fn10, fn11, fn12, fn13, fn14, fn15, fn16, fn17, fn18, fn19, fn20, fn21, fn22, fn23, fn24, fn25, fn26, fn27, fn28, fn29, fn30, fn31, fn32, fn33, fn34, fn35, fn36, fn37, fn38, fn39, fn40, fn41, fn42]
theorem ok_num : PyData.strOk "num" = true := by decide +kernel
theorem ok_own : PyData.strOk "own" = true := by decide +kernel
theorem ok_strip : PyData.strOk "strip" = true := by decide +kernel
theorem ok_rec : PyData.strOk "rec" = true := by decide +kernel
theorem ne1 : (("num" : Str) == "rec") = false := by decide +kernel
theorem ne2 : (("own" : Str) == "rec") = false := by decide +kernel
theorem ne3 : (("strip" : Str) == "rec") = false := by decide +kernel
inductive Sh where
  | num | own | strip (k : Int) | rcd (ps : List Sh)
mutual
def enc : Sh → D
  | .num => .tup [.str "num"]
  | .own => .tup [.str "own"]
  | .strip k => .tup [.str "strip", .int k]
  | .rcd ps => .tup [.str "rec", .tup (encs ps)]
def encs : List Sh → List D
  | [] => []
  | p :: ps => enc p :: encs ps
end
mutual
def cnt : Sh → Nat
  | .rcd ps => cnts ps
  | _ => 1
def cnts : List Sh → Nat
  | [] => 0
  | p :: ps => cnt p + cnts ps
end
theorem encs_map : ∀ ps : List Sh, encs ps = ps.map enc
  | [] => rfl
  | p :: ps => by rw [encs, encs_map ps]; rfl
def eP (p : List Int) : D := .tup (p.map D.int)
/-- a row: path, first leaf, how many, what stands there -/
structure Row where
  p : List Int
  a : Int
  m : Int
  s : Sh
mutual
def rws : Sh → List Row
  | .rcd ps => ⟨[], 0, cnts ps, .rcd ps⟩ :: rwl 0 0 ps
  | .num => [⟨[], 0, 1, .num⟩]
  | .own => [⟨[], 0, 1, .own⟩]
  | .strip k => [⟨[], 0, 1, .strip k⟩]
def rwl : Nat → Int → List Sh → List Row
  | _, _, [] => []
  | k, a, t :: ts => (rws t).map (fun r => ⟨(k : Int) :: r.p, a + r.a, r.m, r.s⟩) ++ rwl (k + 1) (a + cnt t) ts
end
def eR (r : Row) : D := .tup [eP r.p, .int r.a, .int r.m, enc r.s]
def eT (t : Sh) : D := .lst ((rws t).map eR)
theorem rws_head (t : Sh) : ∃ rest, rws t = ⟨[], 0, cnt t, t⟩ :: rest := by
  cases t with
  | num => exact ⟨[], by simp [rws, cnt]⟩
  | own => exact ⟨[], by simp [rws, cnt]⟩
  | strip k => exact ⟨[], by simp [rws, cnt]⟩
  | rcd ts => exact ⟨_, by rw [rws, cnt]⟩
inductive Ok : Sh → Prop where
  | num : Ok .num
  | own : Ok .own
  | strip (k : Int) : Ok (.strip k)
  | rcd {ts : List Sh} : 1 ≤ cnts ts → (∀ t ∈ ts, Ok t) → Ok (.rcd ts)
theorem rwl_mem : ∀ {ts : List Sh} {k : Nat} {a : Int} {r : Row}, r ∈ rwl k a ts → ∃ t ∈ ts, ∃ q ∈ rws t, r.p.length = q.p.length + 1
  | [], k, a, r, h => by simp [rwl] at h
  | t :: ts, k, a, r, h => by
    rw [rwl] at h
    rcases List.mem_append.mp h with h | h
    · obtain ⟨q, hq, rfl⟩ := List.mem_map.mp h
      exact ⟨t, List.mem_cons_self, q, hq, rfl⟩
    · obtain ⟨t', ht, q, hq, e⟩ := rwl_mem h
      exact ⟨t', List.mem_cons_of_mem _ ht, q, hq, e⟩
theorem rwl_few (d : Nat) : ∀ (ts : List Sh) (k : Nat) (a : Int), (∀ t ∈ ts, (rws t).length ≤ cnt t * d) → (rwl k a ts).length ≤ cnts ts * d
  | [], k, a, _ => by simp [rwl]
  | t :: ts, k, a, h => by
    have h1 := h t List.mem_cons_self
    have h2 := rwl_few d ts (k + 1) (a + cnt t) (fun t ht => h t (List.mem_cons_of_mem _ ht))
    rw [rwl, cnts, List.length_append, List.length_map, Nat.add_mul]
    omega
theorem mem_rwl {t : Sh} {q : Row} (hq : q ∈ rws t) : ∀ {ts : List Sh} {k : Nat} {a : Int}, t ∈ ts → ∃ r ∈ rwl k a ts, r.p.length = q.p.length + 1
  | [], k, a, h => by simp at h
  | t' :: ts, k, a, h => by
    rw [rwl]
    rcases List.mem_cons.mp h with rfl | h
    · exact ⟨_, List.mem_append.mpr (.inl (List.mem_map.mpr ⟨q, hq, rfl⟩)), rfl⟩
    · obtain ⟨r, hr, e⟩ := mem_rwl hq (k := k + 1) (a := a + cnt t') h
      exact ⟨r, List.mem_append.mpr (.inr hr), e⟩
theorem rws_few {t : Sh} (h : Ok t) : ∀ d : Nat, (∀ r ∈ rws t, r.p.length ≤ d) → (rws t).length ≤ cnt t * (d + 1) := by
  induction h with
  | num => intro d _; simp [rws, cnt]
  | own => intro d _; simp [rws, cnt]
  | strip => intro d _; simp [rws, cnt]
  | @rcd ts h1 hk ih =>
    intro d hd
    rw [rws, cnt, List.length_cons]
    have hpos : ∃ t, t ∈ ts := by
      cases ts with
      | nil => simp [cnts] at h1
      | cons t ts => exact ⟨t, List.mem_cons_self⟩
    obtain ⟨t0, ht0⟩ := hpos
    obtain ⟨rest, er⟩ := rws_head t0
    obtain ⟨r0, hr0, e0⟩ := mem_rwl (q := ⟨[], 0, cnt t0, t0⟩) (t := t0) (by rw [er]; exact List.mem_cons_self) (k := 0) (a := 0) ht0
    have h0 := hd r0 (by rw [rws]; exact List.mem_cons_of_mem _ hr0)
    obtain ⟨d', rfl⟩ : ∃ d', d = d' + 1 := ⟨d - 1, by omega⟩
    have := rwl_few (d' + 1) ts 0 0 (fun t ht => ih t ht d' (fun q hq => by
      obtain ⟨r, hr, e⟩ := mem_rwl hq (k := 0) (a := 0) ht
      have := hd r (by rw [rws]; exact List.mem_cons_of_mem _ hr)
      omega))
    rw [show cnts ts * (d' + 1 + 1) = cnts ts * (d' + 1) + cnts ts from Nat.mul_succ _ _]
    omega
def Gt (t : Sh) : Prop := Ok t ∧ cnt t ≤ 8 ∧ ∀ r ∈ rws t, r.p.length ≤ 3
theorem Gt.few {t : Sh} (h : Gt t) : (rws t).length ≤ 32 := by
  have h1 := rws_few h.1 3 h.2.2
  have h2 := h.2.1
  have : cnt t * (3 + 1) ≤ 8 * 4 := Nat.mul_le_mul_right 4 h2
  omega
theorem range_map : ∀ (n k : Nat), rangeD (k : Int) n = (List.range' k n).map fun i : Nat => D.int i
  | 0, _ => rfl
  | n + 1, k => by
    rw [rangeD, List.range'_succ, List.map_cons, ← range_map n (k + 1)]
    congr 2
theorem rng_ok {n : Nat} (h : n ≤ 1000) : rng62 (n : Int) = true := by
  have h' : (n : Int).natAbs ≤ 1000000 := by omega
  exact decide_eq_true h'
theorem rngop {m : Nat} (h : m ≤ 1000) : rangeop [.int (m : Int)] = some ((List.range' 0 m).map fun i : Nat => D.int i) := by
  have e : rangeD 0 m = (List.range' 0 m).map fun i : Nat => D.int i := range_map m 0
  have e2 : rangeop [.int (m : Int)] = if rng62 (m : Int) = true then some (rangeD 0 (m : Int).toNat) else none := rfl
  rw [e2, if_pos (rng_ok h), Int.toNat_natCast, e]
theorem sum_cnts : ∀ ts : List Sh, (ts.map fun t => (cnt t : Int)).sum = (cnts ts : Int)
  | [] => rfl
  | t :: ts => by
    rw [List.map_cons, List.sum_cons, sum_cnts ts, cnts]
    omega
/-! a path followed -/
mutual
def walk : Sh → List Int → Option (Nat × Sh)
  | s, [] => some (0, s)
  | .rcd ps, k :: q => if 0 ≤ k then walkL ps 0 k.toNat q else none
  | .num, _ :: _ => none
  | .own, _ :: _ => none
  | .strip _, _ :: _ => none
def walkL : List Sh → Nat → Nat → List Int → Option (Nat × Sh)
  | [], _, _, _ => none
  | p :: ps, a, 0, q => (walk p q).map fun z => (a + z.1, z.2)
  | p :: ps, a, k + 1, q => walkL ps (a + cnt p) k q
end
theorem walk_nil (s : Sh) : walk s [] = some (0, s) := by cases s <;> simp [walk]
theorem walkL_eq : ∀ (ps : List Sh) (a k : Nat) (q : List Int), walkL ps a k q = (ps[k]?).bind fun p => (walk p q).map fun z => (a + cnts (ps.take k) + z.1, z.2)
  | [], a, k, q => by simp [walkL]
  | p :: ps, a, 0, q => by simp [walkL, cnts]
  | p :: ps, a, k + 1, q => by
    rw [walkL, walkL_eq ps (a + cnt p) k q, List.getElem?_cons_succ, List.take_succ_cons, cnts, Nat.add_assoc]
theorem walk_rcd (ps : List Sh) (k : Int) (q : List Int) : walk (.rcd ps) (k :: q) = if 0 ≤ k then (ps[k.toNat]?).bind fun p => (walk p q).map fun z => (cnts (ps.take k.toNat) + z.1, z.2) else none := by
  rw [walk, walkL_eq]
  simp
theorem rwl_walk {F : Sh → Prop} (hF : ∀ t, F t → ∀ r ∈ rws t, ∃ m : Nat, r.a = (m : Int) ∧ walk t r.p = some (m, r.s)) : ∀ (ts : List Sh) (k a : Nat), (∀ t ∈ ts, F t) → ∀ r ∈ rwl k (a : Int) ts, ∃ (i : Nat) (t : Sh) (q : List Int) (m : Nat), ts[i]? = some t ∧ r.p = ((k + i : Nat) : Int) :: q ∧ walk t q = some (m, r.s) ∧ r.a = ((a + cnts (ts.take i) + m : Nat) : Int)
  | [], k, a, _, r, h => by simp [rwl] at h
  | t :: ts, k, a, hf, r, h => by
    rw [rwl] at h
    rcases List.mem_append.mp h with h | h
    · obtain ⟨q, hq, rfl⟩ := List.mem_map.mp h
      obtain ⟨m, h1, h2⟩ := hF t (hf t List.mem_cons_self) q hq
      refine ⟨0, t, q.p, m, rfl, rfl, h2, ?_⟩
      show (a : Int) + q.a = _
      rw [h1]
      simp [cnts]
    · have e : (a : Int) + (cnt t : Int) = ((a + cnt t : Nat) : Int) := by omega
      rw [e] at h
      obtain ⟨i, t', q, m, h1, h2, h3, h4⟩ := rwl_walk hF ts (k + 1) (a + cnt t) (fun t ht => hf t (List.mem_cons_of_mem _ ht)) r h
      refine ⟨i + 1, t', q, m, by simpa using h1, by rw [h2]; congr 2; omega, h3, ?_⟩
      rw [h4, List.take_succ_cons, cnts]
      congr 1
      omega
theorem rws_walk {s : Sh} (h : Ok s) : ∀ r ∈ rws s, ∃ m : Nat, r.a = (m : Int) ∧ walk s r.p = some (m, r.s) := by
  induction h with
  | num => intro r hr; simp [rws] at hr; subst hr; exact ⟨0, rfl, walk_nil _⟩
  | own => intro r hr; simp [rws] at hr; subst hr; exact ⟨0, rfl, walk_nil _⟩
  | strip k => intro r hr; simp [rws] at hr; subst hr; exact ⟨0, rfl, walk_nil _⟩
  | @rcd ts h1 _ ih =>
    intro r hr
    rw [rws] at hr
    rcases List.mem_cons.mp hr with rfl | hr
    · exact ⟨0, rfl, walk_nil _⟩
    · obtain ⟨i, t, q, m, k1, k2, k3, k4⟩ := rwl_walk (F := fun t => t ∈ ts) ih ts 0 0 (fun t ht => ht) r hr
      refine ⟨cnts (ts.take i) + m, by rw [k4]; congr 1; omega, ?_⟩
      rw [k2, walk_rcd, if_pos (by omega)]
      have : (((0 + i : Nat) : Int)).toNat = i := by omega
      rw [this, k1]
      simp [k3]
mutual
def lv : Sh → List D
  | .rcd ps => lvs ps
  | .num => [enc .num]
  | .own => [enc .own]
  | .strip k => [enc (.strip k)]
def lvs : List Sh → List D
  | [] => []
  | p :: ps => lv p ++ lvs ps
end
def lvl : Sh → Nat
  | .rcd _ => 0
  | _ => 1
theorem lvs_append : ∀ a b : List Sh, lvs (a ++ b) = lvs a ++ lvs b
  | [], b => rfl
  | x :: a, b => by rw [List.cons_append, lvs, lvs, lvs_append a b, List.append_assoc]
mutual
theorem lv_len : ∀ s : Sh, (lv s).length = cnt s
  | .num => rfl
  | .own => rfl
  | .strip _ => rfl
  | .rcd ps => by rw [lv, cnt, lvs_len ps]
theorem lvs_len : ∀ ps : List Sh, (lvs ps).length = cnts ps
  | [] => rfl
  | p :: ps => by rw [lvs, cnts, List.length_append, lv_len p, lvs_len ps]
end
theorem cnt_mem {p : Sh} : ∀ {ps : List Sh}, p ∈ ps → cnt p ≤ cnts ps
  | [], h => by simp at h
  | q :: ps, h => by
    rw [cnts]
    rcases List.mem_cons.mp h with rfl | h
    · omega
    · have := cnt_mem h; omega
theorem Ok.part {ts : List Sh} (h : Ok (.rcd ts)) : ∀ t ∈ ts, Ok t := by
  cases h with
  | rcd _ h => exact h
theorem short_part {ts : List Sh} {d : Nat} (h : ∀ r ∈ rws (.rcd ts), r.p.length ≤ d + 1) : ∀ t ∈ ts, ∀ r ∈ rws t, r.p.length ≤ d := fun t ht q hq => by
  obtain ⟨r, hr, e⟩ := mem_rwl hq (k := 0) (a := 0) ht
  have := h r (by rw [rws]; exact List.mem_cons_of_mem _ hr)
  omega
theorem Gt.part {ts : List Sh} (h : Gt (.rcd ts)) : ∀ t ∈ ts, Gt t := fun t ht => by
  refine ⟨h.1.part t ht, ?_, fun r hr => ?_⟩
  · have := cnt_mem ht
    have := h.2.1
    rw [cnt] at this
    omega
  · have := short_part (d := 2) h.2.2 t ht r hr
    omega
section
variable {G : Nat → Option D} {sub : Nat → Nat → Bool} {fu : Nat}
theorem leaf_rec (n : Nat) (ps : List Sh) (hl : (lvs ps).length ≤ 1000) (h : ∀ p ∈ ps, callF G sub tab fu n 0 [enc p] = .ok (lvl p) (.tup (lv p))) : callF G sub tab fu (n + 1) 0 [enc (.rcd ps)] = .ok 0 (.tup (lvs ps)) := by
  rw [callF_s fn0 rfl rfl]
  simp [evB_cons, evB_nil, seqB_nx, seqB_ret, seqB_exc, seqB_bk, seqB_ct, endF_ret, endF_nx, endF_exc, evS, ev, evs, evBop, evo, evc, evSr, R_ok, R_exc, R_some, O_ok, O_exc, startE, getv, lower, ixop, atD, L2.atI, L2.ixN, cmp_int, cmpne_int, cmp_lt, cmp_le, cmp_gt, cmp_ge, cmp_str, cmpne_str, bin_add, bin_sub, bin_mod, bin_div, bin_mul, bltop, slop, isaop, itemsOf, enumOf, zipOf, Tg.put, Tg.ids, setAll, wipeE, fn0, enc, ok_rec, encs_map]
  obtain ⟨q, e, o, d, he, hq⟩ := forT_list (g := enc) (t := .name 2) (f := evB G sub (callF G sub tab fu n) fu bd0_0)
    (fun rest q => ∃ (o : Option (Nat × D)) (done : List Sh), ps = done ++ rest ∧ q = [some (0, enc (.rcd ps)), some (1, .lst (lvs done)), o]) ps [some (0, enc (.rcd ps)), some (1, .lst []), none] ⟨none, [], rfl, rfl⟩ (by
      rintro x rest q ⟨o, done, hp, rfl⟩
      have hx := h x (by rw [hp]; simp)
      have hlen : (lvs done).length + (lv x).length ≤ 16777216 := by
        rw [hp, lvs_append, List.length_append, lvs, List.length_append] at hl
        omega
      refine ⟨_, _, rfl, .inl ?_, some (0, enc x), done ++ [x], by rw [hp]; simp, rfl⟩
      simp [bd0_0, evB_cons, evB_nil, seqB_nx, seqB_ret, seqB_exc, seqB_bk, seqB_ct, endF_ret, endF_nx, endF_exc, evS, ev, evs, evBop, evo, evc, evSr, R_ok, R_exc, R_some, O_ok, O_exc, startE, getv, lower, ixop, atD, L2.atI, L2.ixN, cmp_int, cmpne_int, cmp_lt, cmp_le, cmp_gt, cmp_ge, cmp_str, cmpne_str, bin_add, bin_sub, bin_mod, bin_div, bin_mul, bltop, slop, isaop, itemsOf, enumOf, zipOf, Tg.put, Tg.ids, setAll, wipeE, hx, hlen, lvs_append, lvs])
  rw [List.append_nil] at he
  subst he
  simp only [enc, encs_map] at e
  rw [e, hq]
  simp [evB_cons, evB_nil, seqB_nx, seqB_ret, seqB_exc, seqB_bk, seqB_ct, endF_ret, endF_nx, endF_exc, evS, ev, evs, evBop, evo, evc, evSr, R_ok, R_exc, R_some, O_ok, O_exc, startE, getv, lower, ixop, atD, L2.atI, L2.ixN, cmp_int, cmpne_int, cmp_lt, cmp_le, cmp_gt, cmp_ge, cmp_str, cmpne_str, bin_add, bin_sub, bin_mod, bin_div, bin_mul, bltop, slop, isaop, itemsOf, enumOf, zipOf, Tg.put, Tg.ids, setAll, wipeE]
theorem leaf_all : ∀ (d n : Nat) (s : Sh), Ok s → (∀ r ∈ rws s, r.p.length ≤ d) → d < n → cnt s ≤ 1000 → callF G sub tab fu n 0 [enc s] = .ok (lvl s) (.tup (lv s))
  | d, 0, s, _, _, hk, _ => by omega
  | d, n + 1, .num, _, _, _, _ => by
    rw [callF_s fn0 rfl rfl]
    simp [evB_cons, evB_nil, seqB_nx, seqB_ret, seqB_exc, seqB_bk, seqB_ct, endF_ret, endF_nx, endF_exc, evS, ev, evs, evBop, evo, evc, evSr, R_ok, R_exc, R_some, O_ok, O_exc, startE, getv, lower, ixop, atD, L2.atI, L2.ixN, cmp_int, cmpne_int, cmp_lt, cmp_le, cmp_gt, cmp_ge, cmp_str, cmpne_str, bin_add, bin_sub, bin_mod, bin_div, bin_mul, bltop, slop, isaop, itemsOf, enumOf, zipOf, Tg.put, Tg.ids, setAll, wipeE, fn0, enc, ok_num, ok_rec, ne1, lvl, lv]
  | d, n + 1, .own, _, _, _, _ => by
    rw [callF_s fn0 rfl rfl]
    simp [evB_cons, evB_nil, seqB_nx, seqB_ret, seqB_exc, seqB_bk, seqB_ct, endF_ret, endF_nx, endF_exc, evS, ev, evs, evBop, evo, evc, evSr, R_ok, R_exc, R_some, O_ok, O_exc, startE, getv, lower, ixop, atD, L2.atI, L2.ixN, cmp_int, cmpne_int, cmp_lt, cmp_le, cmp_gt, cmp_ge, cmp_str, cmpne_str, bin_add, bin_sub, bin_mod, bin_div, bin_mul, bltop, slop, isaop, itemsOf, enumOf, zipOf, Tg.put, Tg.ids, setAll, wipeE, fn0, enc, ok_own, ok_rec, ne2, lvl, lv]
  | d, n + 1, .strip j, _, _, _, _ => by
    rw [callF_s fn0 rfl rfl]
    simp [evB_cons, evB_nil, seqB_nx, seqB_ret, seqB_exc, seqB_bk, seqB_ct, endF_ret, endF_nx, endF_exc, evS, ev, evs, evBop, evo, evc, evSr, R_ok, R_exc, R_some, O_ok, O_exc, startE, getv, lower, ixop, atD, L2.atI, L2.ixN, cmp_int, cmpne_int, cmp_lt, cmp_le, cmp_gt, cmp_ge, cmp_str, cmpne_str, bin_add, bin_sub, bin_mod, bin_div, bin_mul, bltop, slop, isaop, itemsOf, enumOf, zipOf, Tg.put, Tg.ids, setAll, wipeE, fn0, enc, ok_strip, ok_rec, ne3, lvl, lv]
  | 0, n + 1, .rcd ps, ho, h, hk, hl => by
    exfalso
    cases ho with
    | rcd h1 h2 =>
      cases ps with
      | nil => simp [cnts] at h1
      | cons t ts =>
        obtain ⟨rest, er⟩ := rws_head t
        obtain ⟨r, hr, e⟩ := mem_rwl (q := ⟨[], 0, cnt t, t⟩) (t := t) (by rw [er]; exact List.mem_cons_self) (k := 0) (a := 0) (ts := t :: ts) List.mem_cons_self
        have := h r (by rw [rws]; exact List.mem_cons_of_mem _ hr)
        omega
  | d + 1, n + 1, .rcd ps, ho, h, hk, hl => by
    rw [cnt] at hl
    rw [leaf_rec n ps (by rw [lvs_len]; exact hl) fun p hp => leaf_all d n p (ho.part p hp) (short_part h p hp) (by omega) (by have := cnt_mem hp; omega)]
    rfl
theorem part_ok (n : Nat) (ps : List Sh) (k : Int) (p : Sh) (h0 : 0 ≤ k) (hp : ps[k.toNat]? = some p) : callF G sub tab fu (n + 1) 1 [enc (.rcd ps), .int k] = .ok 0 (enc p) := by
  rw [callF_s fn1 rfl rfl]
  have h1 : k < (ps.length : Int) := by
    have := (List.getElem?_eq_some_iff.mp hp).1
    omega
  have d0 : decide (0 ≤ k) = true := decide_eq_true h0
  have d1 : decide (k < (ps.length : Int)) = true := decide_eq_true h1
  simp [evB_cons, evB_nil, seqB_nx, seqB_ret, seqB_exc, seqB_bk, seqB_ct, endF_ret, endF_nx, endF_exc, evS, ev, evs, evBop, evo, evc, evSr, R_ok, R_exc, R_some, O_ok, O_exc, startE, getv, lower, ixop, atD, L2.atI, L2.ixN, cmp_int, cmpne_int, cmp_lt, cmp_le, cmp_gt, cmp_ge, cmp_str, cmpne_str, bin_add, bin_sub, bin_mod, bin_div, bin_mul, bltop, slop, isaop, itemsOf, enumOf, zipOf, Tg.put, Tg.ids, setAll, wipeE, fn1, enc, ok_rec, encs_map, d0, d1, h0, h1, hp]
  exact congrArg enc (List.getElem?_eq_some_iff.mp hp).2
theorem left_loop (n : Nat) (o0 o1 o3 o4 : Option (Nat × D)) : ∀ (ps : List Sh) (acc : Int) (o5 : Option (Nat × D)), (∀ p ∈ ps, Gt p) → ∃ o5', forT (.name 5) (evB G sub (callF G sub tab fu (n + 6)) fu bd3_0) (ps.map enc) [o0, o1, some (0, .int acc), o3, o4, o5] = .nx [o0, o1, some (0, .int (acc + cnts ps)), o3, o4, o5']
  | [], acc, o5, _ => ⟨o5, by simp [forT, forLoop, cnts]⟩
  | p :: ps, acc, o5, h => by
    have g := h p List.mem_cons_self
    have e := leaf_all (G := G) (sub := sub) (fu := fu) 3 (n + 6) p g.1 g.2.2 (by omega) (by have := g.2.1; omega)
    have e1 : evB G sub (callF G sub tab fu (n + 6)) fu bd3_0 [o0, o1, some (0, .int acc), o3, o4, some (0, enc p)] = .nx [o0, o1, some (0, .int (acc + cnt p)), o3, o4, some (0, enc p)] := by
      simp [evB_cons, evB_nil, seqB_nx, seqB_ret, seqB_exc, seqB_bk, seqB_ct, endF_ret, endF_nx, endF_exc, evS, ev, evs, evBop, evo, evc, evSr, R_ok, R_exc, R_some, O_ok, O_exc, startE, getv, lower, ixop, atD, L2.atI, L2.ixN, cmp_int, cmpne_int, cmp_lt, cmp_le, cmp_gt, cmp_ge, cmp_str, cmpne_str, bin_add, bin_sub, bin_mod, bin_div, bin_mul, bltop, slop, isaop, itemsOf, enumOf, zipOf, Tg.put, Tg.ids, setAll, wipeE, bd3_0, e, lv_len]
    obtain ⟨o5', e2⟩ := left_loop n o0 o1 o3 o4 ps (acc + cnt p) (some (0, enc p)) fun q hq => h q (List.mem_cons_of_mem _ hq)
    refine ⟨o5', ?_⟩
    have step : ∀ f r1, f [o0, o1, some (0, .int acc), o3, o4, some (0, enc p)] = .nx r1 → forT (.name 5) f ((p :: ps).map enc) [o0, o1, some (0, .int acc), o3, o4, o5] = forT (.name 5) f (ps.map enc) r1 := fun f r1 h => by
      unfold forT
      rw [List.map_cons, forLoop]
      simp [Tg.put, h]
    rw [step _ _ e1, e2, cnts]
    congr 7
    omega
end
/-! names as lists of letters' numbers -/
def cat (l : List Nat) : Str := ⟨(l.map (97 + ·)).toArray⟩
theorem cat_nil : cat [] = Str.ofString "" := by decide +kernel
theorem cat_app (a b : List Nat) : cat a ++ cat b = cat (a ++ b) := by
  show (⟨_⟩ : Str) = _
  unfold cat
  simp
theorem cat_len (a : List Nat) : (cat a).length = a.length := by
  show (cat a).cps.size = _
  simp [cat]
theorem map_inj : ∀ a b : List Nat, a.map (97 + ·) = b.map (97 + ·) → a = b
  | [], [], _ => rfl
  | [], _ :: _, h => by simp at h
  | _ :: _, [], h => by simp at h
  | x :: a, y :: b, h => by
    rw [List.map_cons, List.map_cons] at h
    obtain ⟨h1, h2⟩ := List.cons.inj h
    rw [map_inj a b h2]
    congr 1
    omega
theorem cat_inj {a b : List Nat} : cat a = cat b ↔ a = b := by
  constructor
  · intro h
    unfold cat at h
    have h1 := congrArg (fun s : Str => s.cps.toList) h
    simp only [List.toList_toArray] at h1
    exact map_inj a b h1
  · rintro rfl; rfl
def Sm (l : List Nat) : Prop := ∀ x ∈ l, x < 26
theorem cat_ok {l : List Nat} (h : Sm l) : PyData.strOk (cat l) = true := by
  unfold PyData.strOk cat
  rw [Array.all_eq_true]
  intro i hi
  simp only [List.getElem_toArray, List.getElem_map]
  have := h (l[i]'(by simpa using hi)) (List.getElem_mem _)
  exact decide_eq_true (by omega)
theorem cat_beq (a b : List Nat) : (cat a == cat b) = decide (a = b) := by
  by_cases h : a = b
  · subst h; simp
  · have : cat a ≠ cat b := fun z => h (cat_inj.mp z)
    simp [h, this]
theorem eq_cat {a b : List Nat} (ha : Sm a) (hb : Sm b) : cmpop .eq (.str (cat a)) (.str (cat b)) = some (decide (a = b)) := by
  rw [cmp_str _ _ (cat_ok ha) (cat_ok hb), cat_beq]
theorem Sm.app {a b : List Nat} (ha : Sm a) (hb : Sm b) : Sm (a ++ b) := fun x hx => by
  rcases List.mem_append.mp hx with h | h
  · exact ha x h
  · exact hb x h
theorem Sm.one {x : Nat} (h : x < 26) : Sm [x] := fun y hy => by rw [List.mem_singleton.mp hy]; exact h
def dS (l : List Nat) : D := .str (cat l)
theorem okd_dS {l : List Nat} (h : Sm l) (n : Nat) : (dS l).okd n = true := by
  cases n <;> exact cat_ok h
theorem okds_dS : ∀ {L : List (List Nat)}, (∀ l ∈ L, Sm l) → ∀ n, okds n (L.map dS) = true
  | [], _, n => by simp [okds]
  | l :: L, h, n => by rw [List.map_cons, okds, okd_dS (h l List.mem_cons_self), okds_dS (fun l hl => h l (List.mem_cons_of_mem _ hl)) n]; rfl
theorem any_dS (a : List Nat) : ∀ L : List (List Nat), ((L.map dS).any fun z => eqd z (dS a)) = decide (a ∈ L)
  | [] => by simp
  | l :: L => by
    rw [List.map_cons, List.any_cons, any_dS a L]
    have : eqd (dS l) (dS a) = decide (l = a) := by
      unfold eqd dS
      simp only [D.pd, PyData.eqv]
      exact cat_beq l a
    rw [this]
    by_cases h : l = a
    · simp [h]
    · have h' : a ≠ l := fun z => h z.symm
      simp [h, h']
theorem nin_cat {a : List Nat} {L : List (List Nat)} (ha : Sm a) (hL : ∀ l ∈ L, Sm l) : cmpop .nin (dS a) (.lst (L.map dS)) = some (!decide (a ∈ L)) := by
  have h1 : okd (dS a) = true := okd_dS ha 60
  have h2 := okd_lst (okds_dS hL 0) (by omega)
  simp only [cmpop, h1, h2, Bool.and_self, if_true, any_dS]
def abc : Str := "abcdefghijklmnopqrstuvwxyz"
theorem abc_list : abc.cps.toList = (List.range 26).map (97 + ·) := by decide +kernel
theorem abc_len : abc.length = 26 := by decide +kernel
theorem abc_at (n : Int) : ixop (.str abc) (.int (n % 26)) = some (dS [(n % 26).toNat]) := by
  have h0 : 0 ≤ n % 26 := by omega
  have h1 : n % 26 < 26 := by omega
  have hl : abc.length ≤ LN := by rw [abc_len]; show 26 ≤ 16777216; omega
  show (if abc.length ≤ LN then (L2.atI abc.cps.toList (n % 26)).map fun c => D.str ⟨#[c]⟩ else none) = _
  rw [if_pos hl, abc_list]
  unfold L2.atI L2.ixN
  have hlen : ((List.range 26).map (97 + ·)).length = 26 := rfl
  rw [hlen, if_pos h0, if_pos (by omega)]
  simp only [Option.bind_some, List.getElem?_map]
  rw [List.getElem?_range (by omega)]
  rfl
section
variable {G : Nat → Option D} {sub : Nat → Nat → Bool} {fu : Nat}
theorem first_ok (n : Nat) (o1 : Option (Nat × D)) : ∀ (q : List Int) (s : Sh) (acc : Int) (o3 o4 o5 : Option (Nat × D)) (m : Nat) (t : Sh), Gt s → walk s q = some (m, t) →
    Gt t ∧ ∃ o3' o4' o5', forT (.name 3) (evB G sub (callF G sub tab fu (n + 6)) fu bd3_1) (q.map D.int) [some (0, enc s), o1, some (0, .int acc), o3, o4, o5] = .nx [some (0, enc t), o1, some (0, .int (acc + m)), o3', o4', o5']
  | [], s, acc, o3, o4, o5, m, t, g, h => by
    rw [walk_nil] at h
    cases h
    exact ⟨g, o3, o4, o5, by simp [forT, forLoop]⟩
  | k :: q, .num, acc, o3, o4, o5, m, t, g, h => by simp [walk] at h
  | k :: q, .own, acc, o3, o4, o5, m, t, g, h => by simp [walk] at h
  | k :: q, .strip _, acc, o3, o4, o5, m, t, g, h => by simp [walk] at h
  | k :: q, .rcd ps, acc, o3, o4, o5, m, t, g, h => by
    have step : ∀ f, forT (.name 3) f ((k :: q).map D.int) [some (0, enc (.rcd ps)), o1, some (0, .int acc), o3, o4, o5] = match f [some (0, enc (.rcd ps)), o1, some (0, .int acc), some (0, .int k), o4, o5] with
      | .nx r1 => forT (.name 3) f (q.map D.int) r1
      | .ct r1 => forT (.name 3) f (q.map D.int) r1
      | .bk r1 => .nx r1
      | .ret l d => .ret l d
      | .exc r1 c => .exc r1 c
      | .bad => .bad := fun f => rfl
    rw [step]
    rw [walk_rcd] at h
    by_cases hk0 : 0 ≤ k
    · rw [if_pos hk0] at h
      cases hp : ps[k.toNat]? with
      | none => rw [hp] at h; cases h
      | some p =>
        rw [hp] at h
        simp only [Option.bind_some, Option.map_eq_some_iff] at h
        obtain ⟨⟨m', t'⟩, h1, h2⟩ := h
        cases h2
        have hlt := (List.getElem?_eq_some_iff.mp hp).1
        have gp : Gt p := g.part _ (List.mem_of_getElem? hp)
        have e := part_ok (G := G) (sub := sub) (fu := fu) (n + 5) ps k p hk0 hp
        have hci : HT.sIx ps.length ps.length (some k) = k.toNat := by rw [sIx_some _ _ _ hk0]; omega
        obtain ⟨o5', e2⟩ := left_loop (G := G) (sub := sub) (fu := fu) n (some (0, enc (.rcd ps))) o1 (some (0, .int k)) (some (0, enc p)) (ps.take k.toNat) acc o5 fun x hx => g.part x (List.mem_of_mem_take hx)
        have e1 : evB G sub (callF G sub tab fu (n + 6)) fu bd3_1 [some (0, enc (.rcd ps)), o1, some (0, .int acc), some (0, .int k), o4, o5] = .nx [some (0, enc p), o1, some (0, .int (acc + cnts (ps.take k.toNat))), some (0, .int k), some (0, enc p), o5'] := by
          have hx : enc (.rcd ps) = .tup [.str "rec", .tup (ps.map enc)] := by rw [enc, encs_map]
          rw [hx] at e e2 ⊢
          simp [evB_cons, evB_nil, seqB_nx, seqB_ret, seqB_exc, seqB_bk, seqB_ct, endF_ret, endF_nx, endF_exc, evS, ev, evs, evBop, evo, evc, evSr, R_ok, R_exc, R_some, O_ok, O_exc, startE, getv, lower, ixop, atD, L2.atI, L2.ixN, cmp_int, cmpne_int, cmp_lt, cmp_le, cmp_gt, cmp_ge, cmp_str, cmpne_str, bin_add, bin_sub, bin_mod, bin_div, bin_mul, bltop, slop, isaop, itemsOf, enumOf, zipOf, Tg.put, Tg.ids, setAll, wipeE, bd3_1, e, cut_to, hci, ← List.map_take]
          rw [e2]
          simp [evB_cons, evB_nil, seqB_nx, seqB_ret, seqB_exc, seqB_bk, seqB_ct, endF_ret, endF_nx, endF_exc, evS, ev, evs, evBop, evo, evc, evSr, R_ok, R_exc, R_some, O_ok, O_exc, startE, getv, lower, ixop, atD, L2.atI, L2.ixN, cmp_int, cmpne_int, cmp_lt, cmp_le, cmp_gt, cmp_ge, cmp_str, cmpne_str, bin_add, bin_sub, bin_mod, bin_div, bin_mul, bltop, slop, isaop, itemsOf, enumOf, zipOf, Tg.put, Tg.ids, setAll, wipeE]
        rw [e1]
        obtain ⟨gt, o3', o4', o5'', e3⟩ := first_ok n o1 q p (acc + cnts (ps.take k.toNat)) (some (0, .int k)) (some (0, enc p)) o5' m' t' gp h1
        refine ⟨gt, o3', o4', o5'', ?_⟩
        simp only
        rw [e3]
        congr 7
        omega
    · rw [if_neg hk0] at h; cases h
theorem first_fn (n : Nat) (s t : Sh) (q : List Int) (m : Nat) (g : Gt s) (h : walk s q = some (m, t)) : callF G sub tab fu (n + 7) 3 [enc s, eP q] = .ok 0 (.int m) := by
  obtain ⟨_, o3, o4, o5, e⟩ := first_ok (G := G) (sub := sub) (fu := fu) n (some (0, eP q)) q s 0 none none none m t g h
  rw [callF_s fn3 rfl rfl]
  unfold eP at e ⊢
  simp [evB_cons, evB_nil, seqB_nx, seqB_ret, seqB_exc, seqB_bk, seqB_ct, endF_ret, endF_nx, endF_exc, evS, ev, evs, evBop, evo, evc, evSr, R_ok, R_exc, R_some, O_ok, O_exc, startE, getv, lower, ixop, atD, L2.atI, L2.ixN, cmp_int, cmpne_int, cmp_lt, cmp_le, cmp_gt, cmp_ge, cmp_str, cmpne_str, bin_add, bin_sub, bin_mod, bin_div, bin_mul, bltop, slop, isaop, itemsOf, enumOf, zipOf, Tg.put, Tg.ids, setAll, wipeE, fn3]
  rw [e]
  simp [evB_cons, evB_nil, seqB_nx, seqB_ret, seqB_exc, seqB_bk, seqB_ct, endF_ret, endF_nx, endF_exc, evS, ev, evs, evBop, evo, evc, evSr, R_ok, R_exc, R_some, O_ok, O_exc, startE, getv, lower, ixop, atD, L2.atI, L2.ixN, cmp_int, cmpne_int, cmp_lt, cmp_le, cmp_gt, cmp_ge, cmp_str, cmpne_str, bin_add, bin_sub, bin_mod, bin_div, bin_mul, bltop, slop, isaop, itemsOf, enumOf, zipOf, Tg.put, Tg.ids, setAll, wipeE]
theorem part_loop (n : Nat) (o1 : Option (Nat × D)) : ∀ (q : List Int) (s : Sh) (o2 : Option (Nat × D)) (m : Nat) (t : Sh), walk s q = some (m, t) →
    ∃ o2', forT (.name 2) (evB G sub (callF G sub tab fu (n + 1)) fu bd2_0) (q.map D.int) [some (0, enc s), o1, o2] = .nx [some (0, enc t), o1, o2']
  | [], s, o2, m, t, h => by
    rw [walk_nil] at h
    cases h
    exact ⟨o2, by simp [forT, forLoop]⟩
  | k :: q, .num, o2, m, t, h => by simp [walk] at h
  | k :: q, .own, o2, m, t, h => by simp [walk] at h
  | k :: q, .strip _, o2, m, t, h => by simp [walk] at h
  | k :: q, .rcd ps, o2, m, t, h => by
    have step : ∀ f, forT (.name 2) f ((k :: q).map D.int) [some (0, enc (.rcd ps)), o1, o2] = match f [some (0, enc (.rcd ps)), o1, some (0, .int k)] with
      | .nx r1 => forT (.name 2) f (q.map D.int) r1
      | .ct r1 => forT (.name 2) f (q.map D.int) r1
      | .bk r1 => .nx r1
      | .ret l d => .ret l d
      | .exc r1 c => .exc r1 c
      | .bad => .bad := fun f => rfl
    rw [step]
    rw [walk_rcd] at h
    by_cases hk0 : 0 ≤ k
    · rw [if_pos hk0] at h
      cases hp : ps[k.toNat]? with
      | none => rw [hp] at h; cases h
      | some p =>
        rw [hp] at h
        simp only [Option.bind_some, Option.map_eq_some_iff] at h
        obtain ⟨⟨m', t'⟩, h1, h2⟩ := h
        cases h2
        have e := part_ok (G := G) (sub := sub) (fu := fu) n ps k p hk0 hp
        have e1 : evB G sub (callF G sub tab fu (n + 1)) fu bd2_0 [some (0, enc (.rcd ps)), o1, some (0, .int k)] = .nx [some (0, enc p), o1, some (0, .int k)] := by
          simp [evB_cons, evB_nil, seqB_nx, seqB_ret, seqB_exc, seqB_bk, seqB_ct, endF_ret, endF_nx, endF_exc, evS, ev, evs, evBop, evo, evc, evSr, R_ok, R_exc, R_some, O_ok, O_exc, startE, getv, lower, ixop, atD, L2.atI, L2.ixN, cmp_int, cmpne_int, cmp_lt, cmp_le, cmp_gt, cmp_ge, cmp_str, cmpne_str, bin_add, bin_sub, bin_mod, bin_div, bin_mul, bltop, slop, isaop, itemsOf, enumOf, zipOf, Tg.put, Tg.ids, setAll, wipeE, bd2_0, e]
        rw [e1]
        exact part_loop n o1 q p (some (0, .int k)) m' t' h1
    · rw [if_neg hk0] at h; cases h
theorem part_fn (n : Nat) (s t : Sh) (q : List Int) (m : Nat) (h : walk s q = some (m, t)) : callF G sub tab fu (n + 2) 2 [enc s, eP q] = .ok 0 (enc t) := by
  obtain ⟨o2, e⟩ := part_loop (G := G) (sub := sub) (fu := fu) n (some (0, eP q)) q s none m t h
  rw [callF_s fn2 rfl rfl]
  unfold eP at e ⊢
  simp [evB_cons, evB_nil, seqB_nx, seqB_ret, seqB_exc, seqB_bk, seqB_ct, endF_ret, endF_nx, endF_exc, evS, ev, evs, evBop, evo, evc, evSr, R_ok, R_exc, R_some, O_ok, O_exc, startE, getv, lower, ixop, atD, L2.atI, L2.ixN, cmp_int, cmpne_int, cmp_lt, cmp_le, cmp_gt, cmp_ge, cmp_str, cmpne_str, bin_add, bin_sub, bin_mod, bin_div, bin_mul, bltop, slop, isaop, itemsOf, enumOf, zipOf, Tg.put, Tg.ids, setAll, wipeE, fn2]
  rw [e]
  simp [evB_cons, evB_nil, seqB_nx, seqB_ret, seqB_exc, seqB_bk, seqB_ct, endF_ret, endF_nx, endF_exc, evS, ev, evs, evBop, evo, evc, evSr, R_ok, R_exc, R_some, O_ok, O_exc, startE, getv, lower, ixop, atD, L2.atI, L2.ixN, cmp_int, cmpne_int, cmp_lt, cmp_le, cmp_gt, cmp_ge, cmp_str, cmpne_str, bin_add, bin_sub, bin_mod, bin_div, bin_mul, bltop, slop, isaop, itemsOf, enumOf, zipOf, Tg.put, Tg.ids, setAll, wipeE]
theorem many_rec (n : Nat) (ps : List Sh) (hl : ps.length ≤ 1000) (h : ∀ p ∈ ps, callF G sub tab fu n 23 [enc p] = .ok 0 (.int (cnt p))) : callF G sub tab fu (n + 1) 23 [enc (.rcd ps)] = .ok 0 (.int (cnts ps)) := by
  rw [callF_s fn23 rfl rfl]
  simp [evB_cons, evB_nil, seqB_nx, seqB_ret, seqB_exc, seqB_bk, seqB_ct, endF_ret, endF_nx, endF_exc, evS, ev, evs, evBop, evo, evc, evSr, R_ok, R_exc, R_some, O_ok, O_exc, startE, getv, lower, ixop, atD, L2.atI, L2.ixN, cmp_int, cmpne_int, cmp_lt, cmp_le, cmp_gt, cmp_ge, cmp_str, cmpne_str, bin_add, bin_sub, bin_mod, bin_div, bin_mul, bltop, slop, isaop, itemsOf, enumOf, zipOf, Tg.put, Tg.ids, setAll, wipeE, fn23, enc, ok_rec, encs_map]
  rw [compT_map (g := enc) (fun p => D.int (cnt p)) ps (fun p hp => by simp [compF, evB_cons, evB_nil, seqB_nx, seqB_ret, seqB_exc, seqB_bk, seqB_ct, endF_ret, endF_nx, endF_exc, evS, ev, evs, evBop, evo, evc, evSr, R_ok, R_exc, R_some, O_ok, O_exc, startE, getv, lower, ixop, atD, L2.atI, L2.ixN, cmp_int, cmpne_int, cmp_lt, cmp_le, cmp_gt, cmp_ge, cmp_str, cmpne_str, bin_add, bin_sub, bin_mod, bin_div, bin_mul, bltop, slop, isaop, itemsOf, enumOf, zipOf, Tg.put, Tg.ids, setAll, wipeE, h p hp]) (by omega)]
  have hs := sum_cnts ps
  simp [evB_cons, evB_nil, seqB_nx, seqB_ret, seqB_exc, seqB_bk, seqB_ct, endF_ret, endF_nx, endF_exc, evS, ev, evs, evBop, evo, evc, evSr, R_ok, R_exc, R_some, O_ok, O_exc, startE, getv, lower, ixop, atD, L2.atI, L2.ixN, cmp_int, cmpne_int, cmp_lt, cmp_le, cmp_gt, cmp_ge, cmp_str, cmpne_str, bin_add, bin_sub, bin_mod, bin_div, bin_mul, bltop, slop, isaop, itemsOf, enumOf, zipOf, Tg.put, Tg.ids, setAll, wipeE, asInts_map, hs]
theorem rcd_short {ps : List Sh} (ho : Ok (.rcd ps)) (h : ∀ r ∈ rws (.rcd ps), r.p.length ≤ 0) : False := by
  cases ho with
  | rcd h1 h2 =>
    cases ps with
    | nil => simp [cnts] at h1
    | cons t ts =>
      obtain ⟨rest, er⟩ := rws_head t
      obtain ⟨r, hr, e⟩ := mem_rwl (q := ⟨[], 0, cnt t, t⟩) (t := t) (by rw [er]; exact List.mem_cons_self) (k := 0) (a := 0) (ts := t :: ts) List.mem_cons_self
      have := h r (by rw [rws]; exact List.mem_cons_of_mem _ hr)
      omega
theorem cnt_pos {s : Sh} (h : Ok s) : 1 ≤ cnt s := by
  cases h <;> simp [cnt] <;> assumption
theorem few_parts : ∀ {ps : List Sh}, (∀ p ∈ ps, Ok p) → ps.length ≤ cnts ps
  | [], _ => by simp
  | p :: ps, h => by
    have h1 := cnt_pos (h p List.mem_cons_self)
    have h2 := few_parts fun q hq => h q (List.mem_cons_of_mem _ hq)
    rw [List.length_cons, cnts]
    omega
theorem many_all : ∀ (d n : Nat) (s : Sh), Ok s → (∀ r ∈ rws s, r.p.length ≤ d) → d < n → cnt s ≤ 1000 → callF G sub tab fu n 23 [enc s] = .ok 0 (.int (cnt s))
  | d, 0, s, _, _, hk, _ => by omega
  | d, n + 1, .num, _, _, _, _ => by
    rw [callF_s fn23 rfl rfl]
    simp [evB_cons, evB_nil, seqB_nx, seqB_ret, seqB_exc, seqB_bk, seqB_ct, endF_ret, endF_nx, endF_exc, evS, ev, evs, evBop, evo, evc, evSr, R_ok, R_exc, R_some, O_ok, O_exc, startE, getv, lower, ixop, atD, L2.atI, L2.ixN, cmp_int, cmpne_int, cmp_lt, cmp_le, cmp_gt, cmp_ge, cmp_str, cmpne_str, bin_add, bin_sub, bin_mod, bin_div, bin_mul, bltop, slop, isaop, itemsOf, enumOf, zipOf, Tg.put, Tg.ids, setAll, wipeE, fn23, enc, ok_num, ok_rec, ne1, cnt]
  | d, n + 1, .own, _, _, _, _ => by
    rw [callF_s fn23 rfl rfl]
    simp [evB_cons, evB_nil, seqB_nx, seqB_ret, seqB_exc, seqB_bk, seqB_ct, endF_ret, endF_nx, endF_exc, evS, ev, evs, evBop, evo, evc, evSr, R_ok, R_exc, R_some, O_ok, O_exc, startE, getv, lower, ixop, atD, L2.atI, L2.ixN, cmp_int, cmpne_int, cmp_lt, cmp_le, cmp_gt, cmp_ge, cmp_str, cmpne_str, bin_add, bin_sub, bin_mod, bin_div, bin_mul, bltop, slop, isaop, itemsOf, enumOf, zipOf, Tg.put, Tg.ids, setAll, wipeE, fn23, enc, ok_own, ok_rec, ne2, cnt]
  | d, n + 1, .strip j, _, _, _, _ => by
    rw [callF_s fn23 rfl rfl]
    simp [evB_cons, evB_nil, seqB_nx, seqB_ret, seqB_exc, seqB_bk, seqB_ct, endF_ret, endF_nx, endF_exc, evS, ev, evs, evBop, evo, evc, evSr, R_ok, R_exc, R_some, O_ok, O_exc, startE, getv, lower, ixop, atD, L2.atI, L2.ixN, cmp_int, cmpne_int, cmp_lt, cmp_le, cmp_gt, cmp_ge, cmp_str, cmpne_str, bin_add, bin_sub, bin_mod, bin_div, bin_mul, bltop, slop, isaop, itemsOf, enumOf, zipOf, Tg.put, Tg.ids, setAll, wipeE, fn23, enc, ok_strip, ok_rec, ne3, cnt]
  | 0, n + 1, .rcd ps, ho, h, hk, hl => (rcd_short ho h).elim
  | d + 1, n + 1, .rcd ps, ho, h, hk, hl => by
    rw [cnt] at hl
    have := few_parts ho.part
    rw [many_rec n ps (by omega) fun p hp => many_all d n p (ho.part p hp) (short_part h p hp) (by omega) (by have := cnt_mem hp; omega)]
    rfl
/-- a row of the law's own table -/
def eR3 (r : Row) : D := .tup [eP r.p, .int r.a, enc r.s]
theorem table_loop (n : Nat) (a0 : Option (Nat × D)) : ∀ (ps : List Sh) (k : Nat) (acc : List Row) (a : Int) (o3 o4 : Option (Nat × D)),
    (∀ p ∈ ps, callF G sub tab fu n 24 [enc p] = .ok 1 (.lst ((rws p).map eR3)) ∧ callF G sub tab fu n 23 [enc p] = .ok 0 (.int (cnt p)) ∧ (∀ r ∈ rws p, r.p.length ≤ 1000) ∧ (rws p).length ≤ 1000) → acc.length + (rwl k a ps).length ≤ 1000 →
    ∃ o2' o3' o4', forT (.tup [3, 4]) (evB G sub (callF G sub tab fu n) fu bd24_0) (enumD k (ps.map enc)) [a0, some (1, .lst (acc.map eR3)), some (0, .int a), o3, o4, none, none, none] =
      .nx [a0, some (1, .lst ((acc ++ rwl k a ps).map eR3)), o2', o3', o4', none, none, none]
  | [], k, acc, a, o3, o4, _, _ => ⟨some (0, .int a), o3, o4, by simp [forT, forLoop, enumD, rwl]⟩
  | p :: ps, k, acc, a, o3, o4, h, hl => by
    obtain ⟨h1, h2, h3, h4⟩ := h p List.mem_cons_self
    have step : ∀ f, forT (.tup [3, 4]) f (enumD k ((p :: ps).map enc)) [a0, some (1, .lst (acc.map eR3)), some (0, .int a), o3, o4, none, none, none] = match f [a0, some (1, .lst (acc.map eR3)), some (0, .int a), some (0, .int k), some (0, enc p), none, none, none] with
      | .nx r1 => forT (.tup [3, 4]) f (enumD (k + 1) (ps.map enc)) r1
      | .ct r1 => forT (.tup [3, 4]) f (enumD (k + 1) (ps.map enc)) r1
      | .bk r1 => .nx r1
      | .ret l d => .ret l d
      | .exc r1 c => .exc r1 c
      | .bad => .bad := fun f => rfl
    rw [step]
    rw [rwl, List.length_append, List.length_map] at hl
    have hb : acc.length + (rws p).length ≤ 16777216 := by omega
    have e1 : evB G sub (callF G sub tab fu n) fu bd24_0 [a0, some (1, .lst (acc.map eR3)), some (0, .int a), some (0, .int k), some (0, enc p), none, none, none] =
        .nx [a0, some (1, .lst ((acc ++ (rws p).map fun r : Row => (⟨(k : Int) :: r.p, a + r.a, r.m, r.s⟩ : Row)).map eR3)), some (0, .int (a + cnt p)), some (0, .int k), some (0, enc p), none, none, none] := by
      simp [evB_cons, evB_nil, seqB_nx, seqB_ret, seqB_exc, seqB_bk, seqB_ct, endF_ret, endF_nx, endF_exc, evS, ev, evs, evBop, evo, evc, evSr, R_ok, R_exc, R_some, O_ok, O_exc, startE, getv, lower, ixop, atD, L2.atI, L2.ixN, cmp_int, cmpne_int, cmp_lt, cmp_le, cmp_gt, cmp_ge, cmp_str, cmpne_str, bin_add, bin_sub, bin_mod, bin_div, bin_mul, bltop, slop, isaop, itemsOf, enumOf, zipOf, Tg.put, Tg.ids, setAll, wipeE, bd24_0, h1]
      rw [compT_map (g := eR3) (fun r : Row => eR3 ⟨(k : Int) :: r.p, a + r.a, r.m, r.s⟩) (rws p) (fun r hr => by
        have hb2 : 1 + r.p.length ≤ 16777216 := by have := h3 r hr; omega
        simp [compF, evB_cons, evB_nil, seqB_nx, seqB_ret, seqB_exc, seqB_bk, seqB_ct, endF_ret, endF_nx, endF_exc, evS, ev, evs, evBop, evo, evc, evSr, R_ok, R_exc, R_some, O_ok, O_exc, startE, getv, lower, ixop, atD, L2.atI, L2.ixN, cmp_int, cmpne_int, cmp_lt, cmp_le, cmp_gt, cmp_ge, cmp_str, cmpne_str, bin_add, bin_sub, bin_mod, bin_div, bin_mul, bltop, slop, isaop, itemsOf, enumOf, zipOf, Tg.put, Tg.ids, setAll, wipeE, eR3, eP, bin_catT, hb2]) (by omega)]
      simp [evB_cons, evB_nil, seqB_nx, seqB_ret, seqB_exc, seqB_bk, seqB_ct, endF_ret, endF_nx, endF_exc, evS, ev, evs, evBop, evo, evc, evSr, R_ok, R_exc, R_some, O_ok, O_exc, startE, getv, lower, ixop, atD, L2.atI, L2.ixN, cmp_int, cmpne_int, cmp_lt, cmp_le, cmp_gt, cmp_ge, cmp_str, cmpne_str, bin_add, bin_sub, bin_mod, bin_div, bin_mul, bltop, slop, isaop, itemsOf, enumOf, zipOf, Tg.put, Tg.ids, setAll, wipeE, bin_cat, hb, h2]
    rw [e1]
    obtain ⟨o2', o3', o4', e2⟩ := table_loop n a0 ps (k + 1) (acc ++ (rws p).map fun r : Row => (⟨(k : Int) :: r.p, a + r.a, r.m, r.s⟩ : Row)) (a + cnt p) (some (0, .int k)) (some (0, enc p)) (fun q hq => h q (List.mem_cons_of_mem _ hq)) (by rw [List.length_append, List.length_map]; omega)
    refine ⟨o2', o3', o4', ?_⟩
    simp only
    rw [e2, rwl, List.append_assoc]
theorem table_all : ∀ (d n : Nat) (s : Sh), Gt s → (∀ r ∈ rws s, r.p.length ≤ d) → d < n → callF G sub tab fu n 24 [enc s] = .ok 1 (.lst ((rws s).map eR3))
  | d, 0, s, _, _, hk => by omega
  | d, n + 1, .num, _, _, _ => by
    rw [callF_s fn24 rfl rfl]
    simp [evB_cons, evB_nil, seqB_nx, seqB_ret, seqB_exc, seqB_bk, seqB_ct, endF_ret, endF_nx, endF_exc, evS, ev, evs, evBop, evo, evc, evSr, R_ok, R_exc, R_some, O_ok, O_exc, startE, getv, lower, ixop, atD, L2.atI, L2.ixN, cmp_int, cmpne_int, cmp_lt, cmp_le, cmp_gt, cmp_ge, cmp_str, cmpne_str, bin_add, bin_sub, bin_mod, bin_div, bin_mul, bltop, slop, isaop, itemsOf, enumOf, zipOf, Tg.put, Tg.ids, setAll, wipeE, fn24, enc, ok_num, ok_rec, ne1, rws, eR3, eP]
  | d, n + 1, .own, _, _, _ => by
    rw [callF_s fn24 rfl rfl]
    simp [evB_cons, evB_nil, seqB_nx, seqB_ret, seqB_exc, seqB_bk, seqB_ct, endF_ret, endF_nx, endF_exc, evS, ev, evs, evBop, evo, evc, evSr, R_ok, R_exc, R_some, O_ok, O_exc, startE, getv, lower, ixop, atD, L2.atI, L2.ixN, cmp_int, cmpne_int, cmp_lt, cmp_le, cmp_gt, cmp_ge, cmp_str, cmpne_str, bin_add, bin_sub, bin_mod, bin_div, bin_mul, bltop, slop, isaop, itemsOf, enumOf, zipOf, Tg.put, Tg.ids, setAll, wipeE, fn24, enc, ok_own, ok_rec, ne2, rws, eR3, eP]
  | d, n + 1, .strip j, _, _, _ => by
    rw [callF_s fn24 rfl rfl]
    simp [evB_cons, evB_nil, seqB_nx, seqB_ret, seqB_exc, seqB_bk, seqB_ct, endF_ret, endF_nx, endF_exc, evS, ev, evs, evBop, evo, evc, evSr, R_ok, R_exc, R_some, O_ok, O_exc, startE, getv, lower, ixop, atD, L2.atI, L2.ixN, cmp_int, cmpne_int, cmp_lt, cmp_le, cmp_gt, cmp_ge, cmp_str, cmpne_str, bin_add, bin_sub, bin_mod, bin_div, bin_mul, bltop, slop, isaop, itemsOf, enumOf, zipOf, Tg.put, Tg.ids, setAll, wipeE, fn24, enc, ok_strip, ok_rec, ne3, rws, eR3, eP]
  | 0, n + 1, .rcd ps, g, h, hk => (rcd_short g.1 h).elim
  | d + 1, n + 1, .rcd ps, g, h, hk => by
    have hf := g.few
    have hx : enc (.rcd ps) = .tup [.str "rec", .tup (ps.map enc)] := by rw [enc, encs_map]
    rw [rws, List.length_cons] at hf
    obtain ⟨o2, o3, o4, e⟩ := table_loop (G := G) (sub := sub) (fu := fu) n (some (0, enc (.rcd ps))) ps 0 [⟨[], 0, cnts ps, .rcd ps⟩] 0 none none (fun p hp => by
      have gp := g.part p hp
      refine ⟨table_all d n p gp (short_part h p hp) (by omega), many_all d n p gp.1 (short_part h p hp) (by omega) (by have := gp.2.1; omega), fun r hr => by have := gp.2.2 r hr; omega, by have := gp.few; omega⟩) (by rw [List.length_singleton]; omega)
    rw [callF_s fn24 rfl rfl]
    simp only [List.map_cons, List.map_nil, eR3, eP, hx] at e
    rw [hx]
    simp [evB_cons, evB_nil, seqB_nx, seqB_ret, seqB_exc, seqB_bk, seqB_ct, endF_ret, endF_nx, endF_exc, evS, ev, evs, evBop, evo, evc, evSr, R_ok, R_exc, R_some, O_ok, O_exc, startE, getv, lower, ixop, atD, L2.atI, L2.ixN, cmp_int, cmpne_int, cmp_lt, cmp_le, cmp_gt, cmp_ge, cmp_str, cmpne_str, bin_add, bin_sub, bin_mod, bin_div, bin_mul, bltop, slop, isaop, itemsOf, enumOf, zipOf, Tg.put, Tg.ids, setAll, wipeE, fn24, ok_rec]
    simp at e
    rw [e]
    simp [evB_cons, evB_nil, seqB_nx, seqB_ret, seqB_exc, seqB_bk, seqB_ct, endF_ret, endF_nx, endF_exc, evS, ev, evs, evBop, evo, evc, evSr, R_ok, R_exc, R_some, O_ok, O_exc, startE, getv, lower, ixop, atD, L2.atI, L2.ixN, cmp_int, cmpne_int, cmp_lt, cmp_le, cmp_gt, cmp_ge, cmp_str, cmpne_str, bin_add, bin_sub, bin_mod, bin_div, bin_mul, bltop, slop, isaop, itemsOf, enumOf, zipOf, Tg.put, Tg.ids, setAll, wipeE, rws, eR3, eP, hx]
end
end Ly

set_option Elab.async false
set_option linter.all false
set_option maxRecDepth 100000
set_option maxHeartbeats 800000
namespace Ly
open PySem
theorem ok_lent : PyData.strOk "lent" = true := by decide +kernel
theorem ok_sole : PyData.strOk "sole" = true := by decide +kernel
/-! ### kinds -/
inductive Kd where
  | own (s : Sh) | lent (s : Sh) | sole (s : Sh)
def Kd.sh : Kd → Sh
  | .own s => s
  | .lent s => s
  | .sole s => s
def Kd.thr : Kd → Bool
  | .own _ => false
  | _ => true
def hd : Sh → Str
  | .num => "num"
  | .own => "own"
  | .strip _ => "strip"
  | .rcd _ => "rec"
def Kd.w : Kd → Str
  | .own s => hd s
  | .lent _ => "lent"
  | .sole _ => "sole"
def eK : Kd → D
  | .own s => enc s
  | .lent s => .tup [.str "lent", enc s]
  | .sole s => .tup [.str "sole", enc s]
theorem in_hd : ∀ s : Sh, cmpop .inn (.str (hd s)) (.tup [.str "lent", .str "sole"]) = some false
  | .num => by decide +kernel
  | .own => by decide +kernel
  | .strip _ => by
    show cmpop .inn (.str "strip") (.tup [.str "lent", .str "sole"]) = some false
    decide +kernel
  | .rcd _ => by
    show cmpop .inn (.str "rec") (.tup [.str "lent", .str "sole"]) = some false
    decide +kernel
theorem in_lent : cmpop .inn (.str "lent") (.tup [.str "lent", .str "sole"]) = some true := by decide +kernel
theorem in_sole : cmpop .inn (.str "sole") (.tup [.str "lent", .str "sole"]) = some true := by decide +kernel
theorem enc_hd (s : Sh) : ∃ rest, enc s = .tup (.str (hd s) :: rest) := by
  cases s <;> simp [enc, hd]
theorem eK_hd (k : Kd) : ∃ rest, eK k = .tup (.str k.w :: rest) := by
  cases k with
  | own s => exact enc_hd s
  | lent s => exact ⟨_, rfl⟩
  | sole s => exact ⟨_, rfl⟩
theorem in_w (k : Kd) : cmpop .inn (.str k.w) (.tup [.str "lent", .str "sole"]) = some k.thr := by
  cases k with
  | own s => exact in_hd s
  | lent s => exact in_lent
  | sole s => exact in_sole
theorem ok_hd (s : Sh) : PyData.strOk (hd s) = true := by
  cases s
  · exact ok_num
  · exact ok_own
  · exact ok_strip
  · exact ok_rec
theorem ok_w (k : Kd) : PyData.strOk k.w = true := by
  cases k
  · exact ok_hd _
  · exact ok_lent
  · exact ok_sole
structure Nd where
  l : List Nat
  k : Kd
def eN (r : Nd) : D := .tup [dS r.l, eK r.k]
def GN (r : Nd) : Prop := Sm r.l ∧ Gt r.k.sh
def lk (R : List Nd) (a : List Nat) : Option Nd := R.find? fun q => decide (q.l = a)
theorem find_nd : ∀ R : List Nd, (R.map (·.l)).Nodup → ∀ r ∈ R, lk R r.l = some r
  | [], _, r, h => by simp at h
  | q :: R, hn, r, h => by
    rw [List.map_cons, List.nodup_cons] at hn
    unfold lk
    rcases List.mem_cons.mp h with rfl | h
    · simp
    · have hne : ¬ q.l = r.l := fun z => hn.1 (by rw [z]; exact List.mem_map.mpr ⟨r, h, rfl⟩)
      rw [List.find?_cons_of_neg (by simp [hne])]
      exact find_nd R hn.2 r h
/-- a function: what it is called, its params, its result, its lets, its rows -/
def funD (f0 fr f4 : D) (R1 R2 : List Nd) : D := .tup [f0, .tup (R1.map eN), fr, .tup (R2.map eN), f4]
/-! ### acts -/
structure Ac where
  w : Str
  n : List Nat
  t : Bool
  a : Nat
  m : Nat
  k : Str
def acL (x : Ac) : List D := [.str x.w, dS x.n, .bl x.t, .int x.a, .int x.m, .str x.k]
def eA (x : Ac) : D := .tup (acL x)
def GA (x : Ac) : Prop := PyData.strOk x.w = true ∧ Sm x.n ∧ PyData.strOk x.k = true
def e7 (x : Nat × Ac) : D := .tup (.int x.1 :: acL x.2)
/-! ### spots -/
inductive At where
  | non | int (i : Int) | nam (l : List Nat)
def eAt : At → D
  | .non => .non
  | .int i => .int i
  | .nam l => dS l
structure Sp where
  n : List Nat
  t : Bool
  p : List Int
  a : At
def eS (s : Sp) : D := .tup [dS s.n, .bl s.t, eP s.p, eAt s.a]
/-- a spot of some name of R: what stands there -/
structure Sv (R : List Nd) (s : Sp) (nd : Nd) (r : Row) : Prop where
  lk : lk R s.n = some nd
  gn : GN nd
  thr : s.t = nd.k.thr
  row : r ∈ rws nd.k.sh
  p : r.p = s.p
theorem Sv.walk {R : List Nd} {s : Sp} {nd : Nd} {r : Row} (v : Sv R s nd r) : ∃ m : Nat, r.a = (m : Int) ∧ Ly.walk nd.k.sh s.p = some (m, r.s) := by
  rw [← v.p]
  exact rws_walk v.gn.2.1 r v.row
theorem lk_l {R : List Nd} {a : List Nat} {nd : Nd} (h : lk R a = some nd) : nd.l = a ∧ nd ∈ R := by
  unfold lk at h
  have h1 := List.find?_some h
  exact ⟨by simpa using h1, List.mem_of_find?_eq_some h⟩
theorem lk_sm {R : List Nd} {s : Sp} {nd : Nd} {r : Row} (v : Sv R s nd r) : Sm s.n := by
  rw [← (lk_l v.lk).1]
  exact v.gn.1
def acOf (w : Str) (s : Sp) (r : Row) (k : Str) : Ac := ⟨w, s.n, s.t, r.a.toNat, cnt r.s, k⟩
section
variable {G : Nat → Option D} {sub : Nat → Nat → Bool} {fu : Nat}
theorem holder_fn (n : Nat) (k : Kd) : callF G sub tab fu (n + 1) 5 [eK k] = .ok 0 (.bl k.thr) := by
  obtain ⟨rest, e⟩ := eK_hd k
  have h := in_w k
  have hp : (0 : Int) < (rest.length : Int) + 1 := by omega
  rw [callF_s fn5 rfl rfl, e]
  simp [evB_cons, evB_nil, seqB_nx, seqB_ret, seqB_exc, seqB_bk, seqB_ct, endF_ret, endF_nx, endF_exc, evS, ev, evs, evBop, evo, evc, evSr, R_ok, R_exc, R_some, O_ok, O_exc, startE, getv, lower, ixop, atD, L2.atI, L2.ixN, cmp_int, cmpne_int, cmp_lt, cmp_le, cmp_gt, cmp_ge, cmp_str, cmpne_str, bin_add, bin_sub, bin_mod, bin_div, bin_mul, bltop, slop, isaop, itemsOf, enumOf, zipOf, Tg.put, Tg.ids, setAll, wipeE, fn5, h, hp]
theorem shape_fn (n : Nat) (k : Kd) : callF G sub tab fu (n + 2) 6 [eK k] = .ok 0 (enc k.sh) := by
  have h := holder_fn (G := G) (sub := sub) (fu := fu) n k
  rw [callF_s fn6 rfl rfl]
  cases k with
  | own s =>
    simp only [eK] at h ⊢
    simp [evB_cons, evB_nil, seqB_nx, seqB_ret, seqB_exc, seqB_bk, seqB_ct, endF_ret, endF_nx, endF_exc, evS, ev, evs, evBop, evo, evc, evSr, R_ok, R_exc, R_some, O_ok, O_exc, startE, getv, lower, ixop, atD, L2.atI, L2.ixN, cmp_int, cmpne_int, cmp_lt, cmp_le, cmp_gt, cmp_ge, cmp_str, cmpne_str, bin_add, bin_sub, bin_mod, bin_div, bin_mul, bltop, slop, isaop, itemsOf, enumOf, zipOf, Tg.put, Tg.ids, setAll, wipeE, fn6, h, Kd.thr, Kd.sh]
  | lent s =>
    simp only [eK] at h ⊢
    simp [evB_cons, evB_nil, seqB_nx, seqB_ret, seqB_exc, seqB_bk, seqB_ct, endF_ret, endF_nx, endF_exc, evS, ev, evs, evBop, evo, evc, evSr, R_ok, R_exc, R_some, O_ok, O_exc, startE, getv, lower, ixop, atD, L2.atI, L2.ixN, cmp_int, cmpne_int, cmp_lt, cmp_le, cmp_gt, cmp_ge, cmp_str, cmpne_str, bin_add, bin_sub, bin_mod, bin_div, bin_mul, bltop, slop, isaop, itemsOf, enumOf, zipOf, Tg.put, Tg.ids, setAll, wipeE, fn6, h, Kd.thr, Kd.sh]
  | sole s =>
    simp only [eK] at h ⊢
    simp [evB_cons, evB_nil, seqB_nx, seqB_ret, seqB_exc, seqB_bk, seqB_ct, endF_ret, endF_nx, endF_exc, evS, ev, evs, evBop, evo, evc, evSr, R_ok, R_exc, R_some, O_ok, O_exc, startE, getv, lower, ixop, atD, L2.atI, L2.ixN, cmp_int, cmpne_int, cmp_lt, cmp_le, cmp_gt, cmp_ge, cmp_str, cmpne_str, bin_add, bin_sub, bin_mod, bin_div, bin_mul, bltop, slop, isaop, itemsOf, enumOf, zipOf, Tg.put, Tg.ids, setAll, wipeE, fn6, h, Kd.thr, Kd.sh]
theorem held_fn (n : Nat) (k : Kd) : callF G sub tab fu (n + 1) 25 [eK k] = .ok 0 (enc k.sh) := by
  obtain ⟨rest, e⟩ := eK_hd k
  have h := in_w k
  have hp : (0 : Int) < (rest.length : Int) + 1 := by omega
  rw [callF_s fn25 rfl rfl]
  cases k with
  | own s =>
    rw [e]
    simp [evB_cons, evB_nil, seqB_nx, seqB_ret, seqB_exc, seqB_bk, seqB_ct, endF_ret, endF_nx, endF_exc, evS, ev, evs, evBop, evo, evc, evSr, R_ok, R_exc, R_some, O_ok, O_exc, startE, getv, lower, ixop, atD, L2.atI, L2.ixN, cmp_int, cmpne_int, cmp_lt, cmp_le, cmp_gt, cmp_ge, cmp_str, cmpne_str, bin_add, bin_sub, bin_mod, bin_div, bin_mul, bltop, slop, isaop, itemsOf, enumOf, zipOf, Tg.put, Tg.ids, setAll, wipeE, fn25, h, hp, Kd.thr]
    rw [← e]
    rfl
  | lent s =>
    simp only [Kd.w, Kd.thr] at h
    simp [evB_cons, evB_nil, seqB_nx, seqB_ret, seqB_exc, seqB_bk, seqB_ct, endF_ret, endF_nx, endF_exc, evS, ev, evs, evBop, evo, evc, evSr, R_ok, R_exc, R_some, O_ok, O_exc, startE, getv, lower, ixop, atD, L2.atI, L2.ixN, cmp_int, cmpne_int, cmp_lt, cmp_le, cmp_gt, cmp_ge, cmp_str, cmpne_str, bin_add, bin_sub, bin_mod, bin_div, bin_mul, bltop, slop, isaop, itemsOf, enumOf, zipOf, Tg.put, Tg.ids, setAll, wipeE, fn25, h, eK, Kd.sh]
  | sole s =>
    simp only [Kd.w, Kd.thr] at h
    simp [evB_cons, evB_nil, seqB_nx, seqB_ret, seqB_exc, seqB_bk, seqB_ct, endF_ret, endF_nx, endF_exc, evS, ev, evs, evBop, evo, evc, evSr, R_ok, R_exc, R_some, O_ok, O_exc, startE, getv, lower, ixop, atD, L2.atI, L2.ixN, cmp_int, cmpne_int, cmp_lt, cmp_le, cmp_gt, cmp_ge, cmp_str, cmpne_str, bin_add, bin_sub, bin_mod, bin_div, bin_mul, bltop, slop, isaop, itemsOf, enumOf, zipOf, Tg.put, Tg.ids, setAll, wipeE, fn25, h, eK, Kd.sh]
theorem of_loop (n : Nat) (o0 : Option (Nat × D)) (a : List Nat) (ha : Sm a) : ∀ (R : List Nd) (o2 o3 : Option (Nat × D)) (r : Nd), (∀ r ∈ R, Sm r.l) → lk R a = some r →
    forT (.tup [2, 3]) (evB G sub (callF G sub tab fu n) fu bd7_0) (R.map eN) [o0, some (0, dS a), o2, o3] = .ret 0 (eK r.k)
  | [], o2, o3, _, _, h => by cases h
  | r :: R, o2, o3, q, h, hq => by
    have hr := h r List.mem_cons_self
    have step : ∀ f, forT (.tup [2, 3]) f ((r :: R).map eN) [o0, some (0, dS a), o2, o3] = match f [o0, some (0, dS a), some (0, dS r.l), some (0, eK r.k)] with
      | .nx r1 => forT (.tup [2, 3]) f (R.map eN) r1
      | .ct r1 => forT (.tup [2, 3]) f (R.map eN) r1
      | .bk r1 => .nx r1
      | .ret l d => .ret l d
      | .exc r1 c => .exc r1 c
      | .bad => .bad := fun f => rfl
    have hc : cmpop .eq (dS r.l) (dS a) = some (decide (r.l = a)) := eq_cat hr ha
    unfold lk at hq
    by_cases e : r.l = a
    · rw [List.find?_cons_of_pos (by simp [e])] at hq
      cases hq
      rw [step]
      have : evB G sub (callF G sub tab fu n) fu bd7_0 [o0, some (0, dS a), some (0, dS r.l), some (0, eK r.k)] = .ret 0 (eK r.k) := by
        have hc' : cmpop .eq (dS a) (dS a) = some true := by rw [e] at hc; simpa using hc
        simp [evB_cons, evB_nil, seqB_nx, seqB_ret, seqB_exc, seqB_bk, seqB_ct, endF_ret, endF_nx, endF_exc, evS, ev, evs, evBop, evo, evc, evSr, R_ok, R_exc, R_some, O_ok, O_exc, startE, getv, lower, ixop, atD, L2.atI, L2.ixN, cmp_int, cmpne_int, cmp_lt, cmp_le, cmp_gt, cmp_ge, cmp_str, cmpne_str, bin_add, bin_sub, bin_mod, bin_div, bin_mul, bltop, slop, isaop, itemsOf, enumOf, zipOf, Tg.put, Tg.ids, setAll, wipeE, bd7_0, hc', e]
      rw [this]
    · rw [List.find?_cons_of_neg (by simp [e])] at hq
      rw [step]
      have : evB G sub (callF G sub tab fu n) fu bd7_0 [o0, some (0, dS a), some (0, dS r.l), some (0, eK r.k)] = .nx [o0, some (0, dS a), some (0, dS r.l), some (0, eK r.k)] := by
        simp [evB_cons, evB_nil, seqB_nx, seqB_ret, seqB_exc, seqB_bk, seqB_ct, endF_ret, endF_nx, endF_exc, evS, ev, evs, evBop, evo, evc, evSr, R_ok, R_exc, R_some, O_ok, O_exc, startE, getv, lower, ixop, atD, L2.atI, L2.ixN, cmp_int, cmpne_int, cmp_lt, cmp_le, cmp_gt, cmp_ge, cmp_str, cmpne_str, bin_add, bin_sub, bin_mod, bin_div, bin_mul, bltop, slop, isaop, itemsOf, enumOf, zipOf, Tg.put, Tg.ids, setAll, wipeE, bd7_0, hc, e]
      rw [this]
      exact of_loop n o0 a ha R (some (0, dS r.l)) (some (0, eK r.k)) q (fun r hr => h r (List.mem_cons_of_mem _ hr)) hq
theorem of_fn (n : Nat) (f0 fr f4 : D) (R1 R2 : List Nd) (a : List Nat) (r : Nd) (h : ∀ r ∈ R1 ++ R2, Sm r.l) (hl : R1.length + R2.length ≤ 1000) (hr : lk (R1 ++ R2) a = some r) :
    callF G sub tab fu (n + 1) 7 [funD f0 fr f4 R1 R2, dS a] = .ok 0 (eK r.k) := by
  obtain ⟨h1, h2⟩ := lk_l hr
  have ha : Sm a := by rw [← h1]; exact h r h2
  have e := of_loop (G := G) (sub := sub) (fu := fu) n (some (0, funD f0 fr f4 R1 R2)) a ha (R1 ++ R2) none none r h hr
  have hb := bin_catT (R1.map eN) (R2.map eN) (by simp; omega)
  rw [← List.map_append] at hb
  rw [callF_s fn7 rfl rfl]
  unfold funD at e ⊢
  simp [evB_cons, evB_nil, seqB_nx, seqB_ret, seqB_exc, seqB_bk, seqB_ct, endF_ret, endF_nx, endF_exc, evS, ev, evs, evBop, evo, evc, evSr, R_ok, R_exc, R_some, O_ok, O_exc, startE, getv, lower, ixop, atD, L2.atI, L2.ixN, cmp_int, cmpne_int, cmp_lt, cmp_le, cmp_gt, cmp_ge, cmp_str, cmpne_str, bin_add, bin_sub, bin_mod, bin_div, bin_mul, bltop, slop, isaop, itemsOf, enumOf, zipOf, Tg.put, Tg.ids, setAll, wipeE, fn7]
  rw [hb]
  simp [evB_cons, evB_nil, seqB_nx, seqB_ret, seqB_exc, seqB_bk, seqB_ct, endF_ret, endF_nx, endF_exc, evS, ev, evs, evBop, evo, evc, evSr, R_ok, R_exc, R_some, O_ok, O_exc, startE, getv, lower, ixop, atD, L2.atI, L2.ixN, cmp_int, cmpne_int, cmp_lt, cmp_le, cmp_gt, cmp_ge, cmp_str, cmpne_str, bin_add, bin_sub, bin_mod, bin_div, bin_mul, bltop, slop, isaop, itemsOf, enumOf, zipOf, Tg.put, Tg.ids, setAll, wipeE]
  simp at e
  rw [e]
  simp [evB_cons, evB_nil, seqB_nx, seqB_ret, seqB_exc, seqB_bk, seqB_ct, endF_ret, endF_nx, endF_exc, evS, ev, evs, evBop, evo, evc, evSr, R_ok, R_exc, R_some, O_ok, O_exc, startE, getv, lower, ixop, atD, L2.atI, L2.ixN, cmp_int, cmpne_int, cmp_lt, cmp_le, cmp_gt, cmp_ge, cmp_str, cmpne_str, bin_add, bin_sub, bin_mod, bin_div, bin_mul, bltop, slop, isaop, itemsOf, enumOf, zipOf, Tg.put, Tg.ids, setAll, wipeE]
theorem spot_fn (n : Nat) (f0 fr f4 : D) (R1 R2 : List Nd) (w k : Str) (s : Sp) (nd : Nd) (r : Row) (h : ∀ r ∈ R1 ++ R2, Sm r.l) (hl : R1.length + R2.length ≤ 1000) (v : Sv (R1 ++ R2) s nd r) :
    callF G sub tab fu (n + 9) 9 [funD f0 fr f4 R1 R2, .str w, eS s, .str k] = .ok 1 (eA (acOf w s r k)) := by
  obtain ⟨m, h1, h2⟩ := v.walk
  have gt := (first_ok (G := G) (sub := sub) (fu := fu) n none s.p nd.k.sh 0 none none none m r.s v.gn.2 h2).1
  have e1 := of_fn (G := G) (sub := sub) (fu := fu) (n + 7) f0 fr f4 R1 R2 s.n nd h hl v.lk
  have e2 := shape_fn (G := G) (sub := sub) (fu := fu) (n + 6) nd.k
  have e3 := part_fn (G := G) (sub := sub) (fu := fu) (n + 6) nd.k.sh r.s s.p m h2
  have e4 := leaf_all (G := G) (sub := sub) (fu := fu) 3 (n + 8) r.s gt.1 gt.2.2 (by omega) (by have := gt.2.1; omega)
  have e5 := first_fn (G := G) (sub := sub) (fu := fu) (n + 1) nd.k.sh r.s s.p m v.gn.2 h2
  rw [callF_s fn9 rfl rfl]
  generalize funD f0 fr f4 R1 R2 = F at e1 ⊢
  simp [evB_cons, evB_nil, seqB_nx, seqB_ret, seqB_exc, seqB_bk, seqB_ct, endF_ret, endF_nx, endF_exc, evS, ev, evs, evBop, evo, evc, evSr, R_ok, R_exc, R_some, O_ok, O_exc, startE, getv, lower, ixop, atD, L2.atI, L2.ixN, cmp_int, cmpne_int, cmp_lt, cmp_le, cmp_gt, cmp_ge, cmp_str, cmpne_str, bin_add, bin_sub, bin_mod, bin_div, bin_mul, bltop, slop, isaop, itemsOf, enumOf, zipOf, Tg.put, Tg.ids, setAll, wipeE, fn9, eS, e1, e2, e3, e4, e5, lv_len, eA, acL, acOf, h1]
/-! ### the law's own -/
theorem ints_eq (a b : List Int) : cmpop .eq (eP a) (eP b) = some (decide (a = b)) := cmp_ints a b
theorem act_in (n : Nat) (o0 : Option (Nat × D)) (w k : Str) (s : Sp) (sh : Sh) (l : List Nat) (o5 : Option (Nat × D)) (g : Gt sh) : ∀ (rs : List Row) (o6 o7 o8 : Option (Nat × D)) (m : Nat) (t : Sh), (∀ r ∈ rs, r ∈ rws sh) → (∃ r ∈ rs, r.p = s.p) → walk sh s.p = some (m, t) →
    forT (.tup [6, 7, 8]) (evB G sub (callF G sub tab fu (n + 8)) fu bd28_0) (rs.map eR3) [o0, some (0, .str w), some (0, eS s), some (0, .str k), some (0, dS l), o5, o6, o7, o8] = .ret 1 (eA ⟨w, l, s.t, m, cnt t, k⟩)
  | [], o6, o7, o8, m, t, _, he, _ => by obtain ⟨r, hr, _⟩ := he; cases hr
  | r :: rs, o6, o7, o8, m, t, h, he, hw => by
    obtain ⟨a, h1, h2⟩ := rws_walk g.1 r (h r List.mem_cons_self)
    have step : ∀ f, forT (.tup [6, 7, 8]) f ((r :: rs).map eR3) [o0, some (0, .str w), some (0, eS s), some (0, .str k), some (0, dS l), o5, o6, o7, o8] = match f [o0, some (0, .str w), some (0, eS s), some (0, .str k), some (0, dS l), o5, some (0, eP r.p), some (0, .int r.a), some (0, enc r.s)] with
      | .nx r1 => forT (.tup [6, 7, 8]) f (rs.map eR3) r1
      | .ct r1 => forT (.tup [6, 7, 8]) f (rs.map eR3) r1
      | .bk r1 => .nx r1
      | .ret l d => .ret l d
      | .exc r1 c => .exc r1 c
      | .bad => .bad := fun f => rfl
    have hc := ints_eq r.p s.p
    rw [step]
    by_cases e : r.p = s.p
    · rw [e, hw] at h2
      cases h2
      have gt := (first_ok (G := G) (sub := sub) (fu := fu) n none s.p sh 0 none none none m r.s g hw).1
      have e4 := many_all (G := G) (sub := sub) (fu := fu) 3 (n + 8) r.s gt.1 gt.2.2 (by omega) (by have := gt.2.1; omega)
      have hc' : cmpop .eq (eP s.p) (eP s.p) = some true := by rw [ints_eq]; simp
      have : evB G sub (callF G sub tab fu (n + 8)) fu bd28_0 [o0, some (0, .str w), some (0, eS s), some (0, .str k), some (0, dS l), o5, some (0, eP r.p), some (0, .int r.a), some (0, enc r.s)] = .ret 1 (eA ⟨w, l, s.t, m, cnt r.s, k⟩) := by
        simp [evB_cons, evB_nil, seqB_nx, seqB_ret, seqB_exc, seqB_bk, seqB_ct, endF_ret, endF_nx, endF_exc, evS, ev, evs, evBop, evo, evc, evSr, R_ok, R_exc, R_some, O_ok, O_exc, startE, getv, lower, ixop, atD, L2.atI, L2.ixN, cmp_int, cmpne_int, cmp_lt, cmp_le, cmp_gt, cmp_ge, cmp_str, cmpne_str, bin_add, bin_sub, bin_mod, bin_div, bin_mul, bltop, slop, isaop, itemsOf, enumOf, zipOf, Tg.put, Tg.ids, setAll, wipeE, bd28_0, eS, hc', e, e4, h1, eA, acL]
      rw [this]
    · have hc' : cmpop .eq (eP r.p) (eP s.p) = some false := by rw [hc]; simp [e]
      have : evB G sub (callF G sub tab fu (n + 8)) fu bd28_0 [o0, some (0, .str w), some (0, eS s), some (0, .str k), some (0, dS l), o5, some (0, eP r.p), some (0, .int r.a), some (0, enc r.s)] = .nx [o0, some (0, .str w), some (0, eS s), some (0, .str k), some (0, dS l), o5, some (0, eP r.p), some (0, .int r.a), some (0, enc r.s)] := by
        simp [evB_cons, evB_nil, seqB_nx, seqB_ret, seqB_exc, seqB_bk, seqB_ct, endF_ret, endF_nx, endF_exc, evS, ev, evs, evBop, evo, evc, evSr, R_ok, R_exc, R_some, O_ok, O_exc, startE, getv, lower, ixop, atD, L2.atI, L2.ixN, cmp_int, cmpne_int, cmp_lt, cmp_le, cmp_gt, cmp_ge, cmp_str, cmpne_str, bin_add, bin_sub, bin_mod, bin_div, bin_mul, bltop, slop, isaop, itemsOf, enumOf, zipOf, Tg.put, Tg.ids, setAll, wipeE, bd28_0, eS, hc', e]
      rw [this]
      refine act_in n o0 w k s sh l o5 g rs _ _ _ m t (fun q hq => h q (List.mem_cons_of_mem _ hq)) ?_ hw
      obtain ⟨q, hq, hq2⟩ := he
      rcases List.mem_cons.mp hq with rfl | hq
      · exact absurd hq2 e
      · exact ⟨q, hq, hq2⟩
theorem act_loop (n : Nat) (o0 : Option (Nat × D)) (w k : Str) (s : Sp) (hs : Sm s.n) (nd : Nd) (r : Row) (m : Nat) (g : GN nd) (hr : r ∈ rws nd.k.sh) (hp : r.p = s.p) (hw : walk nd.k.sh s.p = some (m, r.s)) : ∀ (R : List Nd) (o4 o5 : Option (Nat × D)), (∀ r ∈ R, Sm r.l) → lk R s.n = some nd →
    forT (.tup [4, 5]) (evB G sub (callF G sub tab fu (n + 8)) fu bd28_1) (R.map eN) [o0, some (0, .str w), some (0, eS s), some (0, .str k), o4, o5, none, none, none] = .ret 1 (eA ⟨w, s.n, s.t, m, cnt r.s, k⟩)
  | [], o4, o5, _, h => by cases h
  | q :: R, o4, o5, h, hq => by
    have step : ∀ f, forT (.tup [4, 5]) f ((q :: R).map eN) [o0, some (0, .str w), some (0, eS s), some (0, .str k), o4, o5, none, none, none] = match f [o0, some (0, .str w), some (0, eS s), some (0, .str k), some (0, dS q.l), some (0, eK q.k), none, none, none] with
      | .nx r1 => forT (.tup [4, 5]) f (R.map eN) r1
      | .ct r1 => forT (.tup [4, 5]) f (R.map eN) r1
      | .bk r1 => .nx r1
      | .ret l d => .ret l d
      | .exc r1 c => .exc r1 c
      | .bad => .bad := fun f => rfl
    have hc : cmpop .eq (dS q.l) (dS s.n) = some (decide (q.l = s.n)) := eq_cat (h q List.mem_cons_self) hs
    unfold lk at hq
    rw [step]
    by_cases e : q.l = s.n
    · rw [List.find?_cons_of_pos (by simp [e])] at hq
      have hq' := Option.some.inj hq
      subst hq'
      have e1 := held_fn (G := G) (sub := sub) (fu := fu) (n + 7) q.k
      have e2 := table_all (G := G) (sub := sub) (fu := fu) 3 (n + 8) q.k.sh g.2 g.2.2.2 (by omega)
      have e3 := act_in (G := G) (sub := sub) (fu := fu) n o0 w k s q.k.sh q.l (some (0, eK q.k)) g.2 (rws q.k.sh) none none none m r.s (fun _ h => h) ⟨r, hr, hp⟩ hw
      have hc' : cmpop .eq (dS s.n) (dS s.n) = some true := by rw [e] at hc; simpa using hc
      rw [e] at e3
      have : evB G sub (callF G sub tab fu (n + 8)) fu bd28_1 [o0, some (0, .str w), some (0, eS s), some (0, .str k), some (0, dS q.l), some (0, eK q.k), none, none, none] = .ret 1 (eA ⟨w, s.n, s.t, m, cnt r.s, k⟩) := by
        rw [e]
        simp only [eS] at e3 ⊢
        simp [evB_cons, evB_nil, seqB_nx, seqB_ret, seqB_exc, seqB_bk, seqB_ct, endF_ret, endF_nx, endF_exc, evS, ev, evs, evBop, evo, evc, evSr, R_ok, R_exc, R_some, O_ok, O_exc, startE, getv, lower, ixop, atD, L2.atI, L2.ixN, cmp_int, cmpne_int, cmp_lt, cmp_le, cmp_gt, cmp_ge, cmp_str, cmpne_str, bin_add, bin_sub, bin_mod, bin_div, bin_mul, bltop, slop, isaop, itemsOf, enumOf, zipOf, Tg.put, Tg.ids, setAll, wipeE, bd28_1, hc', e1, e2]
        rw [e3]
        simp [evB_cons, evB_nil, seqB_nx, seqB_ret, seqB_exc, seqB_bk, seqB_ct, endF_ret, endF_nx, endF_exc, evS, ev, evs, evBop, evo, evc, evSr, R_ok, R_exc, R_some, O_ok, O_exc, startE, getv, lower, ixop, atD, L2.atI, L2.ixN, cmp_int, cmpne_int, cmp_lt, cmp_le, cmp_gt, cmp_ge, cmp_str, cmpne_str, bin_add, bin_sub, bin_mod, bin_div, bin_mul, bltop, slop, isaop, itemsOf, enumOf, zipOf, Tg.put, Tg.ids, setAll, wipeE]
      rw [this]
    · rw [List.find?_cons_of_neg (by simp [e])] at hq
      have hc' : cmpop .eq (dS q.l) (dS s.n) = some false := by rw [hc]; simp [e]
      have : evB G sub (callF G sub tab fu (n + 8)) fu bd28_1 [o0, some (0, .str w), some (0, eS s), some (0, .str k), some (0, dS q.l), some (0, eK q.k), none, none, none] = .nx [o0, some (0, .str w), some (0, eS s), some (0, .str k), some (0, dS q.l), some (0, eK q.k), none, none, none] := by
        simp [evB_cons, evB_nil, seqB_nx, seqB_ret, seqB_exc, seqB_bk, seqB_ct, endF_ret, endF_nx, endF_exc, evS, ev, evs, evBop, evo, evc, evSr, R_ok, R_exc, R_some, O_ok, O_exc, startE, getv, lower, ixop, atD, L2.atI, L2.ixN, cmp_int, cmpne_int, cmp_lt, cmp_le, cmp_gt, cmp_ge, cmp_str, cmpne_str, bin_add, bin_sub, bin_mod, bin_div, bin_mul, bltop, slop, isaop, itemsOf, enumOf, zipOf, Tg.put, Tg.ids, setAll, wipeE, bd28_1, eS, hc']
      rw [this]
      exact act_loop n o0 w k s hs nd r m g hr hp hw R _ _ (fun q hq => h q (List.mem_cons_of_mem _ hq)) hq
theorem act_fn (n : Nat) (R : List Nd) (w k : Str) (s : Sp) (nd : Nd) (r : Row) (h : ∀ r ∈ R, Sm r.l) (v : Sv R s nd r) : callF G sub tab fu (n + 9) 28 [.lst (R.map eN), .str w, eS s, .str k] = .ok 1 (eA (acOf w s r k)) := by
  obtain ⟨m, h1, h2⟩ := v.walk
  have e := act_loop (G := G) (sub := sub) (fu := fu) n (some (0, .lst (R.map eN))) w k s (lk_sm v) nd r m v.gn v.row v.p h2 R none none h v.lk
  rw [callF_s fn28 rfl rfl]
  simp [evB_cons, evB_nil, seqB_nx, seqB_ret, seqB_exc, seqB_bk, seqB_ct, endF_ret, endF_nx, endF_exc, evS, ev, evs, evBop, evo, evc, evSr, R_ok, R_exc, R_some, O_ok, O_exc, startE, getv, lower, ixop, atD, L2.atI, L2.ixN, cmp_int, cmpne_int, cmp_lt, cmp_le, cmp_gt, cmp_ge, cmp_str, cmpne_str, bin_add, bin_sub, bin_mod, bin_div, bin_mul, bltop, slop, isaop, itemsOf, enumOf, zipOf, Tg.put, Tg.ids, setAll, wipeE, fn28]
  rw [e]
  simp [evB_cons, evB_nil, seqB_nx, seqB_ret, seqB_exc, seqB_bk, seqB_ct, endF_ret, endF_nx, endF_exc, evS, ev, evs, evBop, evo, evc, evSr, R_ok, R_exc, R_some, O_ok, O_exc, startE, getv, lower, ixop, atD, L2.atI, L2.ixN, cmp_int, cmpne_int, cmp_lt, cmp_le, cmp_gt, cmp_ge, cmp_str, cmpne_str, bin_add, bin_sub, bin_mod, bin_div, bin_mul, bltop, slop, isaop, itemsOf, enumOf, zipOf, Tg.put, Tg.ids, setAll, wipeE, acOf, h1]
end
end Ly

set_option Elab.async false
set_option linter.all false
set_option maxRecDepth 100000
set_option maxHeartbeats 800000
namespace Ly
open PySem
/-! ### names -/
def at1 (B : List Int) (at_ k j : Nat) : Nat := ((B.getD j 0 + k * (if j = at_ then 1 else 0)) % 26).toNat
theorem at1_lt (B : List Int) (at_ k j : Nat) : at1 B at_ k j < 26 := by
  unfold at1
  generalize B.getD j 0 + k * (if j = at_ then 1 else 0) = x
  omega
def stem (B : List Int) (at_ k : Nat) : List Nat := (List.range' 0 B.length).map (at1 B at_ k)
def suf (c : Int) (k : Nat) : List Nat := if c / 49 % 2 = 1 ∧ k % 2 = 1 then [(c / 98 % 26).toNat] else []
def nmk (c : Int) (B : List Int) (at_ k : Nat) : List Nat := stem B at_ k ++ suf c k
theorem nmk_sm (c : Int) (B : List Int) (at_ k : Nat) : Sm (nmk c B at_ k) := by
  refine Sm.app (fun x hx => ?_) ?_
  · obtain ⟨j, _, rfl⟩ := List.mem_map.mp hx
    exact at1_lt _ _ _ _
  · unfold suf
    split
    · exact Sm.one (by omega)
    · intro x hx; simp at hx
theorem nmk_inj {c : Int} {B : List Int} {at_ k k' : Nat} (h : at_ < B.length) (hk : k < 26) (hk' : k' < 26) (e : nmk c B at_ k = nmk c B at_ k') : k = k' := by
  have h1 : ∀ k, (nmk c B at_ k)[at_]? = some (at1 B at_ k at_) := fun k => by
    unfold nmk stem
    rw [List.getElem?_append_left (by simpa using h), List.getElem?_map, List.getElem?_range' h]
    simp
  have h2 := (h1 k).symm.trans ((congrArg (·[at_]?) e).trans (h1 k'))
  have h3 := Option.some.inj h2
  unfold at1 at h3
  simp only [if_true] at h3
  generalize B.getD at_ 0 = b at h3
  omega
theorem ix_int {B : List Int} {i : Nat} (h : i < B.length) : ixop (.lst (B.map D.int)) (.int i) = some (.int (B.getD i 0)) := by
  have hi : (i : Int) < (B.length : Int) := by omega
  have hg : B.getD i 0 = B[i] := by rw [List.getD_eq_getElem?_getD, List.getElem?_eq_getElem h]; rfl
  simp [ixop, atD, L2.atI, L2.ixN, h, hg]
section
variable {G : Nat → Option D} {sub : Nat → Nat → Bool} {fu : Nat}
theorem at_fn (n : Nat) (ns : List Int) (k : Nat) (hl : ns.length ≤ 1000) : ∃ v : Int, callF G sub tab fu (n + 1) 20 [.lst (ns.map D.int), .int k] = .ok 0 (.int v) := by
  rw [callF_s fn20 rfl rfl]
  by_cases h : k < ns.length
  · have h' : (k : Int) < (ns.length : Int) := by omega
    refine ⟨ns[k], ?_⟩
    simp [evB_cons, evB_nil, seqB_nx, seqB_ret, seqB_exc, seqB_bk, seqB_ct, endF_ret, endF_nx, endF_exc, evS, ev, evs, evBop, evo, evc, evSr, R_ok, R_exc, R_some, O_ok, O_exc, startE, getv, lower, ixop, atD, L2.atI, L2.ixN, cmp_int, cmpne_int, cmp_lt, cmp_le, cmp_gt, cmp_ge, cmp_str, cmpne_str, bin_add, bin_sub, bin_mod, bin_div, bin_mul, bltop, slop, isaop, itemsOf, enumOf, zipOf, Tg.put, Tg.ids, setAll, wipeE, fn20, h]
  · refine ⟨0, ?_⟩
    simp [evB_cons, evB_nil, seqB_nx, seqB_ret, seqB_exc, seqB_bk, seqB_ct, endF_ret, endF_nx, endF_exc, evS, ev, evs, evBop, evo, evc, evSr, R_ok, R_exc, R_some, O_ok, O_exc, startE, getv, lower, ixop, atD, L2.atI, L2.ixN, cmp_int, cmpne_int, cmp_lt, cmp_le, cmp_gt, cmp_ge, cmp_str, cmpne_str, bin_add, bin_sub, bin_mod, bin_div, bin_mul, bltop, slop, isaop, itemsOf, enumOf, zipOf, Tg.put, Tg.ids, setAll, wipeE, fn20, h]
theorem stem_loop (n : Nat) (o0 o1 o6 o8 : Option (Nat × D)) (B : List Int) (at_ k : Nat) (hB : B.length ≤ 7) (hk : k < 26) : ∃ o8', forT (.name 8) (evB G sub (callF G sub tab fu n) fu bd22_0) ((List.range' 0 B.length).map fun i : Nat => D.int i) [o0, o1, some (0, .str abc), some (0, .lst (B.map D.int)), some (0, .int k), some (0, .int at_), o6, some (0, dS []), o8] =
    .nx [o0, o1, some (0, .str abc), some (0, .lst (B.map D.int)), some (0, .int k), some (0, .int at_), o6, some (0, dS (stem B at_ k)), o8'] := by
  obtain ⟨q, e, j, o8', h1, h2, rfl⟩ := forT_list (g := fun i : Nat => D.int i) (t := .name 8) (f := evB G sub (callF G sub tab fu n) fu bd22_0)
    (fun rest q => ∃ (j : Nat) (o8 : Option (Nat × D)), rest = List.range' j (B.length - j) ∧ j ≤ B.length ∧ q = [o0, o1, some (0, .str abc), some (0, .lst (B.map D.int)), some (0, .int k), some (0, .int at_), o6, some (0, dS ((List.range' 0 j).map (at1 B at_ k))), o8])
    (List.range' 0 B.length) [o0, o1, some (0, .str abc), some (0, .lst (B.map D.int)), some (0, .int k), some (0, .int at_), o6, some (0, dS []), o8] ⟨0, o8, by simp, by omega, rfl⟩ (by
      rintro i rest q ⟨j, o8, h1, h2, rfl⟩
      have hj : j < B.length := by
        apply Classical.byContradiction
        intro z
        rw [show B.length - j = 0 by omega] at h1
        simp at h1
      rw [show B.length - j = (B.length - (j + 1)) + 1 by omega, List.range'_succ] at h1
      obtain ⟨h1a, h1b⟩ := List.cons.inj h1
      subst h1a
      have hcat : binop .add (dS ((List.range' 0 i).map (at1 B at_ k))) (dS [at1 B at_ k i]) = some (0, dS ((List.range' 0 (i + 1)).map (at1 B at_ k))) := by
        show (if (cat _).length + (cat _).length ≤ LN then some (0, D.str (cat _ ++ cat _)) else none) = _
        rw [cat_len, cat_len, if_pos (by simp; show i + 1 ≤ 16777216; omega), cat_app, List.range'_1_concat, List.map_append]
        simp [dS]
      have hx := ix_int (B := B) (i := i) hj
      refine ⟨_, [o0, o1, some (0, .str abc), some (0, .lst (B.map D.int)), some (0, .int k), some (0, .int at_), o6, some (0, dS ((List.range' 0 (i + 1)).map (at1 B at_ k))), some (0, .int i)], rfl, .inl ?_, i + 1, _, h1b, by omega, rfl⟩
      generalize hb : B.getD i 0 = b at hx
      by_cases ha : i = at_
      · have b1 : ((i : Int) == (at_ : Int)) = true := by simp [ha]
        have e1 : at1 B at_ k i = ((b + k) % 26).toNat := by unfold at1; rw [hb, if_pos ha]; congr 2; omega
        have hab := abc_at (b + k)
        have hm : binop .mul (.int (k : Int)) (.int 1) = some (0, .int k) := by rw [bin_mul _ _ (by decide)]; simp
        rw [e1] at hcat
        simp [bd22_0, evB_cons, evB_nil, seqB_nx, seqB_ret, seqB_exc, seqB_bk, seqB_ct, endF_ret, endF_nx, endF_exc, evS, ev, evs, evBop, evo, evc, evSr, R_ok, R_exc, R_some, O_ok, O_exc, startE, getv, lower, cmp_int, cmpne_int, cmp_lt, cmp_le, cmp_gt, cmp_ge, cmp_str, cmpne_str, bin_add, bin_sub, bin_mod, bin_div, bin_mul, bltop, slop, isaop, itemsOf, enumOf, zipOf, Tg.put, Tg.ids, setAll, wipeE, b1, hx, hab, hcat, hm]
      · have b1 : ((i : Int) == (at_ : Int)) = false := by simp; omega
        have e1 : at1 B at_ k i = (b % 26).toNat := by unfold at1; rw [hb, if_neg ha]; congr 2; omega
        have hab := abc_at b
        have hm : binop .mul (.int (k : Int)) (.int 0) = some (0, .int 0) := by rw [bin_mul _ _ (by decide)]; simp
        rw [e1] at hcat
        simp [bd22_0, evB_cons, evB_nil, seqB_nx, seqB_ret, seqB_exc, seqB_bk, seqB_ct, endF_ret, endF_nx, endF_exc, evS, ev, evs, evBop, evo, evc, evSr, R_ok, R_exc, R_some, O_ok, O_exc, startE, getv, lower, cmp_int, cmpne_int, cmp_lt, cmp_le, cmp_gt, cmp_ge, cmp_str, cmpne_str, bin_add, bin_sub, bin_mod, bin_div, bin_mul, bltop, slop, isaop, itemsOf, enumOf, zipOf, Tg.put, Tg.ids, setAll, wipeE, b1, hx, hab, hcat, hm])
  refine ⟨o8', ?_⟩
  have hj : j = B.length := by
    have := congrArg List.length h1
    simp at this
    omega
  subst hj
  exact e
theorem names_step (n : Nat) (c : Int) (o1 o7 o8 : Option (Nat × D)) (B : List Int) (at_ k : Nat) (hB : B.length ≤ 7) (hk : k < 26) (acc : List (List Nat)) (hl : acc.length ≤ 1000) :
    ∃ o7' o8', evB G sub (callF G sub tab fu n) fu bd22_1 [some (0, .int c), o1, some (0, .str abc), some (0, .lst (B.map D.int)), some (0, .int k), some (0, .int at_), some (1, .lst (acc.map dS)), o7, o8] =
      .nx [some (0, .int c), o1, some (0, .str abc), some (0, .lst (B.map D.int)), some (0, .int k), some (0, .int at_), some (1, .lst ((acc ++ [nmk c B at_ k]).map dS)), o7', o8'] := by
  obtain ⟨o8', e⟩ := stem_loop (G := G) (sub := sub) (fu := fu) n (some (0, .int c)) o1 (some (1, .lst (acc.map dS))) o8 B at_ k hB hk
  have hr := rngop (m := B.length) (by omega)
  have e0 : dS [] = .str "" := by unfold dS; rw [cat_nil]
  rw [e0] at e
  have hd' : acc.length < LN := by show _ < 16777216; omega
  have hls : (stem B at_ k).length ≤ 7 := by unfold stem; simpa using hB
  by_cases hc : c / 49 % 2 = 1
  · by_cases hk2 : k % 2 = 1
    · have hk3 : (k : Int) % 2 = 1 := by omega
      have hsuf : suf c k = [(c / 98 % 26).toNat] := by unfold suf; rw [if_pos ⟨hc, hk2⟩]
      have hab := abc_at (c / 98)
      have hcat : binop .add (dS (stem B at_ k)) (dS [(c / 98 % 26).toNat]) = some (0, dS (nmk c B at_ k)) := by
        show (if (cat _).length + (cat _).length ≤ LN then some (0, D.str (cat _ ++ cat _)) else none) = _
        rw [cat_len, cat_len, if_pos (by show _ + 1 ≤ 16777216; omega), cat_app]
        unfold nmk dS
        rw [hsuf]
      refine ⟨some (0, dS (nmk c B at_ k)), o8', ?_⟩
      simp [bd22_1, evB_cons, evB_nil, seqB_nx, seqB_ret, seqB_exc, seqB_bk, seqB_ct, endF_ret, endF_nx, endF_exc, evS, ev, evs, evBop, evo, evc, evSr, R_ok, R_exc, R_some, O_ok, O_exc, startE, getv, lower, cmp_int, cmpne_int, cmp_lt, cmp_le, cmp_gt, cmp_ge, cmp_str, cmpne_str, bin_add, bin_sub, bin_mod, bin_div, bin_mul, bltop, slop, isaop, itemsOf, enumOf, zipOf, Tg.put, Tg.ids, setAll, wipeE, hr]
      rw [e]
      simp [evB_cons, evB_nil, seqB_nx, seqB_ret, seqB_exc, seqB_bk, seqB_ct, endF_ret, endF_nx, endF_exc, evS, ev, evs, evBop, evo, evc, evSr, R_ok, R_exc, R_some, O_ok, O_exc, startE, getv, lower, cmp_int, cmpne_int, cmp_lt, cmp_le, cmp_gt, cmp_ge, cmp_str, cmpne_str, bin_add, bin_sub, bin_mod, bin_div, bin_mul, bltop, slop, isaop, itemsOf, enumOf, zipOf, Tg.put, Tg.ids, setAll, wipeE, hc, hk3, hab, hcat, hd']
    · have hk3 : ((k : Int) % 2 == 1) = false := by simp; omega
      have hsuf : suf c k = [] := by unfold suf; rw [if_neg (fun z => hk2 z.2)]
      have hn : nmk c B at_ k = stem B at_ k := by unfold nmk; rw [hsuf, List.append_nil]
      refine ⟨some (0, dS (stem B at_ k)), o8', ?_⟩
      rw [hn]
      simp [bd22_1, evB_cons, evB_nil, seqB_nx, seqB_ret, seqB_exc, seqB_bk, seqB_ct, endF_ret, endF_nx, endF_exc, evS, ev, evs, evBop, evo, evc, evSr, R_ok, R_exc, R_some, O_ok, O_exc, startE, getv, lower, cmp_int, cmpne_int, cmp_lt, cmp_le, cmp_gt, cmp_ge, cmp_str, cmpne_str, bin_add, bin_sub, bin_mod, bin_div, bin_mul, bltop, slop, isaop, itemsOf, enumOf, zipOf, Tg.put, Tg.ids, setAll, wipeE, hr]
      rw [e]
      simp [evB_cons, evB_nil, seqB_nx, seqB_ret, seqB_exc, seqB_bk, seqB_ct, endF_ret, endF_nx, endF_exc, evS, ev, evs, evBop, evo, evc, evSr, R_ok, R_exc, R_some, O_ok, O_exc, startE, getv, lower, cmp_int, cmpne_int, cmp_lt, cmp_le, cmp_gt, cmp_ge, cmp_str, cmpne_str, bin_add, bin_sub, bin_mod, bin_div, bin_mul, bltop, slop, isaop, itemsOf, enumOf, zipOf, Tg.put, Tg.ids, setAll, wipeE, hc, hk3, hd']
  · have hc' : (c / 49 % 2 == 1) = false := by simpa using hc
    have hsuf : suf c k = [] := by unfold suf; rw [if_neg (fun z => hc z.1)]
    have hn : nmk c B at_ k = stem B at_ k := by unfold nmk; rw [hsuf, List.append_nil]
    refine ⟨some (0, dS (stem B at_ k)), o8', ?_⟩
    rw [hn]
    simp [bd22_1, evB_cons, evB_nil, seqB_nx, seqB_ret, seqB_exc, seqB_bk, seqB_ct, endF_ret, endF_nx, endF_exc, evS, ev, evs, evBop, evo, evc, evSr, R_ok, R_exc, R_some, O_ok, O_exc, startE, getv, lower, cmp_int, cmpne_int, cmp_lt, cmp_le, cmp_gt, cmp_ge, cmp_str, cmpne_str, bin_add, bin_sub, bin_mod, bin_div, bin_mul, bltop, slop, isaop, itemsOf, enumOf, zipOf, Tg.put, Tg.ids, setAll, wipeE, hr]
    rw [e]
    simp [evB_cons, evB_nil, seqB_nx, seqB_ret, seqB_exc, seqB_bk, seqB_ct, endF_ret, endF_nx, endF_exc, evS, ev, evs, evBop, evo, evc, evSr, R_ok, R_exc, R_some, O_ok, O_exc, startE, getv, lower, cmp_int, cmpne_int, cmp_lt, cmp_le, cmp_gt, cmp_ge, cmp_str, cmpne_str, bin_add, bin_sub, bin_mod, bin_div, bin_mul, bltop, slop, isaop, itemsOf, enumOf, zipOf, Tg.put, Tg.ids, setAll, wipeE, hc', hd']
theorem names_fn (n : Nat) (c : Int) (M : Nat) (hM : M ≤ 26) : ∃ (B : List Int) (at_ : Nat), at_ < B.length ∧ callF G sub tab fu (n + 1) 22 [.int c, .int M] = .ok 1 (.lst (((List.range' 0 M).map (nmk c B at_)).map dS)) := by
  obtain ⟨m, hm, hm1, hm7⟩ : ∃ m : Nat, 1 + c % 7 = (m : Int) ∧ 1 ≤ m ∧ m ≤ 7 := ⟨(1 + c % 7).toNat, by omega, by omega, by omega⟩
  have hr := rngop (m := m) (by omega)
  have hrM := rngop (m := M) (by omega)
  generalize hB : (List.range' 0 m).map (fun k : Nat => (c / 7 / ((k : Int) * k + 1) + 5 * k) % 26) = B
  have hlen : B.length = m := by rw [← hB]; simp
  have hB7 : B.length ≤ 7 := by omega
  have hpos : (0 : Int) < (m : Int) := by omega
  have j0 : 0 ≤ c / 7 % (m : Int) := Int.emod_nonneg _ (by omega)
  have j1 : c / 7 % (m : Int) < (m : Int) := Int.emod_lt_of_pos _ hpos
  have b5 := bin_mod (c / 7) (m : Int) hpos
  obtain ⟨at_, hat, hat2⟩ : ∃ at_ : Nat, c / 7 % (m : Int) = (at_ : Int) ∧ at_ < m := ⟨(c / 7 % (m : Int)).toNat, by omega, by omega⟩
  rw [hat] at b5
  obtain ⟨q, e, k, o4, o7, o8, h1, h2, rfl⟩ := forT_list (g := fun i : Nat => D.int i) (t := .name 4) (f := evB G sub (callF G sub tab fu n) fu bd22_1)
    (fun rest q => ∃ (k : Nat) (o4 o7 o8 : Option (Nat × D)), rest = List.range' k (M - k) ∧ k ≤ M ∧ q = [some (0, .int c), some (0, .int M), some (0, .str abc), some (0, .lst (B.map D.int)), o4, some (0, .int at_), some (1, .lst (((List.range' 0 k).map (nmk c B at_)).map dS)), o7, o8])
    (List.range' 0 M) [some (0, .int c), some (0, .int M), some (0, .str abc), some (0, .lst (B.map D.int)), none, some (0, .int at_), some (1, .lst []), none, none] ⟨0, none, none, none, by simp, by omega, rfl⟩ (by
      rintro i rest q ⟨k, o4, o7, o8, h1, h2, rfl⟩
      have hk : k < M := by
        apply Classical.byContradiction
        intro z
        rw [show M - k = 0 by omega] at h1
        simp at h1
      rw [show M - k = (M - (k + 1)) + 1 by omega, List.range'_succ] at h1
      obtain ⟨h1a, h1b⟩ := List.cons.inj h1
      subst h1a
      obtain ⟨o7', o8', e⟩ := names_step (G := G) (sub := sub) (fu := fu) n c (some (0, .int M)) o7 o8 B at_ i hB7 (by omega) ((List.range' 0 i).map (nmk c B at_)) (by simp; omega)
      have hcat : (List.range' 0 i).map (nmk c B at_) ++ [nmk c B at_ i] = (List.range' 0 (i + 1)).map (nmk c B at_) := by
        rw [List.range'_1_concat, List.map_append]; simp
      rw [hcat] at e
      exact ⟨_, _, rfl, .inl e, i + 1, some (0, .int i), o7', o8', h1b, by omega, rfl⟩)
  have hk : k = M := by
    have := congrArg List.length h1
    simp at this
    omega
  subst hk
  refine ⟨B, at_, by omega, ?_⟩
  rw [callF_s fn22 rfl rfl, evB_cut 1]
  have e1 : evB G sub (callF G sub tab fu n) fu (takeB 1 fn22.body) (startE fn22.nn [.int c, .int k]) = .nx [some (0, .int c), some (0, .int k), some (0, .str abc), none, none, none, none, none, none] := by
    simp [evB_cons, evB_nil, seqB_nx, seqB_ret, seqB_exc, seqB_bk, seqB_ct, endF_ret, endF_nx, endF_exc, evS, ev, evs, evBop, evo, evc, evSr, R_ok, R_exc, R_some, O_ok, O_exc, startE, getv, lower, ixop, atD, L2.atI, L2.ixN, cmp_int, cmpne_int, cmp_lt, cmp_le, cmp_gt, cmp_ge, cmp_str, cmpne_str, bin_add, bin_sub, bin_mod, bin_div, bin_mul, bltop, slop, isaop, itemsOf, enumOf, zipOf, Tg.put, Tg.ids, setAll, wipeE, fn22, takeB, abc]
  rw [e1, seqB_nx]
  simp [evB_cons, evB_nil, seqB_nx, seqB_ret, seqB_exc, seqB_bk, seqB_ct, endF_ret, endF_nx, endF_exc, evS, ev, evs, evBop, evo, evc, evSr, R_ok, R_exc, R_some, O_ok, O_exc, startE, getv, lower, cmp_int, cmpne_int, cmp_lt, cmp_le, cmp_gt, cmp_ge, cmp_str, cmpne_str, bin_add, bin_sub, bin_mod, bin_div, bin_mul, bltop, slop, isaop, itemsOf, enumOf, zipOf, Tg.put, Tg.ids, setAll, wipeE, fn22, dropB]
  rw [hm, hr]
  simp [evB_cons, evB_nil, seqB_nx, seqB_ret, seqB_exc, seqB_bk, seqB_ct, endF_ret, endF_nx, endF_exc, evS, ev, evs, evBop, evo, evc, evSr, R_ok, R_exc, R_some, O_ok, O_exc, startE, getv, lower, cmp_int, cmpne_int, cmp_lt, cmp_le, cmp_gt, cmp_ge, cmp_str, cmpne_str, bin_add, bin_sub, bin_mod, bin_div, bin_mul, bltop, slop, isaop, itemsOf, enumOf, zipOf, Tg.put, Tg.ids, setAll, wipeE]
  rw [compT_map (fun k : Nat => D.int ((c / 7 / ((k : Int) * k + 1) + 5 * k) % 26)) (List.range' 0 m) (fun k hk => by
    have hk' : k < m := by rw [List.mem_range'_1] at hk; omega
    have hkk : k * k ≤ 6 * 6 := Nat.mul_le_mul (by omega) (by omega)
    have hkI : (k : Int) * (k : Int) = ((k * k : Nat) : Int) := by omega
    have b1 : binop .mul (.int (k : Int)) (.int (k : Int)) = some (0, .int ((k : Int) * k)) := bin_mul _ _ (by omega)
    have b2 : binop .div (.int (c / 7)) (.int ((k : Int) * k + 1)) = some (0, .int (c / 7 / ((k : Int) * k + 1))) := bin_div _ _ (by omega) (by omega)
    have b3 : binop .mul (.int 5) (.int (k : Int)) = some (0, .int (5 * k)) := bin_mul _ _ (by omega)
    simp [compF, evB_cons, evB_nil, seqB_nx, seqB_ret, seqB_exc, seqB_bk, seqB_ct, endF_ret, endF_nx, endF_exc, evS, ev, evs, evBop, evo, evc, evSr, R_ok, R_exc, R_some, O_ok, O_exc, startE, getv, lower, cmp_int, cmpne_int, cmp_lt, cmp_le, cmp_gt, cmp_ge, cmp_str, cmpne_str, bin_add, bin_sub, bin_mod, bin_div, bin_mul, bltop, slop, isaop, itemsOf, enumOf, zipOf, Tg.put, Tg.ids, setAll, wipeE, b1, b2, b3]) (by simp; omega)]
  have hB2 : (List.range' 0 m).map (fun k : Nat => D.int ((c / 7 / ((k : Int) * k + 1) + 5 * k) % 26)) = B.map D.int := by rw [← hB, List.map_map]; rfl
  rw [hB2]
  simp [evB_cons, evB_nil, seqB_nx, seqB_ret, seqB_exc, seqB_bk, seqB_ct, endF_ret, endF_nx, endF_exc, evS, ev, evs, evBop, evo, evc, evSr, R_ok, R_exc, R_some, O_ok, O_exc, startE, getv, lower, cmp_int, cmpne_int, cmp_lt, cmp_le, cmp_gt, cmp_ge, cmp_str, cmpne_str, bin_add, bin_sub, bin_mod, bin_div, bin_mul, bltop, slop, isaop, itemsOf, enumOf, zipOf, Tg.put, Tg.ids, setAll, wipeE, hlen, b5, hrM]
  rw [e]
  simp [evB_cons, evB_nil, seqB_nx, seqB_ret, seqB_exc, seqB_bk, seqB_ct, endF_ret, endF_nx, endF_exc, evS, ev, evs, evBop, evo, evc, evSr, R_ok, R_exc, R_some, O_ok, O_exc, startE, getv, lower, cmp_int, cmpne_int, cmp_lt, cmp_le, cmp_gt, cmp_ge, cmp_str, cmpne_str, bin_add, bin_sub, bin_mod, bin_div, bin_mul, bltop, slop, isaop, itemsOf, enumOf, zipOf, Tg.put, Tg.ids, setAll, wipeE]
end
/-! ### shapes of the menu -/
mutual
def dp : Sh → Nat
  | .rcd ps => 1 + dps ps
  | _ => 0
def dps : List Sh → Nat
  | [] => 0
  | p :: ps => max (dp p) (dps ps)
end
mutual
theorem rws_dp : ∀ (s : Sh) (r : Row), r ∈ rws s → r.p.length ≤ dp s
  | .num, r, h => by simp [rws] at h; subst h; simp
  | .own, r, h => by simp [rws] at h; subst h; simp
  | .strip _, r, h => by simp [rws] at h; subst h; simp
  | .rcd ps, r, h => by
    rw [rws] at h
    rw [dp]
    rcases List.mem_cons.mp h with rfl | h
    · simp
    · exact rwl_dp ps 0 0 r h
theorem rwl_dp : ∀ (ps : List Sh) (k : Nat) (a : Int) (r : Row), r ∈ rwl k a ps → r.p.length ≤ 1 + dps ps
  | [], k, a, r, h => by simp [rwl] at h
  | p :: ps, k, a, r, h => by
    rw [rwl] at h
    rw [dps]
    rcases List.mem_append.mp h with h | h
    · obtain ⟨q, hq, rfl⟩ := List.mem_map.mp h
      have := rws_dp p q hq
      show q.p.length + 1 ≤ _
      omega
    · have := rwl_dp ps (k + 1) (a + cnt p) r h
      omega
end
theorem mkGt {s : Sh} (ok : Ok s) (c : cnt s ≤ 8) (d : dp s ≤ 3) : Gt s := ⟨ok, c, fun r hr => Nat.le_trans (rws_dp s r hr) d⟩
def sTwo : Sh := .rcd [.num, .num]
def sDeep (k : Int) : Sh := .rcd [.rcd [sTwo, .own], .strip k]
theorem ok2 {a b : Sh} (ha : Ok a) (hb : Ok b) : Ok (.rcd [a, b]) := .rcd (by have := cnt_pos ha; simp [cnts]; omega) fun t ht => by
  simp only [List.mem_cons, List.mem_nil_iff, or_false] at ht
  rcases ht with rfl | rfl
  · exact ha
  · exact hb
theorem okTwo : Ok sTwo := ok2 .num .num
theorem gtNum : Gt .num := mkGt .num (by simp [cnt]) (by simp [dp])
theorem gtOwn : Gt .own := mkGt .own (by simp [cnt]) (by simp [dp])
theorem gtStrip (k : Int) : Gt (.strip k) := mkGt (.strip k) (by simp [cnt]) (by simp [dp])
theorem gtTwo : Gt sTwo := mkGt okTwo (by simp [cnt, cnts, sTwo]) (by simp [dp, dps, sTwo])
theorem gtDeep (k : Int) : Gt (sDeep k) := mkGt (ok2 (ok2 okTwo .own) (.strip k)) (by simp [cnt, cnts, sTwo, sDeep]) (by simp [dp, dps, sTwo, sDeep])
theorem gtNO : Gt (.rcd [.num, .own]) := mkGt (ok2 .num .own) (by simp [cnt, cnts]) (by simp [dp, dps])
theorem gtSN (k : Int) : Gt (.rcd [.strip k, .num]) := mkGt (ok2 (.strip k) .num) (by simp [cnt, cnts]) (by simp [dp, dps])
theorem gtTN : Gt (.rcd [sTwo, .num]) := mkGt (ok2 okTwo .num) (by simp [cnt, cnts, sTwo]) (by simp [dp, dps, sTwo])
theorem gtT4 : Gt (.rcd [sTwo, sTwo, sTwo, sTwo]) := mkGt (.rcd (by simp [cnt, cnts, sTwo]) fun t ht => by
  simp only [List.mem_cons, List.mem_nil_iff, or_false] at ht
  rcases ht with rfl | rfl | rfl | rfl <;> exact okTwo) (by simp [cnt, cnts, sTwo]) (by simp [dp, dps, sTwo])
mutual
/-- strips have places -/
def Ps : Sh → Prop
  | .strip k => 0 < k
  | .rcd ps => Pss ps
  | _ => True
def Pss : List Sh → Prop
  | [] => True
  | p :: ps => Ps p ∧ Pss ps
end
mutual
theorem rws_ps : ∀ (s : Sh) (r : Row), Ps s → r ∈ rws s → Ps r.s
  | .num, r, _, h => by simp [rws] at h; subst h; trivial
  | .own, r, _, h => by simp [rws] at h; subst h; trivial
  | .strip _, r, g, h => by simp [rws] at h; subst h; exact g
  | .rcd ps, r, g, h => by
    rw [rws] at h
    rcases List.mem_cons.mp h with rfl | h
    · exact g
    · exact rwl_ps ps 0 0 r (by simpa [Ps] using g) h
theorem rwl_ps : ∀ (ps : List Sh) (k : Nat) (a : Int) (r : Row), Pss ps → r ∈ rwl k a ps → Ps r.s
  | [], k, a, r, _, h => by simp [rwl] at h
  | p :: ps, k, a, r, g, h => by
    rw [rwl] at h
    simp only [Pss] at g
    rcases List.mem_append.mp h with h | h
    · obtain ⟨q, hq, rfl⟩ := List.mem_map.mp h
      exact rws_ps p q g.1 hq
    · exact rwl_ps ps (k + 1) (a + cnt p) r g.2 h
end
theorem okd_enc : ∀ (d : Nat) (s : Sh), Ok s → (∀ r ∈ rws s, r.p.length ≤ d) → D.okd (2 * d + 1) (enc s) = true
  | d, .num, _, _ => by simp [enc, D.okd, okds, ok_num]
  | d, .own, _, _ => by simp [enc, D.okd, okds, ok_own]
  | d, .strip k, _, _ => by simp [enc, D.okd, okds, ok_strip]
  | 0, .rcd ps, ho, h => (rcd_short ho h).elim
  | d + 1, .rcd ps, ho, h => by
    have ih : ∀ p ∈ ps, D.okd (2 * d + 1) (enc p) = true := fun p hp => okd_enc d p (ho.part p hp) (short_part h p hp)
    have ih2 : ∀ qs : List Sh, (∀ p ∈ qs, D.okd (2 * d + 1) (enc p) = true) → okds (2 * d + 1) (encs qs) = true := fun qs => by
      induction qs with
      | nil => intro _; simp [encs, okds]
      | cons q qs iq =>
        intro hq
        rw [encs, okds, hq q List.mem_cons_self, iq fun p hp => hq p (List.mem_cons_of_mem _ hp)]
        rfl
    have e : 2 * (d + 1) + 1 = (2 * d + 1) + 1 + 1 := by omega
    rw [e, enc]
    simp [D.okd, okds, ok_rec, ih2 ps ih]
theorem okd_eK {k : Kd} (g : Gt k.sh) : okd (eK k) = true := by
  have h := okd_enc 3 k.sh g.1 g.2.2
  cases k with
  | own s => exact okd_up h (by omega)
  | lent s =>
    have h' : okds 7 [D.str "lent", enc s] = true := by
      simp only [okds]
      rw [show D.okd 7 (enc s) = true from h]
      simp [D.okd, ok_lent]
    exact okd_tup h' (by omega)
  | sole s =>
    have h' : okds 7 [D.str "sole", enc s] = true := by
      simp only [okds]
      rw [show D.okd 7 (enc s) = true from h]
      simp [D.okd, ok_sole]
    exact okd_tup h' (by omega)
def menuK (b s : Sh) : List Kd := [.own .num, .own b, .own s, .sole b, .lent b, .sole s, .lent s, .lent .num]
theorem menu_ps {b s : Sh} (hb : Ps b) (hs : Ps s) : ∀ k ∈ menuK b s, Ps k.sh := fun k hk => by
  simp only [menuK, List.mem_cons, List.mem_nil_iff, or_false] at hk
  rcases hk with rfl | rfl | rfl | rfl | rfl | rfl | rfl | rfl
  · trivial
  · exact hb
  · exact hs
  · exact hb
  · exact hb
  · exact hs
  · exact hs
  · trivial
theorem menu_gt {b s : Sh} (hb : Gt b) (hs : Gt s) : ∀ k ∈ menuK b s, Gt k.sh := fun k hk => by
  simp only [menuK, List.mem_cons, List.mem_nil_iff, or_false] at hk
  rcases hk with rfl | rfl | rfl | rfl | rfl | rfl | rfl | rfl
  · exact gtNum
  · exact hb
  · exact hs
  · exact hb
  · exact hb
  · exact hs
  · exact hs
  · exact gtNum
section
variable {G : Nat → Option D} {sub : Nat → Nat → Bool} {fu : Nat}
theorem menu_fn (n : Nat) (c : Int) : ∃ b s, Gt b ∧ Gt s ∧ Ps b ∧ Ps s ∧ callF G sub tab fu (n + 1) 26 [.int c] = .ok 1 (.lst ((menuK b s).map eK)) := by
  rw [callF_s fn26 rfl rfl]
  have h8 : c % 8 = 0 ∨ c % 8 = 1 ∨ c % 8 = 2 ∨ c % 8 = 3 ∨ c % 8 = 4 ∨ c % 8 = 5 ∨ c % 8 = 6 ∨ c % 8 = 7 := by omega
  have hk : 0 < 1 + c / 8 % 8 := by omega
  generalize hst : 1 + c / 8 % 8 = k at hk
  rcases h8 with h | h | h | h | h | h | h | h
  · exact ⟨sTwo, .num, gtTwo, gtNum, by simp [Ps, Pss, sTwo, sDeep, hk], by simp [Ps, Pss, sTwo, sDeep, hk], by simp [evB_cons, evB_nil, seqB_nx, seqB_ret, seqB_exc, seqB_bk, seqB_ct, endF_ret, endF_nx, endF_exc, evS, ev, evs, evBop, evo, evc, evSr, R_ok, R_exc, R_some, O_ok, O_exc, startE, getv, lower, ixop, atD, L2.atI, L2.ixN, cmp_int, cmpne_int, cmp_lt, cmp_le, cmp_gt, cmp_ge, cmp_str, cmpne_str, bin_add, bin_sub, bin_mod, bin_div, bin_mul, bltop, slop, isaop, itemsOf, enumOf, zipOf, Tg.put, Tg.ids, setAll, wipeE, fn26, hst, h, bin_cat, menuK, eK, enc, encs, sTwo]⟩
  · exact ⟨.rcd [.num, .own], .own, gtNO, gtOwn, by simp [Ps, Pss, sTwo, sDeep, hk], by simp [Ps, Pss, sTwo, sDeep, hk], by simp [evB_cons, evB_nil, seqB_nx, seqB_ret, seqB_exc, seqB_bk, seqB_ct, endF_ret, endF_nx, endF_exc, evS, ev, evs, evBop, evo, evc, evSr, R_ok, R_exc, R_some, O_ok, O_exc, startE, getv, lower, ixop, atD, L2.atI, L2.ixN, cmp_int, cmpne_int, cmp_lt, cmp_le, cmp_gt, cmp_ge, cmp_str, cmpne_str, bin_add, bin_sub, bin_mod, bin_div, bin_mul, bltop, slop, isaop, itemsOf, enumOf, zipOf, Tg.put, Tg.ids, setAll, wipeE, fn26, hst, h, bin_cat, menuK, eK, enc, encs, sTwo]⟩
  · exact ⟨.rcd [.strip k, .num], .strip k, gtSN k, gtStrip k, by simp [Ps, Pss, sTwo, sDeep, hk], by simp [Ps, Pss, sTwo, sDeep, hk], by simp [evB_cons, evB_nil, seqB_nx, seqB_ret, seqB_exc, seqB_bk, seqB_ct, endF_ret, endF_nx, endF_exc, evS, ev, evs, evBop, evo, evc, evSr, R_ok, R_exc, R_some, O_ok, O_exc, startE, getv, lower, ixop, atD, L2.atI, L2.ixN, cmp_int, cmpne_int, cmp_lt, cmp_le, cmp_gt, cmp_ge, cmp_str, cmpne_str, bin_add, bin_sub, bin_mod, bin_div, bin_mul, bltop, slop, isaop, itemsOf, enumOf, zipOf, Tg.put, Tg.ids, setAll, wipeE, fn26, hst, h, bin_cat, menuK, eK, enc, encs, sTwo]⟩
  · exact ⟨.rcd [sTwo, .num], sTwo, gtTN, gtTwo, by simp [Ps, Pss, sTwo, sDeep, hk], by simp [Ps, Pss, sTwo, sDeep, hk], by simp [evB_cons, evB_nil, seqB_nx, seqB_ret, seqB_exc, seqB_bk, seqB_ct, endF_ret, endF_nx, endF_exc, evS, ev, evs, evBop, evo, evc, evSr, R_ok, R_exc, R_some, O_ok, O_exc, startE, getv, lower, ixop, atD, L2.atI, L2.ixN, cmp_int, cmpne_int, cmp_lt, cmp_le, cmp_gt, cmp_ge, cmp_str, cmpne_str, bin_add, bin_sub, bin_mod, bin_div, bin_mul, bltop, slop, isaop, itemsOf, enumOf, zipOf, Tg.put, Tg.ids, setAll, wipeE, fn26, hst, h, bin_cat, menuK, eK, enc, encs, sTwo]⟩
  · exact ⟨sDeep k, .strip k, gtDeep k, gtStrip k, by simp [Ps, Pss, sTwo, sDeep, hk], by simp [Ps, Pss, sTwo, sDeep, hk], by simp [evB_cons, evB_nil, seqB_nx, seqB_ret, seqB_exc, seqB_bk, seqB_ct, endF_ret, endF_nx, endF_exc, evS, ev, evs, evBop, evo, evc, evSr, R_ok, R_exc, R_some, O_ok, O_exc, startE, getv, lower, ixop, atD, L2.atI, L2.ixN, cmp_int, cmpne_int, cmp_lt, cmp_le, cmp_gt, cmp_ge, cmp_str, cmpne_str, bin_add, bin_sub, bin_mod, bin_div, bin_mul, bltop, slop, isaop, itemsOf, enumOf, zipOf, Tg.put, Tg.ids, setAll, wipeE, fn26, hst, h, bin_cat, menuK, eK, enc, encs, sTwo, sDeep]⟩
  · exact ⟨.strip k, sTwo, gtStrip k, gtTwo, by simp [Ps, Pss, sTwo, sDeep, hk], by simp [Ps, Pss, sTwo, sDeep, hk], by simp [evB_cons, evB_nil, seqB_nx, seqB_ret, seqB_exc, seqB_bk, seqB_ct, endF_ret, endF_nx, endF_exc, evS, ev, evs, evBop, evo, evc, evSr, R_ok, R_exc, R_some, O_ok, O_exc, startE, getv, lower, ixop, atD, L2.atI, L2.ixN, cmp_int, cmpne_int, cmp_lt, cmp_le, cmp_gt, cmp_ge, cmp_str, cmpne_str, bin_add, bin_sub, bin_mod, bin_div, bin_mul, bltop, slop, isaop, itemsOf, enumOf, zipOf, Tg.put, Tg.ids, setAll, wipeE, fn26, hst, h, bin_cat, menuK, eK, enc, encs, sTwo]⟩
  · exact ⟨.rcd [sTwo, sTwo, sTwo, sTwo], sTwo, gtT4, gtTwo, by simp [Ps, Pss, sTwo, sDeep, hk], by simp [Ps, Pss, sTwo, sDeep, hk], by simp [evB_cons, evB_nil, seqB_nx, seqB_ret, seqB_exc, seqB_bk, seqB_ct, endF_ret, endF_nx, endF_exc, evS, ev, evs, evBop, evo, evc, evSr, R_ok, R_exc, R_some, O_ok, O_exc, startE, getv, lower, ixop, atD, L2.atI, L2.ixN, cmp_int, cmpne_int, cmp_lt, cmp_le, cmp_gt, cmp_ge, cmp_str, cmpne_str, bin_add, bin_sub, bin_mod, bin_div, bin_mul, bltop, slop, isaop, itemsOf, enumOf, zipOf, Tg.put, Tg.ids, setAll, wipeE, fn26, hst, h, bin_cat, menuK, eK, enc, encs, sTwo]⟩
  · exact ⟨sDeep k, .own, gtDeep k, gtOwn, by simp [Ps, Pss, sTwo, sDeep, hk], by simp [Ps, Pss, sTwo, sDeep, hk], by simp [evB_cons, evB_nil, seqB_nx, seqB_ret, seqB_exc, seqB_bk, seqB_ct, endF_ret, endF_nx, endF_exc, evS, ev, evs, evBop, evo, evc, evSr, R_ok, R_exc, R_some, O_ok, O_exc, startE, getv, lower, ixop, atD, L2.atI, L2.ixN, cmp_int, cmpne_int, cmp_lt, cmp_le, cmp_gt, cmp_ge, cmp_str, cmpne_str, bin_add, bin_sub, bin_mod, bin_div, bin_mul, bltop, slop, isaop, itemsOf, enumOf, zipOf, Tg.put, Tg.ids, setAll, wipeE, fn26, hst, h, bin_cat, menuK, eK, enc, encs, sTwo, sDeep]⟩
theorem ix_list {α : Type} {g : α → D} {L : List α} {i : Int} (h0 : 0 ≤ i) (h1 : i < L.length) : ∃ x ∈ L, ixop (.lst (L.map g)) (.int i) = some (g x) := by
  have hn : i.toNat < L.length := by omega
  refine ⟨L[i.toNat], List.getElem_mem hn, ?_⟩
  simp [ixop, atD, L2.atI, L2.ixN, h0, h1, hn]
theorem picked_fn (n : Nat) (M : List Kd) (c : Int) (m : Nat) (hm : m ≤ 1000) (hM : 1 ≤ M.length ∧ M.length ≤ 1000) : ∃ L : List Kd, L.length = m ∧ (∀ k ∈ L, k ∈ M) ∧ callF G sub tab fu (n + 1) 27 [.lst (M.map eK), .int c, .int m] = .ok 1 (.lst (L.map eK)) := by
  obtain ⟨q, e, L, c', o4, h1, h2, rfl⟩ := forT_list (g := fun i : Nat => D.int i) (t := .name 4) (f := evB G sub (callF G sub tab fu n) fu bd27_0)
    (fun rest q => ∃ (L : List Kd) (c' : Int) (o4 : Option (Nat × D)), L.length + rest.length = m ∧ (∀ k ∈ L, k ∈ M) ∧ q = [some (0, .lst (M.map eK)), some (0, .int c'), some (0, .int m), some (1, .lst (L.map eK)), o4])
    (List.range' 0 m) [some (0, .lst (M.map eK)), some (0, .int c), some (0, .int m), some (1, .lst []), none] ⟨[], c, none, by simp, by simp, rfl⟩ (by
      rintro i rest q ⟨L, c', o4, h1, h2, rfl⟩
      rw [List.length_cons] at h1
      have hp : (0 : Int) < (M.length : Int) := by omega
      obtain ⟨x, hx, e⟩ := ix_list (g := eK) (L := M) (i := c' % (M.length : Int)) (Int.emod_nonneg _ (by omega)) (Int.emod_lt_of_pos _ hp)
      have b1 := bin_mod c' (M.length : Int) hp
      have b2 := bin_div c' (M.length : Int) hp (by omega)
      have hd' : L.length < LN := by show _ < 16777216; omega
      refine ⟨_, [some (0, .lst (M.map eK)), some (0, .int (c' / (M.length : Int))), some (0, .int m), some (1, .lst ((L ++ [x]).map eK)), some (0, .int i)], rfl, .inl ?_, L ++ [x], _, _, by simp; omega, fun k hk => ?_, rfl⟩
      · simp [bd27_0, evB_cons, evB_nil, seqB_nx, seqB_ret, seqB_exc, seqB_bk, seqB_ct, endF_ret, endF_nx, endF_exc, evS, ev, evs, evBop, evo, evc, evSr, R_ok, R_exc, R_some, O_ok, O_exc, startE, getv, lower, cmp_int, cmpne_int, cmp_lt, cmp_le, cmp_gt, cmp_ge, cmp_str, cmpne_str, bin_add, bin_sub, bin_mod, bin_div, bin_mul, bltop, slop, isaop, itemsOf, enumOf, zipOf, Tg.put, Tg.ids, setAll, wipeE, b1, b2, e, hd']
      · rcases List.mem_append.mp hk with hk | hk
        · exact h2 k hk
        · rw [List.mem_singleton.mp hk]; exact hx)
  refine ⟨L, by simpa using h1, h2, ?_⟩
  have hr := rngop (m := m) hm
  rw [callF_s fn27 rfl rfl]
  simp [evB_cons, evB_nil, seqB_nx, seqB_ret, seqB_exc, seqB_bk, seqB_ct, endF_ret, endF_nx, endF_exc, evS, ev, evs, evBop, evo, evc, evSr, R_ok, R_exc, R_some, O_ok, O_exc, startE, getv, lower, ixop, atD, L2.atI, L2.ixN, cmp_int, cmpne_int, cmp_lt, cmp_le, cmp_gt, cmp_ge, cmp_str, cmpne_str, bin_add, bin_sub, bin_mod, bin_div, bin_mul, bltop, slop, isaop, itemsOf, enumOf, zipOf, Tg.put, Tg.ids, setAll, wipeE, fn27, hr]
  rw [e]
  simp [evB_cons, evB_nil, seqB_nx, seqB_ret, seqB_exc, seqB_bk, seqB_ct, endF_ret, endF_nx, endF_exc, evS, ev, evs, evBop, evo, evc, evSr, R_ok, R_exc, R_some, O_ok, O_exc, startE, getv, lower, ixop, atD, L2.atI, L2.ixN, cmp_int, cmpne_int, cmp_lt, cmp_le, cmp_gt, cmp_ge, cmp_str, cmpne_str, bin_add, bin_sub, bin_mod, bin_div, bin_mul, bltop, slop, isaop, itemsOf, enumOf, zipOf, Tg.put, Tg.ids, setAll, wipeE]
end
end Ly

set_option Elab.async false
set_option linter.all false
set_option maxRecDepth 100000
set_option maxHeartbeats 800000
namespace Ly
open PySem
/-! ### all spots -/
structure Tr where
  s : Sp
  i : Sh
  w : Str
def eTr (t : Tr) : D := .tup [eS t.s, enc t.i, .str t.w]
def trOf (nd : Nd) (r : Row) : Tr := ⟨⟨nd.l, nd.k.thr, r.p, .non⟩, r.s, nd.k.w⟩
def spotsL (R : List Nd) : List Tr := R.flatMap fun nd => (rws nd.k.sh).map (trOf nd)
theorem spots_few : ∀ R : List Nd, (∀ r ∈ R, GN r) → (spotsL R).length ≤ 32 * R.length
  | [], _ => by simp [spotsL]
  | r :: R, h => by
    have h1 := (h r List.mem_cons_self).2.few
    have h2 := spots_few R fun q hq => h q (List.mem_cons_of_mem _ hq)
    unfold spotsL at h2 ⊢
    rw [List.flatMap_cons, List.length_append, List.length_map, List.length_cons]
    omega
section
variable {G : Nat → Option D} {sub : Nat → Nat → Bool} {fu : Nat}
end
/-- spots of R are good -/
theorem spots_sv {R : List Nd} (hn : (R.map (·.l)).Nodup) (hg : ∀ r ∈ R, GN r) {t : Tr} (ht : t ∈ spotsL R) (a : At) : ∃ nd r, Sv R { t.s with a := a } nd r ∧ t.i = r.s ∧ t.w = nd.k.w := by
  unfold spotsL at ht
  obtain ⟨nd, h1, h2⟩ := List.mem_flatMap.mp ht
  obtain ⟨r, h3, rfl⟩ := List.mem_map.mp h2
  exact ⟨nd, r, ⟨find_nd R hn nd h1, hg nd h1, rfl, h3, rfl⟩, rfl, rfl⟩
/-! ### what is told -/
theorem okds_ac {x : Ac} (g : GA x) : okds 0 (acL x) = true := by
  unfold acL
  have h1 : D.okd 0 (.str x.w) = true := g.1
  have h2 : D.okd 0 (dS x.n) = true := okd_dS g.2.1 0
  have h3 : D.okd 0 (.str x.k) = true := g.2.2
  simp only [okds, h1, h2, h3]
  rfl
theorem ne_e7 {x : Nat × Ac} (g : GA x.2) : cmpop .ne (e7 x) (e7 x) = some false := by
  have h : okds 0 (.int x.1 :: acL x.2) = true := by
    rw [okds, okds_ac g]
    rfl
  exact cmpne_refl (okd_tup h (by omega))
theorem zip_self : ∀ ds : List D, zipD ds ds = ds.map fun d => .tup [d, d]
  | [] => rfl
  | d :: ds => by rw [zipD, zip_self ds]; rfl
theorem asBls3 : asBls [.bl true, .bl true, .bl true] = some [true, true, true] := rfl
section
variable {G : Nat → Option D} {sub : Nat → Nat → Bool} {fu : Nat}
theorem whole_fn (n : Nat) (i : Int) : callF G sub tab fu (n + 1) 29 [.int i] = .ok 0 (.bl true) := by
  rw [callF_s fn29 rfl rfl]
  simp [evB_cons, evB_nil, seqB_nx, seqB_ret, seqB_exc, seqB_bk, seqB_ct, endF_ret, endF_nx, endF_exc, evS, ev, evs, evBop, evo, evc, evSr, R_ok, R_exc, R_some, O_ok, O_exc, startE, getv, lower, ixop, atD, L2.atI, L2.ixN, cmp_int, cmpne_int, cmp_lt, cmp_le, cmp_gt, cmp_ge, cmp_str, cmpne_str, bin_add, bin_sub, bin_mod, bin_div, bin_mul, bltop, slop, isaop, itemsOf, enumOf, zipOf, Tg.put, Tg.ids, setAll, wipeE, fn29]
theorem same_act_fn (n : Nat) (x : Nat × Ac) (g : GA x.2) : callF G sub tab fu (n + 2) 30 [e7 x, e7 x] = .ok 0 (.bl true) := by
  have h := ne_e7 g
  have e7' : e7 x = .tup [.int x.1, .str x.2.w, .str (cat x.2.n), .bl x.2.t, .int x.2.a, .int x.2.m, .str x.2.k] := rfl
  rw [e7'] at h ⊢
  rw [callF_s fn30 rfl rfl]
  simp [evB_cons, evB_nil, seqB_nx, seqB_ret, seqB_exc, seqB_bk, seqB_ct, endF_ret, endF_nx, endF_exc, evS, ev, evs, evBop, evo, evc, evSr, R_ok, R_exc, R_some, O_ok, O_exc, startE, getv, lower, ixop, atD, L2.atI, L2.ixN, cmp_int, cmpne_int, cmp_lt, cmp_le, cmp_gt, cmp_ge, cmp_str, cmpne_str, bin_add, bin_sub, bin_mod, bin_div, bin_mul, bltop, slop, isaop, itemsOf, enumOf, zipOf, Tg.put, Tg.ids, setAll, wipeE, fn30, h, whole_fn]
  rw [show ([D.int 1, D.int 2, D.int 6] : List D) = ([1, 2, 6] : List Int).map D.int from rfl, compT_map (g := D.int) (fun _ => D.bl true) ([1, 2, 6] : List Int) (fun y hy => by
    simp only [List.mem_cons, List.mem_nil_iff, or_false] at hy
    rcases hy with rfl | rfl | rfl <;> simp [compF, evB_cons, evB_nil, seqB_nx, seqB_ret, seqB_exc, seqB_bk, seqB_ct, endF_ret, endF_nx, endF_exc, evS, ev, evs, evBop, evo, evc, evSr, R_ok, R_exc, R_some, O_ok, O_exc, startE, getv, lower, ixop, atD, L2.atI, L2.ixN, cmp_int, cmpne_int, cmp_lt, cmp_le, cmp_gt, cmp_ge, cmp_str, cmpne_str, bin_add, bin_sub, bin_mod, bin_div, bin_mul, bltop, slop, isaop, itemsOf, enumOf, zipOf, Tg.put, Tg.ids, setAll, wipeE]) (by simp)]
  simp [evB_cons, evB_nil, seqB_nx, seqB_ret, seqB_exc, seqB_bk, seqB_ct, endF_ret, endF_nx, endF_exc, evS, ev, evs, evBop, evo, evc, evSr, R_ok, R_exc, R_some, O_ok, O_exc, startE, getv, lower, ixop, atD, L2.atI, L2.ixN, cmp_int, cmpne_int, cmp_lt, cmp_le, cmp_gt, cmp_ge, cmp_str, cmpne_str, bin_add, bin_sub, bin_mod, bin_div, bin_mul, bltop, slop, isaop, itemsOf, enumOf, zipOf, Tg.put, Tg.ids, setAll, wipeE, asBls3]
theorem told_fn (n : Nat) (L : List (Nat × Ac)) (g : ∀ x ∈ L, GA x.2) : callF G sub tab fu (n + 3) 31 [.lst (L.map e7), .lst (L.map e7)] = .ok 0 (.bl true) := by
  obtain ⟨q, e, o2, o3, _, rfl⟩ := forT_list (g := fun x : Nat × Ac => D.tup [e7 x, e7 x]) (t := .tup [2, 3]) (f := evB G sub (callF G sub tab fu (n + 2)) fu bd31_0)
    (fun rest q => ∃ (o2 o3 : Option (Nat × D)), (∀ x ∈ rest, GA x.2) ∧ q = [some (0, .lst (L.map e7)), some (0, .lst (L.map e7)), o2, o3]) L [some (0, .lst (L.map e7)), some (0, .lst (L.map e7)), none, none] ⟨none, none, g, rfl⟩ (by
      rintro x rest q ⟨o2, o3, h, rfl⟩
      have hx := same_act_fn (G := G) (sub := sub) (fu := fu) n x (h x List.mem_cons_self)
      refine ⟨_, [some (0, .lst (L.map e7)), some (0, .lst (L.map e7)), some (0, e7 x), some (0, e7 x)], rfl, .inl ?_, _, _, fun y hy => h y (List.mem_cons_of_mem _ hy), rfl⟩
      generalize e7 x = X at hx
      simp [evB_cons, evB_nil, seqB_nx, seqB_ret, seqB_exc, seqB_bk, seqB_ct, endF_ret, endF_nx, endF_exc, evS, ev, evs, evBop, evo, evc, evSr, R_ok, R_exc, R_some, O_ok, O_exc, startE, getv, lower, ixop, atD, L2.atI, L2.ixN, cmp_int, cmpne_int, cmp_lt, cmp_le, cmp_gt, cmp_ge, cmp_str, cmpne_str, bin_add, bin_sub, bin_mod, bin_div, bin_mul, bltop, slop, isaop, itemsOf, enumOf, zipOf, Tg.put, Tg.ids, setAll, wipeE, bd31_0, hx])
  rw [callF_s fn31 rfl rfl]
  simp [evB_cons, evB_nil, seqB_nx, seqB_ret, seqB_exc, seqB_bk, seqB_ct, endF_ret, endF_nx, endF_exc, evS, ev, evs, evBop, evo, evc, evSr, R_ok, R_exc, R_some, O_ok, O_exc, startE, getv, lower, ixop, atD, L2.atI, L2.ixN, cmp_int, cmpne_int, cmp_lt, cmp_le, cmp_gt, cmp_ge, cmp_str, cmpne_str, bin_add, bin_sub, bin_mod, bin_div, bin_mul, bltop, slop, isaop, itemsOf, enumOf, zipOf, Tg.put, Tg.ids, setAll, wipeE, fn31, zip_self]
  simp [Function.comp_def] at e ⊢
  rw [e]
  simp [evB_cons, evB_nil, seqB_nx, seqB_ret, seqB_exc, seqB_bk, seqB_ct, endF_ret, endF_nx, endF_exc, evS, ev, evs, evBop, evo, evc, evSr, R_ok, R_exc, R_some, O_ok, O_exc, startE, getv, lower, ixop, atD, L2.atI, L2.ixN, cmp_int, cmpne_int, cmp_lt, cmp_le, cmp_gt, cmp_ge, cmp_str, cmpne_str, bin_add, bin_sub, bin_mod, bin_div, bin_mul, bltop, slop, isaop, itemsOf, enumOf, zipOf, Tg.put, Tg.ids, setAll, wipeE]
/-! ### all acts of a function -/
def numb (k : Nat) (L : List Ac) : List (Nat × Ac) := L.map fun x => (k, x)
def allA : Nat → List (List Ac) → List (Nat × Ac)
  | _, [] => []
  | k, L :: Ls => numb k L ++ allA (k + 1) Ls
theorem put_k (k : Nat) (x : Ac) : binop .add (.tup [.int (k : Int)]) (eA x) = some (0, e7 (k, x)) := by
  unfold eA e7
  rw [bin_catT _ _ (by simp [acL])]
  rfl
theorem acts_in (n : Nat) (o0 o1 o2 o5 : Option (Nat × D)) (k : Nat) : ∀ (L : List Ac) (acc : List (Nat × Ac)) (o6 : Option (Nat × D)), acc.length + L.length ≤ 1000000 → ∃ o6',
    forT (.name 6) (evB G sub (callF G sub tab fu n) fu bd19_0) (L.map eA) [o0, o1, o2, some (1, .lst (acc.map e7)), some (0, .int k), o5, o6] = .nx [o0, o1, o2, some (1, .lst ((acc ++ numb k L).map e7)), some (0, .int k), o5, o6']
  | [], acc, o6, _ => ⟨o6, by simp [forT, forLoop, numb]⟩
  | x :: L, acc, o6, h => by
    rw [List.length_cons] at h
    have step : ∀ f, forT (.name 6) f ((x :: L).map eA) [o0, o1, o2, some (1, .lst (acc.map e7)), some (0, .int k), o5, o6] = match f [o0, o1, o2, some (1, .lst (acc.map e7)), some (0, .int k), o5, some (0, eA x)] with
      | .nx r1 => forT (.name 6) f (L.map eA) r1
      | .ct r1 => forT (.name 6) f (L.map eA) r1
      | .bk r1 => .nx r1
      | .ret l d => .ret l d
      | .exc r1 c => .exc r1 c
      | .bad => .bad := fun f => rfl
    have hd' : acc.length < LN := by show _ < 16777216; omega
    have hk := put_k k x
    have e1 : evB G sub (callF G sub tab fu n) fu bd19_0 [o0, o1, o2, some (1, .lst (acc.map e7)), some (0, .int k), o5, some (0, eA x)] = .nx [o0, o1, o2, some (1, .lst ((acc ++ [(k, x)]).map e7)), some (0, .int k), o5, some (0, eA x)] := by
      simp [evB_cons, evB_nil, seqB_nx, seqB_ret, seqB_exc, seqB_bk, seqB_ct, endF_ret, endF_nx, endF_exc, evS, ev, evs, evBop, evo, evc, evSr, R_ok, R_exc, R_some, O_ok, O_exc, startE, getv, lower, ixop, atD, L2.atI, L2.ixN, cmp_int, cmpne_int, cmp_lt, cmp_le, cmp_gt, cmp_ge, cmp_str, cmpne_str, bin_add, bin_sub, bin_mod, bin_div, bin_mul, bltop, slop, isaop, itemsOf, enumOf, zipOf, Tg.put, Tg.ids, setAll, wipeE, bd19_0, hk, hd']
    rw [step, e1]
    obtain ⟨o6', e2⟩ := acts_in n o0 o1 o2 o5 k L (acc ++ [(k, x)]) (some (0, eA x)) (by simp; omega)
    refine ⟨o6', ?_⟩
    simp only
    rw [e2]
    simp [numb]
theorem acts_loop {α : Type} (g : α → D) (f : α → List Ac) (n : Nat) (o0 o1 : Option (Nat × D)) (F : D) : ∀ (rs : List α) (k : Nat) (acc : List (Nat × Ac)) (o4 o5 o6 : Option (Nat × D)), (∀ r ∈ rs, (f r).length ≤ 1000 ∧ ∃ l, callF G sub tab fu n 18 [F, g r] = .ok l (.lst ((f r).map eA))) → acc.length + 1000 * rs.length ≤ 1000000 → ∃ o4' o5' o6',
    forT (.tup [4, 5]) (evB G sub (callF G sub tab fu n) fu bd19_1) (enumD k (rs.map g)) [o0, o1, some (0, F), some (1, .lst (acc.map e7)), o4, o5, o6] = .nx [o0, o1, some (0, F), some (1, .lst ((acc ++ allA k (rs.map f)).map e7)), o4', o5', o6']
  | [], k, acc, o4, o5, o6, _, _ => ⟨o4, o5, o6, by simp [forT, forLoop, enumD, allA]⟩
  | r :: rs, k, acc, o4, o5, o6, h, hl => by
    rw [List.length_cons] at hl
    obtain ⟨h1, l, h2⟩ := h r List.mem_cons_self
    have step : ∀ f, forT (.tup [4, 5]) f (enumD k ((r :: rs).map g)) [o0, o1, some (0, F), some (1, .lst (acc.map e7)), o4, o5, o6] = match f [o0, o1, some (0, F), some (1, .lst (acc.map e7)), some (0, .int k), some (0, g r), o6] with
      | .nx r1 => forT (.tup [4, 5]) f (enumD (k + 1) (rs.map g)) r1
      | .ct r1 => forT (.tup [4, 5]) f (enumD (k + 1) (rs.map g)) r1
      | .bk r1 => .nx r1
      | .ret l d => .ret l d
      | .exc r1 c => .exc r1 c
      | .bad => .bad := fun f => rfl
    obtain ⟨p6, e3⟩ := acts_in (G := G) (sub := sub) (fu := fu) n o0 o1 (some (0, F)) (some (0, g r)) k (f r) acc o6 (by omega)
    have e1 : evB G sub (callF G sub tab fu n) fu bd19_1 [o0, o1, some (0, F), some (1, .lst (acc.map e7)), some (0, .int k), some (0, g r), o6] = .nx [o0, o1, some (0, F), some (1, .lst ((acc ++ numb k (f r)).map e7)), some (0, .int k), some (0, g r), p6] := by
      simp [evB_cons, evB_nil, seqB_nx, seqB_ret, seqB_exc, seqB_bk, seqB_ct, endF_ret, endF_nx, endF_exc, evS, ev, evs, evBop, evo, evc, evSr, R_ok, R_exc, R_some, O_ok, O_exc, startE, getv, lower, ixop, atD, L2.atI, L2.ixN, cmp_int, cmpne_int, cmp_lt, cmp_le, cmp_gt, cmp_ge, cmp_str, cmpne_str, bin_add, bin_sub, bin_mod, bin_div, bin_mul, bltop, slop, isaop, itemsOf, enumOf, zipOf, Tg.put, Tg.ids, setAll, wipeE, bd19_1, h2]
      rw [e3]
      simp [evB_cons, evB_nil, seqB_nx, seqB_ret, seqB_exc, seqB_bk, seqB_ct, endF_ret, endF_nx, endF_exc, evS, ev, evs, evBop, evo, evc, evSr, R_ok, R_exc, R_some, O_ok, O_exc, startE, getv, lower, ixop, atD, L2.atI, L2.ixN, cmp_int, cmpne_int, cmp_lt, cmp_le, cmp_gt, cmp_ge, cmp_str, cmpne_str, bin_add, bin_sub, bin_mod, bin_div, bin_mul, bltop, slop, isaop, itemsOf, enumOf, zipOf, Tg.put, Tg.ids, setAll, wipeE]
    rw [step, e1]
    have hnl : (numb k (f r)).length = (f r).length := by simp [numb]
    obtain ⟨o4', o5', o6', e2⟩ := acts_loop g f n o0 o1 F rs (k + 1) (acc ++ numb k (f r)) (some (0, .int k)) (some (0, g r)) p6 (fun q hq => h q (List.mem_cons_of_mem _ hq)) (by rw [List.length_append, hnl]; omega)
    refine ⟨o4', o5', o6', ?_⟩
    simp only
    rw [e2, List.map_cons, allA, List.append_assoc]
theorem acts_fn {α : Type} (g : α → D) (f : α → List Ac) (n : Nat) (f0 fr : D) (R1 R2 : List Nd) (rs : List α) (Fs : List D) (i : Nat) (hF : Fs[i]? = some (funD f0 fr (.tup (rs.map g)) R1 R2)) (h : ∀ r ∈ rs, (f r).length ≤ 1000 ∧ ∃ l, callF G sub tab fu n 18 [funD f0 fr (.tup (rs.map g)) R1 R2, g r] = .ok l (.lst ((f r).map eA))) (hl : rs.length ≤ 1000) :
    callF G sub tab fu (n + 1) 19 [.tup Fs, .int i] = .ok 1 (.lst ((allA 0 (rs.map f)).map e7)) := by
  obtain ⟨o4, o5, o6, e⟩ := acts_loop (G := G) (sub := sub) (fu := fu) g f n (some (0, .tup Fs)) (some (0, .int i)) (funD f0 fr (.tup (rs.map g)) R1 R2) rs 0 [] none none none h (by simp; omega)
  have hi : i < Fs.length := (List.getElem?_eq_some_iff.mp hF).1
  have hi' : (i : Int) < (Fs.length : Int) := by omega
  have hix : ixop (.tup Fs) (.int i) = some (funD f0 fr (.tup (rs.map g)) R1 R2) := by
    simp [ixop, atD, L2.atI, L2.ixN, hi, hF]
    exact (List.getElem?_eq_some_iff.mp hF).2
  have h4 : ixop (funD f0 fr (.tup (rs.map g)) R1 R2) (.int 4) = some (.tup (rs.map g)) := by
    simp [funD, ixop, atD, L2.atI, L2.ixN]
  rw [callF_s fn19 rfl rfl]
  generalize funD f0 fr (.tup (rs.map g)) R1 R2 = F at e hix h4
  simp [evB_cons, evB_nil, seqB_nx, seqB_ret, seqB_exc, seqB_bk, seqB_ct, endF_ret, endF_nx, endF_exc, evS, ev, evs, evBop, evo, evc, evSr, R_ok, R_exc, R_some, O_ok, O_exc, startE, getv, lower, cmp_int, cmpne_int, cmp_lt, cmp_le, cmp_gt, cmp_ge, cmp_str, cmpne_str, bin_add, bin_sub, bin_mod, bin_div, bin_mul, bltop, slop, isaop, itemsOf, enumOf, zipOf, Tg.put, Tg.ids, setAll, wipeE, fn19, hix, h4]
  simp at e
  rw [e]
  simp [evB_cons, evB_nil, seqB_nx, seqB_ret, seqB_exc, seqB_bk, seqB_ct, endF_ret, endF_nx, endF_exc, evS, ev, evs, evBop, evo, evc, evSr, R_ok, R_exc, R_some, O_ok, O_exc, startE, getv, lower, cmp_int, cmpne_int, cmp_lt, cmp_le, cmp_gt, cmp_ge, cmp_str, cmpne_str, bin_add, bin_sub, bin_mod, bin_div, bin_mul, bltop, slop, isaop, itemsOf, enumOf, zipOf, Tg.put, Tg.ids, setAll, wipeE]
/-! ### places by a name -/
def atL (s : Sp) : List Ac := match s.a with
  | .nam l => [⟨"read", l, false, 0, 1, ""⟩]
  | _ => []
theorem isa_dS (l : List Nat) : isaop (dS l) .str = some true := rfl
theorem at_acts_fn (n : Nat) (s : Sp) : callF G sub tab fu (n + 1) 11 [eS s] = .ok 1 (.lst ((atL s).map eA)) := by
  obtain ⟨a, t, p, at_⟩ := s
  rw [callF_s fn11 rfl rfl]
  cases at_ <;> simp [evB_cons, evB_nil, seqB_nx, seqB_ret, seqB_exc, seqB_bk, seqB_ct, endF_ret, endF_nx, endF_exc, evS, ev, evs, evBop, evo, evc, evSr, R_ok, R_exc, R_some, O_ok, O_exc, startE, getv, lower, ixop, atD, L2.atI, L2.ixN, cmp_int, cmpne_int, cmp_lt, cmp_le, cmp_gt, cmp_ge, cmp_str, cmpne_str, bin_add, bin_sub, bin_mod, bin_div, bin_mul, bltop, slop, isaop, itemsOf, enumOf, zipOf, Tg.put, Tg.ids, setAll, wipeE, fn11, eS, eAt, atL, isa_dS, eA, acL]
  simp [dS, eA, acL, isaop, evB_cons, evB_nil, seqB_nx, seqB_ret, seqB_exc, seqB_bk, seqB_ct, endF_ret, endF_nx, endF_exc, evS, ev, evs, evBop, evo, evc, evSr, R_ok, R_exc, R_some, O_ok, O_exc, startE, getv, lower, ixop, atD, L2.atI, L2.ixN, cmp_int, cmpne_int, cmp_lt, cmp_le, cmp_gt, cmp_ge, cmp_str, cmpne_str, bin_add, bin_sub, bin_mod, bin_div, bin_mul, bltop, slop, isaop, itemsOf, enumOf, zipOf, Tg.put, Tg.ids, setAll, wipeE]
end
end Ly

set_option Elab.async false
set_option linter.all false
set_option maxRecDepth 100000
set_option maxHeartbeats 800000
namespace Ly
open PySem
theorem we_put_set : cmpop .eq (.str "put") (.str "set") = some false := by decide +kernel
theorem we_put_if : cmpop .eq (.str "put") (.str "if") = some false := by decide +kernel
theorem we_put_say : cmpop .eq (.str "put") (.str "say") = some false := by decide +kernel
theorem we_put_call : cmpop .eq (.str "put") (.str "call") = some false := by decide +kernel
theorem we_put_give : cmpop .eq (.str "put") (.str "give") = some false := by decide +kernel
theorem we_put_put : cmpop .eq (.str "put") (.str "put") = some true := by decide +kernel
theorem we_put_fill : cmpop .eq (.str "put") (.str "fill") = some false := by decide +kernel
theorem we_put_drop : cmpop .eq (.str "put") (.str "drop") = some false := by decide +kernel
theorem we_put_copy : cmpop .eq (.str "put") (.str "copy") = some false := by decide +kernel
theorem we_put_lend : cmpop .eq (.str "put") (.str "lend") = some false := by decide +kernel
theorem we_put_sole : cmpop .eq (.str "put") (.str "sole") = some false := by decide +kernel
theorem we_put_move : cmpop .eq (.str "put") (.str "move") = some false := by decide +kernel
theorem we_put_go : cmpop .eq (.str "put") (.str "go") = some false := by decide +kernel
theorem wi_put_pf : cmpop .inn (.str "put") (.tup [.str "put", .str "fill"]) = some true := by decide +kernel
theorem wi_put_psf : cmpop .inn (.str "put") (.tup [.str "put", .str "set", .str "fill"]) = some true := by decide +kernel
theorem wi_put_cmd : cmpop .inn (.str "put") (.tup [.str "copy", .str "move", .str "drop"]) = some false := by decide +kernel
theorem wi_put_ls : cmpop .inn (.str "put") (.tup [.str "lend", .str "sole"]) = some false := by decide +kernel
theorem wi_put_ps : cmpop .inn (.str "put") (.tup [.str "put", .str "set"]) = some true := by decide +kernel
theorem we_set_set : cmpop .eq (.str "set") (.str "set") = some true := by decide +kernel
theorem we_set_if : cmpop .eq (.str "set") (.str "if") = some false := by decide +kernel
theorem we_set_say : cmpop .eq (.str "set") (.str "say") = some false := by decide +kernel
theorem we_set_call : cmpop .eq (.str "set") (.str "call") = some false := by decide +kernel
theorem we_set_give : cmpop .eq (.str "set") (.str "give") = some false := by decide +kernel
theorem we_set_put : cmpop .eq (.str "set") (.str "put") = some false := by decide +kernel
theorem we_set_fill : cmpop .eq (.str "set") (.str "fill") = some false := by decide +kernel
theorem we_set_drop : cmpop .eq (.str "set") (.str "drop") = some false := by decide +kernel
theorem we_set_copy : cmpop .eq (.str "set") (.str "copy") = some false := by decide +kernel
theorem we_set_lend : cmpop .eq (.str "set") (.str "lend") = some false := by decide +kernel
theorem we_set_sole : cmpop .eq (.str "set") (.str "sole") = some false := by decide +kernel
theorem we_set_move : cmpop .eq (.str "set") (.str "move") = some false := by decide +kernel
theorem we_set_go : cmpop .eq (.str "set") (.str "go") = some false := by decide +kernel
theorem wi_set_pf : cmpop .inn (.str "set") (.tup [.str "put", .str "fill"]) = some false := by decide +kernel
theorem wi_set_psf : cmpop .inn (.str "set") (.tup [.str "put", .str "set", .str "fill"]) = some true := by decide +kernel
theorem wi_set_cmd : cmpop .inn (.str "set") (.tup [.str "copy", .str "move", .str "drop"]) = some false := by decide +kernel
theorem wi_set_ls : cmpop .inn (.str "set") (.tup [.str "lend", .str "sole"]) = some false := by decide +kernel
theorem wi_set_ps : cmpop .inn (.str "set") (.tup [.str "put", .str "set"]) = some true := by decide +kernel
theorem we_fill_set : cmpop .eq (.str "fill") (.str "set") = some false := by decide +kernel
theorem we_fill_if : cmpop .eq (.str "fill") (.str "if") = some false := by decide +kernel
theorem we_fill_say : cmpop .eq (.str "fill") (.str "say") = some false := by decide +kernel
theorem we_fill_call : cmpop .eq (.str "fill") (.str "call") = some false := by decide +kernel
theorem we_fill_give : cmpop .eq (.str "fill") (.str "give") = some false := by decide +kernel
theorem we_fill_put : cmpop .eq (.str "fill") (.str "put") = some false := by decide +kernel
theorem we_fill_fill : cmpop .eq (.str "fill") (.str "fill") = some true := by decide +kernel
theorem we_fill_drop : cmpop .eq (.str "fill") (.str "drop") = some false := by decide +kernel
theorem we_fill_copy : cmpop .eq (.str "fill") (.str "copy") = some false := by decide +kernel
theorem we_fill_lend : cmpop .eq (.str "fill") (.str "lend") = some false := by decide +kernel
theorem we_fill_sole : cmpop .eq (.str "fill") (.str "sole") = some false := by decide +kernel
theorem we_fill_move : cmpop .eq (.str "fill") (.str "move") = some false := by decide +kernel
theorem we_fill_go : cmpop .eq (.str "fill") (.str "go") = some false := by decide +kernel
theorem wi_fill_pf : cmpop .inn (.str "fill") (.tup [.str "put", .str "fill"]) = some true := by decide +kernel
theorem wi_fill_psf : cmpop .inn (.str "fill") (.tup [.str "put", .str "set", .str "fill"]) = some true := by decide +kernel
theorem wi_fill_cmd : cmpop .inn (.str "fill") (.tup [.str "copy", .str "move", .str "drop"]) = some false := by decide +kernel
theorem wi_fill_ls : cmpop .inn (.str "fill") (.tup [.str "lend", .str "sole"]) = some false := by decide +kernel
theorem wi_fill_ps : cmpop .inn (.str "fill") (.tup [.str "put", .str "set"]) = some false := by decide +kernel
theorem we_if_set : cmpop .eq (.str "if") (.str "set") = some false := by decide +kernel
theorem we_if_if : cmpop .eq (.str "if") (.str "if") = some true := by decide +kernel
theorem we_if_say : cmpop .eq (.str "if") (.str "say") = some false := by decide +kernel
theorem we_if_call : cmpop .eq (.str "if") (.str "call") = some false := by decide +kernel
theorem we_if_give : cmpop .eq (.str "if") (.str "give") = some false := by decide +kernel
theorem we_if_put : cmpop .eq (.str "if") (.str "put") = some false := by decide +kernel
theorem we_if_fill : cmpop .eq (.str "if") (.str "fill") = some false := by decide +kernel
theorem we_if_drop : cmpop .eq (.str "if") (.str "drop") = some false := by decide +kernel
theorem we_if_copy : cmpop .eq (.str "if") (.str "copy") = some false := by decide +kernel
theorem we_if_lend : cmpop .eq (.str "if") (.str "lend") = some false := by decide +kernel
theorem we_if_sole : cmpop .eq (.str "if") (.str "sole") = some false := by decide +kernel
theorem we_if_move : cmpop .eq (.str "if") (.str "move") = some false := by decide +kernel
theorem we_if_go : cmpop .eq (.str "if") (.str "go") = some false := by decide +kernel
theorem wi_if_pf : cmpop .inn (.str "if") (.tup [.str "put", .str "fill"]) = some false := by decide +kernel
theorem wi_if_psf : cmpop .inn (.str "if") (.tup [.str "put", .str "set", .str "fill"]) = some false := by decide +kernel
theorem wi_if_cmd : cmpop .inn (.str "if") (.tup [.str "copy", .str "move", .str "drop"]) = some false := by decide +kernel
theorem wi_if_ls : cmpop .inn (.str "if") (.tup [.str "lend", .str "sole"]) = some false := by decide +kernel
theorem wi_if_ps : cmpop .inn (.str "if") (.tup [.str "put", .str "set"]) = some false := by decide +kernel
theorem we_go_set : cmpop .eq (.str "go") (.str "set") = some false := by decide +kernel
theorem we_go_if : cmpop .eq (.str "go") (.str "if") = some false := by decide +kernel
theorem we_go_say : cmpop .eq (.str "go") (.str "say") = some false := by decide +kernel
theorem we_go_call : cmpop .eq (.str "go") (.str "call") = some false := by decide +kernel
theorem we_go_give : cmpop .eq (.str "go") (.str "give") = some false := by decide +kernel
theorem we_go_put : cmpop .eq (.str "go") (.str "put") = some false := by decide +kernel
theorem we_go_fill : cmpop .eq (.str "go") (.str "fill") = some false := by decide +kernel
theorem we_go_drop : cmpop .eq (.str "go") (.str "drop") = some false := by decide +kernel
theorem we_go_copy : cmpop .eq (.str "go") (.str "copy") = some false := by decide +kernel
theorem we_go_lend : cmpop .eq (.str "go") (.str "lend") = some false := by decide +kernel
theorem we_go_sole : cmpop .eq (.str "go") (.str "sole") = some false := by decide +kernel
theorem we_go_move : cmpop .eq (.str "go") (.str "move") = some false := by decide +kernel
theorem we_go_go : cmpop .eq (.str "go") (.str "go") = some true := by decide +kernel
theorem wi_go_pf : cmpop .inn (.str "go") (.tup [.str "put", .str "fill"]) = some false := by decide +kernel
theorem wi_go_psf : cmpop .inn (.str "go") (.tup [.str "put", .str "set", .str "fill"]) = some false := by decide +kernel
theorem wi_go_cmd : cmpop .inn (.str "go") (.tup [.str "copy", .str "move", .str "drop"]) = some false := by decide +kernel
theorem wi_go_ls : cmpop .inn (.str "go") (.tup [.str "lend", .str "sole"]) = some false := by decide +kernel
theorem wi_go_ps : cmpop .inn (.str "go") (.tup [.str "put", .str "set"]) = some false := by decide +kernel
theorem we_say_set : cmpop .eq (.str "say") (.str "set") = some false := by decide +kernel
theorem we_say_if : cmpop .eq (.str "say") (.str "if") = some false := by decide +kernel
theorem we_say_say : cmpop .eq (.str "say") (.str "say") = some true := by decide +kernel
theorem we_say_call : cmpop .eq (.str "say") (.str "call") = some false := by decide +kernel
theorem we_say_give : cmpop .eq (.str "say") (.str "give") = some false := by decide +kernel
theorem we_say_put : cmpop .eq (.str "say") (.str "put") = some false := by decide +kernel
theorem we_say_fill : cmpop .eq (.str "say") (.str "fill") = some false := by decide +kernel
theorem we_say_drop : cmpop .eq (.str "say") (.str "drop") = some false := by decide +kernel
theorem we_say_copy : cmpop .eq (.str "say") (.str "copy") = some false := by decide +kernel
theorem we_say_lend : cmpop .eq (.str "say") (.str "lend") = some false := by decide +kernel
theorem we_say_sole : cmpop .eq (.str "say") (.str "sole") = some false := by decide +kernel
theorem we_say_move : cmpop .eq (.str "say") (.str "move") = some false := by decide +kernel
theorem we_say_go : cmpop .eq (.str "say") (.str "go") = some false := by decide +kernel
theorem wi_say_pf : cmpop .inn (.str "say") (.tup [.str "put", .str "fill"]) = some false := by decide +kernel
theorem wi_say_psf : cmpop .inn (.str "say") (.tup [.str "put", .str "set", .str "fill"]) = some false := by decide +kernel
theorem wi_say_cmd : cmpop .inn (.str "say") (.tup [.str "copy", .str "move", .str "drop"]) = some false := by decide +kernel
theorem wi_say_ls : cmpop .inn (.str "say") (.tup [.str "lend", .str "sole"]) = some false := by decide +kernel
theorem wi_say_ps : cmpop .inn (.str "say") (.tup [.str "put", .str "set"]) = some false := by decide +kernel
theorem we_give_set : cmpop .eq (.str "give") (.str "set") = some false := by decide +kernel
theorem we_give_if : cmpop .eq (.str "give") (.str "if") = some false := by decide +kernel
theorem we_give_say : cmpop .eq (.str "give") (.str "say") = some false := by decide +kernel
theorem we_give_call : cmpop .eq (.str "give") (.str "call") = some false := by decide +kernel
theorem we_give_give : cmpop .eq (.str "give") (.str "give") = some true := by decide +kernel
theorem we_give_put : cmpop .eq (.str "give") (.str "put") = some false := by decide +kernel
theorem we_give_fill : cmpop .eq (.str "give") (.str "fill") = some false := by decide +kernel
theorem we_give_drop : cmpop .eq (.str "give") (.str "drop") = some false := by decide +kernel
theorem we_give_copy : cmpop .eq (.str "give") (.str "copy") = some false := by decide +kernel
theorem we_give_lend : cmpop .eq (.str "give") (.str "lend") = some false := by decide +kernel
theorem we_give_sole : cmpop .eq (.str "give") (.str "sole") = some false := by decide +kernel
theorem we_give_move : cmpop .eq (.str "give") (.str "move") = some false := by decide +kernel
theorem we_give_go : cmpop .eq (.str "give") (.str "go") = some false := by decide +kernel
theorem wi_give_pf : cmpop .inn (.str "give") (.tup [.str "put", .str "fill"]) = some false := by decide +kernel
theorem wi_give_psf : cmpop .inn (.str "give") (.tup [.str "put", .str "set", .str "fill"]) = some false := by decide +kernel
theorem wi_give_cmd : cmpop .inn (.str "give") (.tup [.str "copy", .str "move", .str "drop"]) = some false := by decide +kernel
theorem wi_give_ls : cmpop .inn (.str "give") (.tup [.str "lend", .str "sole"]) = some false := by decide +kernel
theorem wi_give_ps : cmpop .inn (.str "give") (.tup [.str "put", .str "set"]) = some false := by decide +kernel
theorem we_copy_set : cmpop .eq (.str "copy") (.str "set") = some false := by decide +kernel
theorem we_copy_if : cmpop .eq (.str "copy") (.str "if") = some false := by decide +kernel
theorem we_copy_say : cmpop .eq (.str "copy") (.str "say") = some false := by decide +kernel
theorem we_copy_call : cmpop .eq (.str "copy") (.str "call") = some false := by decide +kernel
theorem we_copy_give : cmpop .eq (.str "copy") (.str "give") = some false := by decide +kernel
theorem we_copy_put : cmpop .eq (.str "copy") (.str "put") = some false := by decide +kernel
theorem we_copy_fill : cmpop .eq (.str "copy") (.str "fill") = some false := by decide +kernel
theorem we_copy_drop : cmpop .eq (.str "copy") (.str "drop") = some false := by decide +kernel
theorem we_copy_copy : cmpop .eq (.str "copy") (.str "copy") = some true := by decide +kernel
theorem we_copy_lend : cmpop .eq (.str "copy") (.str "lend") = some false := by decide +kernel
theorem we_copy_sole : cmpop .eq (.str "copy") (.str "sole") = some false := by decide +kernel
theorem we_copy_move : cmpop .eq (.str "copy") (.str "move") = some false := by decide +kernel
theorem we_copy_go : cmpop .eq (.str "copy") (.str "go") = some false := by decide +kernel
theorem wi_copy_pf : cmpop .inn (.str "copy") (.tup [.str "put", .str "fill"]) = some false := by decide +kernel
theorem wi_copy_psf : cmpop .inn (.str "copy") (.tup [.str "put", .str "set", .str "fill"]) = some false := by decide +kernel
theorem wi_copy_cmd : cmpop .inn (.str "copy") (.tup [.str "copy", .str "move", .str "drop"]) = some true := by decide +kernel
theorem wi_copy_ls : cmpop .inn (.str "copy") (.tup [.str "lend", .str "sole"]) = some false := by decide +kernel
theorem wi_copy_ps : cmpop .inn (.str "copy") (.tup [.str "put", .str "set"]) = some false := by decide +kernel
theorem we_move_set : cmpop .eq (.str "move") (.str "set") = some false := by decide +kernel
theorem we_move_if : cmpop .eq (.str "move") (.str "if") = some false := by decide +kernel
theorem we_move_say : cmpop .eq (.str "move") (.str "say") = some false := by decide +kernel
theorem we_move_call : cmpop .eq (.str "move") (.str "call") = some false := by decide +kernel
theorem we_move_give : cmpop .eq (.str "move") (.str "give") = some false := by decide +kernel
theorem we_move_put : cmpop .eq (.str "move") (.str "put") = some false := by decide +kernel
theorem we_move_fill : cmpop .eq (.str "move") (.str "fill") = some false := by decide +kernel
theorem we_move_drop : cmpop .eq (.str "move") (.str "drop") = some false := by decide +kernel
theorem we_move_copy : cmpop .eq (.str "move") (.str "copy") = some false := by decide +kernel
theorem we_move_lend : cmpop .eq (.str "move") (.str "lend") = some false := by decide +kernel
theorem we_move_sole : cmpop .eq (.str "move") (.str "sole") = some false := by decide +kernel
theorem we_move_move : cmpop .eq (.str "move") (.str "move") = some true := by decide +kernel
theorem we_move_go : cmpop .eq (.str "move") (.str "go") = some false := by decide +kernel
theorem wi_move_pf : cmpop .inn (.str "move") (.tup [.str "put", .str "fill"]) = some false := by decide +kernel
theorem wi_move_psf : cmpop .inn (.str "move") (.tup [.str "put", .str "set", .str "fill"]) = some false := by decide +kernel
theorem wi_move_cmd : cmpop .inn (.str "move") (.tup [.str "copy", .str "move", .str "drop"]) = some true := by decide +kernel
theorem wi_move_ls : cmpop .inn (.str "move") (.tup [.str "lend", .str "sole"]) = some false := by decide +kernel
theorem wi_move_ps : cmpop .inn (.str "move") (.tup [.str "put", .str "set"]) = some false := by decide +kernel
theorem we_drop_set : cmpop .eq (.str "drop") (.str "set") = some false := by decide +kernel
theorem we_drop_if : cmpop .eq (.str "drop") (.str "if") = some false := by decide +kernel
theorem we_drop_say : cmpop .eq (.str "drop") (.str "say") = some false := by decide +kernel
theorem we_drop_call : cmpop .eq (.str "drop") (.str "call") = some false := by decide +kernel
theorem we_drop_give : cmpop .eq (.str "drop") (.str "give") = some false := by decide +kernel
theorem we_drop_put : cmpop .eq (.str "drop") (.str "put") = some false := by decide +kernel
theorem we_drop_fill : cmpop .eq (.str "drop") (.str "fill") = some false := by decide +kernel
theorem we_drop_drop : cmpop .eq (.str "drop") (.str "drop") = some true := by decide +kernel
theorem we_drop_copy : cmpop .eq (.str "drop") (.str "copy") = some false := by decide +kernel
theorem we_drop_lend : cmpop .eq (.str "drop") (.str "lend") = some false := by decide +kernel
theorem we_drop_sole : cmpop .eq (.str "drop") (.str "sole") = some false := by decide +kernel
theorem we_drop_move : cmpop .eq (.str "drop") (.str "move") = some false := by decide +kernel
theorem we_drop_go : cmpop .eq (.str "drop") (.str "go") = some false := by decide +kernel
theorem wi_drop_pf : cmpop .inn (.str "drop") (.tup [.str "put", .str "fill"]) = some false := by decide +kernel
theorem wi_drop_psf : cmpop .inn (.str "drop") (.tup [.str "put", .str "set", .str "fill"]) = some false := by decide +kernel
theorem wi_drop_cmd : cmpop .inn (.str "drop") (.tup [.str "copy", .str "move", .str "drop"]) = some true := by decide +kernel
theorem wi_drop_ls : cmpop .inn (.str "drop") (.tup [.str "lend", .str "sole"]) = some false := by decide +kernel
theorem wi_drop_ps : cmpop .inn (.str "drop") (.tup [.str "put", .str "set"]) = some false := by decide +kernel
theorem we_lend_set : cmpop .eq (.str "lend") (.str "set") = some false := by decide +kernel
theorem we_lend_if : cmpop .eq (.str "lend") (.str "if") = some false := by decide +kernel
theorem we_lend_say : cmpop .eq (.str "lend") (.str "say") = some false := by decide +kernel
theorem we_lend_call : cmpop .eq (.str "lend") (.str "call") = some false := by decide +kernel
theorem we_lend_give : cmpop .eq (.str "lend") (.str "give") = some false := by decide +kernel
theorem we_lend_put : cmpop .eq (.str "lend") (.str "put") = some false := by decide +kernel
theorem we_lend_fill : cmpop .eq (.str "lend") (.str "fill") = some false := by decide +kernel
theorem we_lend_drop : cmpop .eq (.str "lend") (.str "drop") = some false := by decide +kernel
theorem we_lend_copy : cmpop .eq (.str "lend") (.str "copy") = some false := by decide +kernel
theorem we_lend_lend : cmpop .eq (.str "lend") (.str "lend") = some true := by decide +kernel
theorem we_lend_sole : cmpop .eq (.str "lend") (.str "sole") = some false := by decide +kernel
theorem we_lend_move : cmpop .eq (.str "lend") (.str "move") = some false := by decide +kernel
theorem we_lend_go : cmpop .eq (.str "lend") (.str "go") = some false := by decide +kernel
theorem wi_lend_pf : cmpop .inn (.str "lend") (.tup [.str "put", .str "fill"]) = some false := by decide +kernel
theorem wi_lend_psf : cmpop .inn (.str "lend") (.tup [.str "put", .str "set", .str "fill"]) = some false := by decide +kernel
theorem wi_lend_cmd : cmpop .inn (.str "lend") (.tup [.str "copy", .str "move", .str "drop"]) = some false := by decide +kernel
theorem wi_lend_ls : cmpop .inn (.str "lend") (.tup [.str "lend", .str "sole"]) = some true := by decide +kernel
theorem wi_lend_ps : cmpop .inn (.str "lend") (.tup [.str "put", .str "set"]) = some false := by decide +kernel
theorem we_sole_set : cmpop .eq (.str "sole") (.str "set") = some false := by decide +kernel
theorem we_sole_if : cmpop .eq (.str "sole") (.str "if") = some false := by decide +kernel
theorem we_sole_say : cmpop .eq (.str "sole") (.str "say") = some false := by decide +kernel
theorem we_sole_call : cmpop .eq (.str "sole") (.str "call") = some false := by decide +kernel
theorem we_sole_give : cmpop .eq (.str "sole") (.str "give") = some false := by decide +kernel
theorem we_sole_put : cmpop .eq (.str "sole") (.str "put") = some false := by decide +kernel
theorem we_sole_fill : cmpop .eq (.str "sole") (.str "fill") = some false := by decide +kernel
theorem we_sole_drop : cmpop .eq (.str "sole") (.str "drop") = some false := by decide +kernel
theorem we_sole_copy : cmpop .eq (.str "sole") (.str "copy") = some false := by decide +kernel
theorem we_sole_lend : cmpop .eq (.str "sole") (.str "lend") = some false := by decide +kernel
theorem we_sole_sole : cmpop .eq (.str "sole") (.str "sole") = some true := by decide +kernel
theorem we_sole_move : cmpop .eq (.str "sole") (.str "move") = some false := by decide +kernel
theorem we_sole_go : cmpop .eq (.str "sole") (.str "go") = some false := by decide +kernel
theorem wi_sole_pf : cmpop .inn (.str "sole") (.tup [.str "put", .str "fill"]) = some false := by decide +kernel
theorem wi_sole_psf : cmpop .inn (.str "sole") (.tup [.str "put", .str "set", .str "fill"]) = some false := by decide +kernel
theorem wi_sole_cmd : cmpop .inn (.str "sole") (.tup [.str "copy", .str "move", .str "drop"]) = some false := by decide +kernel
theorem wi_sole_ls : cmpop .inn (.str "sole") (.tup [.str "lend", .str "sole"]) = some true := by decide +kernel
theorem wi_sole_ps : cmpop .inn (.str "sole") (.tup [.str "put", .str "set"]) = some false := by decide +kernel
theorem we_call_set : cmpop .eq (.str "call") (.str "set") = some false := by decide +kernel
theorem we_call_if : cmpop .eq (.str "call") (.str "if") = some false := by decide +kernel
theorem we_call_say : cmpop .eq (.str "call") (.str "say") = some false := by decide +kernel
theorem we_call_call : cmpop .eq (.str "call") (.str "call") = some true := by decide +kernel
theorem we_call_give : cmpop .eq (.str "call") (.str "give") = some false := by decide +kernel
theorem we_call_put : cmpop .eq (.str "call") (.str "put") = some false := by decide +kernel
theorem we_call_fill : cmpop .eq (.str "call") (.str "fill") = some false := by decide +kernel
theorem we_call_drop : cmpop .eq (.str "call") (.str "drop") = some false := by decide +kernel
theorem we_call_copy : cmpop .eq (.str "call") (.str "copy") = some false := by decide +kernel
theorem we_call_lend : cmpop .eq (.str "call") (.str "lend") = some false := by decide +kernel
theorem we_call_sole : cmpop .eq (.str "call") (.str "sole") = some false := by decide +kernel
theorem we_call_move : cmpop .eq (.str "call") (.str "move") = some false := by decide +kernel
theorem we_call_go : cmpop .eq (.str "call") (.str "go") = some false := by decide +kernel
theorem wi_call_pf : cmpop .inn (.str "call") (.tup [.str "put", .str "fill"]) = some false := by decide +kernel
theorem wi_call_psf : cmpop .inn (.str "call") (.tup [.str "put", .str "set", .str "fill"]) = some false := by decide +kernel
theorem wi_call_cmd : cmpop .inn (.str "call") (.tup [.str "copy", .str "move", .str "drop"]) = some false := by decide +kernel
theorem wi_call_ls : cmpop .inn (.str "call") (.tup [.str "lend", .str "sole"]) = some false := by decide +kernel
theorem wi_call_ps : cmpop .inn (.str "call") (.tup [.str "put", .str "set"]) = some false := by decide +kernel
end Ly

set_option Elab.async false
set_option linter.all false
set_option maxRecDepth 100000
set_option maxHeartbeats 800000
namespace Ly
open PySem
/-! ### rows of all words -/
inductive Op where
  | int (i : Int) | emp | sp (s : Sp)
def eO : Op → D
  | .int i => .int i
  | .emp => .str ""
  | .sp s => eS s
inductive Rw where
  | put (s : Sp) (o : Op) | set (s : Sp) (g : D) (o u : Op) | fill (s : Sp) (o : Op) | iff (o u : Op) (t : Int) | go (t : Int) | say (o : Op) | copy (t s : Sp) | move (t s : Sp) | drop (s : Sp) | lend (n : List Nat) (s : Sp) | sole (n : List Nat) (s : Sp) | call (n f : List Nat) (as : List (List Nat)) | give (n : List Nat)
def eRw : Rw → D
  | .put s o => .tup [.str "put", eS s, eO o]
  | .set s g o u => .tup [.str "set", eS s, g, eO o, eO u]
  | .fill s o => .tup [.str "fill", eS s, eO o]
  | .iff o u t => .tup [.str "if", eO o, eO u, .int t]
  | .go t => .tup [.str "go", .int t]
  | .say o => .tup [.str "say", eO o]
  | .copy t s => .tup [.str "copy", eS t, eS s]
  | .move t s => .tup [.str "move", eS t, eS s]
  | .drop s => .tup [.str "drop", eS s]
  | .lend n s => .tup [.str "lend", dS n, eS s]
  | .sole n s => .tup [.str "sole", dS n, eS s]
  | .call n f as => .tup [.str "call", dS n, dS f, .tup (as.map dS)]
  | .give n => .tup [.str "give", dS n]
/-- the act of a spot -/
def fa (R : List Nd) (w : Str) (s : Sp) (k : Str) : Ac := match lk R s.n with
  | some nd => (match walk nd.k.sh s.p with
    | some (m, t) => ⟨w, s.n, s.t, m, cnt t, k⟩
    | none => ⟨w, s.n, s.t, 0, 0, k⟩)
  | none => ⟨w, s.n, s.t, 0, 0, k⟩
def Gs (R : List Nd) (s : Sp) : Prop := ∃ nd r, Sv R s nd r
theorem fa_eq {R : List Nd} {w k : Str} {s : Sp} {nd : Nd} {r : Row} (v : Sv R s nd r) : fa R w s k = acOf w s r k := by
  obtain ⟨m, h1, h2⟩ := v.walk
  unfold fa
  rw [v.lk]
  simp only
  rw [h2]
  simp [acOf, h1]
theorem fa_n (R : List Nd) (w k : Str) (s : Sp) : (fa R w s k).w = w ∧ (fa R w s k).n = s.n ∧ (fa R w s k).k = k := by
  unfold fa
  split
  · split <;> exact ⟨rfl, rfl, rfl⟩
  · exact ⟨rfl, rfl, rfl⟩
def AtOk (s : Sp) : Prop := ∀ l, s.a = .nam l → Sm l
def Go (R : List Nd) : Op → Prop
  | .sp s => Gs R s ∧ AtOk s
  | _ => True
def REST : Ac := ⟨"rest", [], false, 0, 0, ""⟩
def reads (R : List Nd) : Op → List Ac
  | .sp s => atL s ++ [fa R "read" s ""]
  | _ => []
def tgt (R : List Nd) (s : Sp) : List Ac := match s.a with
  | .non => [fa R "fill" s ""]
  | _ => atL s ++ [fa R "turn" s ""]
def orRest (L : List Ac) : List Ac := if L = [] then [REST] else L
def HAND : Ac := ⟨"hand", [], false, 0, 0, ""⟩
/-- all of a name -/
def ws (nd : Nd) : Sp := ⟨nd.l, nd.k.thr, [], .non⟩
def na (R : List Nd) (w : Str) (n : List Nat) (k : Str) : Ac := match lk R n with
  | some nd => fa R w (ws nd) k
  | none => ⟨w, n, false, 0, 0, k⟩
def Hs (R : List Nd) (n : List Nat) : Prop := ∃ nd, lk R n = some nd ∧ GN nd
/-- copied -/
def cp (s : Sh) : Bool := !(lv s).any fun z => eqd z (enc .own)
def tkA (R : List Nd) (n : List Nat) : Ac := match lk R n with
  | some nd => na R (if cp nd.k.sh then "read" else "empty") n ""
  | none => na R "empty" n ""
def dig (j : Nat) : Str := toString ((j : Nat) : Int)
def argA (R : List Nd) (j : Nat) (n : List Nat) : Ac := match lk R n with
  | some ⟨_, .lent _⟩ => na R "lend" n (dig j)
  | some ⟨_, .sole _⟩ => na R "sole" n (dig j)
  | _ => tkA R n
def argsA (R : List Nd) : Nat → List (List Nat) → List Ac
  | _, [] => []
  | j, a :: as => argA R j a :: argsA R (j + 1) as
def takeL (R : List Nd) (n : List Nat) : List Ac := if n = [] then [] else match lk R n with
  | some nd => if nd.k.thr then [⟨"take", [], false, 0, 0, cat n⟩] else [na R "fill" n ""]
  | none => []
def giveL (R : List Nd) (n : List Nat) : List Ac := if n = [] then [] else match lk R n with
  | some nd => if nd.k.thr then [na R "give" n ""] else [tkA R n]
  | none => []
def rowL (R : List Nd) : Rw → List Ac
  | .put s o => reads R o ++ tgt R s
  | .set s _ o u => reads R o ++ reads R u ++ tgt R s
  | .fill s o => reads R o ++ tgt R s
  | .iff o u _ => orRest (reads R o ++ reads R u)
  | .go _ => [REST]
  | .say o => orRest (reads R o)
  | .copy t s => [fa R "read" s "", fa R "fill" t ""]
  | .move t s => [fa R "empty" s "", fa R "fill" t ""]
  | .drop s => [fa R "empty" s ""]
  | .lend n s => [fa R "lend" s (cat n)]
  | .sole n s => [fa R "sole" s (cat n)]
  | .call n _ as => argsA R 0 as ++ [HAND] ++ takeL R n
  | .give n => orRest (giveL R n)
def Gr (R : List Nd) : Rw → Prop
  | .put s o => Gs R s ∧ AtOk s ∧ Go R o
  | .set s _ o u => Gs R s ∧ AtOk s ∧ Go R o ∧ Go R u
  | .fill s o => Gs R s ∧ s.a = .non ∧ Go R o
  | .iff o u _ => Go R o ∧ Go R u
  | .go _ => True
  | .say o => Go R o
  | .copy t s => Gs R t ∧ Gs R s
  | .move t s => Gs R t ∧ Gs R s
  | .drop s => Gs R s
  | .lend n s => Sm n ∧ Gs R s
  | .sole n s => Sm n ∧ Gs R s
  | .call n _ as => (n = [] ∨ Hs R n) ∧ (∀ a ∈ as, Hs R a) ∧ as.length ≤ 10
  | .give n => n = [] ∨ Hs R n
theorem ok_e : PyData.strOk "" = true := by decide +kernel
theorem ok_read : PyData.strOk "read" = true := by decide +kernel
theorem ok_fill : PyData.strOk "fill" = true := by decide +kernel
theorem ok_turn : PyData.strOk "turn" = true := by decide +kernel
theorem ok_rest : PyData.strOk "rest" = true := by decide +kernel
theorem ga_rest : GA REST := ⟨ok_rest, show Sm [] from (fun x hx => by simp at hx), ok_e⟩
theorem ga_fa {R : List Nd} {w : Str} {s : Sp} (hw : PyData.strOk w = true) (h : Gs R s) : GA (fa R w s "") := by
  obtain ⟨h1, h2, h3⟩ := fa_n R w "" s
  obtain ⟨nd, r, v⟩ := h
  exact ⟨by rw [h1]; exact hw, by rw [h2]; exact lk_sm v, by rw [h3]; exact ok_e⟩
theorem ga_at {s : Sp} (h : AtOk s) : ∀ x ∈ atL s, GA x := fun x hx => by
  unfold atL at hx
  split at hx
  · rename_i l e
    rw [List.mem_singleton] at hx
    subst hx
    exact ⟨ok_read, h l e, ok_e⟩
  · cases hx
theorem ga_reads {R : List Nd} {o : Op} (h : Go R o) : ∀ x ∈ reads R o, GA x := fun x hx => by
  cases o with
  | sp s =>
    rcases List.mem_append.mp hx with hx | hx
    · exact ga_at h.2 x hx
    · rw [List.mem_singleton.mp hx]; exact ga_fa ok_read h.1
  | _ => cases hx
theorem ga_tgt {R : List Nd} {s : Sp} (h : Gs R s) (h2 : AtOk s) : ∀ x ∈ tgt R s, GA x := fun x hx => by
  unfold tgt at hx
  split at hx
  · rw [List.mem_singleton.mp hx]; exact ga_fa ok_fill h
  · rcases List.mem_append.mp hx with hx | hx
    · exact ga_at h2 x hx
    · rw [List.mem_singleton.mp hx]; exact ga_fa ok_turn h
theorem ga_or {L : List Ac} (h : ∀ x ∈ L, GA x) : ∀ x ∈ orRest L, GA x := fun x hx => by
  unfold orRest at hx
  split at hx
  · rw [List.mem_singleton.mp hx]; exact ga_rest
  · exact h x hx
theorem mem_app {α : Type} {P : α → Prop} {a b : List α} (h1 : ∀ x ∈ a, P x) (h2 : ∀ x ∈ b, P x) : ∀ x ∈ a ++ b, P x := fun x hx => (List.mem_append.mp hx).elim (h1 x) (h2 x)
theorem ok_empty : PyData.strOk "empty" = true := by decide +kernel
theorem ok_lend : PyData.strOk "lend" = true := by decide +kernel
theorem ok_give : PyData.strOk "give" = true := by decide +kernel
theorem ok_take : PyData.strOk "take" = true := by decide +kernel
theorem ok_hand : PyData.strOk "hand" = true := by decide +kernel
theorem sm_nil : Sm [] := fun x hx => by simp at hx
theorem ga_hand : GA HAND := ⟨ok_hand, sm_nil, ok_e⟩
theorem hs_sm {R : List Nd} {n : List Nat} (h : Hs R n) : Sm n := by
  obtain ⟨nd, h1, h2⟩ := h
  rw [← (lk_l h1).1]
  exact h2.1
theorem ws_gs {R : List Nd} {n : List Nat} {nd : Nd} (h : lk R n = some nd) (g : GN nd) : Gs R (ws nd) := by
  obtain ⟨rest, e⟩ := rws_head nd.k.sh
  refine ⟨nd, ⟨[], 0, cnt nd.k.sh, nd.k.sh⟩, ⟨?_, g, rfl, by rw [e]; exact List.mem_cons_self, rfl⟩⟩
  show lk R nd.l = some nd
  rw [(lk_l h).1]
  exact h
theorem ga_fa2 {R : List Nd} {w k : Str} {s : Sp} (hw : PyData.strOk w = true) (hk : PyData.strOk k = true) (h : Gs R s) : GA (fa R w s k) := by
  obtain ⟨h1, h2, h3⟩ := fa_n R w k s
  obtain ⟨nd, r, v⟩ := h
  exact ⟨by rw [h1]; exact hw, by rw [h2]; exact lk_sm v, by rw [h3]; exact hk⟩
theorem ga_na {R : List Nd} {w k : Str} {n : List Nat} (hw : PyData.strOk w = true) (hk : PyData.strOk k = true) (h : Hs R n) : GA (na R w n k) := by
  obtain ⟨nd, h1, h2⟩ := h
  unfold na
  rw [h1]
  exact ga_fa2 hw hk (ws_gs h1 h2)
theorem ga_tkA {R : List Nd} {n : List Nat} (h : Hs R n) : GA (tkA R n) := by
  have h' := h
  obtain ⟨nd, h1, h2⟩ := h'
  unfold tkA
  rw [h1]
  simp only
  split
  · exact ga_na ok_read ok_e h
  · exact ga_na ok_empty ok_e h
theorem dig_ok (j : Nat) (h : j < 10) : PyData.strOk (dig j) = true := by
  have : ∀ j : Fin 10, PyData.strOk (dig j.1) = true := by decide +kernel
  exact this ⟨j, h⟩
theorem ga_argA {R : List Nd} {j : Nat} {n : List Nat} (hj : j < 10) (h : Hs R n) : GA (argA R j n) := by
  unfold argA
  split
  · exact ga_na ok_lend (dig_ok j hj) h
  · exact ga_na ok_sole (dig_ok j hj) h
  · exact ga_tkA h
theorem ga_argsA {R : List Nd} : ∀ (as : List (List Nat)) (j : Nat), j + as.length ≤ 10 → (∀ a ∈ as, Hs R a) → ∀ x ∈ argsA R j as, GA x
  | [], j, _, _ => by simp [argsA]
  | a :: as, j, hj, h => fun x hx => by
    rw [List.length_cons] at hj
    rw [argsA] at hx
    rcases List.mem_cons.mp hx with rfl | hx
    · exact ga_argA (by omega) (h a List.mem_cons_self)
    · exact ga_argsA as (j + 1) (by omega) (fun b hb => h b (List.mem_cons_of_mem _ hb)) x hx
theorem ga_takeL {R : List Nd} {n : List Nat} (h : n = [] ∨ Hs R n) : ∀ x ∈ takeL R n, GA x := fun x hx => by
  unfold takeL at hx
  split at hx
  · cases hx
  · rename_i hne
    have h' := h.resolve_left hne
    split at hx
    · split at hx
      · rw [List.mem_singleton.mp hx]; exact ⟨ok_take, sm_nil, cat_ok (hs_sm h')⟩
      · rw [List.mem_singleton.mp hx]; exact ga_na ok_fill ok_e h'
    · cases hx
theorem ga_giveL {R : List Nd} {n : List Nat} (h : n = [] ∨ Hs R n) : ∀ x ∈ giveL R n, GA x := fun x hx => by
  unfold giveL at hx
  split at hx
  · cases hx
  · rename_i hne
    have h' := h.resolve_left hne
    split at hx
    · split at hx
      · rw [List.mem_singleton.mp hx]; exact ga_na ok_give ok_e h'
      · rw [List.mem_singleton.mp hx]; exact ga_tkA h'
    · cases hx
theorem mem_two {α : Type} {P : α → Prop} {a b : α} (h1 : P a) (h2 : P b) : ∀ x ∈ [a, b], P x := fun x hx => by
  rcases List.mem_cons.mp hx with rfl | hx
  · exact h1
  · rw [List.mem_singleton.mp hx]; exact h2
theorem ga_row {R : List Nd} {r : Rw} (h : Gr R r) : ∀ x ∈ rowL R r, GA x := by
  cases r with
  | put s o => exact mem_app (ga_reads h.2.2) (ga_tgt h.1 h.2.1)
  | set s g o u => exact mem_app (mem_app (ga_reads h.2.2.1) (ga_reads h.2.2.2)) (ga_tgt h.1 h.2.1)
  | fill s o => exact mem_app (ga_reads h.2.2) (ga_tgt h.1 (fun l e => by rw [h.2.1] at e; cases e))
  | iff o u t => exact ga_or (mem_app (ga_reads h.1) (ga_reads h.2))
  | go t => exact fun x hx => by rw [List.mem_singleton.mp hx]; exact ga_rest
  | say o => exact ga_or (ga_reads h)
  | copy t s => exact mem_two (ga_fa ok_read h.2) (ga_fa ok_fill h.1)
  | move t s => exact mem_two (ga_fa ok_empty h.2) (ga_fa ok_fill h.1)
  | drop s => exact fun x hx => by rw [List.mem_singleton.mp hx]; exact ga_fa ok_empty h
  | lend n s => exact fun x hx => by rw [List.mem_singleton.mp hx]; exact ga_fa2 ok_lend (cat_ok h.1) h.2
  | sole n s => exact fun x hx => by rw [List.mem_singleton.mp hx]; exact ga_fa2 ok_sole (cat_ok h.1) h.2
  | call n f as => exact mem_app (mem_app (ga_argsA as 0 (by have := h.2.2; omega) h.2.1) (fun x hx => by rw [List.mem_singleton.mp hx]; exact ga_hand)) (ga_takeL h.1)
  | give n => exact ga_or (ga_giveL h)
theorem at_few (s : Sp) : (atL s).length ≤ 1 := by unfold atL; split <;> simp
theorem reads_few (R : List Nd) (o : Op) : (reads R o).length ≤ 2 := by
  cases o with
  | sp s => have := at_few s; simp [reads]; omega
  | _ => simp [reads]
theorem tgt_few (R : List Nd) (s : Sp) : (tgt R s).length ≤ 2 := by
  unfold tgt
  have := at_few s
  split
  · simp
  · simp; omega
theorem or_few (L : List Ac) (n : Nat) (h : L.length ≤ n) : (orRest L).length ≤ n + 1 := by
  unfold orRest
  split
  · simp
  · omega
theorem argsA_len (R : List Nd) : ∀ (as : List (List Nat)) (j : Nat), (argsA R j as).length = as.length
  | [], j => rfl
  | a :: as, j => by rw [argsA, List.length_cons, List.length_cons, argsA_len R as]
theorem takeL_few (R : List Nd) (n : List Nat) : (takeL R n).length ≤ 1 := by
  unfold takeL
  split
  · simp
  · split
    · split <;> simp
    · simp
theorem giveL_few (R : List Nd) (n : List Nat) : (giveL R n).length ≤ 1 := by
  unfold giveL
  split
  · simp
  · split
    · split <;> simp
    · simp
theorem row_few {R : List Nd} {r : Rw} (h : Gr R r) : (rowL R r).length ≤ 12 := by
  cases r with
  | put s o => have := reads_few R o; have := tgt_few R s; simp [rowL]; omega
  | set s g o u => have := reads_few R o; have := reads_few R u; have := tgt_few R s; simp [rowL]; omega
  | fill s o => have := reads_few R o; have := tgt_few R s; simp [rowL]; omega
  | iff o u t =>
    have := reads_few R o; have := reads_few R u
    have := or_few (reads R o ++ reads R u) 4 (by simp; omega)
    simp only [rowL]; omega
  | go t => simp [rowL]
  | say o =>
    have := or_few (reads R o) 2 (reads_few R o)
    simp only [rowL]; omega
  | call n f as =>
    have := argsA_len R as 0
    have := takeL_few R n
    have := h.2.2
    simp only [rowL, List.length_append, List.length_singleton]; omega
  | give n =>
    have := or_few (giveL R n) 1 (giveL_few R n)
    simp only [rowL]; omega
  | _ => simp [rowL]
theorem row_ne (R : List Nd) (r : Rw) : rowL R r ≠ [] := by
  have ho : ∀ L, orRest L ≠ [] := fun L => by
    unfold orRest
    split
    · simp
    · assumption
  have ht : ∀ s, tgt R s ≠ [] := fun s => by
    unfold tgt
    split <;> simp
  cases r <;> simp [rowL, ho, ht]
theorem rest_eA : eA REST = .tup [.str "rest", .str "", .bl false, .int 0, .int 0, .str ""] := by
  simp [eA, acL, REST, dS, cat_nil]
theorem or_eA (L : List Ac) : cmpop .eq (.lst (L.map eA)) (.lst []) = some (decide (L = [])) := by
  rw [cmp_nil0]
  cases L <;> rfl
theorem isa_eO (o : Op) : isaop (eO o) .tuple = some (match o with | .sp _ => true | _ => false) := by
  cases o <;> rfl
section
variable {G : Nat → Option D} {sub : Nat → Nat → Bool} {fu : Nat}
theorem spot_fa (n : Nat) (f0 fr f4 : D) (R1 R2 : List Nd) (w k : Str) (s : Sp) (h : ∀ r ∈ R1 ++ R2, Sm r.l) (hl : R1.length + R2.length ≤ 1000) (g : Gs (R1 ++ R2) s) :
    callF G sub tab fu (n + 9) 9 [funD f0 fr f4 R1 R2, .str w, eS s, .str k] = .ok 1 (eA (fa (R1 ++ R2) w s k)) := by
  obtain ⟨nd, r, v⟩ := g
  rw [fa_eq v]
  exact spot_fn n f0 fr f4 R1 R2 w k s nd r h hl v
theorem act_fa (n : Nat) (R : List Nd) (w k : Str) (s : Sp) (h : ∀ r ∈ R, Sm r.l) (g : Gs R s) : callF G sub tab fu (n + 9) 28 [.lst (R.map eN), .str w, eS s, .str k] = .ok 1 (eA (fa R w s k)) := by
  obtain ⟨nd, r, v⟩ := g
  rw [fa_eq v]
  exact act_fn n R w k s nd r h v
theorem ops_loop (n : Nat) (f0 fr f4 : D) (R1 R2 : List Nd) (o1 : Option (Nat × D)) (h : ∀ r ∈ R1 ++ R2, Sm r.l) (hl : R1.length + R2.length ≤ 1000) : ∀ (os : List Op) (acc : List Ac) (o3 : Option (Nat × D)), (∀ o ∈ os, Go (R1 ++ R2) o) → acc.length + 2 * os.length ≤ 1000 → ∃ o3',
    forT (.name 3) (evB G sub (callF G sub tab fu (n + 9)) fu bd12_0) (os.map eO) [some (0, funD f0 fr f4 R1 R2), o1, some (1, .lst (acc.map eA)), o3] = .nx [some (0, funD f0 fr f4 R1 R2), o1, some (1, .lst ((acc ++ os.flatMap (reads (R1 ++ R2))).map eA)), o3']
  | [], acc, o3, _, _ => ⟨o3, by simp [forT, forLoop]⟩
  | o :: os, acc, o3, g, hL => by
    rw [List.length_cons] at hL
    have go := g o List.mem_cons_self
    have step : ∀ f, forT (.name 3) f ((o :: os).map eO) [some (0, funD f0 fr f4 R1 R2), o1, some (1, .lst (acc.map eA)), o3] = match f [some (0, funD f0 fr f4 R1 R2), o1, some (1, .lst (acc.map eA)), some (0, eO o)] with
      | .nx r1 => forT (.name 3) f (os.map eO) r1
      | .ct r1 => forT (.name 3) f (os.map eO) r1
      | .bk r1 => .nx r1
      | .ret l d => .ret l d
      | .exc r1 c => .exc r1 c
      | .bad => .bad := fun f => rfl
    have hi := isa_eO o
    have e1 : evB G sub (callF G sub tab fu (n + 9)) fu bd12_0 [some (0, funD f0 fr f4 R1 R2), o1, some (1, .lst (acc.map eA)), some (0, eO o)] = .nx [some (0, funD f0 fr f4 R1 R2), o1, some (1, .lst ((acc ++ reads (R1 ++ R2) o).map eA)), some (0, eO o)] := by
      cases o with
      | int i => simp [evB_cons, evB_nil, seqB_nx, seqB_ret, seqB_exc, seqB_bk, seqB_ct, endF_ret, endF_nx, endF_exc, evS, ev, evs, evBop, evo, evc, evSr, R_ok, R_exc, R_some, O_ok, O_exc, startE, getv, lower, ixop, atD, L2.atI, L2.ixN, cmp_int, cmpne_int, cmp_lt, cmp_le, cmp_gt, cmp_ge, cmp_str, cmpne_str, bin_add, bin_sub, bin_mod, bin_div, bin_mul, bltop, slop, isaop, itemsOf, enumOf, zipOf, Tg.put, Tg.ids, setAll, wipeE, bd12_0, eO, reads]
      | emp => simp [evB_cons, evB_nil, seqB_nx, seqB_ret, seqB_exc, seqB_bk, seqB_ct, endF_ret, endF_nx, endF_exc, evS, ev, evs, evBop, evo, evc, evSr, R_ok, R_exc, R_some, O_ok, O_exc, startE, getv, lower, ixop, atD, L2.atI, L2.ixN, cmp_int, cmpne_int, cmp_lt, cmp_le, cmp_gt, cmp_ge, cmp_str, cmpne_str, bin_add, bin_sub, bin_mod, bin_div, bin_mul, bltop, slop, isaop, itemsOf, enumOf, zipOf, Tg.put, Tg.ids, setAll, wipeE, bd12_0, eO, reads]
      | sp s =>
        have a1 := at_acts_fn (G := G) (sub := sub) (fu := fu) (n + 8) s
        have a2 := spot_fa (G := G) (sub := sub) (fu := fu) n f0 fr f4 R1 R2 "read" "" s h hl go.1
        have hf := at_few s
        have b1 : acc.length + (atL s).length ≤ 16777216 := by omega
        have b2 : acc.length + (atL s).length + 1 ≤ 16777216 := by omega
        simp only [eO]
        generalize funD f0 fr f4 R1 R2 = F at a2 ⊢
        simp only [eS] at a1 a2 ⊢
        simp [evB_cons, evB_nil, seqB_nx, seqB_ret, seqB_exc, seqB_bk, seqB_ct, endF_ret, endF_nx, endF_exc, evS, ev, evs, evBop, evo, evc, evSr, R_ok, R_exc, R_some, O_ok, O_exc, startE, getv, lower, ixop, atD, L2.atI, L2.ixN, cmp_int, cmpne_int, cmp_lt, cmp_le, cmp_gt, cmp_ge, cmp_str, cmpne_str, bin_add, bin_sub, bin_mod, bin_div, bin_mul, bltop, slop, isaop, itemsOf, enumOf, zipOf, Tg.put, Tg.ids, setAll, wipeE, bd12_0, a1, a2, bin_cat, b1, b2, reads]
    rw [step, e1]
    have hr := reads_few (R1 ++ R2) o
    obtain ⟨o3', e2⟩ := ops_loop n f0 fr f4 R1 R2 o1 h hl os (acc ++ reads (R1 ++ R2) o) (some (0, eO o)) (fun q hq => g q (List.mem_cons_of_mem _ hq)) (by simp; omega)
    refine ⟨o3', ?_⟩
    simp only
    rw [e2, List.flatMap_cons, List.append_assoc]
theorem ops_fn (n : Nat) (f0 fr f4 : D) (R1 R2 : List Nd) (os : List Op) (h : ∀ r ∈ R1 ++ R2, Sm r.l) (hl : R1.length + R2.length ≤ 1000) (g : ∀ o ∈ os, Go (R1 ++ R2) o) (hL : os.length ≤ 10) : callF G sub tab fu (n + 10) 12 [funD f0 fr f4 R1 R2, .tup (os.map eO)] = .ok 1 (.lst ((os.flatMap (reads (R1 ++ R2))).map eA)) := by
  obtain ⟨o3, e⟩ := ops_loop (G := G) (sub := sub) (fu := fu) n f0 fr f4 R1 R2 (some (0, .tup (os.map eO))) h hl os [] none g (by simp; omega)
  rw [callF_s fn12 rfl rfl]
  generalize funD f0 fr f4 R1 R2 = F at e ⊢
  simp at e
  simp [evB_cons, evB_nil, seqB_nx, seqB_ret, seqB_exc, seqB_bk, seqB_ct, endF_ret, endF_nx, endF_exc, evS, ev, evs, evBop, evo, evc, evSr, R_ok, R_exc, R_some, O_ok, O_exc, startE, getv, lower, ixop, atD, L2.atI, L2.ixN, cmp_int, cmpne_int, cmp_lt, cmp_le, cmp_gt, cmp_ge, cmp_str, cmpne_str, bin_add, bin_sub, bin_mod, bin_div, bin_mul, bltop, slop, isaop, itemsOf, enumOf, zipOf, Tg.put, Tg.ids, setAll, wipeE, fn12]
  rw [e]
  simp [evB_cons, evB_nil, seqB_nx, seqB_ret, seqB_exc, seqB_bk, seqB_ct, endF_ret, endF_nx, endF_exc, evS, ev, evs, evBop, evo, evc, evSr, R_ok, R_exc, R_some, O_ok, O_exc, startE, getv, lower, ixop, atD, L2.atI, L2.ixN, cmp_int, cmpne_int, cmp_lt, cmp_le, cmp_gt, cmp_ge, cmp_str, cmpne_str, bin_add, bin_sub, bin_mod, bin_div, bin_mul, bltop, slop, isaop, itemsOf, enumOf, zipOf, Tg.put, Tg.ids, setAll, wipeE]
theorem tgt_fn (n : Nat) (f0 fr f4 : D) (R1 R2 : List Nd) (s : Sp) (h : ∀ r ∈ R1 ++ R2, Sm r.l) (hl : R1.length + R2.length ≤ 1000) (g : Gs (R1 ++ R2) s) : callF G sub tab fu (n + 10) 13 [funD f0 fr f4 R1 R2, eS s] = .ok 1 (.lst ((tgt (R1 ++ R2) s).map eA)) := by
  have a1 := at_acts_fn (G := G) (sub := sub) (fu := fu) (n + 8) s
  have a2 := spot_fa (G := G) (sub := sub) (fu := fu) n f0 fr f4 R1 R2 "fill" "" s h hl g
  have a3 := spot_fa (G := G) (sub := sub) (fu := fu) n f0 fr f4 R1 R2 "turn" "" s h hl g
  have hf := at_few s
  have b1 : (atL s).length + 1 ≤ 16777216 := by omega
  have hix : ixop (eS s) (.int 3) = some (eAt s.a) := by simp [eS, ixop, atD, L2.atI, L2.ixN]
  rw [callF_s fn13 rfl rfl]
  unfold tgt
  cases ha : s.a with
  | non =>
    rw [ha] at hix
    have hc : cmpop .isn (eAt .non) .non = some true := rfl
    generalize funD f0 fr f4 R1 R2 = F at a2 ⊢
    generalize eS s = X at a2 hix ⊢
    simp [evB_cons, evB_nil, seqB_nx, seqB_ret, seqB_exc, seqB_bk, seqB_ct, endF_ret, endF_nx, endF_exc, evS, ev, evs, evBop, evo, evc, evSr, R_ok, R_exc, R_some, O_ok, O_exc, startE, getv, lower, cmp_int, cmpne_int, cmp_lt, cmp_le, cmp_gt, cmp_ge, cmp_str, cmpne_str, bin_add, bin_sub, bin_mod, bin_div, bin_mul, bltop, slop, isaop, itemsOf, enumOf, zipOf, Tg.put, Tg.ids, setAll, wipeE, fn13, hix, hc, a2]
  | int i =>
    rw [ha] at hix
    have hc : cmpop .isn (eAt (.int i)) .non = some false := rfl
    generalize funD f0 fr f4 R1 R2 = F at a3 ⊢
    generalize eS s = X at a1 a3 hix ⊢
    simp [evB_cons, evB_nil, seqB_nx, seqB_ret, seqB_exc, seqB_bk, seqB_ct, endF_ret, endF_nx, endF_exc, evS, ev, evs, evBop, evo, evc, evSr, R_ok, R_exc, R_some, O_ok, O_exc, startE, getv, lower, cmp_int, cmpne_int, cmp_lt, cmp_le, cmp_gt, cmp_ge, cmp_str, cmpne_str, bin_add, bin_sub, bin_mod, bin_div, bin_mul, bltop, slop, isaop, itemsOf, enumOf, zipOf, Tg.put, Tg.ids, setAll, wipeE, fn13, hix, hc, a1, a3, bin_cat, b1]
  | nam l =>
    rw [ha] at hix
    have hc : cmpop .isn (eAt (.nam l)) .non = some false := rfl
    generalize funD f0 fr f4 R1 R2 = F at a3 ⊢
    generalize eS s = X at a1 a3 hix ⊢
    simp [evB_cons, evB_nil, seqB_nx, seqB_ret, seqB_exc, seqB_bk, seqB_ct, endF_ret, endF_nx, endF_exc, evS, ev, evs, evBop, evo, evc, evSr, R_ok, R_exc, R_some, O_ok, O_exc, startE, getv, lower, cmp_int, cmpne_int, cmp_lt, cmp_le, cmp_gt, cmp_ge, cmp_str, cmpne_str, bin_add, bin_sub, bin_mod, bin_div, bin_mul, bltop, slop, isaop, itemsOf, enumOf, zipOf, Tg.put, Tg.ids, setAll, wipeE, fn13, hix, hc, a1, a3, bin_cat, b1]
end
def ops : Rw → List Op
  | .put _ o => [o]
  | .set _ _ o u => [o, u]
  | .fill _ o => [o]
  | .iff o u _ => [o, u]
  | .say o => [o]
  | _ => []
theorem go_ops {R : List Nd} {r : Rw} (h : Gr R r) : ∀ o ∈ ops r, Go R o := fun o ho => by
  cases r <;> simp only [ops, List.mem_cons, List.mem_nil_iff, or_false] at ho
  · subst ho; exact h.2.2
  · rcases ho with rfl | rfl
    · exact h.2.2.1
    · exact h.2.2.2
  · subst ho; exact h.2.2
  · rcases ho with rfl | rfl
    · exact h.1
    · exact h.2
  · subst ho; exact h
section
variable {G : Nat → Option D} {sub : Nat → Nat → Bool} {fu : Nat}
theorem operands_fn (n : Nat) (r : Rw) : ∃ l, callF G sub tab fu (n + 1) 8 [eRw r] = .ok l (.tup ((ops r).map eO)) := by
  rw [callF_s fn8 rfl rfl]
  cases r with
  | put s o => exact ⟨0, by simp [evB_cons, evB_nil, seqB_nx, seqB_ret, seqB_exc, seqB_bk, seqB_ct, endF_ret, endF_nx, endF_exc, evS, ev, evs, evBop, evo, evc, evSr, R_ok, R_exc, R_some, O_ok, O_exc, startE, getv, lower, ixop, atD, L2.atI, L2.ixN, cmp_int, cmpne_int, cmp_lt, cmp_le, cmp_gt, cmp_ge, cmp_str, cmpne_str, bin_add, bin_sub, bin_mod, bin_div, bin_mul, bltop, slop, isaop, itemsOf, enumOf, zipOf, Tg.put, Tg.ids, setAll, wipeE, fn8, eRw, ops, we_put_set, we_put_if, we_put_say, we_put_call, we_put_give, we_put_put, we_put_fill, we_put_drop, we_put_copy, we_put_lend, we_put_sole, we_put_move, we_put_go, wi_put_pf, wi_put_psf, wi_put_cmd, wi_put_ls, wi_put_ps, we_set_set, we_set_if, we_set_say, we_set_call, we_set_give, we_set_put, we_set_fill, we_set_drop, we_set_copy, we_set_lend, we_set_sole, we_set_move, we_set_go, wi_set_pf, wi_set_psf, wi_set_cmd, wi_set_ls, wi_set_ps, we_fill_set, we_fill_if, we_fill_say, we_fill_call, we_fill_give, we_fill_put, we_fill_fill, we_fill_drop, we_fill_copy, we_fill_lend, we_fill_sole, we_fill_move, we_fill_go, wi_fill_pf, wi_fill_psf, wi_fill_cmd, wi_fill_ls, wi_fill_ps, we_if_set, we_if_if, we_if_say, we_if_call, we_if_give, we_if_put, we_if_fill, we_if_drop, we_if_copy, we_if_lend, we_if_sole, we_if_move, we_if_go, wi_if_pf, wi_if_psf, wi_if_cmd, wi_if_ls, wi_if_ps, we_go_set, we_go_if, we_go_say, we_go_call, we_go_give, we_go_put, we_go_fill, we_go_drop, we_go_copy, we_go_lend, we_go_sole, we_go_move, we_go_go, wi_go_pf, wi_go_psf, wi_go_cmd, wi_go_ls, wi_go_ps, we_say_set, we_say_if, we_say_say, we_say_call, we_say_give, we_say_put, we_say_fill, we_say_drop, we_say_copy, we_say_lend, we_say_sole, we_say_move, we_say_go, wi_say_pf, wi_say_psf, wi_say_cmd, wi_say_ls, wi_say_ps, we_give_set, we_give_if, we_give_say, we_give_call, we_give_give, we_give_put, we_give_fill, we_give_drop, we_give_copy, we_give_lend, we_give_sole, we_give_move, we_give_go, wi_give_pf, wi_give_psf, wi_give_cmd, wi_give_ls, wi_give_ps, we_copy_set, we_copy_if, we_copy_say, we_copy_call, we_copy_give, we_copy_put, we_copy_fill, we_copy_drop, we_copy_copy, we_copy_lend, we_copy_sole, we_copy_move, we_copy_go, wi_copy_pf, wi_copy_psf, wi_copy_cmd, wi_copy_ls, wi_copy_ps, we_move_set, we_move_if, we_move_say, we_move_call, we_move_give, we_move_put, we_move_fill, we_move_drop, we_move_copy, we_move_lend, we_move_sole, we_move_move, we_move_go, wi_move_pf, wi_move_psf, wi_move_cmd, wi_move_ls, wi_move_ps, we_drop_set, we_drop_if, we_drop_say, we_drop_call, we_drop_give, we_drop_put, we_drop_fill, we_drop_drop, we_drop_copy, we_drop_lend, we_drop_sole, we_drop_move, we_drop_go, wi_drop_pf, wi_drop_psf, wi_drop_cmd, wi_drop_ls, wi_drop_ps, we_lend_set, we_lend_if, we_lend_say, we_lend_call, we_lend_give, we_lend_put, we_lend_fill, we_lend_drop, we_lend_copy, we_lend_lend, we_lend_sole, we_lend_move, we_lend_go, wi_lend_pf, wi_lend_psf, wi_lend_cmd, wi_lend_ls, wi_lend_ps, we_sole_set, we_sole_if, we_sole_say, we_sole_call, we_sole_give, we_sole_put, we_sole_fill, we_sole_drop, we_sole_copy, we_sole_lend, we_sole_sole, we_sole_move, we_sole_go, wi_sole_pf, wi_sole_psf, wi_sole_cmd, wi_sole_ls, wi_sole_ps, we_call_set, we_call_if, we_call_say, we_call_call, we_call_give, we_call_put, we_call_fill, we_call_drop, we_call_copy, we_call_lend, we_call_sole, we_call_move, we_call_go, wi_call_pf, wi_call_psf, wi_call_cmd, wi_call_ls, wi_call_ps, cutD, sIx_some, HT.sIx]⟩
  | set s g o u => exact ⟨0, by simp [evB_cons, evB_nil, seqB_nx, seqB_ret, seqB_exc, seqB_bk, seqB_ct, endF_ret, endF_nx, endF_exc, evS, ev, evs, evBop, evo, evc, evSr, R_ok, R_exc, R_some, O_ok, O_exc, startE, getv, lower, ixop, atD, L2.atI, L2.ixN, cmp_int, cmpne_int, cmp_lt, cmp_le, cmp_gt, cmp_ge, cmp_str, cmpne_str, bin_add, bin_sub, bin_mod, bin_div, bin_mul, bltop, slop, isaop, itemsOf, enumOf, zipOf, Tg.put, Tg.ids, setAll, wipeE, fn8, eRw, ops, we_put_set, we_put_if, we_put_say, we_put_call, we_put_give, we_put_put, we_put_fill, we_put_drop, we_put_copy, we_put_lend, we_put_sole, we_put_move, we_put_go, wi_put_pf, wi_put_psf, wi_put_cmd, wi_put_ls, wi_put_ps, we_set_set, we_set_if, we_set_say, we_set_call, we_set_give, we_set_put, we_set_fill, we_set_drop, we_set_copy, we_set_lend, we_set_sole, we_set_move, we_set_go, wi_set_pf, wi_set_psf, wi_set_cmd, wi_set_ls, wi_set_ps, we_fill_set, we_fill_if, we_fill_say, we_fill_call, we_fill_give, we_fill_put, we_fill_fill, we_fill_drop, we_fill_copy, we_fill_lend, we_fill_sole, we_fill_move, we_fill_go, wi_fill_pf, wi_fill_psf, wi_fill_cmd, wi_fill_ls, wi_fill_ps, we_if_set, we_if_if, we_if_say, we_if_call, we_if_give, we_if_put, we_if_fill, we_if_drop, we_if_copy, we_if_lend, we_if_sole, we_if_move, we_if_go, wi_if_pf, wi_if_psf, wi_if_cmd, wi_if_ls, wi_if_ps, we_go_set, we_go_if, we_go_say, we_go_call, we_go_give, we_go_put, we_go_fill, we_go_drop, we_go_copy, we_go_lend, we_go_sole, we_go_move, we_go_go, wi_go_pf, wi_go_psf, wi_go_cmd, wi_go_ls, wi_go_ps, we_say_set, we_say_if, we_say_say, we_say_call, we_say_give, we_say_put, we_say_fill, we_say_drop, we_say_copy, we_say_lend, we_say_sole, we_say_move, we_say_go, wi_say_pf, wi_say_psf, wi_say_cmd, wi_say_ls, wi_say_ps, we_give_set, we_give_if, we_give_say, we_give_call, we_give_give, we_give_put, we_give_fill, we_give_drop, we_give_copy, we_give_lend, we_give_sole, we_give_move, we_give_go, wi_give_pf, wi_give_psf, wi_give_cmd, wi_give_ls, wi_give_ps, we_copy_set, we_copy_if, we_copy_say, we_copy_call, we_copy_give, we_copy_put, we_copy_fill, we_copy_drop, we_copy_copy, we_copy_lend, we_copy_sole, we_copy_move, we_copy_go, wi_copy_pf, wi_copy_psf, wi_copy_cmd, wi_copy_ls, wi_copy_ps, we_move_set, we_move_if, we_move_say, we_move_call, we_move_give, we_move_put, we_move_fill, we_move_drop, we_move_copy, we_move_lend, we_move_sole, we_move_move, we_move_go, wi_move_pf, wi_move_psf, wi_move_cmd, wi_move_ls, wi_move_ps, we_drop_set, we_drop_if, we_drop_say, we_drop_call, we_drop_give, we_drop_put, we_drop_fill, we_drop_drop, we_drop_copy, we_drop_lend, we_drop_sole, we_drop_move, we_drop_go, wi_drop_pf, wi_drop_psf, wi_drop_cmd, wi_drop_ls, wi_drop_ps, we_lend_set, we_lend_if, we_lend_say, we_lend_call, we_lend_give, we_lend_put, we_lend_fill, we_lend_drop, we_lend_copy, we_lend_lend, we_lend_sole, we_lend_move, we_lend_go, wi_lend_pf, wi_lend_psf, wi_lend_cmd, wi_lend_ls, wi_lend_ps, we_sole_set, we_sole_if, we_sole_say, we_sole_call, we_sole_give, we_sole_put, we_sole_fill, we_sole_drop, we_sole_copy, we_sole_lend, we_sole_sole, we_sole_move, we_sole_go, wi_sole_pf, wi_sole_psf, wi_sole_cmd, wi_sole_ls, wi_sole_ps, we_call_set, we_call_if, we_call_say, we_call_call, we_call_give, we_call_put, we_call_fill, we_call_drop, we_call_copy, we_call_lend, we_call_sole, we_call_move, we_call_go, wi_call_pf, wi_call_psf, wi_call_cmd, wi_call_ls, wi_call_ps, cutD, sIx_some, HT.sIx]⟩
  | fill s o => exact ⟨0, by simp [evB_cons, evB_nil, seqB_nx, seqB_ret, seqB_exc, seqB_bk, seqB_ct, endF_ret, endF_nx, endF_exc, evS, ev, evs, evBop, evo, evc, evSr, R_ok, R_exc, R_some, O_ok, O_exc, startE, getv, lower, ixop, atD, L2.atI, L2.ixN, cmp_int, cmpne_int, cmp_lt, cmp_le, cmp_gt, cmp_ge, cmp_str, cmpne_str, bin_add, bin_sub, bin_mod, bin_div, bin_mul, bltop, slop, isaop, itemsOf, enumOf, zipOf, Tg.put, Tg.ids, setAll, wipeE, fn8, eRw, ops, we_put_set, we_put_if, we_put_say, we_put_call, we_put_give, we_put_put, we_put_fill, we_put_drop, we_put_copy, we_put_lend, we_put_sole, we_put_move, we_put_go, wi_put_pf, wi_put_psf, wi_put_cmd, wi_put_ls, wi_put_ps, we_set_set, we_set_if, we_set_say, we_set_call, we_set_give, we_set_put, we_set_fill, we_set_drop, we_set_copy, we_set_lend, we_set_sole, we_set_move, we_set_go, wi_set_pf, wi_set_psf, wi_set_cmd, wi_set_ls, wi_set_ps, we_fill_set, we_fill_if, we_fill_say, we_fill_call, we_fill_give, we_fill_put, we_fill_fill, we_fill_drop, we_fill_copy, we_fill_lend, we_fill_sole, we_fill_move, we_fill_go, wi_fill_pf, wi_fill_psf, wi_fill_cmd, wi_fill_ls, wi_fill_ps, we_if_set, we_if_if, we_if_say, we_if_call, we_if_give, we_if_put, we_if_fill, we_if_drop, we_if_copy, we_if_lend, we_if_sole, we_if_move, we_if_go, wi_if_pf, wi_if_psf, wi_if_cmd, wi_if_ls, wi_if_ps, we_go_set, we_go_if, we_go_say, we_go_call, we_go_give, we_go_put, we_go_fill, we_go_drop, we_go_copy, we_go_lend, we_go_sole, we_go_move, we_go_go, wi_go_pf, wi_go_psf, wi_go_cmd, wi_go_ls, wi_go_ps, we_say_set, we_say_if, we_say_say, we_say_call, we_say_give, we_say_put, we_say_fill, we_say_drop, we_say_copy, we_say_lend, we_say_sole, we_say_move, we_say_go, wi_say_pf, wi_say_psf, wi_say_cmd, wi_say_ls, wi_say_ps, we_give_set, we_give_if, we_give_say, we_give_call, we_give_give, we_give_put, we_give_fill, we_give_drop, we_give_copy, we_give_lend, we_give_sole, we_give_move, we_give_go, wi_give_pf, wi_give_psf, wi_give_cmd, wi_give_ls, wi_give_ps, we_copy_set, we_copy_if, we_copy_say, we_copy_call, we_copy_give, we_copy_put, we_copy_fill, we_copy_drop, we_copy_copy, we_copy_lend, we_copy_sole, we_copy_move, we_copy_go, wi_copy_pf, wi_copy_psf, wi_copy_cmd, wi_copy_ls, wi_copy_ps, we_move_set, we_move_if, we_move_say, we_move_call, we_move_give, we_move_put, we_move_fill, we_move_drop, we_move_copy, we_move_lend, we_move_sole, we_move_move, we_move_go, wi_move_pf, wi_move_psf, wi_move_cmd, wi_move_ls, wi_move_ps, we_drop_set, we_drop_if, we_drop_say, we_drop_call, we_drop_give, we_drop_put, we_drop_fill, we_drop_drop, we_drop_copy, we_drop_lend, we_drop_sole, we_drop_move, we_drop_go, wi_drop_pf, wi_drop_psf, wi_drop_cmd, wi_drop_ls, wi_drop_ps, we_lend_set, we_lend_if, we_lend_say, we_lend_call, we_lend_give, we_lend_put, we_lend_fill, we_lend_drop, we_lend_copy, we_lend_lend, we_lend_sole, we_lend_move, we_lend_go, wi_lend_pf, wi_lend_psf, wi_lend_cmd, wi_lend_ls, wi_lend_ps, we_sole_set, we_sole_if, we_sole_say, we_sole_call, we_sole_give, we_sole_put, we_sole_fill, we_sole_drop, we_sole_copy, we_sole_lend, we_sole_sole, we_sole_move, we_sole_go, wi_sole_pf, wi_sole_psf, wi_sole_cmd, wi_sole_ls, wi_sole_ps, we_call_set, we_call_if, we_call_say, we_call_call, we_call_give, we_call_put, we_call_fill, we_call_drop, we_call_copy, we_call_lend, we_call_sole, we_call_move, we_call_go, wi_call_pf, wi_call_psf, wi_call_cmd, wi_call_ls, wi_call_ps, cutD, sIx_some, HT.sIx]⟩
  | iff o u t => exact ⟨0, by simp [evB_cons, evB_nil, seqB_nx, seqB_ret, seqB_exc, seqB_bk, seqB_ct, endF_ret, endF_nx, endF_exc, evS, ev, evs, evBop, evo, evc, evSr, R_ok, R_exc, R_some, O_ok, O_exc, startE, getv, lower, ixop, atD, L2.atI, L2.ixN, cmp_int, cmpne_int, cmp_lt, cmp_le, cmp_gt, cmp_ge, cmp_str, cmpne_str, bin_add, bin_sub, bin_mod, bin_div, bin_mul, bltop, slop, isaop, itemsOf, enumOf, zipOf, Tg.put, Tg.ids, setAll, wipeE, fn8, eRw, ops, we_put_set, we_put_if, we_put_say, we_put_call, we_put_give, we_put_put, we_put_fill, we_put_drop, we_put_copy, we_put_lend, we_put_sole, we_put_move, we_put_go, wi_put_pf, wi_put_psf, wi_put_cmd, wi_put_ls, wi_put_ps, we_set_set, we_set_if, we_set_say, we_set_call, we_set_give, we_set_put, we_set_fill, we_set_drop, we_set_copy, we_set_lend, we_set_sole, we_set_move, we_set_go, wi_set_pf, wi_set_psf, wi_set_cmd, wi_set_ls, wi_set_ps, we_fill_set, we_fill_if, we_fill_say, we_fill_call, we_fill_give, we_fill_put, we_fill_fill, we_fill_drop, we_fill_copy, we_fill_lend, we_fill_sole, we_fill_move, we_fill_go, wi_fill_pf, wi_fill_psf, wi_fill_cmd, wi_fill_ls, wi_fill_ps, we_if_set, we_if_if, we_if_say, we_if_call, we_if_give, we_if_put, we_if_fill, we_if_drop, we_if_copy, we_if_lend, we_if_sole, we_if_move, we_if_go, wi_if_pf, wi_if_psf, wi_if_cmd, wi_if_ls, wi_if_ps, we_go_set, we_go_if, we_go_say, we_go_call, we_go_give, we_go_put, we_go_fill, we_go_drop, we_go_copy, we_go_lend, we_go_sole, we_go_move, we_go_go, wi_go_pf, wi_go_psf, wi_go_cmd, wi_go_ls, wi_go_ps, we_say_set, we_say_if, we_say_say, we_say_call, we_say_give, we_say_put, we_say_fill, we_say_drop, we_say_copy, we_say_lend, we_say_sole, we_say_move, we_say_go, wi_say_pf, wi_say_psf, wi_say_cmd, wi_say_ls, wi_say_ps, we_give_set, we_give_if, we_give_say, we_give_call, we_give_give, we_give_put, we_give_fill, we_give_drop, we_give_copy, we_give_lend, we_give_sole, we_give_move, we_give_go, wi_give_pf, wi_give_psf, wi_give_cmd, wi_give_ls, wi_give_ps, we_copy_set, we_copy_if, we_copy_say, we_copy_call, we_copy_give, we_copy_put, we_copy_fill, we_copy_drop, we_copy_copy, we_copy_lend, we_copy_sole, we_copy_move, we_copy_go, wi_copy_pf, wi_copy_psf, wi_copy_cmd, wi_copy_ls, wi_copy_ps, we_move_set, we_move_if, we_move_say, we_move_call, we_move_give, we_move_put, we_move_fill, we_move_drop, we_move_copy, we_move_lend, we_move_sole, we_move_move, we_move_go, wi_move_pf, wi_move_psf, wi_move_cmd, wi_move_ls, wi_move_ps, we_drop_set, we_drop_if, we_drop_say, we_drop_call, we_drop_give, we_drop_put, we_drop_fill, we_drop_drop, we_drop_copy, we_drop_lend, we_drop_sole, we_drop_move, we_drop_go, wi_drop_pf, wi_drop_psf, wi_drop_cmd, wi_drop_ls, wi_drop_ps, we_lend_set, we_lend_if, we_lend_say, we_lend_call, we_lend_give, we_lend_put, we_lend_fill, we_lend_drop, we_lend_copy, we_lend_lend, we_lend_sole, we_lend_move, we_lend_go, wi_lend_pf, wi_lend_psf, wi_lend_cmd, wi_lend_ls, wi_lend_ps, we_sole_set, we_sole_if, we_sole_say, we_sole_call, we_sole_give, we_sole_put, we_sole_fill, we_sole_drop, we_sole_copy, we_sole_lend, we_sole_sole, we_sole_move, we_sole_go, wi_sole_pf, wi_sole_psf, wi_sole_cmd, wi_sole_ls, wi_sole_ps, we_call_set, we_call_if, we_call_say, we_call_call, we_call_give, we_call_put, we_call_fill, we_call_drop, we_call_copy, we_call_lend, we_call_sole, we_call_move, we_call_go, wi_call_pf, wi_call_psf, wi_call_cmd, wi_call_ls, wi_call_ps, cutD, sIx_some, HT.sIx]⟩
  | say o => exact ⟨0, by simp [evB_cons, evB_nil, seqB_nx, seqB_ret, seqB_exc, seqB_bk, seqB_ct, endF_ret, endF_nx, endF_exc, evS, ev, evs, evBop, evo, evc, evSr, R_ok, R_exc, R_some, O_ok, O_exc, startE, getv, lower, ixop, atD, L2.atI, L2.ixN, cmp_int, cmpne_int, cmp_lt, cmp_le, cmp_gt, cmp_ge, cmp_str, cmpne_str, bin_add, bin_sub, bin_mod, bin_div, bin_mul, bltop, slop, isaop, itemsOf, enumOf, zipOf, Tg.put, Tg.ids, setAll, wipeE, fn8, eRw, ops, we_put_set, we_put_if, we_put_say, we_put_call, we_put_give, we_put_put, we_put_fill, we_put_drop, we_put_copy, we_put_lend, we_put_sole, we_put_move, we_put_go, wi_put_pf, wi_put_psf, wi_put_cmd, wi_put_ls, wi_put_ps, we_set_set, we_set_if, we_set_say, we_set_call, we_set_give, we_set_put, we_set_fill, we_set_drop, we_set_copy, we_set_lend, we_set_sole, we_set_move, we_set_go, wi_set_pf, wi_set_psf, wi_set_cmd, wi_set_ls, wi_set_ps, we_fill_set, we_fill_if, we_fill_say, we_fill_call, we_fill_give, we_fill_put, we_fill_fill, we_fill_drop, we_fill_copy, we_fill_lend, we_fill_sole, we_fill_move, we_fill_go, wi_fill_pf, wi_fill_psf, wi_fill_cmd, wi_fill_ls, wi_fill_ps, we_if_set, we_if_if, we_if_say, we_if_call, we_if_give, we_if_put, we_if_fill, we_if_drop, we_if_copy, we_if_lend, we_if_sole, we_if_move, we_if_go, wi_if_pf, wi_if_psf, wi_if_cmd, wi_if_ls, wi_if_ps, we_go_set, we_go_if, we_go_say, we_go_call, we_go_give, we_go_put, we_go_fill, we_go_drop, we_go_copy, we_go_lend, we_go_sole, we_go_move, we_go_go, wi_go_pf, wi_go_psf, wi_go_cmd, wi_go_ls, wi_go_ps, we_say_set, we_say_if, we_say_say, we_say_call, we_say_give, we_say_put, we_say_fill, we_say_drop, we_say_copy, we_say_lend, we_say_sole, we_say_move, we_say_go, wi_say_pf, wi_say_psf, wi_say_cmd, wi_say_ls, wi_say_ps, we_give_set, we_give_if, we_give_say, we_give_call, we_give_give, we_give_put, we_give_fill, we_give_drop, we_give_copy, we_give_lend, we_give_sole, we_give_move, we_give_go, wi_give_pf, wi_give_psf, wi_give_cmd, wi_give_ls, wi_give_ps, we_copy_set, we_copy_if, we_copy_say, we_copy_call, we_copy_give, we_copy_put, we_copy_fill, we_copy_drop, we_copy_copy, we_copy_lend, we_copy_sole, we_copy_move, we_copy_go, wi_copy_pf, wi_copy_psf, wi_copy_cmd, wi_copy_ls, wi_copy_ps, we_move_set, we_move_if, we_move_say, we_move_call, we_move_give, we_move_put, we_move_fill, we_move_drop, we_move_copy, we_move_lend, we_move_sole, we_move_move, we_move_go, wi_move_pf, wi_move_psf, wi_move_cmd, wi_move_ls, wi_move_ps, we_drop_set, we_drop_if, we_drop_say, we_drop_call, we_drop_give, we_drop_put, we_drop_fill, we_drop_drop, we_drop_copy, we_drop_lend, we_drop_sole, we_drop_move, we_drop_go, wi_drop_pf, wi_drop_psf, wi_drop_cmd, wi_drop_ls, wi_drop_ps, we_lend_set, we_lend_if, we_lend_say, we_lend_call, we_lend_give, we_lend_put, we_lend_fill, we_lend_drop, we_lend_copy, we_lend_lend, we_lend_sole, we_lend_move, we_lend_go, wi_lend_pf, wi_lend_psf, wi_lend_cmd, wi_lend_ls, wi_lend_ps, we_sole_set, we_sole_if, we_sole_say, we_sole_call, we_sole_give, we_sole_put, we_sole_fill, we_sole_drop, we_sole_copy, we_sole_lend, we_sole_sole, we_sole_move, we_sole_go, wi_sole_pf, wi_sole_psf, wi_sole_cmd, wi_sole_ls, wi_sole_ps, we_call_set, we_call_if, we_call_say, we_call_call, we_call_give, we_call_put, we_call_fill, we_call_drop, we_call_copy, we_call_lend, we_call_sole, we_call_move, we_call_go, wi_call_pf, wi_call_psf, wi_call_cmd, wi_call_ls, wi_call_ps, cutD, sIx_some, HT.sIx]⟩
  | _ => exact ⟨1, by simp [evB_cons, evB_nil, seqB_nx, seqB_ret, seqB_exc, seqB_bk, seqB_ct, endF_ret, endF_nx, endF_exc, evS, ev, evs, evBop, evo, evc, evSr, R_ok, R_exc, R_some, O_ok, O_exc, startE, getv, lower, ixop, atD, L2.atI, L2.ixN, cmp_int, cmpne_int, cmp_lt, cmp_le, cmp_gt, cmp_ge, cmp_str, cmpne_str, bin_add, bin_sub, bin_mod, bin_div, bin_mul, bltop, slop, isaop, itemsOf, enumOf, zipOf, Tg.put, Tg.ids, setAll, wipeE, fn8, eRw, ops, we_put_set, we_put_if, we_put_say, we_put_call, we_put_give, we_put_put, we_put_fill, we_put_drop, we_put_copy, we_put_lend, we_put_sole, we_put_move, we_put_go, wi_put_pf, wi_put_psf, wi_put_cmd, wi_put_ls, wi_put_ps, we_set_set, we_set_if, we_set_say, we_set_call, we_set_give, we_set_put, we_set_fill, we_set_drop, we_set_copy, we_set_lend, we_set_sole, we_set_move, we_set_go, wi_set_pf, wi_set_psf, wi_set_cmd, wi_set_ls, wi_set_ps, we_fill_set, we_fill_if, we_fill_say, we_fill_call, we_fill_give, we_fill_put, we_fill_fill, we_fill_drop, we_fill_copy, we_fill_lend, we_fill_sole, we_fill_move, we_fill_go, wi_fill_pf, wi_fill_psf, wi_fill_cmd, wi_fill_ls, wi_fill_ps, we_if_set, we_if_if, we_if_say, we_if_call, we_if_give, we_if_put, we_if_fill, we_if_drop, we_if_copy, we_if_lend, we_if_sole, we_if_move, we_if_go, wi_if_pf, wi_if_psf, wi_if_cmd, wi_if_ls, wi_if_ps, we_go_set, we_go_if, we_go_say, we_go_call, we_go_give, we_go_put, we_go_fill, we_go_drop, we_go_copy, we_go_lend, we_go_sole, we_go_move, we_go_go, wi_go_pf, wi_go_psf, wi_go_cmd, wi_go_ls, wi_go_ps, we_say_set, we_say_if, we_say_say, we_say_call, we_say_give, we_say_put, we_say_fill, we_say_drop, we_say_copy, we_say_lend, we_say_sole, we_say_move, we_say_go, wi_say_pf, wi_say_psf, wi_say_cmd, wi_say_ls, wi_say_ps, we_give_set, we_give_if, we_give_say, we_give_call, we_give_give, we_give_put, we_give_fill, we_give_drop, we_give_copy, we_give_lend, we_give_sole, we_give_move, we_give_go, wi_give_pf, wi_give_psf, wi_give_cmd, wi_give_ls, wi_give_ps, we_copy_set, we_copy_if, we_copy_say, we_copy_call, we_copy_give, we_copy_put, we_copy_fill, we_copy_drop, we_copy_copy, we_copy_lend, we_copy_sole, we_copy_move, we_copy_go, wi_copy_pf, wi_copy_psf, wi_copy_cmd, wi_copy_ls, wi_copy_ps, we_move_set, we_move_if, we_move_say, we_move_call, we_move_give, we_move_put, we_move_fill, we_move_drop, we_move_copy, we_move_lend, we_move_sole, we_move_move, we_move_go, wi_move_pf, wi_move_psf, wi_move_cmd, wi_move_ls, wi_move_ps, we_drop_set, we_drop_if, we_drop_say, we_drop_call, we_drop_give, we_drop_put, we_drop_fill, we_drop_drop, we_drop_copy, we_drop_lend, we_drop_sole, we_drop_move, we_drop_go, wi_drop_pf, wi_drop_psf, wi_drop_cmd, wi_drop_ls, wi_drop_ps, we_lend_set, we_lend_if, we_lend_say, we_lend_call, we_lend_give, we_lend_put, we_lend_fill, we_lend_drop, we_lend_copy, we_lend_lend, we_lend_sole, we_lend_move, we_lend_go, wi_lend_pf, wi_lend_psf, wi_lend_cmd, wi_lend_ls, wi_lend_ps, we_sole_set, we_sole_if, we_sole_say, we_sole_call, we_sole_give, we_sole_put, we_sole_fill, we_sole_drop, we_sole_copy, we_sole_lend, we_sole_sole, we_sole_move, we_sole_go, wi_sole_pf, wi_sole_psf, wi_sole_cmd, wi_sole_ls, wi_sole_ps, we_call_set, we_call_if, we_call_say, we_call_call, we_call_give, we_call_put, we_call_fill, we_call_drop, we_call_copy, we_call_lend, we_call_sole, we_call_move, we_call_go, wi_call_pf, wi_call_psf, wi_call_cmd, wi_call_ls, wi_call_ps, cutD, sIx_some, HT.sIx]⟩
theorem ix_0 (a : D) (ds : List D) : ixop (.tup (a :: ds)) (.int 0) = some a := by
  have : (0 : Int) < (ds.length : Int) + 1 := by omega
  simp [ixop, atD, L2.atI, L2.ixN, this]
theorem ix_1 (a b : D) (ds : List D) : ixop (.tup (a :: b :: ds)) (.int 1) = some b := by
  have : (1 : Int) < (ds.length : Int) + 1 + 1 := by omega
  simp [ixop, atD, L2.atI, L2.ixN, this]
theorem ix_2 (a b c : D) (ds : List D) : ixop (.tup (a :: b :: c :: ds)) (.int 2) = some c := by
  have : (2 : Int) < (ds.length : Int) + 1 + 1 + 1 := by omega
  simp [ixop, atD, L2.atI, L2.ixN, this]
theorem ix_3 (a b c d : D) (ds : List D) : ixop (.tup (a :: b :: c :: d :: ds)) (.int 3) = some d := by
  have : (3 : Int) < (ds.length : Int) + 1 + 1 + 1 + 1 := by omega
  simp [ixop, atD, L2.atI, L2.ixN, this]
theorem ws_eS (nd : Nd) : eS (ws nd) = .tup [dS nd.l, .bl nd.k.thr, .tup [], .non] := rfl
theorem name_fn (n : Nat) (f0 fr f4 : D) (R1 R2 : List Nd) (w k : Str) (a : List Nat) (h : ∀ r ∈ R1 ++ R2, Sm r.l) (hl : R1.length + R2.length ≤ 1000) (g : Hs (R1 ++ R2) a) :
    callF G sub tab fu (n + 10) 10 [funD f0 fr f4 R1 R2, .str w, dS a, .str k] = .ok 1 (eA (na (R1 ++ R2) w a k)) := by
  obtain ⟨nd, h1, h2⟩ := g
  have e1 := of_fn (G := G) (sub := sub) (fu := fu) (n + 8) f0 fr f4 R1 R2 a nd h hl h1
  have e2 := holder_fn (G := G) (sub := sub) (fu := fu) (n + 8) nd.k
  have e3 := spot_fa (G := G) (sub := sub) (fu := fu) n f0 fr f4 R1 R2 w k (ws nd) h hl (ws_gs h1 h2)
  have hn : na (R1 ++ R2) w a k = fa (R1 ++ R2) w (ws nd) k := by unfold na; rw [h1]
  rw [ws_eS, (lk_l h1).1] at e3
  rw [hn, callF_s fn10 rfl rfl]
  generalize funD f0 fr f4 R1 R2 = F at e1 e3 ⊢
  simp [evB_cons, evB_nil, seqB_nx, seqB_ret, seqB_exc, seqB_bk, seqB_ct, endF_ret, endF_nx, endF_exc, evS, ev, evs, evBop, evo, evc, evSr, R_ok, R_exc, R_some, O_ok, O_exc, startE, getv, lower, ixop, atD, L2.atI, L2.ixN, cmp_int, cmpne_int, cmp_lt, cmp_le, cmp_gt, cmp_ge, cmp_str, cmpne_str, bin_add, bin_sub, bin_mod, bin_div, bin_mul, bltop, slop, isaop, itemsOf, enumOf, zipOf, Tg.put, Tg.ids, setAll, wipeE, fn10, e1, e2, e3]
theorem lv_ok : ∀ s : Sh, okds 1 (lv s) = true
  | .num => by simp [lv, enc, okds, D.okd, ok_num]
  | .own => by simp [lv, enc, okds, D.okd, ok_own]
  | .strip k => by simp [lv, enc, okds, D.okd, ok_strip]
  | .rcd ps => by
    rw [lv]
    have : ∀ qs : List Sh, (∀ q ∈ qs, okds 1 (lv q) = true) → okds 1 (lvs qs) = true := fun qs => by
      induction qs with
      | nil => intro _; rfl
      | cons q qs ih =>
        intro hq
        have app : ∀ a b : List D, okds 1 a = true → okds 1 b = true → okds 1 (a ++ b) = true := fun a => by
          induction a with
          | nil => intro b _ h; exact h
          | cons x a iha =>
            intro b h1 h2
            simp only [okds, Bool.and_eq_true] at h1
            simp only [List.cons_append, okds, Bool.and_eq_true]
            exact ⟨h1.1, iha b h1.2 h2⟩
        rw [lvs]
        exact app _ _ (hq q List.mem_cons_self) (ih fun p hp => hq p (List.mem_cons_of_mem _ hp))
    exact this ps fun q hq => lv_ok q
theorem copied_fn (n : Nat) (s : Sh) (g : Gt s) : callF G sub tab fu (n + 5) 4 [enc s] = .ok 0 (.bl (cp s)) := by
  have e2 := leaf_all (G := G) (sub := sub) (fu := fu) 3 (n + 4) s g.1 g.2.2 (by omega) (by have := g.2.1; omega)
  have h1 : okd (enc .own) = true := okd_tup (n := 1) (by simp [okds, D.okd, ok_own]) (by omega)
  have h2 : okd (.tup (lv s)) = true := okd_tup (lv_ok s) (by omega)
  have h3 : cmpop .nin (enc .own) (.tup (lv s)) = some (cp s) := by
    simp only [cmpop, h1, h2, Bool.and_self, if_true]
    rfl
  have h4 : enc .own = .tup [.str "own"] := rfl
  rw [h4] at h3
  rw [callF_s fn4 rfl rfl]
  simp [evB_cons, evB_nil, seqB_nx, seqB_ret, seqB_exc, seqB_bk, seqB_ct, endF_ret, endF_nx, endF_exc, evS, ev, evs, evBop, evo, evc, evSr, R_ok, R_exc, R_some, O_ok, O_exc, startE, getv, lower, ixop, atD, L2.atI, L2.ixN, cmp_int, cmpne_int, cmp_lt, cmp_le, cmp_gt, cmp_ge, cmp_str, cmpne_str, bin_add, bin_sub, bin_mod, bin_div, bin_mul, bltop, slop, isaop, itemsOf, enumOf, zipOf, Tg.put, Tg.ids, setAll, wipeE, fn4, e2, h3]
theorem taken_fn (n : Nat) (f0 fr f4 : D) (R1 R2 : List Nd) (a : List Nat) (nd : Nd) (h : ∀ r ∈ R1 ++ R2, Sm r.l) (hl : R1.length + R2.length ≤ 1000) (h1 : lk (R1 ++ R2) a = some nd) (g : GN nd) (ho : nd.k.thr = false) :
    callF G sub tab fu (n + 11) 15 [funD f0 fr f4 R1 R2, dS a] = .ok 1 (eA (tkA (R1 ++ R2) a)) := by
  have e1 := of_fn (G := G) (sub := sub) (fu := fu) (n + 9) f0 fr f4 R1 R2 a nd h hl h1
  have e2 := name_fn (G := G) (sub := sub) (fu := fu) n f0 fr f4 R1 R2 "read" "" a h hl ⟨nd, h1, g⟩
  have e3 := name_fn (G := G) (sub := sub) (fu := fu) n f0 fr f4 R1 R2 "empty" "" a h hl ⟨nd, h1, g⟩
  have e4 := copied_fn (G := G) (sub := sub) (fu := fu) (n + 5) nd.k.sh g.2
  have hk : eK nd.k = enc nd.k.sh := by
    cases hh : nd.k with
    | own s => rfl
    | lent s => rw [hh] at ho; cases ho
    | sole s => rw [hh] at ho; cases ho
  rw [hk] at e1
  have ht : tkA (R1 ++ R2) a = na (R1 ++ R2) (if cp nd.k.sh then "read" else "empty") a "" := by unfold tkA; rw [h1]
  rw [ht, callF_s fn15 rfl rfl]
  generalize funD f0 fr f4 R1 R2 = F at e1 e2 e3 ⊢
  cases hc : cp nd.k.sh with
  | true => rw [hc] at e4; simp [evB_cons, evB_nil, seqB_nx, seqB_ret, seqB_exc, seqB_bk, seqB_ct, endF_ret, endF_nx, endF_exc, evS, ev, evs, evBop, evo, evc, evSr, R_ok, R_exc, R_some, O_ok, O_exc, startE, getv, lower, ixop, atD, L2.atI, L2.ixN, cmp_int, cmpne_int, cmp_lt, cmp_le, cmp_gt, cmp_ge, cmp_str, cmpne_str, bin_add, bin_sub, bin_mod, bin_div, bin_mul, bltop, slop, isaop, itemsOf, enumOf, zipOf, Tg.put, Tg.ids, setAll, wipeE, fn15, e1, e2, e4]
  | false => rw [hc] at e4; simp [evB_cons, evB_nil, seqB_nx, seqB_ret, seqB_exc, seqB_bk, seqB_ct, endF_ret, endF_nx, endF_exc, evS, ev, evs, evBop, evo, evc, evSr, R_ok, R_exc, R_some, O_ok, O_exc, startE, getv, lower, ixop, atD, L2.atI, L2.ixN, cmp_int, cmpne_int, cmp_lt, cmp_le, cmp_gt, cmp_ge, cmp_str, cmpne_str, bin_add, bin_sub, bin_mod, bin_div, bin_mul, bltop, slop, isaop, itemsOf, enumOf, zipOf, Tg.put, Tg.ids, setAll, wipeE, fn15, e1, e3, e4]
theorem hd_lent (s : Sh) : (hd s == ("lent" : Str)) = false := by
  cases s
  · decide +kernel
  · decide +kernel
  · show (("strip" : Str) == ("lent" : Str)) = false
    decide +kernel
  · show (("rec" : Str) == ("lent" : Str)) = false
    decide +kernel
theorem hd_sole (s : Sh) : (hd s == ("sole" : Str)) = false := by
  cases s
  · decide +kernel
  · decide +kernel
  · show (("strip" : Str) == ("sole" : Str)) = false
    decide +kernel
  · show (("rec" : Str) == ("sole" : Str)) = false
    decide +kernel
theorem str_dig (j : Nat) (h : j < 1000) : bltop .str [.int (j : Int)] = some (0, .str (dig j)) := by
  show (if (j : Int).natAbs.log2 < 1920 then some (0, D.str (toString (j : Int))) else none) = _
  rw [if_pos]
  · rfl
  · by_cases h0 : j = 0
    · subst h0; decide
    · have : (j : Int).natAbs = j := by omega
      rw [this, Nat.log2_lt h0]
      exact Nat.lt_trans h (Nat.lt_of_lt_of_le (by decide : 1000 < 2 ^ 10) (Nat.pow_le_pow_right (by omega) (by omega)))
theorem args_step (n : Nat) (f0 fr f4 : D) (R1 R2 : List Nd) (o1 o5 : Option (Nat × D)) (h : ∀ r ∈ R1 ++ R2, Sm r.l) (hl : R1.length + R2.length ≤ 1000) (j : Nat) (hj : j < 1000) (a : List Nat) (g : Hs (R1 ++ R2) a) (acc : List Ac) (hacc : acc.length ≤ 1000) : ∃ o5',
    evB G sub (callF G sub tab fu (n + 11)) fu bd16_0 [some (0, funD f0 fr f4 R1 R2), o1, some (1, .lst (acc.map eA)), some (0, .int j), some (0, dS a), o5] = .nx [some (0, funD f0 fr f4 R1 R2), o1, some (1, .lst ((acc ++ [argA (R1 ++ R2) j a]).map eA)), some (0, .int j), some (0, dS a), o5'] := by
  obtain ⟨nd, h1, h2⟩ := g
  have e1 := of_fn (G := G) (sub := sub) (fu := fu) (n + 10) f0 fr f4 R1 R2 a nd h hl h1
  have e2 := name_fn (G := G) (sub := sub) (fu := fu) (n + 1) f0 fr f4 R1 R2 "lend" (dig j) a h hl ⟨nd, h1, h2⟩
  have e3 := name_fn (G := G) (sub := sub) (fu := fu) (n + 1) f0 fr f4 R1 R2 "sole" (dig j) a h hl ⟨nd, h1, h2⟩
  have e4 := taken_fn (G := G) (sub := sub) (fu := fu) n f0 fr f4 R1 R2 a nd h hl h1 h2
  have e5 := str_dig j hj
  have hd' : acc.length < LN := by show _ < 16777216; omega
  have hi : ixop (eK nd.k) (.int 0) = some (.str nd.k.w) := by
    obtain ⟨rest, e⟩ := eK_hd nd.k
    rw [e]
    exact ix_0 _ _
  have hq1 := cmp_str nd.k.w "lent" (ok_w _) ok_lent
  have hq2 := cmp_str nd.k.w "sole" (ok_w _) ok_sole
  refine ⟨some (0, eK nd.k), ?_⟩
  have hA : argA (R1 ++ R2) j a = (match nd.k with
    | .lent _ => na (R1 ++ R2) "lend" a (dig j)
    | .sole _ => na (R1 ++ R2) "sole" a (dig j)
    | .own _ => tkA (R1 ++ R2) a) := by
    unfold argA
    rw [h1]
    obtain ⟨l, k⟩ := nd
    cases k <;> rfl
  rw [hA]
  generalize funD f0 fr f4 R1 R2 = F at e1 e2 e3 e4 ⊢
  cases hk : nd.k with
  | lent s =>
    have w1 : (Kd.lent s).w = "lent" := rfl
    rw [hk] at hi hq1 hq2
    rw [w1] at hi hq1
    rw [hk] at e1
    have hq3 : cmpop .eq (.str "lent") (.str "lent") = some true := by decide +kernel
    generalize eK (Kd.lent s) = K at *
    simp [evB_cons, evB_nil, seqB_nx, seqB_ret, seqB_exc, seqB_bk, seqB_ct, endF_ret, endF_nx, endF_exc, evS, ev, evs, evBop, evo, evc, evSr, R_ok, R_exc, R_some, O_ok, O_exc, startE, getv, lower, cmp_int, cmpne_int, cmp_lt, cmp_le, cmp_gt, cmp_ge, cmp_str, cmpne_str, bin_add, bin_sub, bin_mod, bin_div, bin_mul, slop, isaop, itemsOf, enumOf, zipOf, Tg.put, Tg.ids, setAll, wipeE, bd16_0, e1, hi, hq3, e2, e5, hd']
  | sole s =>
    have w1 : (Kd.sole s).w = "sole" := rfl
    rw [hk] at hi e1
    rw [w1] at hi
    have hq3 : cmpop .eq (.str "sole") (.str "lent") = some false := by decide +kernel
    have hq4 : cmpop .eq (.str "sole") (.str "sole") = some true := by decide +kernel
    generalize eK (Kd.sole s) = K at *
    simp [evB_cons, evB_nil, seqB_nx, seqB_ret, seqB_exc, seqB_bk, seqB_ct, endF_ret, endF_nx, endF_exc, evS, ev, evs, evBop, evo, evc, evSr, R_ok, R_exc, R_some, O_ok, O_exc, startE, getv, lower, cmp_int, cmpne_int, cmp_lt, cmp_le, cmp_gt, cmp_ge, cmp_str, cmpne_str, bin_add, bin_sub, bin_mod, bin_div, bin_mul, slop, isaop, itemsOf, enumOf, zipOf, Tg.put, Tg.ids, setAll, wipeE, bd16_0, e1, hi, hq3, hq4, e3, e5, hd']
  | own s =>
    have w1 : (Kd.own s).w = hd s := rfl
    have e4' := e4 (by rw [hk]; rfl)
    rw [hk] at hi hq1 hq2 e1
    rw [w1] at hi hq1 hq2
    rw [hd_lent] at hq1
    rw [hd_sole] at hq2
    generalize eK (Kd.own s) = K at *
    simp [evB_cons, evB_nil, seqB_nx, seqB_ret, seqB_exc, seqB_bk, seqB_ct, endF_ret, endF_nx, endF_exc, evS, ev, evs, evBop, evo, evc, evSr, R_ok, R_exc, R_some, O_ok, O_exc, startE, getv, lower, cmp_int, cmpne_int, cmp_lt, cmp_le, cmp_gt, cmp_ge, cmp_str, cmpne_str, bin_add, bin_sub, bin_mod, bin_div, bin_mul, slop, isaop, itemsOf, enumOf, zipOf, Tg.put, Tg.ids, setAll, wipeE, bd16_0, e1, hi, hq1, hq2, e4', e5, hd']
theorem args_loop (n : Nat) (f0 fr f4 : D) (R1 R2 : List Nd) (o1 : Option (Nat × D)) (h : ∀ r ∈ R1 ++ R2, Sm r.l) (hl : R1.length + R2.length ≤ 1000) : ∀ (as : List (List Nat)) (j : Nat) (acc : List Ac) (o3 o4 o5 : Option (Nat × D)), (∀ a ∈ as, Hs (R1 ++ R2) a) → j + as.length ≤ 1000 → acc.length + as.length ≤ 1000 → ∃ o3' o4' o5',
    forT (.tup [3, 4]) (evB G sub (callF G sub tab fu (n + 11)) fu bd16_0) (enumD j (as.map dS)) [some (0, funD f0 fr f4 R1 R2), o1, some (1, .lst (acc.map eA)), o3, o4, o5] = .nx [some (0, funD f0 fr f4 R1 R2), o1, some (1, .lst ((acc ++ argsA (R1 ++ R2) j as).map eA)), o3', o4', o5']
  | [], j, acc, o3, o4, o5, _, _, _ => ⟨o3, o4, o5, by simp [forT, forLoop, enumD, argsA]⟩
  | a :: as, j, acc, o3, o4, o5, g, hj, hL => by
    rw [List.length_cons] at hj hL
    have step : ∀ f, forT (.tup [3, 4]) f (enumD j ((a :: as).map dS)) [some (0, funD f0 fr f4 R1 R2), o1, some (1, .lst (acc.map eA)), o3, o4, o5] = match f [some (0, funD f0 fr f4 R1 R2), o1, some (1, .lst (acc.map eA)), some (0, .int j), some (0, dS a), o5] with
      | .nx r1 => forT (.tup [3, 4]) f (enumD (j + 1) (as.map dS)) r1
      | .ct r1 => forT (.tup [3, 4]) f (enumD (j + 1) (as.map dS)) r1
      | .bk r1 => .nx r1
      | .ret l d => .ret l d
      | .exc r1 c => .exc r1 c
      | .bad => .bad := fun f => rfl
    obtain ⟨p5, e1⟩ := args_step (G := G) (sub := sub) (fu := fu) n f0 fr f4 R1 R2 o1 o5 h hl j (by omega) a (g a List.mem_cons_self) acc (by omega)
    obtain ⟨o3', o4', o5', e2⟩ := args_loop n f0 fr f4 R1 R2 o1 h hl as (j + 1) (acc ++ [argA (R1 ++ R2) j a]) (some (0, .int j)) (some (0, dS a)) p5 (fun b hb => g b (List.mem_cons_of_mem _ hb)) (by omega) (by simp; omega)
    refine ⟨o3', o4', o5', ?_⟩
    rw [step, e1]
    simp only
    rw [e2, argsA, List.append_assoc]
    rfl
theorem ne_cat {a : List Nat} (ha : Sm a) : cmpop .ne (dS a) (.str "") = some (!decide (a = [])) := by
  have h := cmpne_str (cat a) (cat []) (cat_ok ha) (cat_ok sm_nil)
  rw [cat_beq, cat_nil] at h
  exact h
theorem eq_cat0 {a : List Nat} (ha : Sm a) : cmpop .eq (dS a) (.str "") = some (decide (a = [])) := by
  have h := cmp_str (cat a) (cat []) (cat_ok ha) (cat_ok sm_nil)
  rw [cat_beq, cat_nil] at h
  exact h
theorem hand_eA : eA HAND = .tup [.str "hand", .str "", .bl false, .int 0, .int 0, .str ""] := by
  simp [eA, acL, HAND, dS, cat_nil]
theorem call_fn (hG : G 1 = some (eA HAND)) (n : Nat) (f0 fr f4 : D) (R1 R2 : List Nd) (m f : List Nat) (as : List (List Nat)) (h : ∀ r ∈ R1 ++ R2, Sm r.l) (hl : R1.length + R2.length ≤ 1000) (g : (m = [] ∨ Hs (R1 ++ R2) m) ∧ (∀ a ∈ as, Hs (R1 ++ R2) a) ∧ as.length ≤ 10) :
    callF G sub tab fu (n + 12) 16 [funD f0 fr f4 R1 R2, eRw (.call m f as)] = .ok 1 (.lst ((argsA (R1 ++ R2) 0 as ++ [HAND] ++ takeL (R1 ++ R2) m).map eA)) := by
  obtain ⟨g1, g2, g3⟩ := g
  obtain ⟨o3, o4, o5, e⟩ := args_loop (G := G) (sub := sub) (fu := fu) n f0 fr f4 R1 R2 (some (0, eRw (.call m f as))) h hl as 0 [] none none none g2 (by omega) (by simp; omega)
  have hal := argsA_len (R1 ++ R2) as 0
  have hd1 : (argsA (R1 ++ R2) 0 as).length < LN := by show _ < 16777216; omega
  have hd2 : (argsA (R1 ++ R2) 0 as).length + 1 < LN := by show _ < 16777216; omega
  have i1 : ixop (eRw (.call m f as)) (.int 1) = some (dS m) := ix_1 _ _ _
  have i3 : ixop (eRw (.call m f as)) (.int 3) = some (.tup (as.map dS)) := ix_3 _ _ _ _ _
  generalize eRw (.call m f as) = X at e i1 i3 ⊢
  rw [callF_s fn16 rfl rfl]
  rcases g1 with rfl | g1
  · have hc := ne_cat sm_nil
    generalize funD f0 fr f4 R1 R2 = F at e ⊢
    simp at e hc
    simp [evB_cons, evB_nil, seqB_nx, seqB_ret, seqB_exc, seqB_bk, seqB_ct, endF_ret, endF_nx, endF_exc, evS, ev, evs, evBop, evo, evc, evSr, R_ok, R_exc, R_some, O_ok, O_exc, startE, getv, lower, cmp_int, cmpne_int, cmp_lt, cmp_le, cmp_gt, cmp_ge, cmp_str, cmpne_str, bin_add, bin_sub, bin_mod, bin_div, bin_mul, bltop, slop, isaop, itemsOf, enumOf, zipOf, Tg.put, Tg.ids, setAll, wipeE, fn16, i1, i3]
    rw [e]
    simp [evB_cons, evB_nil, seqB_nx, seqB_ret, seqB_exc, seqB_bk, seqB_ct, endF_ret, endF_nx, endF_exc, evS, ev, evs, evBop, evo, evc, evSr, R_ok, R_exc, R_some, O_ok, O_exc, startE, getv, lower, cmp_int, cmpne_int, cmp_lt, cmp_le, cmp_gt, cmp_ge, cmp_str, cmpne_str, bin_add, bin_sub, bin_mod, bin_div, bin_mul, bltop, slop, isaop, itemsOf, enumOf, zipOf, Tg.put, Tg.ids, setAll, wipeE, hG, hd1, i1, hc, takeL]
  · have hms := hs_sm g1
    by_cases hm0 : m = []
    · subst hm0
      have hc := ne_cat sm_nil
      generalize funD f0 fr f4 R1 R2 = F at e ⊢
      simp at e hc
      simp [evB_cons, evB_nil, seqB_nx, seqB_ret, seqB_exc, seqB_bk, seqB_ct, endF_ret, endF_nx, endF_exc, evS, ev, evs, evBop, evo, evc, evSr, R_ok, R_exc, R_some, O_ok, O_exc, startE, getv, lower, cmp_int, cmpne_int, cmp_lt, cmp_le, cmp_gt, cmp_ge, cmp_str, cmpne_str, bin_add, bin_sub, bin_mod, bin_div, bin_mul, bltop, slop, isaop, itemsOf, enumOf, zipOf, Tg.put, Tg.ids, setAll, wipeE, fn16, i1, i3]
      rw [e]
      simp [evB_cons, evB_nil, seqB_nx, seqB_ret, seqB_exc, seqB_bk, seqB_ct, endF_ret, endF_nx, endF_exc, evS, ev, evs, evBop, evo, evc, evSr, R_ok, R_exc, R_some, O_ok, O_exc, startE, getv, lower, cmp_int, cmpne_int, cmp_lt, cmp_le, cmp_gt, cmp_ge, cmp_str, cmpne_str, bin_add, bin_sub, bin_mod, bin_div, bin_mul, bltop, slop, isaop, itemsOf, enumOf, zipOf, Tg.put, Tg.ids, setAll, wipeE, hG, hd1, i1, hc, takeL]
    · have hc := ne_cat hms
      have e6 := name_fn (G := G) (sub := sub) (fu := fu) (n + 1) f0 fr f4 R1 R2 "fill" "" m h hl g1
      obtain ⟨nd, h1, h2⟩ := g1
      have e1 := of_fn (G := G) (sub := sub) (fu := fu) (n + 10) f0 fr f4 R1 R2 m nd h hl h1
      have e2 := holder_fn (G := G) (sub := sub) (fu := fu) (n + 10) nd.k
      generalize funD f0 fr f4 R1 R2 = F at *
      rw [decide_eq_false hm0] at hc
      have htk : takeL (R1 ++ R2) m = if nd.k.thr then [⟨"take", [], false, 0, 0, cat m⟩] else [na (R1 ++ R2) "fill" m ""] := by
        unfold takeL
        rw [if_neg hm0, h1]
      rw [htk]
      simp at e hc
      simp [evB_cons, evB_nil, seqB_nx, seqB_ret, seqB_exc, seqB_bk, seqB_ct, endF_ret, endF_nx, endF_exc, evS, ev, evs, evBop, evo, evc, evSr, R_ok, R_exc, R_some, O_ok, O_exc, startE, getv, lower, cmp_int, cmpne_int, cmp_lt, cmp_le, cmp_gt, cmp_ge, cmp_str, cmpne_str, bin_add, bin_sub, bin_mod, bin_div, bin_mul, bltop, slop, isaop, itemsOf, enumOf, zipOf, Tg.put, Tg.ids, setAll, wipeE, fn16, i1, i3]
      rw [e]
      cases ht : nd.k.thr with
      | true =>
        rw [ht] at e2
        simp [evB_cons, evB_nil, seqB_nx, seqB_ret, seqB_exc, seqB_bk, seqB_ct, endF_ret, endF_nx, endF_exc, evS, ev, evs, evBop, evo, evc, evSr, R_ok, R_exc, R_some, O_ok, O_exc, startE, getv, lower, cmp_int, cmpne_int, cmp_lt, cmp_le, cmp_gt, cmp_ge, cmp_str, cmpne_str, bin_add, bin_sub, bin_mod, bin_div, bin_mul, bltop, slop, isaop, itemsOf, enumOf, zipOf, Tg.put, Tg.ids, setAll, wipeE, hG, hd1, hd2, i1, hc, e1, e2]
        simp [eA, acL, dS, cat_nil]
      | false =>
        rw [ht] at e2
        simp [evB_cons, evB_nil, seqB_nx, seqB_ret, seqB_exc, seqB_bk, seqB_ct, endF_ret, endF_nx, endF_exc, evS, ev, evs, evBop, evo, evc, evSr, R_ok, R_exc, R_some, O_ok, O_exc, startE, getv, lower, cmp_int, cmpne_int, cmp_lt, cmp_le, cmp_gt, cmp_ge, cmp_str, cmpne_str, bin_add, bin_sub, bin_mod, bin_div, bin_mul, bltop, slop, isaop, itemsOf, enumOf, zipOf, Tg.put, Tg.ids, setAll, wipeE, hG, hd1, hd2, i1, hc, e1, e2, e6]
theorem give_fn (n : Nat) (f0 fr f4 : D) (R1 R2 : List Nd) (m : List Nat) (h : ∀ r ∈ R1 ++ R2, Sm r.l) (hl : R1.length + R2.length ≤ 1000) (g : m = [] ∨ Hs (R1 ++ R2) m) :
    callF G sub tab fu (n + 12) 17 [funD f0 fr f4 R1 R2, dS m] = .ok 1 (.lst ((giveL (R1 ++ R2) m).map eA)) := by
  rw [callF_s fn17 rfl rfl]
  by_cases hm0 : m = []
  · subst hm0
    have hc := eq_cat0 sm_nil
    simp at hc
    simp [evB_cons, evB_nil, seqB_nx, seqB_ret, seqB_exc, seqB_bk, seqB_ct, endF_ret, endF_nx, endF_exc, evS, ev, evs, evBop, evo, evc, evSr, R_ok, R_exc, R_some, O_ok, O_exc, startE, getv, lower, ixop, atD, L2.atI, L2.ixN, cmp_int, cmpne_int, cmp_lt, cmp_le, cmp_gt, cmp_ge, cmp_str, cmpne_str, bin_add, bin_sub, bin_mod, bin_div, bin_mul, bltop, slop, isaop, itemsOf, enumOf, zipOf, Tg.put, Tg.ids, setAll, wipeE, fn17, hc, giveL]
  · have g1 := g.resolve_left hm0
    have hc := eq_cat0 (hs_sm g1)
    rw [decide_eq_false hm0] at hc
    have e6 := name_fn (G := G) (sub := sub) (fu := fu) (n + 1) f0 fr f4 R1 R2 "give" "" m h hl g1
    obtain ⟨nd, h1, h2⟩ := g1
    have e1 := of_fn (G := G) (sub := sub) (fu := fu) (n + 10) f0 fr f4 R1 R2 m nd h hl h1
    have e2 := holder_fn (G := G) (sub := sub) (fu := fu) (n + 10) nd.k
    have e3 := taken_fn (G := G) (sub := sub) (fu := fu) n f0 fr f4 R1 R2 m nd h hl h1 h2
    generalize funD f0 fr f4 R1 R2 = F at *
    have htk : giveL (R1 ++ R2) m = if nd.k.thr then [na (R1 ++ R2) "give" m ""] else [tkA (R1 ++ R2) m] := by
      unfold giveL
      rw [if_neg hm0, h1]
    rw [htk]
    cases ht : nd.k.thr with
    | true =>
      rw [ht] at e2
      simp [evB_cons, evB_nil, seqB_nx, seqB_ret, seqB_exc, seqB_bk, seqB_ct, endF_ret, endF_nx, endF_exc, evS, ev, evs, evBop, evo, evc, evSr, R_ok, R_exc, R_some, O_ok, O_exc, startE, getv, lower, ixop, atD, L2.atI, L2.ixN, cmp_int, cmpne_int, cmp_lt, cmp_le, cmp_gt, cmp_ge, cmp_str, cmpne_str, bin_add, bin_sub, bin_mod, bin_div, bin_mul, bltop, slop, isaop, itemsOf, enumOf, zipOf, Tg.put, Tg.ids, setAll, wipeE, fn17, hc, e1, e2, e6]
    | false =>
      rw [ht] at e2
      simp [evB_cons, evB_nil, seqB_nx, seqB_ret, seqB_exc, seqB_bk, seqB_ct, endF_ret, endF_nx, endF_exc, evS, ev, evs, evBop, evo, evc, evSr, R_ok, R_exc, R_some, O_ok, O_exc, startE, getv, lower, ixop, atD, L2.atI, L2.ixN, cmp_int, cmpne_int, cmp_lt, cmp_le, cmp_gt, cmp_ge, cmp_str, cmpne_str, bin_add, bin_sub, bin_mod, bin_div, bin_mul, bltop, slop, isaop, itemsOf, enumOf, zipOf, Tg.put, Tg.ids, setAll, wipeE, fn17, hc, e1, e2, e3 ht]
theorem tgt_ne (R : List Nd) (s : Sp) : tgt R s ≠ [] := by
  unfold tgt
  split <;> simp
theorem or_eq (L : List Ac) : orRest L = if L = [] then [REST] else L := rfl
theorem row_fn (hG : G 0 = some (eA REST)) (hG1 : G 1 = some (eA HAND)) (n : Nat) (f0 fr f4 : D) (R1 R2 : List Nd) (r : Rw) (h : ∀ r ∈ R1 ++ R2, Sm r.l) (hl : R1.length + R2.length ≤ 1000) (g : Gr (R1 ++ R2) r) : ∃ l, callF G sub tab fu (n + 14) 18 [funD f0 fr f4 R1 R2, eRw r] = .ok l (.lst ((rowL (R1 ++ R2) r).map eA)) := by
  obtain ⟨lo, e1⟩ := operands_fn (G := G) (sub := sub) (fu := fu) (n + 12) r
  have e2 := ops_fn (G := G) (sub := sub) (fu := fu) (n + 3) f0 fr f4 R1 R2 (ops r) h hl (go_ops g) (by cases r <;> simp [ops])
  have e3 := fun s hs => tgt_fn (G := G) (sub := sub) (fu := fu) (n + 3) f0 fr f4 R1 R2 s h hl hs
  have e4 := fun m hm => give_fn (G := G) (sub := sub) (fu := fu) (n + 1) f0 fr f4 R1 R2 m h hl hm
  have e5 := fun m f as hm => call_fn (G := G) (sub := sub) (fu := fu) hG1 (n + 1) f0 fr f4 R1 R2 m f as h hl hm
  have e6 := fun w k s hs => spot_fa (G := G) (sub := sub) (fu := fu) (n + 4) f0 fr f4 R1 R2 w k s h hl hs
  have e7 := fun w k s hs => spot_fa (G := G) (sub := sub) (fu := fu) (n + 3) f0 fr f4 R1 R2 w k s h hl hs
  rw [callF_s fn18 rfl rfl]
  generalize hR : R1 ++ R2 = R at *
  generalize funD f0 fr f4 R1 R2 = F at *
  have ho := or_eA (rowL R r)
  rw [decide_eq_false (row_ne R r)] at ho
  cases r with
  | put s o =>
    have e3' := e3 s g.1
    have b1 : (reads R o).length + (tgt R s).length ≤ 16777216 := by have := reads_few R o; have := tgt_few R s; omega
    simp [ops] at e1 e2
    simp only [eRw, rowL] at e1 ho ⊢
    simp at ho
    simp [evB_cons, evB_nil, seqB_nx, seqB_ret, seqB_exc, seqB_bk, seqB_ct, endF_ret, endF_nx, endF_exc, evS, ev, evs, evBop, evo, evc, evSr, R_ok, R_exc, R_some, O_ok, O_exc, startE, getv, lower, ixop, atD, L2.atI, L2.ixN, cmp_int, cmpne_int, cmp_lt, cmp_le, cmp_gt, cmp_ge, cmp_str, cmpne_str, bin_add, bin_sub, bin_mod, bin_div, bin_mul, bltop, slop, isaop, itemsOf, enumOf, zipOf, Tg.put, Tg.ids, setAll, wipeE, fn18, e1, e2, e3', we_put_set, we_put_if, we_put_say, we_put_call, we_put_give, we_put_put, we_put_fill, we_put_drop, we_put_copy, we_put_lend, we_put_sole, we_put_move, we_put_go, wi_put_pf, wi_put_psf, wi_put_cmd, wi_put_ls, wi_put_ps, we_set_set, we_set_if, we_set_say, we_set_call, we_set_give, we_set_put, we_set_fill, we_set_drop, we_set_copy, we_set_lend, we_set_sole, we_set_move, we_set_go, wi_set_pf, wi_set_psf, wi_set_cmd, wi_set_ls, wi_set_ps, we_fill_set, we_fill_if, we_fill_say, we_fill_call, we_fill_give, we_fill_put, we_fill_fill, we_fill_drop, we_fill_copy, we_fill_lend, we_fill_sole, we_fill_move, we_fill_go, wi_fill_pf, wi_fill_psf, wi_fill_cmd, wi_fill_ls, wi_fill_ps, we_if_set, we_if_if, we_if_say, we_if_call, we_if_give, we_if_put, we_if_fill, we_if_drop, we_if_copy, we_if_lend, we_if_sole, we_if_move, we_if_go, wi_if_pf, wi_if_psf, wi_if_cmd, wi_if_ls, wi_if_ps, we_go_set, we_go_if, we_go_say, we_go_call, we_go_give, we_go_put, we_go_fill, we_go_drop, we_go_copy, we_go_lend, we_go_sole, we_go_move, we_go_go, wi_go_pf, wi_go_psf, wi_go_cmd, wi_go_ls, wi_go_ps, we_say_set, we_say_if, we_say_say, we_say_call, we_say_give, we_say_put, we_say_fill, we_say_drop, we_say_copy, we_say_lend, we_say_sole, we_say_move, we_say_go, wi_say_pf, wi_say_psf, wi_say_cmd, wi_say_ls, wi_say_ps, we_give_set, we_give_if, we_give_say, we_give_call, we_give_give, we_give_put, we_give_fill, we_give_drop, we_give_copy, we_give_lend, we_give_sole, we_give_move, we_give_go, wi_give_pf, wi_give_psf, wi_give_cmd, wi_give_ls, wi_give_ps, we_copy_set, we_copy_if, we_copy_say, we_copy_call, we_copy_give, we_copy_put, we_copy_fill, we_copy_drop, we_copy_copy, we_copy_lend, we_copy_sole, we_copy_move, we_copy_go, wi_copy_pf, wi_copy_psf, wi_copy_cmd, wi_copy_ls, wi_copy_ps, we_move_set, we_move_if, we_move_say, we_move_call, we_move_give, we_move_put, we_move_fill, we_move_drop, we_move_copy, we_move_lend, we_move_sole, we_move_move, we_move_go, wi_move_pf, wi_move_psf, wi_move_cmd, wi_move_ls, wi_move_ps, we_drop_set, we_drop_if, we_drop_say, we_drop_call, we_drop_give, we_drop_put, we_drop_fill, we_drop_drop, we_drop_copy, we_drop_lend, we_drop_sole, we_drop_move, we_drop_go, wi_drop_pf, wi_drop_psf, wi_drop_cmd, wi_drop_ls, wi_drop_ps, we_lend_set, we_lend_if, we_lend_say, we_lend_call, we_lend_give, we_lend_put, we_lend_fill, we_lend_drop, we_lend_copy, we_lend_lend, we_lend_sole, we_lend_move, we_lend_go, wi_lend_pf, wi_lend_psf, wi_lend_cmd, wi_lend_ls, wi_lend_ps, we_sole_set, we_sole_if, we_sole_say, we_sole_call, we_sole_give, we_sole_put, we_sole_fill, we_sole_drop, we_sole_copy, we_sole_lend, we_sole_sole, we_sole_move, we_sole_go, wi_sole_pf, wi_sole_psf, wi_sole_cmd, wi_sole_ls, wi_sole_ps, we_call_set, we_call_if, we_call_say, we_call_call, we_call_give, we_call_put, we_call_fill, we_call_drop, we_call_copy, we_call_lend, we_call_sole, we_call_move, we_call_go, wi_call_pf, wi_call_psf, wi_call_cmd, wi_call_ls, wi_call_ps, bin_cat, b1, ho]
  | set s gg o u =>
    have e3' := e3 s g.1
    have b1 : (reads R o).length + ((reads R u).length) + (tgt R s).length ≤ 16777216 := by have := reads_few R o; have := reads_few R u; have := tgt_few R s; omega
    simp [ops] at e1 e2
    simp only [eRw, rowL] at e1 ho ⊢
    simp at ho
    simp [evB_cons, evB_nil, seqB_nx, seqB_ret, seqB_exc, seqB_bk, seqB_ct, endF_ret, endF_nx, endF_exc, evS, ev, evs, evBop, evo, evc, evSr, R_ok, R_exc, R_some, O_ok, O_exc, startE, getv, lower, ixop, atD, L2.atI, L2.ixN, cmp_int, cmpne_int, cmp_lt, cmp_le, cmp_gt, cmp_ge, cmp_str, cmpne_str, bin_add, bin_sub, bin_mod, bin_div, bin_mul, bltop, slop, isaop, itemsOf, enumOf, zipOf, Tg.put, Tg.ids, setAll, wipeE, fn18, e1, e2, e3', we_put_set, we_put_if, we_put_say, we_put_call, we_put_give, we_put_put, we_put_fill, we_put_drop, we_put_copy, we_put_lend, we_put_sole, we_put_move, we_put_go, wi_put_pf, wi_put_psf, wi_put_cmd, wi_put_ls, wi_put_ps, we_set_set, we_set_if, we_set_say, we_set_call, we_set_give, we_set_put, we_set_fill, we_set_drop, we_set_copy, we_set_lend, we_set_sole, we_set_move, we_set_go, wi_set_pf, wi_set_psf, wi_set_cmd, wi_set_ls, wi_set_ps, we_fill_set, we_fill_if, we_fill_say, we_fill_call, we_fill_give, we_fill_put, we_fill_fill, we_fill_drop, we_fill_copy, we_fill_lend, we_fill_sole, we_fill_move, we_fill_go, wi_fill_pf, wi_fill_psf, wi_fill_cmd, wi_fill_ls, wi_fill_ps, we_if_set, we_if_if, we_if_say, we_if_call, we_if_give, we_if_put, we_if_fill, we_if_drop, we_if_copy, we_if_lend, we_if_sole, we_if_move, we_if_go, wi_if_pf, wi_if_psf, wi_if_cmd, wi_if_ls, wi_if_ps, we_go_set, we_go_if, we_go_say, we_go_call, we_go_give, we_go_put, we_go_fill, we_go_drop, we_go_copy, we_go_lend, we_go_sole, we_go_move, we_go_go, wi_go_pf, wi_go_psf, wi_go_cmd, wi_go_ls, wi_go_ps, we_say_set, we_say_if, we_say_say, we_say_call, we_say_give, we_say_put, we_say_fill, we_say_drop, we_say_copy, we_say_lend, we_say_sole, we_say_move, we_say_go, wi_say_pf, wi_say_psf, wi_say_cmd, wi_say_ls, wi_say_ps, we_give_set, we_give_if, we_give_say, we_give_call, we_give_give, we_give_put, we_give_fill, we_give_drop, we_give_copy, we_give_lend, we_give_sole, we_give_move, we_give_go, wi_give_pf, wi_give_psf, wi_give_cmd, wi_give_ls, wi_give_ps, we_copy_set, we_copy_if, we_copy_say, we_copy_call, we_copy_give, we_copy_put, we_copy_fill, we_copy_drop, we_copy_copy, we_copy_lend, we_copy_sole, we_copy_move, we_copy_go, wi_copy_pf, wi_copy_psf, wi_copy_cmd, wi_copy_ls, wi_copy_ps, we_move_set, we_move_if, we_move_say, we_move_call, we_move_give, we_move_put, we_move_fill, we_move_drop, we_move_copy, we_move_lend, we_move_sole, we_move_move, we_move_go, wi_move_pf, wi_move_psf, wi_move_cmd, wi_move_ls, wi_move_ps, we_drop_set, we_drop_if, we_drop_say, we_drop_call, we_drop_give, we_drop_put, we_drop_fill, we_drop_drop, we_drop_copy, we_drop_lend, we_drop_sole, we_drop_move, we_drop_go, wi_drop_pf, wi_drop_psf, wi_drop_cmd, wi_drop_ls, wi_drop_ps, we_lend_set, we_lend_if, we_lend_say, we_lend_call, we_lend_give, we_lend_put, we_lend_fill, we_lend_drop, we_lend_copy, we_lend_lend, we_lend_sole, we_lend_move, we_lend_go, wi_lend_pf, wi_lend_psf, wi_lend_cmd, wi_lend_ls, wi_lend_ps, we_sole_set, we_sole_if, we_sole_say, we_sole_call, we_sole_give, we_sole_put, we_sole_fill, we_sole_drop, we_sole_copy, we_sole_lend, we_sole_sole, we_sole_move, we_sole_go, wi_sole_pf, wi_sole_psf, wi_sole_cmd, wi_sole_ls, wi_sole_ps, we_call_set, we_call_if, we_call_say, we_call_call, we_call_give, we_call_put, we_call_fill, we_call_drop, we_call_copy, we_call_lend, we_call_sole, we_call_move, we_call_go, wi_call_pf, wi_call_psf, wi_call_cmd, wi_call_ls, wi_call_ps, bin_cat, b1, ho]
  | fill s o =>
    have e3' := e3 s g.1
    have b1 : (reads R o).length + (tgt R s).length ≤ 16777216 := by have := reads_few R o; have := tgt_few R s; omega
    simp [ops] at e1 e2
    simp only [eRw, rowL] at e1 ho ⊢
    simp at ho
    simp [evB_cons, evB_nil, seqB_nx, seqB_ret, seqB_exc, seqB_bk, seqB_ct, endF_ret, endF_nx, endF_exc, evS, ev, evs, evBop, evo, evc, evSr, R_ok, R_exc, R_some, O_ok, O_exc, startE, getv, lower, ixop, atD, L2.atI, L2.ixN, cmp_int, cmpne_int, cmp_lt, cmp_le, cmp_gt, cmp_ge, cmp_str, cmpne_str, bin_add, bin_sub, bin_mod, bin_div, bin_mul, bltop, slop, isaop, itemsOf, enumOf, zipOf, Tg.put, Tg.ids, setAll, wipeE, fn18, e1, e2, e3', we_put_set, we_put_if, we_put_say, we_put_call, we_put_give, we_put_put, we_put_fill, we_put_drop, we_put_copy, we_put_lend, we_put_sole, we_put_move, we_put_go, wi_put_pf, wi_put_psf, wi_put_cmd, wi_put_ls, wi_put_ps, we_set_set, we_set_if, we_set_say, we_set_call, we_set_give, we_set_put, we_set_fill, we_set_drop, we_set_copy, we_set_lend, we_set_sole, we_set_move, we_set_go, wi_set_pf, wi_set_psf, wi_set_cmd, wi_set_ls, wi_set_ps, we_fill_set, we_fill_if, we_fill_say, we_fill_call, we_fill_give, we_fill_put, we_fill_fill, we_fill_drop, we_fill_copy, we_fill_lend, we_fill_sole, we_fill_move, we_fill_go, wi_fill_pf, wi_fill_psf, wi_fill_cmd, wi_fill_ls, wi_fill_ps, we_if_set, we_if_if, we_if_say, we_if_call, we_if_give, we_if_put, we_if_fill, we_if_drop, we_if_copy, we_if_lend, we_if_sole, we_if_move, we_if_go, wi_if_pf, wi_if_psf, wi_if_cmd, wi_if_ls, wi_if_ps, we_go_set, we_go_if, we_go_say, we_go_call, we_go_give, we_go_put, we_go_fill, we_go_drop, we_go_copy, we_go_lend, we_go_sole, we_go_move, we_go_go, wi_go_pf, wi_go_psf, wi_go_cmd, wi_go_ls, wi_go_ps, we_say_set, we_say_if, we_say_say, we_say_call, we_say_give, we_say_put, we_say_fill, we_say_drop, we_say_copy, we_say_lend, we_say_sole, we_say_move, we_say_go, wi_say_pf, wi_say_psf, wi_say_cmd, wi_say_ls, wi_say_ps, we_give_set, we_give_if, we_give_say, we_give_call, we_give_give, we_give_put, we_give_fill, we_give_drop, we_give_copy, we_give_lend, we_give_sole, we_give_move, we_give_go, wi_give_pf, wi_give_psf, wi_give_cmd, wi_give_ls, wi_give_ps, we_copy_set, we_copy_if, we_copy_say, we_copy_call, we_copy_give, we_copy_put, we_copy_fill, we_copy_drop, we_copy_copy, we_copy_lend, we_copy_sole, we_copy_move, we_copy_go, wi_copy_pf, wi_copy_psf, wi_copy_cmd, wi_copy_ls, wi_copy_ps, we_move_set, we_move_if, we_move_say, we_move_call, we_move_give, we_move_put, we_move_fill, we_move_drop, we_move_copy, we_move_lend, we_move_sole, we_move_move, we_move_go, wi_move_pf, wi_move_psf, wi_move_cmd, wi_move_ls, wi_move_ps, we_drop_set, we_drop_if, we_drop_say, we_drop_call, we_drop_give, we_drop_put, we_drop_fill, we_drop_drop, we_drop_copy, we_drop_lend, we_drop_sole, we_drop_move, we_drop_go, wi_drop_pf, wi_drop_psf, wi_drop_cmd, wi_drop_ls, wi_drop_ps, we_lend_set, we_lend_if, we_lend_say, we_lend_call, we_lend_give, we_lend_put, we_lend_fill, we_lend_drop, we_lend_copy, we_lend_lend, we_lend_sole, we_lend_move, we_lend_go, wi_lend_pf, wi_lend_psf, wi_lend_cmd, wi_lend_ls, wi_lend_ps, we_sole_set, we_sole_if, we_sole_say, we_sole_call, we_sole_give, we_sole_put, we_sole_fill, we_sole_drop, we_sole_copy, we_sole_lend, we_sole_sole, we_sole_move, we_sole_go, wi_sole_pf, wi_sole_psf, wi_sole_cmd, wi_sole_ls, wi_sole_ps, we_call_set, we_call_if, we_call_say, we_call_call, we_call_give, we_call_put, we_call_fill, we_call_drop, we_call_copy, we_call_lend, we_call_sole, we_call_move, we_call_go, wi_call_pf, wi_call_psf, wi_call_cmd, wi_call_ls, wi_call_ps, bin_cat, b1, ho]
  | iff o u t =>
    have ho := or_eA (reads R o ++ reads R u)
    simp [ops] at e1 e2
    simp only [eRw] at e1 ⊢
    simp at ho
    by_cases hn : reads R o = [] ∧ reads R u = []
    · simp [hn.1, hn.2] at e2 ho
      simp [evB_cons, evB_nil, seqB_nx, seqB_ret, seqB_exc, seqB_bk, seqB_ct, endF_ret, endF_nx, endF_exc, evS, ev, evs, evBop, evo, evc, evSr, R_ok, R_exc, R_some, O_ok, O_exc, startE, getv, lower, ixop, atD, L2.atI, L2.ixN, cmp_int, cmpne_int, cmp_lt, cmp_le, cmp_gt, cmp_ge, cmp_str, cmpne_str, bin_add, bin_sub, bin_mod, bin_div, bin_mul, bltop, slop, isaop, itemsOf, enumOf, zipOf, Tg.put, Tg.ids, setAll, wipeE, fn18, e1, e2, we_put_set, we_put_if, we_put_say, we_put_call, we_put_give, we_put_put, we_put_fill, we_put_drop, we_put_copy, we_put_lend, we_put_sole, we_put_move, we_put_go, wi_put_pf, wi_put_psf, wi_put_cmd, wi_put_ls, wi_put_ps, we_set_set, we_set_if, we_set_say, we_set_call, we_set_give, we_set_put, we_set_fill, we_set_drop, we_set_copy, we_set_lend, we_set_sole, we_set_move, we_set_go, wi_set_pf, wi_set_psf, wi_set_cmd, wi_set_ls, wi_set_ps, we_fill_set, we_fill_if, we_fill_say, we_fill_call, we_fill_give, we_fill_put, we_fill_fill, we_fill_drop, we_fill_copy, we_fill_lend, we_fill_sole, we_fill_move, we_fill_go, wi_fill_pf, wi_fill_psf, wi_fill_cmd, wi_fill_ls, wi_fill_ps, we_if_set, we_if_if, we_if_say, we_if_call, we_if_give, we_if_put, we_if_fill, we_if_drop, we_if_copy, we_if_lend, we_if_sole, we_if_move, we_if_go, wi_if_pf, wi_if_psf, wi_if_cmd, wi_if_ls, wi_if_ps, we_go_set, we_go_if, we_go_say, we_go_call, we_go_give, we_go_put, we_go_fill, we_go_drop, we_go_copy, we_go_lend, we_go_sole, we_go_move, we_go_go, wi_go_pf, wi_go_psf, wi_go_cmd, wi_go_ls, wi_go_ps, we_say_set, we_say_if, we_say_say, we_say_call, we_say_give, we_say_put, we_say_fill, we_say_drop, we_say_copy, we_say_lend, we_say_sole, we_say_move, we_say_go, wi_say_pf, wi_say_psf, wi_say_cmd, wi_say_ls, wi_say_ps, we_give_set, we_give_if, we_give_say, we_give_call, we_give_give, we_give_put, we_give_fill, we_give_drop, we_give_copy, we_give_lend, we_give_sole, we_give_move, we_give_go, wi_give_pf, wi_give_psf, wi_give_cmd, wi_give_ls, wi_give_ps, we_copy_set, we_copy_if, we_copy_say, we_copy_call, we_copy_give, we_copy_put, we_copy_fill, we_copy_drop, we_copy_copy, we_copy_lend, we_copy_sole, we_copy_move, we_copy_go, wi_copy_pf, wi_copy_psf, wi_copy_cmd, wi_copy_ls, wi_copy_ps, we_move_set, we_move_if, we_move_say, we_move_call, we_move_give, we_move_put, we_move_fill, we_move_drop, we_move_copy, we_move_lend, we_move_sole, we_move_move, we_move_go, wi_move_pf, wi_move_psf, wi_move_cmd, wi_move_ls, wi_move_ps, we_drop_set, we_drop_if, we_drop_say, we_drop_call, we_drop_give, we_drop_put, we_drop_fill, we_drop_drop, we_drop_copy, we_drop_lend, we_drop_sole, we_drop_move, we_drop_go, wi_drop_pf, wi_drop_psf, wi_drop_cmd, wi_drop_ls, wi_drop_ps, we_lend_set, we_lend_if, we_lend_say, we_lend_call, we_lend_give, we_lend_put, we_lend_fill, we_lend_drop, we_lend_copy, we_lend_lend, we_lend_sole, we_lend_move, we_lend_go, wi_lend_pf, wi_lend_psf, wi_lend_cmd, wi_lend_ls, wi_lend_ps, we_sole_set, we_sole_if, we_sole_say, we_sole_call, we_sole_give, we_sole_put, we_sole_fill, we_sole_drop, we_sole_copy, we_sole_lend, we_sole_sole, we_sole_move, we_sole_go, wi_sole_pf, wi_sole_psf, wi_sole_cmd, wi_sole_ls, wi_sole_ps, we_call_set, we_call_if, we_call_say, we_call_call, we_call_give, we_call_put, we_call_fill, we_call_drop, we_call_copy, we_call_lend, we_call_sole, we_call_move, we_call_go, wi_call_pf, wi_call_psf, wi_call_cmd, wi_call_ls, wi_call_ps, ho, rowL, orRest, hn.1, hn.2, hG]
    · have hd : (decide (reads R o = []) && decide (reads R u = [])) = false := by rw [← Bool.decide_and]; exact decide_eq_false hn
      rw [hd] at ho
      simp [evB_cons, evB_nil, seqB_nx, seqB_ret, seqB_exc, seqB_bk, seqB_ct, endF_ret, endF_nx, endF_exc, evS, ev, evs, evBop, evo, evc, evSr, R_ok, R_exc, R_some, O_ok, O_exc, startE, getv, lower, ixop, atD, L2.atI, L2.ixN, cmp_int, cmpne_int, cmp_lt, cmp_le, cmp_gt, cmp_ge, cmp_str, cmpne_str, bin_add, bin_sub, bin_mod, bin_div, bin_mul, bltop, slop, isaop, itemsOf, enumOf, zipOf, Tg.put, Tg.ids, setAll, wipeE, fn18, e1, e2, we_put_set, we_put_if, we_put_say, we_put_call, we_put_give, we_put_put, we_put_fill, we_put_drop, we_put_copy, we_put_lend, we_put_sole, we_put_move, we_put_go, wi_put_pf, wi_put_psf, wi_put_cmd, wi_put_ls, wi_put_ps, we_set_set, we_set_if, we_set_say, we_set_call, we_set_give, we_set_put, we_set_fill, we_set_drop, we_set_copy, we_set_lend, we_set_sole, we_set_move, we_set_go, wi_set_pf, wi_set_psf, wi_set_cmd, wi_set_ls, wi_set_ps, we_fill_set, we_fill_if, we_fill_say, we_fill_call, we_fill_give, we_fill_put, we_fill_fill, we_fill_drop, we_fill_copy, we_fill_lend, we_fill_sole, we_fill_move, we_fill_go, wi_fill_pf, wi_fill_psf, wi_fill_cmd, wi_fill_ls, wi_fill_ps, we_if_set, we_if_if, we_if_say, we_if_call, we_if_give, we_if_put, we_if_fill, we_if_drop, we_if_copy, we_if_lend, we_if_sole, we_if_move, we_if_go, wi_if_pf, wi_if_psf, wi_if_cmd, wi_if_ls, wi_if_ps, we_go_set, we_go_if, we_go_say, we_go_call, we_go_give, we_go_put, we_go_fill, we_go_drop, we_go_copy, we_go_lend, we_go_sole, we_go_move, we_go_go, wi_go_pf, wi_go_psf, wi_go_cmd, wi_go_ls, wi_go_ps, we_say_set, we_say_if, we_say_say, we_say_call, we_say_give, we_say_put, we_say_fill, we_say_drop, we_say_copy, we_say_lend, we_say_sole, we_say_move, we_say_go, wi_say_pf, wi_say_psf, wi_say_cmd, wi_say_ls, wi_say_ps, we_give_set, we_give_if, we_give_say, we_give_call, we_give_give, we_give_put, we_give_fill, we_give_drop, we_give_copy, we_give_lend, we_give_sole, we_give_move, we_give_go, wi_give_pf, wi_give_psf, wi_give_cmd, wi_give_ls, wi_give_ps, we_copy_set, we_copy_if, we_copy_say, we_copy_call, we_copy_give, we_copy_put, we_copy_fill, we_copy_drop, we_copy_copy, we_copy_lend, we_copy_sole, we_copy_move, we_copy_go, wi_copy_pf, wi_copy_psf, wi_copy_cmd, wi_copy_ls, wi_copy_ps, we_move_set, we_move_if, we_move_say, we_move_call, we_move_give, we_move_put, we_move_fill, we_move_drop, we_move_copy, we_move_lend, we_move_sole, we_move_move, we_move_go, wi_move_pf, wi_move_psf, wi_move_cmd, wi_move_ls, wi_move_ps, we_drop_set, we_drop_if, we_drop_say, we_drop_call, we_drop_give, we_drop_put, we_drop_fill, we_drop_drop, we_drop_copy, we_drop_lend, we_drop_sole, we_drop_move, we_drop_go, wi_drop_pf, wi_drop_psf, wi_drop_cmd, wi_drop_ls, wi_drop_ps, we_lend_set, we_lend_if, we_lend_say, we_lend_call, we_lend_give, we_lend_put, we_lend_fill, we_lend_drop, we_lend_copy, we_lend_lend, we_lend_sole, we_lend_move, we_lend_go, wi_lend_pf, wi_lend_psf, wi_lend_cmd, wi_lend_ls, wi_lend_ps, we_sole_set, we_sole_if, we_sole_say, we_sole_call, we_sole_give, we_sole_put, we_sole_fill, we_sole_drop, we_sole_copy, we_sole_lend, we_sole_sole, we_sole_move, we_sole_go, wi_sole_pf, wi_sole_psf, wi_sole_cmd, wi_sole_ls, wi_sole_ps, we_call_set, we_call_if, we_call_say, we_call_call, we_call_give, we_call_put, we_call_fill, we_call_drop, we_call_copy, we_call_lend, we_call_sole, we_call_move, we_call_go, wi_call_pf, wi_call_psf, wi_call_cmd, wi_call_ls, wi_call_ps, ho, rowL, orRest, hn]
  | go t =>
    have ho := or_eA []
    simp [ops] at e1 e2
    simp only [eRw] at e1 ⊢
    simp at ho
    simp [evB_cons, evB_nil, seqB_nx, seqB_ret, seqB_exc, seqB_bk, seqB_ct, endF_ret, endF_nx, endF_exc, evS, ev, evs, evBop, evo, evc, evSr, R_ok, R_exc, R_some, O_ok, O_exc, startE, getv, lower, ixop, atD, L2.atI, L2.ixN, cmp_int, cmpne_int, cmp_lt, cmp_le, cmp_gt, cmp_ge, cmp_str, cmpne_str, bin_add, bin_sub, bin_mod, bin_div, bin_mul, bltop, slop, isaop, itemsOf, enumOf, zipOf, Tg.put, Tg.ids, setAll, wipeE, fn18, e1, e2, we_put_set, we_put_if, we_put_say, we_put_call, we_put_give, we_put_put, we_put_fill, we_put_drop, we_put_copy, we_put_lend, we_put_sole, we_put_move, we_put_go, wi_put_pf, wi_put_psf, wi_put_cmd, wi_put_ls, wi_put_ps, we_set_set, we_set_if, we_set_say, we_set_call, we_set_give, we_set_put, we_set_fill, we_set_drop, we_set_copy, we_set_lend, we_set_sole, we_set_move, we_set_go, wi_set_pf, wi_set_psf, wi_set_cmd, wi_set_ls, wi_set_ps, we_fill_set, we_fill_if, we_fill_say, we_fill_call, we_fill_give, we_fill_put, we_fill_fill, we_fill_drop, we_fill_copy, we_fill_lend, we_fill_sole, we_fill_move, we_fill_go, wi_fill_pf, wi_fill_psf, wi_fill_cmd, wi_fill_ls, wi_fill_ps, we_if_set, we_if_if, we_if_say, we_if_call, we_if_give, we_if_put, we_if_fill, we_if_drop, we_if_copy, we_if_lend, we_if_sole, we_if_move, we_if_go, wi_if_pf, wi_if_psf, wi_if_cmd, wi_if_ls, wi_if_ps, we_go_set, we_go_if, we_go_say, we_go_call, we_go_give, we_go_put, we_go_fill, we_go_drop, we_go_copy, we_go_lend, we_go_sole, we_go_move, we_go_go, wi_go_pf, wi_go_psf, wi_go_cmd, wi_go_ls, wi_go_ps, we_say_set, we_say_if, we_say_say, we_say_call, we_say_give, we_say_put, we_say_fill, we_say_drop, we_say_copy, we_say_lend, we_say_sole, we_say_move, we_say_go, wi_say_pf, wi_say_psf, wi_say_cmd, wi_say_ls, wi_say_ps, we_give_set, we_give_if, we_give_say, we_give_call, we_give_give, we_give_put, we_give_fill, we_give_drop, we_give_copy, we_give_lend, we_give_sole, we_give_move, we_give_go, wi_give_pf, wi_give_psf, wi_give_cmd, wi_give_ls, wi_give_ps, we_copy_set, we_copy_if, we_copy_say, we_copy_call, we_copy_give, we_copy_put, we_copy_fill, we_copy_drop, we_copy_copy, we_copy_lend, we_copy_sole, we_copy_move, we_copy_go, wi_copy_pf, wi_copy_psf, wi_copy_cmd, wi_copy_ls, wi_copy_ps, we_move_set, we_move_if, we_move_say, we_move_call, we_move_give, we_move_put, we_move_fill, we_move_drop, we_move_copy, we_move_lend, we_move_sole, we_move_move, we_move_go, wi_move_pf, wi_move_psf, wi_move_cmd, wi_move_ls, wi_move_ps, we_drop_set, we_drop_if, we_drop_say, we_drop_call, we_drop_give, we_drop_put, we_drop_fill, we_drop_drop, we_drop_copy, we_drop_lend, we_drop_sole, we_drop_move, we_drop_go, wi_drop_pf, wi_drop_psf, wi_drop_cmd, wi_drop_ls, wi_drop_ps, we_lend_set, we_lend_if, we_lend_say, we_lend_call, we_lend_give, we_lend_put, we_lend_fill, we_lend_drop, we_lend_copy, we_lend_lend, we_lend_sole, we_lend_move, we_lend_go, wi_lend_pf, wi_lend_psf, wi_lend_cmd, wi_lend_ls, wi_lend_ps, we_sole_set, we_sole_if, we_sole_say, we_sole_call, we_sole_give, we_sole_put, we_sole_fill, we_sole_drop, we_sole_copy, we_sole_lend, we_sole_sole, we_sole_move, we_sole_go, wi_sole_pf, wi_sole_psf, wi_sole_cmd, wi_sole_ls, wi_sole_ps, we_call_set, we_call_if, we_call_say, we_call_call, we_call_give, we_call_put, we_call_fill, we_call_drop, we_call_copy, we_call_lend, we_call_sole, we_call_move, we_call_go, wi_call_pf, wi_call_psf, wi_call_cmd, wi_call_ls, wi_call_ps, ho, rowL, hG]
  | say o =>
    have ho := or_eA (reads R o)
    simp [ops] at e1 e2
    simp only [eRw] at e1 ⊢
    by_cases hn : reads R o = []
    · simp [hn] at e2 ho
      simp [evB_cons, evB_nil, seqB_nx, seqB_ret, seqB_exc, seqB_bk, seqB_ct, endF_ret, endF_nx, endF_exc, evS, ev, evs, evBop, evo, evc, evSr, R_ok, R_exc, R_some, O_ok, O_exc, startE, getv, lower, ixop, atD, L2.atI, L2.ixN, cmp_int, cmpne_int, cmp_lt, cmp_le, cmp_gt, cmp_ge, cmp_str, cmpne_str, bin_add, bin_sub, bin_mod, bin_div, bin_mul, bltop, slop, isaop, itemsOf, enumOf, zipOf, Tg.put, Tg.ids, setAll, wipeE, fn18, e1, e2, we_put_set, we_put_if, we_put_say, we_put_call, we_put_give, we_put_put, we_put_fill, we_put_drop, we_put_copy, we_put_lend, we_put_sole, we_put_move, we_put_go, wi_put_pf, wi_put_psf, wi_put_cmd, wi_put_ls, wi_put_ps, we_set_set, we_set_if, we_set_say, we_set_call, we_set_give, we_set_put, we_set_fill, we_set_drop, we_set_copy, we_set_lend, we_set_sole, we_set_move, we_set_go, wi_set_pf, wi_set_psf, wi_set_cmd, wi_set_ls, wi_set_ps, we_fill_set, we_fill_if, we_fill_say, we_fill_call, we_fill_give, we_fill_put, we_fill_fill, we_fill_drop, we_fill_copy, we_fill_lend, we_fill_sole, we_fill_move, we_fill_go, wi_fill_pf, wi_fill_psf, wi_fill_cmd, wi_fill_ls, wi_fill_ps, we_if_set, we_if_if, we_if_say, we_if_call, we_if_give, we_if_put, we_if_fill, we_if_drop, we_if_copy, we_if_lend, we_if_sole, we_if_move, we_if_go, wi_if_pf, wi_if_psf, wi_if_cmd, wi_if_ls, wi_if_ps, we_go_set, we_go_if, we_go_say, we_go_call, we_go_give, we_go_put, we_go_fill, we_go_drop, we_go_copy, we_go_lend, we_go_sole, we_go_move, we_go_go, wi_go_pf, wi_go_psf, wi_go_cmd, wi_go_ls, wi_go_ps, we_say_set, we_say_if, we_say_say, we_say_call, we_say_give, we_say_put, we_say_fill, we_say_drop, we_say_copy, we_say_lend, we_say_sole, we_say_move, we_say_go, wi_say_pf, wi_say_psf, wi_say_cmd, wi_say_ls, wi_say_ps, we_give_set, we_give_if, we_give_say, we_give_call, we_give_give, we_give_put, we_give_fill, we_give_drop, we_give_copy, we_give_lend, we_give_sole, we_give_move, we_give_go, wi_give_pf, wi_give_psf, wi_give_cmd, wi_give_ls, wi_give_ps, we_copy_set, we_copy_if, we_copy_say, we_copy_call, we_copy_give, we_copy_put, we_copy_fill, we_copy_drop, we_copy_copy, we_copy_lend, we_copy_sole, we_copy_move, we_copy_go, wi_copy_pf, wi_copy_psf, wi_copy_cmd, wi_copy_ls, wi_copy_ps, we_move_set, we_move_if, we_move_say, we_move_call, we_move_give, we_move_put, we_move_fill, we_move_drop, we_move_copy, we_move_lend, we_move_sole, we_move_move, we_move_go, wi_move_pf, wi_move_psf, wi_move_cmd, wi_move_ls, wi_move_ps, we_drop_set, we_drop_if, we_drop_say, we_drop_call, we_drop_give, we_drop_put, we_drop_fill, we_drop_drop, we_drop_copy, we_drop_lend, we_drop_sole, we_drop_move, we_drop_go, wi_drop_pf, wi_drop_psf, wi_drop_cmd, wi_drop_ls, wi_drop_ps, we_lend_set, we_lend_if, we_lend_say, we_lend_call, we_lend_give, we_lend_put, we_lend_fill, we_lend_drop, we_lend_copy, we_lend_lend, we_lend_sole, we_lend_move, we_lend_go, wi_lend_pf, wi_lend_psf, wi_lend_cmd, wi_lend_ls, wi_lend_ps, we_sole_set, we_sole_if, we_sole_say, we_sole_call, we_sole_give, we_sole_put, we_sole_fill, we_sole_drop, we_sole_copy, we_sole_lend, we_sole_sole, we_sole_move, we_sole_go, wi_sole_pf, wi_sole_psf, wi_sole_cmd, wi_sole_ls, wi_sole_ps, we_call_set, we_call_if, we_call_say, we_call_call, we_call_give, we_call_put, we_call_fill, we_call_drop, we_call_copy, we_call_lend, we_call_sole, we_call_move, we_call_go, wi_call_pf, wi_call_psf, wi_call_cmd, wi_call_ls, wi_call_ps, ho, rowL, orRest, hn, hG]
    · have hd : decide (reads R o = []) = false := decide_eq_false hn
      simp [evB_cons, evB_nil, seqB_nx, seqB_ret, seqB_exc, seqB_bk, seqB_ct, endF_ret, endF_nx, endF_exc, evS, ev, evs, evBop, evo, evc, evSr, R_ok, R_exc, R_some, O_ok, O_exc, startE, getv, lower, ixop, atD, L2.atI, L2.ixN, cmp_int, cmpne_int, cmp_lt, cmp_le, cmp_gt, cmp_ge, cmp_str, cmpne_str, bin_add, bin_sub, bin_mod, bin_div, bin_mul, bltop, slop, isaop, itemsOf, enumOf, zipOf, Tg.put, Tg.ids, setAll, wipeE, fn18, e1, e2, we_put_set, we_put_if, we_put_say, we_put_call, we_put_give, we_put_put, we_put_fill, we_put_drop, we_put_copy, we_put_lend, we_put_sole, we_put_move, we_put_go, wi_put_pf, wi_put_psf, wi_put_cmd, wi_put_ls, wi_put_ps, we_set_set, we_set_if, we_set_say, we_set_call, we_set_give, we_set_put, we_set_fill, we_set_drop, we_set_copy, we_set_lend, we_set_sole, we_set_move, we_set_go, wi_set_pf, wi_set_psf, wi_set_cmd, wi_set_ls, wi_set_ps, we_fill_set, we_fill_if, we_fill_say, we_fill_call, we_fill_give, we_fill_put, we_fill_fill, we_fill_drop, we_fill_copy, we_fill_lend, we_fill_sole, we_fill_move, we_fill_go, wi_fill_pf, wi_fill_psf, wi_fill_cmd, wi_fill_ls, wi_fill_ps, we_if_set, we_if_if, we_if_say, we_if_call, we_if_give, we_if_put, we_if_fill, we_if_drop, we_if_copy, we_if_lend, we_if_sole, we_if_move, we_if_go, wi_if_pf, wi_if_psf, wi_if_cmd, wi_if_ls, wi_if_ps, we_go_set, we_go_if, we_go_say, we_go_call, we_go_give, we_go_put, we_go_fill, we_go_drop, we_go_copy, we_go_lend, we_go_sole, we_go_move, we_go_go, wi_go_pf, wi_go_psf, wi_go_cmd, wi_go_ls, wi_go_ps, we_say_set, we_say_if, we_say_say, we_say_call, we_say_give, we_say_put, we_say_fill, we_say_drop, we_say_copy, we_say_lend, we_say_sole, we_say_move, we_say_go, wi_say_pf, wi_say_psf, wi_say_cmd, wi_say_ls, wi_say_ps, we_give_set, we_give_if, we_give_say, we_give_call, we_give_give, we_give_put, we_give_fill, we_give_drop, we_give_copy, we_give_lend, we_give_sole, we_give_move, we_give_go, wi_give_pf, wi_give_psf, wi_give_cmd, wi_give_ls, wi_give_ps, we_copy_set, we_copy_if, we_copy_say, we_copy_call, we_copy_give, we_copy_put, we_copy_fill, we_copy_drop, we_copy_copy, we_copy_lend, we_copy_sole, we_copy_move, we_copy_go, wi_copy_pf, wi_copy_psf, wi_copy_cmd, wi_copy_ls, wi_copy_ps, we_move_set, we_move_if, we_move_say, we_move_call, we_move_give, we_move_put, we_move_fill, we_move_drop, we_move_copy, we_move_lend, we_move_sole, we_move_move, we_move_go, wi_move_pf, wi_move_psf, wi_move_cmd, wi_move_ls, wi_move_ps, we_drop_set, we_drop_if, we_drop_say, we_drop_call, we_drop_give, we_drop_put, we_drop_fill, we_drop_drop, we_drop_copy, we_drop_lend, we_drop_sole, we_drop_move, we_drop_go, wi_drop_pf, wi_drop_psf, wi_drop_cmd, wi_drop_ls, wi_drop_ps, we_lend_set, we_lend_if, we_lend_say, we_lend_call, we_lend_give, we_lend_put, we_lend_fill, we_lend_drop, we_lend_copy, we_lend_lend, we_lend_sole, we_lend_move, we_lend_go, wi_lend_pf, wi_lend_psf, wi_lend_cmd, wi_lend_ls, wi_lend_ps, we_sole_set, we_sole_if, we_sole_say, we_sole_call, we_sole_give, we_sole_put, we_sole_fill, we_sole_drop, we_sole_copy, we_sole_lend, we_sole_sole, we_sole_move, we_sole_go, wi_sole_pf, wi_sole_psf, wi_sole_cmd, wi_sole_ls, wi_sole_ps, we_call_set, we_call_if, we_call_say, we_call_call, we_call_give, we_call_put, we_call_fill, we_call_drop, we_call_copy, we_call_lend, we_call_sole, we_call_move, we_call_go, wi_call_pf, wi_call_psf, wi_call_cmd, wi_call_ls, wi_call_ps, ho, rowL, orRest, hn, hd]
  | copy t s =>
    have q1 := e7 "read" "" s g.2
    have q2 := e7 "fill" "" t g.1
    have th : callF G sub tab fu (n + 13) 14 [F, eRw (.copy t s)] = .ok 1 (.lst ((rowL R (.copy t s)).map eA)) := by
      rw [callF_s fn14 rfl rfl]
      simp only [eRw]
      generalize eS s = X at *
      generalize eS t = Y at *
      simp [evB_cons, evB_nil, seqB_nx, seqB_ret, seqB_exc, seqB_bk, seqB_ct, endF_ret, endF_nx, endF_exc, evS, ev, evs, evBop, evo, evc, evSr, R_ok, R_exc, R_some, O_ok, O_exc, startE, getv, lower, cmp_int, cmpne_int, cmp_lt, cmp_le, cmp_gt, cmp_ge, cmp_str, cmpne_str, bin_add, bin_sub, bin_mod, bin_div, bin_mul, bltop, slop, isaop, itemsOf, enumOf, zipOf, Tg.put, Tg.ids, setAll, wipeE, fn14, ix_0, ix_1, ix_2, we_put_set, we_put_if, we_put_say, we_put_call, we_put_give, we_put_put, we_put_fill, we_put_drop, we_put_copy, we_put_lend, we_put_sole, we_put_move, we_put_go, wi_put_pf, wi_put_psf, wi_put_cmd, wi_put_ls, wi_put_ps, we_set_set, we_set_if, we_set_say, we_set_call, we_set_give, we_set_put, we_set_fill, we_set_drop, we_set_copy, we_set_lend, we_set_sole, we_set_move, we_set_go, wi_set_pf, wi_set_psf, wi_set_cmd, wi_set_ls, wi_set_ps, we_fill_set, we_fill_if, we_fill_say, we_fill_call, we_fill_give, we_fill_put, we_fill_fill, we_fill_drop, we_fill_copy, we_fill_lend, we_fill_sole, we_fill_move, we_fill_go, wi_fill_pf, wi_fill_psf, wi_fill_cmd, wi_fill_ls, wi_fill_ps, we_if_set, we_if_if, we_if_say, we_if_call, we_if_give, we_if_put, we_if_fill, we_if_drop, we_if_copy, we_if_lend, we_if_sole, we_if_move, we_if_go, wi_if_pf, wi_if_psf, wi_if_cmd, wi_if_ls, wi_if_ps, we_go_set, we_go_if, we_go_say, we_go_call, we_go_give, we_go_put, we_go_fill, we_go_drop, we_go_copy, we_go_lend, we_go_sole, we_go_move, we_go_go, wi_go_pf, wi_go_psf, wi_go_cmd, wi_go_ls, wi_go_ps, we_say_set, we_say_if, we_say_say, we_say_call, we_say_give, we_say_put, we_say_fill, we_say_drop, we_say_copy, we_say_lend, we_say_sole, we_say_move, we_say_go, wi_say_pf, wi_say_psf, wi_say_cmd, wi_say_ls, wi_say_ps, we_give_set, we_give_if, we_give_say, we_give_call, we_give_give, we_give_put, we_give_fill, we_give_drop, we_give_copy, we_give_lend, we_give_sole, we_give_move, we_give_go, wi_give_pf, wi_give_psf, wi_give_cmd, wi_give_ls, wi_give_ps, we_copy_set, we_copy_if, we_copy_say, we_copy_call, we_copy_give, we_copy_put, we_copy_fill, we_copy_drop, we_copy_copy, we_copy_lend, we_copy_sole, we_copy_move, we_copy_go, wi_copy_pf, wi_copy_psf, wi_copy_cmd, wi_copy_ls, wi_copy_ps, we_move_set, we_move_if, we_move_say, we_move_call, we_move_give, we_move_put, we_move_fill, we_move_drop, we_move_copy, we_move_lend, we_move_sole, we_move_move, we_move_go, wi_move_pf, wi_move_psf, wi_move_cmd, wi_move_ls, wi_move_ps, we_drop_set, we_drop_if, we_drop_say, we_drop_call, we_drop_give, we_drop_put, we_drop_fill, we_drop_drop, we_drop_copy, we_drop_lend, we_drop_sole, we_drop_move, we_drop_go, wi_drop_pf, wi_drop_psf, wi_drop_cmd, wi_drop_ls, wi_drop_ps, we_lend_set, we_lend_if, we_lend_say, we_lend_call, we_lend_give, we_lend_put, we_lend_fill, we_lend_drop, we_lend_copy, we_lend_lend, we_lend_sole, we_lend_move, we_lend_go, wi_lend_pf, wi_lend_psf, wi_lend_cmd, wi_lend_ls, wi_lend_ps, we_sole_set, we_sole_if, we_sole_say, we_sole_call, we_sole_give, we_sole_put, we_sole_fill, we_sole_drop, we_sole_copy, we_sole_lend, we_sole_sole, we_sole_move, we_sole_go, wi_sole_pf, wi_sole_psf, wi_sole_cmd, wi_sole_ls, wi_sole_ps, we_call_set, we_call_if, we_call_say, we_call_call, we_call_give, we_call_put, we_call_fill, we_call_drop, we_call_copy, we_call_lend, we_call_sole, we_call_move, we_call_go, wi_call_pf, wi_call_psf, wi_call_cmd, wi_call_ls, wi_call_ps, q1, q2, rowL]
    simp [ops] at e1 e2
    simp only [eRw] at e1 th ⊢
    generalize hZ : (rowL R (.copy t s)).map eA = Z at *
    simp [evB_cons, evB_nil, seqB_nx, seqB_ret, seqB_exc, seqB_bk, seqB_ct, endF_ret, endF_nx, endF_exc, evS, ev, evs, evBop, evo, evc, evSr, R_ok, R_exc, R_some, O_ok, O_exc, startE, getv, lower, ixop, atD, L2.atI, L2.ixN, cmp_int, cmpne_int, cmp_lt, cmp_le, cmp_gt, cmp_ge, cmp_str, cmpne_str, bin_add, bin_sub, bin_mod, bin_div, bin_mul, bltop, slop, isaop, itemsOf, enumOf, zipOf, Tg.put, Tg.ids, setAll, wipeE, fn18, e1, e2, th, we_put_set, we_put_if, we_put_say, we_put_call, we_put_give, we_put_put, we_put_fill, we_put_drop, we_put_copy, we_put_lend, we_put_sole, we_put_move, we_put_go, wi_put_pf, wi_put_psf, wi_put_cmd, wi_put_ls, wi_put_ps, we_set_set, we_set_if, we_set_say, we_set_call, we_set_give, we_set_put, we_set_fill, we_set_drop, we_set_copy, we_set_lend, we_set_sole, we_set_move, we_set_go, wi_set_pf, wi_set_psf, wi_set_cmd, wi_set_ls, wi_set_ps, we_fill_set, we_fill_if, we_fill_say, we_fill_call, we_fill_give, we_fill_put, we_fill_fill, we_fill_drop, we_fill_copy, we_fill_lend, we_fill_sole, we_fill_move, we_fill_go, wi_fill_pf, wi_fill_psf, wi_fill_cmd, wi_fill_ls, wi_fill_ps, we_if_set, we_if_if, we_if_say, we_if_call, we_if_give, we_if_put, we_if_fill, we_if_drop, we_if_copy, we_if_lend, we_if_sole, we_if_move, we_if_go, wi_if_pf, wi_if_psf, wi_if_cmd, wi_if_ls, wi_if_ps, we_go_set, we_go_if, we_go_say, we_go_call, we_go_give, we_go_put, we_go_fill, we_go_drop, we_go_copy, we_go_lend, we_go_sole, we_go_move, we_go_go, wi_go_pf, wi_go_psf, wi_go_cmd, wi_go_ls, wi_go_ps, we_say_set, we_say_if, we_say_say, we_say_call, we_say_give, we_say_put, we_say_fill, we_say_drop, we_say_copy, we_say_lend, we_say_sole, we_say_move, we_say_go, wi_say_pf, wi_say_psf, wi_say_cmd, wi_say_ls, wi_say_ps, we_give_set, we_give_if, we_give_say, we_give_call, we_give_give, we_give_put, we_give_fill, we_give_drop, we_give_copy, we_give_lend, we_give_sole, we_give_move, we_give_go, wi_give_pf, wi_give_psf, wi_give_cmd, wi_give_ls, wi_give_ps, we_copy_set, we_copy_if, we_copy_say, we_copy_call, we_copy_give, we_copy_put, we_copy_fill, we_copy_drop, we_copy_copy, we_copy_lend, we_copy_sole, we_copy_move, we_copy_go, wi_copy_pf, wi_copy_psf, wi_copy_cmd, wi_copy_ls, wi_copy_ps, we_move_set, we_move_if, we_move_say, we_move_call, we_move_give, we_move_put, we_move_fill, we_move_drop, we_move_copy, we_move_lend, we_move_sole, we_move_move, we_move_go, wi_move_pf, wi_move_psf, wi_move_cmd, wi_move_ls, wi_move_ps, we_drop_set, we_drop_if, we_drop_say, we_drop_call, we_drop_give, we_drop_put, we_drop_fill, we_drop_drop, we_drop_copy, we_drop_lend, we_drop_sole, we_drop_move, we_drop_go, wi_drop_pf, wi_drop_psf, wi_drop_cmd, wi_drop_ls, wi_drop_ps, we_lend_set, we_lend_if, we_lend_say, we_lend_call, we_lend_give, we_lend_put, we_lend_fill, we_lend_drop, we_lend_copy, we_lend_lend, we_lend_sole, we_lend_move, we_lend_go, wi_lend_pf, wi_lend_psf, wi_lend_cmd, wi_lend_ls, wi_lend_ps, we_sole_set, we_sole_if, we_sole_say, we_sole_call, we_sole_give, we_sole_put, we_sole_fill, we_sole_drop, we_sole_copy, we_sole_lend, we_sole_sole, we_sole_move, we_sole_go, wi_sole_pf, wi_sole_psf, wi_sole_cmd, wi_sole_ls, wi_sole_ps, we_call_set, we_call_if, we_call_say, we_call_call, we_call_give, we_call_put, we_call_fill, we_call_drop, we_call_copy, we_call_lend, we_call_sole, we_call_move, we_call_go, wi_call_pf, wi_call_psf, wi_call_cmd, wi_call_ls, wi_call_ps, bin_cat, ho]
  | move t s =>
    have q1 := e7 "empty" "" s g.2
    have q2 := e7 "fill" "" t g.1
    have th : callF G sub tab fu (n + 13) 14 [F, eRw (.move t s)] = .ok 1 (.lst ((rowL R (.move t s)).map eA)) := by
      rw [callF_s fn14 rfl rfl]
      simp only [eRw]
      generalize eS s = X at *
      generalize eS t = Y at *
      simp [evB_cons, evB_nil, seqB_nx, seqB_ret, seqB_exc, seqB_bk, seqB_ct, endF_ret, endF_nx, endF_exc, evS, ev, evs, evBop, evo, evc, evSr, R_ok, R_exc, R_some, O_ok, O_exc, startE, getv, lower, cmp_int, cmpne_int, cmp_lt, cmp_le, cmp_gt, cmp_ge, cmp_str, cmpne_str, bin_add, bin_sub, bin_mod, bin_div, bin_mul, bltop, slop, isaop, itemsOf, enumOf, zipOf, Tg.put, Tg.ids, setAll, wipeE, fn14, ix_0, ix_1, ix_2, we_put_set, we_put_if, we_put_say, we_put_call, we_put_give, we_put_put, we_put_fill, we_put_drop, we_put_copy, we_put_lend, we_put_sole, we_put_move, we_put_go, wi_put_pf, wi_put_psf, wi_put_cmd, wi_put_ls, wi_put_ps, we_set_set, we_set_if, we_set_say, we_set_call, we_set_give, we_set_put, we_set_fill, we_set_drop, we_set_copy, we_set_lend, we_set_sole, we_set_move, we_set_go, wi_set_pf, wi_set_psf, wi_set_cmd, wi_set_ls, wi_set_ps, we_fill_set, we_fill_if, we_fill_say, we_fill_call, we_fill_give, we_fill_put, we_fill_fill, we_fill_drop, we_fill_copy, we_fill_lend, we_fill_sole, we_fill_move, we_fill_go, wi_fill_pf, wi_fill_psf, wi_fill_cmd, wi_fill_ls, wi_fill_ps, we_if_set, we_if_if, we_if_say, we_if_call, we_if_give, we_if_put, we_if_fill, we_if_drop, we_if_copy, we_if_lend, we_if_sole, we_if_move, we_if_go, wi_if_pf, wi_if_psf, wi_if_cmd, wi_if_ls, wi_if_ps, we_go_set, we_go_if, we_go_say, we_go_call, we_go_give, we_go_put, we_go_fill, we_go_drop, we_go_copy, we_go_lend, we_go_sole, we_go_move, we_go_go, wi_go_pf, wi_go_psf, wi_go_cmd, wi_go_ls, wi_go_ps, we_say_set, we_say_if, we_say_say, we_say_call, we_say_give, we_say_put, we_say_fill, we_say_drop, we_say_copy, we_say_lend, we_say_sole, we_say_move, we_say_go, wi_say_pf, wi_say_psf, wi_say_cmd, wi_say_ls, wi_say_ps, we_give_set, we_give_if, we_give_say, we_give_call, we_give_give, we_give_put, we_give_fill, we_give_drop, we_give_copy, we_give_lend, we_give_sole, we_give_move, we_give_go, wi_give_pf, wi_give_psf, wi_give_cmd, wi_give_ls, wi_give_ps, we_copy_set, we_copy_if, we_copy_say, we_copy_call, we_copy_give, we_copy_put, we_copy_fill, we_copy_drop, we_copy_copy, we_copy_lend, we_copy_sole, we_copy_move, we_copy_go, wi_copy_pf, wi_copy_psf, wi_copy_cmd, wi_copy_ls, wi_copy_ps, we_move_set, we_move_if, we_move_say, we_move_call, we_move_give, we_move_put, we_move_fill, we_move_drop, we_move_copy, we_move_lend, we_move_sole, we_move_move, we_move_go, wi_move_pf, wi_move_psf, wi_move_cmd, wi_move_ls, wi_move_ps, we_drop_set, we_drop_if, we_drop_say, we_drop_call, we_drop_give, we_drop_put, we_drop_fill, we_drop_drop, we_drop_copy, we_drop_lend, we_drop_sole, we_drop_move, we_drop_go, wi_drop_pf, wi_drop_psf, wi_drop_cmd, wi_drop_ls, wi_drop_ps, we_lend_set, we_lend_if, we_lend_say, we_lend_call, we_lend_give, we_lend_put, we_lend_fill, we_lend_drop, we_lend_copy, we_lend_lend, we_lend_sole, we_lend_move, we_lend_go, wi_lend_pf, wi_lend_psf, wi_lend_cmd, wi_lend_ls, wi_lend_ps, we_sole_set, we_sole_if, we_sole_say, we_sole_call, we_sole_give, we_sole_put, we_sole_fill, we_sole_drop, we_sole_copy, we_sole_lend, we_sole_sole, we_sole_move, we_sole_go, wi_sole_pf, wi_sole_psf, wi_sole_cmd, wi_sole_ls, wi_sole_ps, we_call_set, we_call_if, we_call_say, we_call_call, we_call_give, we_call_put, we_call_fill, we_call_drop, we_call_copy, we_call_lend, we_call_sole, we_call_move, we_call_go, wi_call_pf, wi_call_psf, wi_call_cmd, wi_call_ls, wi_call_ps, q1, q2, rowL]
    simp [ops] at e1 e2
    simp only [eRw] at e1 th ⊢
    generalize hZ : (rowL R (.move t s)).map eA = Z at *
    simp [evB_cons, evB_nil, seqB_nx, seqB_ret, seqB_exc, seqB_bk, seqB_ct, endF_ret, endF_nx, endF_exc, evS, ev, evs, evBop, evo, evc, evSr, R_ok, R_exc, R_some, O_ok, O_exc, startE, getv, lower, ixop, atD, L2.atI, L2.ixN, cmp_int, cmpne_int, cmp_lt, cmp_le, cmp_gt, cmp_ge, cmp_str, cmpne_str, bin_add, bin_sub, bin_mod, bin_div, bin_mul, bltop, slop, isaop, itemsOf, enumOf, zipOf, Tg.put, Tg.ids, setAll, wipeE, fn18, e1, e2, th, we_put_set, we_put_if, we_put_say, we_put_call, we_put_give, we_put_put, we_put_fill, we_put_drop, we_put_copy, we_put_lend, we_put_sole, we_put_move, we_put_go, wi_put_pf, wi_put_psf, wi_put_cmd, wi_put_ls, wi_put_ps, we_set_set, we_set_if, we_set_say, we_set_call, we_set_give, we_set_put, we_set_fill, we_set_drop, we_set_copy, we_set_lend, we_set_sole, we_set_move, we_set_go, wi_set_pf, wi_set_psf, wi_set_cmd, wi_set_ls, wi_set_ps, we_fill_set, we_fill_if, we_fill_say, we_fill_call, we_fill_give, we_fill_put, we_fill_fill, we_fill_drop, we_fill_copy, we_fill_lend, we_fill_sole, we_fill_move, we_fill_go, wi_fill_pf, wi_fill_psf, wi_fill_cmd, wi_fill_ls, wi_fill_ps, we_if_set, we_if_if, we_if_say, we_if_call, we_if_give, we_if_put, we_if_fill, we_if_drop, we_if_copy, we_if_lend, we_if_sole, we_if_move, we_if_go, wi_if_pf, wi_if_psf, wi_if_cmd, wi_if_ls, wi_if_ps, we_go_set, we_go_if, we_go_say, we_go_call, we_go_give, we_go_put, we_go_fill, we_go_drop, we_go_copy, we_go_lend, we_go_sole, we_go_move, we_go_go, wi_go_pf, wi_go_psf, wi_go_cmd, wi_go_ls, wi_go_ps, we_say_set, we_say_if, we_say_say, we_say_call, we_say_give, we_say_put, we_say_fill, we_say_drop, we_say_copy, we_say_lend, we_say_sole, we_say_move, we_say_go, wi_say_pf, wi_say_psf, wi_say_cmd, wi_say_ls, wi_say_ps, we_give_set, we_give_if, we_give_say, we_give_call, we_give_give, we_give_put, we_give_fill, we_give_drop, we_give_copy, we_give_lend, we_give_sole, we_give_move, we_give_go, wi_give_pf, wi_give_psf, wi_give_cmd, wi_give_ls, wi_give_ps, we_copy_set, we_copy_if, we_copy_say, we_copy_call, we_copy_give, we_copy_put, we_copy_fill, we_copy_drop, we_copy_copy, we_copy_lend, we_copy_sole, we_copy_move, we_copy_go, wi_copy_pf, wi_copy_psf, wi_copy_cmd, wi_copy_ls, wi_copy_ps, we_move_set, we_move_if, we_move_say, we_move_call, we_move_give, we_move_put, we_move_fill, we_move_drop, we_move_copy, we_move_lend, we_move_sole, we_move_move, we_move_go, wi_move_pf, wi_move_psf, wi_move_cmd, wi_move_ls, wi_move_ps, we_drop_set, we_drop_if, we_drop_say, we_drop_call, we_drop_give, we_drop_put, we_drop_fill, we_drop_drop, we_drop_copy, we_drop_lend, we_drop_sole, we_drop_move, we_drop_go, wi_drop_pf, wi_drop_psf, wi_drop_cmd, wi_drop_ls, wi_drop_ps, we_lend_set, we_lend_if, we_lend_say, we_lend_call, we_lend_give, we_lend_put, we_lend_fill, we_lend_drop, we_lend_copy, we_lend_lend, we_lend_sole, we_lend_move, we_lend_go, wi_lend_pf, wi_lend_psf, wi_lend_cmd, wi_lend_ls, wi_lend_ps, we_sole_set, we_sole_if, we_sole_say, we_sole_call, we_sole_give, we_sole_put, we_sole_fill, we_sole_drop, we_sole_copy, we_sole_lend, we_sole_sole, we_sole_move, we_sole_go, wi_sole_pf, wi_sole_psf, wi_sole_cmd, wi_sole_ls, wi_sole_ps, we_call_set, we_call_if, we_call_say, we_call_call, we_call_give, we_call_put, we_call_fill, we_call_drop, we_call_copy, we_call_lend, we_call_sole, we_call_move, we_call_go, wi_call_pf, wi_call_psf, wi_call_cmd, wi_call_ls, wi_call_ps, bin_cat, ho]
  | drop s =>
    have q1 := e7 "empty" "" s g
    have th : callF G sub tab fu (n + 13) 14 [F, eRw (.drop s)] = .ok 1 (.lst ((rowL R (.drop s)).map eA)) := by
      rw [callF_s fn14 rfl rfl]
      simp only [eRw]
      generalize eS s = X at *
      simp [evB_cons, evB_nil, seqB_nx, seqB_ret, seqB_exc, seqB_bk, seqB_ct, endF_ret, endF_nx, endF_exc, evS, ev, evs, evBop, evo, evc, evSr, R_ok, R_exc, R_some, O_ok, O_exc, startE, getv, lower, cmp_int, cmpne_int, cmp_lt, cmp_le, cmp_gt, cmp_ge, cmp_str, cmpne_str, bin_add, bin_sub, bin_mod, bin_div, bin_mul, bltop, slop, isaop, itemsOf, enumOf, zipOf, Tg.put, Tg.ids, setAll, wipeE, fn14, ix_0, ix_1, ix_2, we_put_set, we_put_if, we_put_say, we_put_call, we_put_give, we_put_put, we_put_fill, we_put_drop, we_put_copy, we_put_lend, we_put_sole, we_put_move, we_put_go, wi_put_pf, wi_put_psf, wi_put_cmd, wi_put_ls, wi_put_ps, we_set_set, we_set_if, we_set_say, we_set_call, we_set_give, we_set_put, we_set_fill, we_set_drop, we_set_copy, we_set_lend, we_set_sole, we_set_move, we_set_go, wi_set_pf, wi_set_psf, wi_set_cmd, wi_set_ls, wi_set_ps, we_fill_set, we_fill_if, we_fill_say, we_fill_call, we_fill_give, we_fill_put, we_fill_fill, we_fill_drop, we_fill_copy, we_fill_lend, we_fill_sole, we_fill_move, we_fill_go, wi_fill_pf, wi_fill_psf, wi_fill_cmd, wi_fill_ls, wi_fill_ps, we_if_set, we_if_if, we_if_say, we_if_call, we_if_give, we_if_put, we_if_fill, we_if_drop, we_if_copy, we_if_lend, we_if_sole, we_if_move, we_if_go, wi_if_pf, wi_if_psf, wi_if_cmd, wi_if_ls, wi_if_ps, we_go_set, we_go_if, we_go_say, we_go_call, we_go_give, we_go_put, we_go_fill, we_go_drop, we_go_copy, we_go_lend, we_go_sole, we_go_move, we_go_go, wi_go_pf, wi_go_psf, wi_go_cmd, wi_go_ls, wi_go_ps, we_say_set, we_say_if, we_say_say, we_say_call, we_say_give, we_say_put, we_say_fill, we_say_drop, we_say_copy, we_say_lend, we_say_sole, we_say_move, we_say_go, wi_say_pf, wi_say_psf, wi_say_cmd, wi_say_ls, wi_say_ps, we_give_set, we_give_if, we_give_say, we_give_call, we_give_give, we_give_put, we_give_fill, we_give_drop, we_give_copy, we_give_lend, we_give_sole, we_give_move, we_give_go, wi_give_pf, wi_give_psf, wi_give_cmd, wi_give_ls, wi_give_ps, we_copy_set, we_copy_if, we_copy_say, we_copy_call, we_copy_give, we_copy_put, we_copy_fill, we_copy_drop, we_copy_copy, we_copy_lend, we_copy_sole, we_copy_move, we_copy_go, wi_copy_pf, wi_copy_psf, wi_copy_cmd, wi_copy_ls, wi_copy_ps, we_move_set, we_move_if, we_move_say, we_move_call, we_move_give, we_move_put, we_move_fill, we_move_drop, we_move_copy, we_move_lend, we_move_sole, we_move_move, we_move_go, wi_move_pf, wi_move_psf, wi_move_cmd, wi_move_ls, wi_move_ps, we_drop_set, we_drop_if, we_drop_say, we_drop_call, we_drop_give, we_drop_put, we_drop_fill, we_drop_drop, we_drop_copy, we_drop_lend, we_drop_sole, we_drop_move, we_drop_go, wi_drop_pf, wi_drop_psf, wi_drop_cmd, wi_drop_ls, wi_drop_ps, we_lend_set, we_lend_if, we_lend_say, we_lend_call, we_lend_give, we_lend_put, we_lend_fill, we_lend_drop, we_lend_copy, we_lend_lend, we_lend_sole, we_lend_move, we_lend_go, wi_lend_pf, wi_lend_psf, wi_lend_cmd, wi_lend_ls, wi_lend_ps, we_sole_set, we_sole_if, we_sole_say, we_sole_call, we_sole_give, we_sole_put, we_sole_fill, we_sole_drop, we_sole_copy, we_sole_lend, we_sole_sole, we_sole_move, we_sole_go, wi_sole_pf, wi_sole_psf, wi_sole_cmd, wi_sole_ls, wi_sole_ps, we_call_set, we_call_if, we_call_say, we_call_call, we_call_give, we_call_put, we_call_fill, we_call_drop, we_call_copy, we_call_lend, we_call_sole, we_call_move, we_call_go, wi_call_pf, wi_call_psf, wi_call_cmd, wi_call_ls, wi_call_ps, q1, rowL]
    simp [ops] at e1 e2
    simp only [eRw] at e1 th ⊢
    generalize hZ : (rowL R (.drop s)).map eA = Z at *
    simp [evB_cons, evB_nil, seqB_nx, seqB_ret, seqB_exc, seqB_bk, seqB_ct, endF_ret, endF_nx, endF_exc, evS, ev, evs, evBop, evo, evc, evSr, R_ok, R_exc, R_some, O_ok, O_exc, startE, getv, lower, ixop, atD, L2.atI, L2.ixN, cmp_int, cmpne_int, cmp_lt, cmp_le, cmp_gt, cmp_ge, cmp_str, cmpne_str, bin_add, bin_sub, bin_mod, bin_div, bin_mul, bltop, slop, isaop, itemsOf, enumOf, zipOf, Tg.put, Tg.ids, setAll, wipeE, fn18, e1, e2, th, we_put_set, we_put_if, we_put_say, we_put_call, we_put_give, we_put_put, we_put_fill, we_put_drop, we_put_copy, we_put_lend, we_put_sole, we_put_move, we_put_go, wi_put_pf, wi_put_psf, wi_put_cmd, wi_put_ls, wi_put_ps, we_set_set, we_set_if, we_set_say, we_set_call, we_set_give, we_set_put, we_set_fill, we_set_drop, we_set_copy, we_set_lend, we_set_sole, we_set_move, we_set_go, wi_set_pf, wi_set_psf, wi_set_cmd, wi_set_ls, wi_set_ps, we_fill_set, we_fill_if, we_fill_say, we_fill_call, we_fill_give, we_fill_put, we_fill_fill, we_fill_drop, we_fill_copy, we_fill_lend, we_fill_sole, we_fill_move, we_fill_go, wi_fill_pf, wi_fill_psf, wi_fill_cmd, wi_fill_ls, wi_fill_ps, we_if_set, we_if_if, we_if_say, we_if_call, we_if_give, we_if_put, we_if_fill, we_if_drop, we_if_copy, we_if_lend, we_if_sole, we_if_move, we_if_go, wi_if_pf, wi_if_psf, wi_if_cmd, wi_if_ls, wi_if_ps, we_go_set, we_go_if, we_go_say, we_go_call, we_go_give, we_go_put, we_go_fill, we_go_drop, we_go_copy, we_go_lend, we_go_sole, we_go_move, we_go_go, wi_go_pf, wi_go_psf, wi_go_cmd, wi_go_ls, wi_go_ps, we_say_set, we_say_if, we_say_say, we_say_call, we_say_give, we_say_put, we_say_fill, we_say_drop, we_say_copy, we_say_lend, we_say_sole, we_say_move, we_say_go, wi_say_pf, wi_say_psf, wi_say_cmd, wi_say_ls, wi_say_ps, we_give_set, we_give_if, we_give_say, we_give_call, we_give_give, we_give_put, we_give_fill, we_give_drop, we_give_copy, we_give_lend, we_give_sole, we_give_move, we_give_go, wi_give_pf, wi_give_psf, wi_give_cmd, wi_give_ls, wi_give_ps, we_copy_set, we_copy_if, we_copy_say, we_copy_call, we_copy_give, we_copy_put, we_copy_fill, we_copy_drop, we_copy_copy, we_copy_lend, we_copy_sole, we_copy_move, we_copy_go, wi_copy_pf, wi_copy_psf, wi_copy_cmd, wi_copy_ls, wi_copy_ps, we_move_set, we_move_if, we_move_say, we_move_call, we_move_give, we_move_put, we_move_fill, we_move_drop, we_move_copy, we_move_lend, we_move_sole, we_move_move, we_move_go, wi_move_pf, wi_move_psf, wi_move_cmd, wi_move_ls, wi_move_ps, we_drop_set, we_drop_if, we_drop_say, we_drop_call, we_drop_give, we_drop_put, we_drop_fill, we_drop_drop, we_drop_copy, we_drop_lend, we_drop_sole, we_drop_move, we_drop_go, wi_drop_pf, wi_drop_psf, wi_drop_cmd, wi_drop_ls, wi_drop_ps, we_lend_set, we_lend_if, we_lend_say, we_lend_call, we_lend_give, we_lend_put, we_lend_fill, we_lend_drop, we_lend_copy, we_lend_lend, we_lend_sole, we_lend_move, we_lend_go, wi_lend_pf, wi_lend_psf, wi_lend_cmd, wi_lend_ls, wi_lend_ps, we_sole_set, we_sole_if, we_sole_say, we_sole_call, we_sole_give, we_sole_put, we_sole_fill, we_sole_drop, we_sole_copy, we_sole_lend, we_sole_sole, we_sole_move, we_sole_go, wi_sole_pf, wi_sole_psf, wi_sole_cmd, wi_sole_ls, wi_sole_ps, we_call_set, we_call_if, we_call_say, we_call_call, we_call_give, we_call_put, we_call_fill, we_call_drop, we_call_copy, we_call_lend, we_call_sole, we_call_move, we_call_go, wi_call_pf, wi_call_psf, wi_call_cmd, wi_call_ls, wi_call_ps, bin_cat, ho]
  | lend m s =>
    have q1 := e6 "lend" (cat m) s g.2
    simp [ops] at e1 e2
    simp only [eRw, rowL] at e1 ho ⊢
    simp at ho
    have hdS : dS m = .str (cat m) := rfl
    rw [hdS] at e1 ⊢
    generalize eS s = X at *
    simp [evB_cons, evB_nil, seqB_nx, seqB_ret, seqB_exc, seqB_bk, seqB_ct, endF_ret, endF_nx, endF_exc, evS, ev, evs, evBop, evo, evc, evSr, R_ok, R_exc, R_some, O_ok, O_exc, startE, getv, lower, ixop, atD, L2.atI, L2.ixN, cmp_int, cmpne_int, cmp_lt, cmp_le, cmp_gt, cmp_ge, cmp_str, cmpne_str, bin_add, bin_sub, bin_mod, bin_div, bin_mul, bltop, slop, isaop, itemsOf, enumOf, zipOf, Tg.put, Tg.ids, setAll, wipeE, fn18, e1, e2, q1, we_put_set, we_put_if, we_put_say, we_put_call, we_put_give, we_put_put, we_put_fill, we_put_drop, we_put_copy, we_put_lend, we_put_sole, we_put_move, we_put_go, wi_put_pf, wi_put_psf, wi_put_cmd, wi_put_ls, wi_put_ps, we_set_set, we_set_if, we_set_say, we_set_call, we_set_give, we_set_put, we_set_fill, we_set_drop, we_set_copy, we_set_lend, we_set_sole, we_set_move, we_set_go, wi_set_pf, wi_set_psf, wi_set_cmd, wi_set_ls, wi_set_ps, we_fill_set, we_fill_if, we_fill_say, we_fill_call, we_fill_give, we_fill_put, we_fill_fill, we_fill_drop, we_fill_copy, we_fill_lend, we_fill_sole, we_fill_move, we_fill_go, wi_fill_pf, wi_fill_psf, wi_fill_cmd, wi_fill_ls, wi_fill_ps, we_if_set, we_if_if, we_if_say, we_if_call, we_if_give, we_if_put, we_if_fill, we_if_drop, we_if_copy, we_if_lend, we_if_sole, we_if_move, we_if_go, wi_if_pf, wi_if_psf, wi_if_cmd, wi_if_ls, wi_if_ps, we_go_set, we_go_if, we_go_say, we_go_call, we_go_give, we_go_put, we_go_fill, we_go_drop, we_go_copy, we_go_lend, we_go_sole, we_go_move, we_go_go, wi_go_pf, wi_go_psf, wi_go_cmd, wi_go_ls, wi_go_ps, we_say_set, we_say_if, we_say_say, we_say_call, we_say_give, we_say_put, we_say_fill, we_say_drop, we_say_copy, we_say_lend, we_say_sole, we_say_move, we_say_go, wi_say_pf, wi_say_psf, wi_say_cmd, wi_say_ls, wi_say_ps, we_give_set, we_give_if, we_give_say, we_give_call, we_give_give, we_give_put, we_give_fill, we_give_drop, we_give_copy, we_give_lend, we_give_sole, we_give_move, we_give_go, wi_give_pf, wi_give_psf, wi_give_cmd, wi_give_ls, wi_give_ps, we_copy_set, we_copy_if, we_copy_say, we_copy_call, we_copy_give, we_copy_put, we_copy_fill, we_copy_drop, we_copy_copy, we_copy_lend, we_copy_sole, we_copy_move, we_copy_go, wi_copy_pf, wi_copy_psf, wi_copy_cmd, wi_copy_ls, wi_copy_ps, we_move_set, we_move_if, we_move_say, we_move_call, we_move_give, we_move_put, we_move_fill, we_move_drop, we_move_copy, we_move_lend, we_move_sole, we_move_move, we_move_go, wi_move_pf, wi_move_psf, wi_move_cmd, wi_move_ls, wi_move_ps, we_drop_set, we_drop_if, we_drop_say, we_drop_call, we_drop_give, we_drop_put, we_drop_fill, we_drop_drop, we_drop_copy, we_drop_lend, we_drop_sole, we_drop_move, we_drop_go, wi_drop_pf, wi_drop_psf, wi_drop_cmd, wi_drop_ls, wi_drop_ps, we_lend_set, we_lend_if, we_lend_say, we_lend_call, we_lend_give, we_lend_put, we_lend_fill, we_lend_drop, we_lend_copy, we_lend_lend, we_lend_sole, we_lend_move, we_lend_go, wi_lend_pf, wi_lend_psf, wi_lend_cmd, wi_lend_ls, wi_lend_ps, we_sole_set, we_sole_if, we_sole_say, we_sole_call, we_sole_give, we_sole_put, we_sole_fill, we_sole_drop, we_sole_copy, we_sole_lend, we_sole_sole, we_sole_move, we_sole_go, wi_sole_pf, wi_sole_psf, wi_sole_cmd, wi_sole_ls, wi_sole_ps, we_call_set, we_call_if, we_call_say, we_call_call, we_call_give, we_call_put, we_call_fill, we_call_drop, we_call_copy, we_call_lend, we_call_sole, we_call_move, we_call_go, wi_call_pf, wi_call_psf, wi_call_cmd, wi_call_ls, wi_call_ps, ho]
  | sole m s =>
    have q1 := e6 "sole" (cat m) s g.2
    simp [ops] at e1 e2
    simp only [eRw, rowL] at e1 ho ⊢
    simp at ho
    have hdS : dS m = .str (cat m) := rfl
    rw [hdS] at e1 ⊢
    generalize eS s = X at *
    simp [evB_cons, evB_nil, seqB_nx, seqB_ret, seqB_exc, seqB_bk, seqB_ct, endF_ret, endF_nx, endF_exc, evS, ev, evs, evBop, evo, evc, evSr, R_ok, R_exc, R_some, O_ok, O_exc, startE, getv, lower, ixop, atD, L2.atI, L2.ixN, cmp_int, cmpne_int, cmp_lt, cmp_le, cmp_gt, cmp_ge, cmp_str, cmpne_str, bin_add, bin_sub, bin_mod, bin_div, bin_mul, bltop, slop, isaop, itemsOf, enumOf, zipOf, Tg.put, Tg.ids, setAll, wipeE, fn18, e1, e2, q1, we_put_set, we_put_if, we_put_say, we_put_call, we_put_give, we_put_put, we_put_fill, we_put_drop, we_put_copy, we_put_lend, we_put_sole, we_put_move, we_put_go, wi_put_pf, wi_put_psf, wi_put_cmd, wi_put_ls, wi_put_ps, we_set_set, we_set_if, we_set_say, we_set_call, we_set_give, we_set_put, we_set_fill, we_set_drop, we_set_copy, we_set_lend, we_set_sole, we_set_move, we_set_go, wi_set_pf, wi_set_psf, wi_set_cmd, wi_set_ls, wi_set_ps, we_fill_set, we_fill_if, we_fill_say, we_fill_call, we_fill_give, we_fill_put, we_fill_fill, we_fill_drop, we_fill_copy, we_fill_lend, we_fill_sole, we_fill_move, we_fill_go, wi_fill_pf, wi_fill_psf, wi_fill_cmd, wi_fill_ls, wi_fill_ps, we_if_set, we_if_if, we_if_say, we_if_call, we_if_give, we_if_put, we_if_fill, we_if_drop, we_if_copy, we_if_lend, we_if_sole, we_if_move, we_if_go, wi_if_pf, wi_if_psf, wi_if_cmd, wi_if_ls, wi_if_ps, we_go_set, we_go_if, we_go_say, we_go_call, we_go_give, we_go_put, we_go_fill, we_go_drop, we_go_copy, we_go_lend, we_go_sole, we_go_move, we_go_go, wi_go_pf, wi_go_psf, wi_go_cmd, wi_go_ls, wi_go_ps, we_say_set, we_say_if, we_say_say, we_say_call, we_say_give, we_say_put, we_say_fill, we_say_drop, we_say_copy, we_say_lend, we_say_sole, we_say_move, we_say_go, wi_say_pf, wi_say_psf, wi_say_cmd, wi_say_ls, wi_say_ps, we_give_set, we_give_if, we_give_say, we_give_call, we_give_give, we_give_put, we_give_fill, we_give_drop, we_give_copy, we_give_lend, we_give_sole, we_give_move, we_give_go, wi_give_pf, wi_give_psf, wi_give_cmd, wi_give_ls, wi_give_ps, we_copy_set, we_copy_if, we_copy_say, we_copy_call, we_copy_give, we_copy_put, we_copy_fill, we_copy_drop, we_copy_copy, we_copy_lend, we_copy_sole, we_copy_move, we_copy_go, wi_copy_pf, wi_copy_psf, wi_copy_cmd, wi_copy_ls, wi_copy_ps, we_move_set, we_move_if, we_move_say, we_move_call, we_move_give, we_move_put, we_move_fill, we_move_drop, we_move_copy, we_move_lend, we_move_sole, we_move_move, we_move_go, wi_move_pf, wi_move_psf, wi_move_cmd, wi_move_ls, wi_move_ps, we_drop_set, we_drop_if, we_drop_say, we_drop_call, we_drop_give, we_drop_put, we_drop_fill, we_drop_drop, we_drop_copy, we_drop_lend, we_drop_sole, we_drop_move, we_drop_go, wi_drop_pf, wi_drop_psf, wi_drop_cmd, wi_drop_ls, wi_drop_ps, we_lend_set, we_lend_if, we_lend_say, we_lend_call, we_lend_give, we_lend_put, we_lend_fill, we_lend_drop, we_lend_copy, we_lend_lend, we_lend_sole, we_lend_move, we_lend_go, wi_lend_pf, wi_lend_psf, wi_lend_cmd, wi_lend_ls, wi_lend_ps, we_sole_set, we_sole_if, we_sole_say, we_sole_call, we_sole_give, we_sole_put, we_sole_fill, we_sole_drop, we_sole_copy, we_sole_lend, we_sole_sole, we_sole_move, we_sole_go, wi_sole_pf, wi_sole_psf, wi_sole_cmd, wi_sole_ls, wi_sole_ps, we_call_set, we_call_if, we_call_say, we_call_call, we_call_give, we_call_put, we_call_fill, we_call_drop, we_call_copy, we_call_lend, we_call_sole, we_call_move, we_call_go, wi_call_pf, wi_call_psf, wi_call_cmd, wi_call_ls, wi_call_ps, ho]
  | call m f as =>
    have q1 := e5 m f as g
    simp [ops] at e1 e2
    have hw : rowL R (.call m f as) = argsA R 0 as ++ [HAND] ++ takeL R m := rfl
    rw [← hw] at q1
    simp only [eRw] at e1 q1 ⊢
    generalize hZ : (rowL R (.call m f as)).map eA = Z at *
    simp [evB_cons, evB_nil, seqB_nx, seqB_ret, seqB_exc, seqB_bk, seqB_ct, endF_ret, endF_nx, endF_exc, evS, ev, evs, evBop, evo, evc, evSr, R_ok, R_exc, R_some, O_ok, O_exc, startE, getv, lower, ixop, atD, L2.atI, L2.ixN, cmp_int, cmpne_int, cmp_lt, cmp_le, cmp_gt, cmp_ge, cmp_str, cmpne_str, bin_add, bin_sub, bin_mod, bin_div, bin_mul, bltop, slop, isaop, itemsOf, enumOf, zipOf, Tg.put, Tg.ids, setAll, wipeE, fn18, e1, e2, q1, we_put_set, we_put_if, we_put_say, we_put_call, we_put_give, we_put_put, we_put_fill, we_put_drop, we_put_copy, we_put_lend, we_put_sole, we_put_move, we_put_go, wi_put_pf, wi_put_psf, wi_put_cmd, wi_put_ls, wi_put_ps, we_set_set, we_set_if, we_set_say, we_set_call, we_set_give, we_set_put, we_set_fill, we_set_drop, we_set_copy, we_set_lend, we_set_sole, we_set_move, we_set_go, wi_set_pf, wi_set_psf, wi_set_cmd, wi_set_ls, wi_set_ps, we_fill_set, we_fill_if, we_fill_say, we_fill_call, we_fill_give, we_fill_put, we_fill_fill, we_fill_drop, we_fill_copy, we_fill_lend, we_fill_sole, we_fill_move, we_fill_go, wi_fill_pf, wi_fill_psf, wi_fill_cmd, wi_fill_ls, wi_fill_ps, we_if_set, we_if_if, we_if_say, we_if_call, we_if_give, we_if_put, we_if_fill, we_if_drop, we_if_copy, we_if_lend, we_if_sole, we_if_move, we_if_go, wi_if_pf, wi_if_psf, wi_if_cmd, wi_if_ls, wi_if_ps, we_go_set, we_go_if, we_go_say, we_go_call, we_go_give, we_go_put, we_go_fill, we_go_drop, we_go_copy, we_go_lend, we_go_sole, we_go_move, we_go_go, wi_go_pf, wi_go_psf, wi_go_cmd, wi_go_ls, wi_go_ps, we_say_set, we_say_if, we_say_say, we_say_call, we_say_give, we_say_put, we_say_fill, we_say_drop, we_say_copy, we_say_lend, we_say_sole, we_say_move, we_say_go, wi_say_pf, wi_say_psf, wi_say_cmd, wi_say_ls, wi_say_ps, we_give_set, we_give_if, we_give_say, we_give_call, we_give_give, we_give_put, we_give_fill, we_give_drop, we_give_copy, we_give_lend, we_give_sole, we_give_move, we_give_go, wi_give_pf, wi_give_psf, wi_give_cmd, wi_give_ls, wi_give_ps, we_copy_set, we_copy_if, we_copy_say, we_copy_call, we_copy_give, we_copy_put, we_copy_fill, we_copy_drop, we_copy_copy, we_copy_lend, we_copy_sole, we_copy_move, we_copy_go, wi_copy_pf, wi_copy_psf, wi_copy_cmd, wi_copy_ls, wi_copy_ps, we_move_set, we_move_if, we_move_say, we_move_call, we_move_give, we_move_put, we_move_fill, we_move_drop, we_move_copy, we_move_lend, we_move_sole, we_move_move, we_move_go, wi_move_pf, wi_move_psf, wi_move_cmd, wi_move_ls, wi_move_ps, we_drop_set, we_drop_if, we_drop_say, we_drop_call, we_drop_give, we_drop_put, we_drop_fill, we_drop_drop, we_drop_copy, we_drop_lend, we_drop_sole, we_drop_move, we_drop_go, wi_drop_pf, wi_drop_psf, wi_drop_cmd, wi_drop_ls, wi_drop_ps, we_lend_set, we_lend_if, we_lend_say, we_lend_call, we_lend_give, we_lend_put, we_lend_fill, we_lend_drop, we_lend_copy, we_lend_lend, we_lend_sole, we_lend_move, we_lend_go, wi_lend_pf, wi_lend_psf, wi_lend_cmd, wi_lend_ls, wi_lend_ps, we_sole_set, we_sole_if, we_sole_say, we_sole_call, we_sole_give, we_sole_put, we_sole_fill, we_sole_drop, we_sole_copy, we_sole_lend, we_sole_sole, we_sole_move, we_sole_go, wi_sole_pf, wi_sole_psf, wi_sole_cmd, wi_sole_ls, wi_sole_ps, we_call_set, we_call_if, we_call_say, we_call_call, we_call_give, we_call_put, we_call_fill, we_call_drop, we_call_copy, we_call_lend, we_call_sole, we_call_move, we_call_go, wi_call_pf, wi_call_psf, wi_call_cmd, wi_call_ls, wi_call_ps, ho]
  | give m =>
    have q1 := e4 m g
    have ho := or_eA (giveL R m)
    simp [ops] at e1 e2
    simp only [eRw] at e1 ⊢
    by_cases hn : giveL R m = []
    · simp [hn] at q1 ho
      simp [evB_cons, evB_nil, seqB_nx, seqB_ret, seqB_exc, seqB_bk, seqB_ct, endF_ret, endF_nx, endF_exc, evS, ev, evs, evBop, evo, evc, evSr, R_ok, R_exc, R_some, O_ok, O_exc, startE, getv, lower, ixop, atD, L2.atI, L2.ixN, cmp_int, cmpne_int, cmp_lt, cmp_le, cmp_gt, cmp_ge, cmp_str, cmpne_str, bin_add, bin_sub, bin_mod, bin_div, bin_mul, bltop, slop, isaop, itemsOf, enumOf, zipOf, Tg.put, Tg.ids, setAll, wipeE, fn18, e1, e2, q1, we_put_set, we_put_if, we_put_say, we_put_call, we_put_give, we_put_put, we_put_fill, we_put_drop, we_put_copy, we_put_lend, we_put_sole, we_put_move, we_put_go, wi_put_pf, wi_put_psf, wi_put_cmd, wi_put_ls, wi_put_ps, we_set_set, we_set_if, we_set_say, we_set_call, we_set_give, we_set_put, we_set_fill, we_set_drop, we_set_copy, we_set_lend, we_set_sole, we_set_move, we_set_go, wi_set_pf, wi_set_psf, wi_set_cmd, wi_set_ls, wi_set_ps, we_fill_set, we_fill_if, we_fill_say, we_fill_call, we_fill_give, we_fill_put, we_fill_fill, we_fill_drop, we_fill_copy, we_fill_lend, we_fill_sole, we_fill_move, we_fill_go, wi_fill_pf, wi_fill_psf, wi_fill_cmd, wi_fill_ls, wi_fill_ps, we_if_set, we_if_if, we_if_say, we_if_call, we_if_give, we_if_put, we_if_fill, we_if_drop, we_if_copy, we_if_lend, we_if_sole, we_if_move, we_if_go, wi_if_pf, wi_if_psf, wi_if_cmd, wi_if_ls, wi_if_ps, we_go_set, we_go_if, we_go_say, we_go_call, we_go_give, we_go_put, we_go_fill, we_go_drop, we_go_copy, we_go_lend, we_go_sole, we_go_move, we_go_go, wi_go_pf, wi_go_psf, wi_go_cmd, wi_go_ls, wi_go_ps, we_say_set, we_say_if, we_say_say, we_say_call, we_say_give, we_say_put, we_say_fill, we_say_drop, we_say_copy, we_say_lend, we_say_sole, we_say_move, we_say_go, wi_say_pf, wi_say_psf, wi_say_cmd, wi_say_ls, wi_say_ps, we_give_set, we_give_if, we_give_say, we_give_call, we_give_give, we_give_put, we_give_fill, we_give_drop, we_give_copy, we_give_lend, we_give_sole, we_give_move, we_give_go, wi_give_pf, wi_give_psf, wi_give_cmd, wi_give_ls, wi_give_ps, we_copy_set, we_copy_if, we_copy_say, we_copy_call, we_copy_give, we_copy_put, we_copy_fill, we_copy_drop, we_copy_copy, we_copy_lend, we_copy_sole, we_copy_move, we_copy_go, wi_copy_pf, wi_copy_psf, wi_copy_cmd, wi_copy_ls, wi_copy_ps, we_move_set, we_move_if, we_move_say, we_move_call, we_move_give, we_move_put, we_move_fill, we_move_drop, we_move_copy, we_move_lend, we_move_sole, we_move_move, we_move_go, wi_move_pf, wi_move_psf, wi_move_cmd, wi_move_ls, wi_move_ps, we_drop_set, we_drop_if, we_drop_say, we_drop_call, we_drop_give, we_drop_put, we_drop_fill, we_drop_drop, we_drop_copy, we_drop_lend, we_drop_sole, we_drop_move, we_drop_go, wi_drop_pf, wi_drop_psf, wi_drop_cmd, wi_drop_ls, wi_drop_ps, we_lend_set, we_lend_if, we_lend_say, we_lend_call, we_lend_give, we_lend_put, we_lend_fill, we_lend_drop, we_lend_copy, we_lend_lend, we_lend_sole, we_lend_move, we_lend_go, wi_lend_pf, wi_lend_psf, wi_lend_cmd, wi_lend_ls, wi_lend_ps, we_sole_set, we_sole_if, we_sole_say, we_sole_call, we_sole_give, we_sole_put, we_sole_fill, we_sole_drop, we_sole_copy, we_sole_lend, we_sole_sole, we_sole_move, we_sole_go, wi_sole_pf, wi_sole_psf, wi_sole_cmd, wi_sole_ls, wi_sole_ps, we_call_set, we_call_if, we_call_say, we_call_call, we_call_give, we_call_put, we_call_fill, we_call_drop, we_call_copy, we_call_lend, we_call_sole, we_call_move, we_call_go, wi_call_pf, wi_call_psf, wi_call_cmd, wi_call_ls, wi_call_ps, ho, rowL, orRest, hn, hG]
    · have hd : decide (giveL R m = []) = false := decide_eq_false hn
      simp [evB_cons, evB_nil, seqB_nx, seqB_ret, seqB_exc, seqB_bk, seqB_ct, endF_ret, endF_nx, endF_exc, evS, ev, evs, evBop, evo, evc, evSr, R_ok, R_exc, R_some, O_ok, O_exc, startE, getv, lower, ixop, atD, L2.atI, L2.ixN, cmp_int, cmpne_int, cmp_lt, cmp_le, cmp_gt, cmp_ge, cmp_str, cmpne_str, bin_add, bin_sub, bin_mod, bin_div, bin_mul, bltop, slop, isaop, itemsOf, enumOf, zipOf, Tg.put, Tg.ids, setAll, wipeE, fn18, e1, e2, q1, we_put_set, we_put_if, we_put_say, we_put_call, we_put_give, we_put_put, we_put_fill, we_put_drop, we_put_copy, we_put_lend, we_put_sole, we_put_move, we_put_go, wi_put_pf, wi_put_psf, wi_put_cmd, wi_put_ls, wi_put_ps, we_set_set, we_set_if, we_set_say, we_set_call, we_set_give, we_set_put, we_set_fill, we_set_drop, we_set_copy, we_set_lend, we_set_sole, we_set_move, we_set_go, wi_set_pf, wi_set_psf, wi_set_cmd, wi_set_ls, wi_set_ps, we_fill_set, we_fill_if, we_fill_say, we_fill_call, we_fill_give, we_fill_put, we_fill_fill, we_fill_drop, we_fill_copy, we_fill_lend, we_fill_sole, we_fill_move, we_fill_go, wi_fill_pf, wi_fill_psf, wi_fill_cmd, wi_fill_ls, wi_fill_ps, we_if_set, we_if_if, we_if_say, we_if_call, we_if_give, we_if_put, we_if_fill, we_if_drop, we_if_copy, we_if_lend, we_if_sole, we_if_move, we_if_go, wi_if_pf, wi_if_psf, wi_if_cmd, wi_if_ls, wi_if_ps, we_go_set, we_go_if, we_go_say, we_go_call, we_go_give, we_go_put, we_go_fill, we_go_drop, we_go_copy, we_go_lend, we_go_sole, we_go_move, we_go_go, wi_go_pf, wi_go_psf, wi_go_cmd, wi_go_ls, wi_go_ps, we_say_set, we_say_if, we_say_say, we_say_call, we_say_give, we_say_put, we_say_fill, we_say_drop, we_say_copy, we_say_lend, we_say_sole, we_say_move, we_say_go, wi_say_pf, wi_say_psf, wi_say_cmd, wi_say_ls, wi_say_ps, we_give_set, we_give_if, we_give_say, we_give_call, we_give_give, we_give_put, we_give_fill, we_give_drop, we_give_copy, we_give_lend, we_give_sole, we_give_move, we_give_go, wi_give_pf, wi_give_psf, wi_give_cmd, wi_give_ls, wi_give_ps, we_copy_set, we_copy_if, we_copy_say, we_copy_call, we_copy_give, we_copy_put, we_copy_fill, we_copy_drop, we_copy_copy, we_copy_lend, we_copy_sole, we_copy_move, we_copy_go, wi_copy_pf, wi_copy_psf, wi_copy_cmd, wi_copy_ls, wi_copy_ps, we_move_set, we_move_if, we_move_say, we_move_call, we_move_give, we_move_put, we_move_fill, we_move_drop, we_move_copy, we_move_lend, we_move_sole, we_move_move, we_move_go, wi_move_pf, wi_move_psf, wi_move_cmd, wi_move_ls, wi_move_ps, we_drop_set, we_drop_if, we_drop_say, we_drop_call, we_drop_give, we_drop_put, we_drop_fill, we_drop_drop, we_drop_copy, we_drop_lend, we_drop_sole, we_drop_move, we_drop_go, wi_drop_pf, wi_drop_psf, wi_drop_cmd, wi_drop_ls, wi_drop_ps, we_lend_set, we_lend_if, we_lend_say, we_lend_call, we_lend_give, we_lend_put, we_lend_fill, we_lend_drop, we_lend_copy, we_lend_lend, we_lend_sole, we_lend_move, we_lend_go, wi_lend_pf, wi_lend_psf, wi_lend_cmd, wi_lend_ls, wi_lend_ps, we_sole_set, we_sole_if, we_sole_say, we_sole_call, we_sole_give, we_sole_put, we_sole_fill, we_sole_drop, we_sole_copy, we_sole_lend, we_sole_sole, we_sole_move, we_sole_go, wi_sole_pf, wi_sole_psf, wi_sole_cmd, wi_sole_ls, wi_sole_ps, we_call_set, we_call_if, we_call_say, we_call_call, we_call_give, we_call_put, we_call_fill, we_call_drop, we_call_copy, we_call_lend, we_call_sole, we_call_move, we_call_go, wi_call_pf, wi_call_psf, wi_call_cmd, wi_call_ls, wi_call_ps, ho, rowL, orRest, hn, hd]
end
end Ly

set_option Elab.async false
set_option linter.all false
set_option maxRecDepth 100000
set_option maxHeartbeats 800000
namespace Ly
open PySem
/-! ### names and kinds -/
def nds : List (List Nat) → List Kd → List Nd
  | l :: ls, k :: ks => ⟨l, k⟩ :: nds ls ks
  | _, _ => []
theorem zip_nds : ∀ (ls : List (List Nat)) (ks : List Kd), zipD (ls.map dS) (ks.map eK) = (nds ls ks).map eN
  | [], ks => by simp [zipD, nds]
  | l :: ls, [] => by simp [zipD, nds]
  | l :: ls, k :: ks => by simp [zipD, nds, zip_nds ls ks, eN]
theorem nds_l : ∀ (ls : List (List Nat)) (ks : List Kd), ks.length ≤ ls.length → (nds ls ks).map (·.l) = ls.take ks.length
  | [], ks, h => by
    have : ks = [] := List.length_eq_zero_iff.mp (by simpa using h)
    subst this; simp [nds]
  | l :: ls, [], _ => by simp [nds]
  | l :: ls, k :: ks, h => by simp [nds, nds_l ls ks (by simpa using h)]
theorem nds_k : ∀ (ls : List (List Nat)) (ks : List Kd), ks.length ≤ ls.length → (nds ls ks).map (·.k) = ks
  | [], ks, h => by
    have : ks = [] := List.length_eq_zero_iff.mp (by simpa using h)
    subst this; simp [nds]
  | l :: ls, [], _ => by simp [nds]
  | l :: ls, k :: ks, h => by simp [nds, nds_k ls ks (by simpa using h)]
theorem nds_mem : ∀ (ls : List (List Nat)) (ks : List Kd), ∀ r ∈ nds ls ks, r.l ∈ ls ∧ r.k ∈ ks
  | [], ks => by simp [nds]
  | l :: ls, [] => by simp [nds]
  | l :: ls, k :: ks => fun r hr => by
    simp only [nds, List.mem_cons] at hr ⊢
    rcases hr with rfl | hr
    · exact ⟨.inl rfl, .inl rfl⟩
    · have := nds_mem ls ks r hr
      exact ⟨.inr this.1, .inr this.2⟩
theorem nds_len (ls : List (List Nat)) (ks : List Kd) (h : ks.length ≤ ls.length) : (nds ls ks).length = ks.length := by
  have := congrArg List.length (nds_k ls ks h)
  simpa using this
theorem names_nodup {c : Int} {B : List Int} {at_ M : Nat} (h : at_ < B.length) (hM : M ≤ 26) : ((List.range' 0 M).map (nmk c B at_)).Nodup := by
  rw [List.nodup_iff_pairwise_ne, List.pairwise_map]
  refine List.Pairwise.imp_of_mem ?_ (List.nodup_iff_pairwise_ne.mp List.nodup_range')
  intro a b ha hb hne e
  rw [List.mem_range'_1] at ha hb
  exact hne (nmk_inj h (by omega) (by omega) e)
theorem nmk_ne {c : Int} {B : List Int} {at_ k : Nat} (h : at_ < B.length) : nmk c B at_ k ≠ [] := by
  unfold nmk stem
  cases B with
  | nil => simp at h
  | cons b B => simp [List.range'_succ]
theorem flat1 (d : D) : ∀ m : Nat, (List.replicate m [d]).flatten = List.replicate m d
  | 0 => rfl
  | m + 1 => by rw [List.replicate_succ, List.flatten_cons, flat1 d m]; rfl
theorem mulk (d : D) (m : Nat) (h : m ≤ 1000) : binop .mul (.lst [d]) (.int (m : Int)) = some (1, .lst (List.replicate m d)) := by
  have h1 : lmulB (m : Int) 1 = true := by
    unfold lmulB
    rw [Bool.and_eq_true]
    refine ⟨decide_eq_true (by omega), decide_eq_true ?_⟩
    show 1 * (m : Int).natAbs ≤ 16777216
    omega
  show (if lmulB (m : Int) [d].length = true then some (1, D.lst (List.replicate (m : Int).toNat [d]).flatten) else none) = _
  rw [show [d].length = 1 from rfl, if_pos h1, Int.toNat_natCast]
  rw [flat1]
/-! ### results -/
inductive Re where
  | non | own (s : Sh) | lent (s : Sh) (src : List (List Nat)) | sole (s : Sh) (src : List (List Nat))
def eRe : Re → D
  | .non => .non
  | .own s => enc s
  | .lent s src => .tup [.str "lent", enc s, .tup (src.map dS)]
  | .sole s src => .tup [.str "sole", enc s, .tup (src.map dS)]
def bk : Re → Option Kd
  | .non => none
  | .own s => some (.own s)
  | .lent s _ => some (.lent s)
  | .sole s _ => some (.sole s)
def srcs : Re → List (List Nat)
  | .lent _ src => src
  | .sole _ src => src
  | _ => []
def eBk : Option Kd → D
  | none => .non
  | some k => eK k
/-- a result that may be, of these params -/
def GRe (ps : List Nd) (r : Re) : Prop := (∀ k, bk r = some k → Gt k.sh ∧ Ps k.sh) ∧ ∃ f : List Nd, f.Sublist ps ∧ (∀ nd ∈ f, nd.k.thr = true) ∧ srcs r = f.map (·.l)
structure Hd where
  nm : List Nat
  ps : List Nd
  re : Re
  ls : List Nd
def eH (h : Hd) : D := .tup [dS h.nm, .lst (h.ps.map eN), eRe h.re, .lst (h.ls.map eN)]
def Hd.R (h : Hd) : List Nd := h.ps ++ h.ls
/-- a head that may be -/
structure GH (h : Hd) : Prop where
  nd : (h.R.map (·.l)).Nodup
  gn : ∀ r ∈ h.R, GN r
  pos : ∀ r ∈ h.R, Ps r.k.sh
  ne : ∀ r ∈ h.R, r.l ≠ []
  nm : Sm h.nm
  pl : h.ps.length ≤ 4
  ll : h.ls.length ≤ 8
  re : GRe h.ps h.re
  back : ∀ k, bk h.re = some k → ∃ r ∈ h.ls, r.k = k
  num : ∃ r ∈ h.ls, r.k = .own .num
theorem GH.len {h : Hd} (g : GH h) : h.R.length ≤ 12 := by
  have := g.pl; have := g.ll
  unfold Hd.R
  rw [List.length_append]; omega
section
variable {G : Nat → Option D} {sub : Nat → Nat → Bool} {fu : Nat}
theorem mixed_fn (n : Nat) (c : Int) : ∃ a b d e : Int, callF G sub tab fu (n + 1) 21 [.int c] = .ok 1 (.lst [.int a, .int b, .int d, .int e]) := by
  rw [callF_s fn21 rfl rfl]
  exact ⟨c * 48271 % 2147483647, c * 69621 % 2147483629, c * 16807 % 2147483587, c * 39373 % 2147483579, by simp [evB_cons, evB_nil, seqB_nx, seqB_ret, seqB_exc, seqB_bk, seqB_ct, endF_ret, endF_nx, endF_exc, evS, ev, evs, evBop, evo, evc, evSr, R_ok, R_exc, R_some, O_ok, O_exc, startE, getv, lower, ixop, atD, L2.atI, L2.ixN, cmp_int, cmpne_int, cmp_lt, cmp_le, cmp_gt, cmp_ge, cmp_str, cmpne_str, bin_add, bin_sub, bin_mod, bin_div, bin_mul, bltop, slop, isaop, itemsOf, enumOf, zipOf, Tg.put, Tg.ids, setAll, wipeE, fn21]⟩
theorem back_fn (n : Nat) (r : Re) : ∃ l, callF G sub tab fu (n + 1) 33 [eRe r] = .ok l (eBk (bk r)) := by
  rw [callF_s fn33 rfl rfl]
  have h0 : ∀ ds : List D, cmpop .isn (.tup ds) .non = some false := fun ds => rfl
  have h1 : cmpop .isn .non .non = some true := rfl
  cases r with
  | non => exact ⟨0, by simp [evB_cons, evB_nil, seqB_nx, seqB_ret, seqB_exc, seqB_bk, seqB_ct, endF_ret, endF_nx, endF_exc, evS, ev, evs, evBop, evo, evc, evSr, R_ok, R_exc, R_some, O_ok, O_exc, startE, getv, lower, ixop, atD, L2.atI, L2.ixN, cmp_int, cmpne_int, cmp_lt, cmp_le, cmp_gt, cmp_ge, cmp_str, cmpne_str, bin_add, bin_sub, bin_mod, bin_div, bin_mul, bltop, slop, isaop, itemsOf, enumOf, zipOf, Tg.put, Tg.ids, setAll, wipeE, fn33, eRe, bk, eBk, h1]⟩
  | own s => cases s <;> exact ⟨0, by simp [evB_cons, evB_nil, seqB_nx, seqB_ret, seqB_exc, seqB_bk, seqB_ct, endF_ret, endF_nx, endF_exc, evS, ev, evs, evBop, evo, evc, evSr, R_ok, R_exc, R_some, O_ok, O_exc, startE, getv, lower, ixop, atD, L2.atI, L2.ixN, cmp_int, cmpne_int, cmp_lt, cmp_le, cmp_gt, cmp_ge, cmp_str, cmpne_str, bin_add, bin_sub, bin_mod, bin_div, bin_mul, bltop, slop, isaop, itemsOf, enumOf, zipOf, Tg.put, Tg.ids, setAll, wipeE, fn33, eRe, bk, eBk, h0, enc, eK]⟩
  | lent s src => exact ⟨0, by simp [evB_cons, evB_nil, seqB_nx, seqB_ret, seqB_exc, seqB_bk, seqB_ct, endF_ret, endF_nx, endF_exc, evS, ev, evs, evBop, evo, evc, evSr, R_ok, R_exc, R_some, O_ok, O_exc, startE, getv, lower, ixop, atD, L2.atI, L2.ixN, cmp_int, cmpne_int, cmp_lt, cmp_le, cmp_gt, cmp_ge, cmp_str, cmpne_str, bin_add, bin_sub, bin_mod, bin_div, bin_mul, bltop, slop, isaop, itemsOf, enumOf, zipOf, Tg.put, Tg.ids, setAll, wipeE, fn33, eRe, bk, eBk, h0, eK, cut_to, sIx_some]⟩
  | sole s src => exact ⟨0, by simp [evB_cons, evB_nil, seqB_nx, seqB_ret, seqB_exc, seqB_bk, seqB_ct, endF_ret, endF_nx, endF_exc, evS, ev, evs, evBop, evo, evc, evSr, R_ok, R_exc, R_some, O_ok, O_exc, startE, getv, lower, ixop, atD, L2.atI, L2.ixN, cmp_int, cmpne_int, cmp_lt, cmp_le, cmp_gt, cmp_ge, cmp_str, cmpne_str, bin_add, bin_sub, bin_mod, bin_div, bin_mul, bltop, slop, isaop, itemsOf, enumOf, zipOf, Tg.put, Tg.ids, setAll, wipeE, fn33, eRe, bk, eBk, h0, eK, cut_to, sIx_some]⟩
theorem src_loop (n : Nat) (o0 o1 o2 : Option (Nat × D)) (ps : List Nd) (hl : ps.length ≤ 100) (c : Int) (o5 o6 : Option (Nat × D)) : ∃ (f : List Nd) (c' : Int) (o5' o6' : Option (Nat × D)), f.Sublist ps ∧ (∀ nd ∈ f, nd.k.thr = true) ∧
    forT (.tup [5, 6]) (evB G sub (callF G sub tab fu n) fu bd32_0) (ps.map eN) [o0, o1, o2, some (1, .lst []), some (0, .int c), o5, o6] = .nx [o0, o1, o2, some (1, .lst (f.map fun nd => dS nd.l)), some (0, .int c'), o5', o6'] := by
  obtain ⟨q, e, done, f, c', p5, p6, h1, h2, h3, rfl⟩ := forT_list (g := eN) (t := .tup [5, 6]) (f := evB G sub (callF G sub tab fu n) fu bd32_0)
    (fun rest q => ∃ (done f : List Nd) (c' : Int) (o5 o6 : Option (Nat × D)), done ++ rest = ps ∧ f.Sublist done ∧ (∀ nd ∈ f, nd.k.thr = true) ∧ q = [o0, o1, o2, some (1, .lst (f.map fun nd => dS nd.l)), some (0, .int c'), o5, o6])
    ps [o0, o1, o2, some (1, .lst []), some (0, .int c), o5, o6] ⟨[], [], c, o5, o6, rfl, .slnil, by simp, rfl⟩ (by
      rintro nd rest q ⟨done, f, c', o5, o6, h1, h2, h3, rfl⟩
      obtain ⟨rst, e⟩ := eK_hd nd.k
      have hw := in_w nd.k
      have hp : (0 : Int) < (rst.length : Int) + 1 := by omega
      have hfl : f.length < LN := by
        have := h2.length_le
        have := congrArg List.length h1
        simp at this
        show _ < 16777216
        omega
      have bd := bin_div c' 2 (by decide) (by decide)
      have i0 : ixop (eK nd.k) (.int 0) = some (.str nd.k.w) := by rw [e]; exact ix_0 _ _
      have hcut : (done ++ [nd]) ++ rest = ps := by rw [List.append_assoc]; exact h1
      by_cases ht : nd.k.thr = true
      · rw [ht] at hw
        by_cases hc : c' % 2 = 0
        · refine ⟨_, [o0, o1, o2, some (1, .lst ((f ++ [nd]).map fun nd => dS nd.l)), some (0, .int (c' / 2)), some (0, dS nd.l), some (0, eK nd.k)], rfl, .inl ?_, done ++ [nd], f ++ [nd], _, _, _, hcut, h2.append (List.Sublist.refl _), fun x hx => ?_, rfl⟩
          · generalize eK nd.k = K at i0 ⊢
            simp [bd32_0, evB_cons, evB_nil, seqB_nx, seqB_ret, seqB_exc, seqB_bk, seqB_ct, endF_ret, endF_nx, endF_exc, evS, ev, evs, evBop, evo, evc, evSr, R_ok, R_exc, R_some, O_ok, O_exc, startE, getv, lower, cmp_int, cmpne_int, cmp_lt, cmp_le, cmp_gt, cmp_ge, cmp_str, cmpne_str, bin_add, bin_sub, bin_mod, bin_div, bin_mul, bltop, slop, isaop, itemsOf, enumOf, zipOf, Tg.put, Tg.ids, setAll, wipeE, i0, hw, hc, hfl, bd]
          · rcases List.mem_append.mp hx with hx | hx
            · exact h3 x hx
            · rw [List.mem_singleton.mp hx]; exact ht
        · refine ⟨_, [o0, o1, o2, some (1, .lst (f.map fun nd => dS nd.l)), some (0, .int (c' / 2)), some (0, dS nd.l), some (0, eK nd.k)], rfl, .inl ?_, done ++ [nd], f, _, _, _, hcut, h2.trans (List.sublist_append_left _ _), h3, rfl⟩
          have hc' : (c' % 2 == 0) = false := by simpa using hc
          generalize eK nd.k = K at i0 ⊢
          simp [bd32_0, evB_cons, evB_nil, seqB_nx, seqB_ret, seqB_exc, seqB_bk, seqB_ct, endF_ret, endF_nx, endF_exc, evS, ev, evs, evBop, evo, evc, evSr, R_ok, R_exc, R_some, O_ok, O_exc, startE, getv, lower, cmp_int, cmpne_int, cmp_lt, cmp_le, cmp_gt, cmp_ge, cmp_str, cmpne_str, bin_add, bin_sub, bin_mod, bin_div, bin_mul, bltop, slop, isaop, itemsOf, enumOf, zipOf, Tg.put, Tg.ids, setAll, wipeE, i0, hw, hc', bd]
      · have ht' : nd.k.thr = false := by simpa using ht
        rw [ht'] at hw
        refine ⟨_, [o0, o1, o2, some (1, .lst (f.map fun nd => dS nd.l)), some (0, .int (c' / 2)), some (0, dS nd.l), some (0, eK nd.k)], rfl, .inl ?_, done ++ [nd], f, _, _, _, hcut, h2.trans (List.sublist_append_left _ _), h3, rfl⟩
        generalize eK nd.k = K at i0 ⊢
        simp [bd32_0, evB_cons, evB_nil, seqB_nx, seqB_ret, seqB_exc, seqB_bk, seqB_ct, endF_ret, endF_nx, endF_exc, evS, ev, evs, evBop, evo, evc, evSr, R_ok, R_exc, R_some, O_ok, O_exc, startE, getv, lower, cmp_int, cmpne_int, cmp_lt, cmp_le, cmp_gt, cmp_ge, cmp_str, cmpne_str, bin_add, bin_sub, bin_mod, bin_div, bin_mul, bltop, slop, isaop, itemsOf, enumOf, zipOf, Tg.put, Tg.ids, setAll, wipeE, i0, hw, bd])
  refine ⟨f, c', p5, p6, ?_, h3, e⟩
  rw [← h1, List.append_nil]
  exact h2
theorem result_fn (n : Nat) (b s : Sh) (gb : Gt b) (gs : Gt s) (pb : Ps b) (ps' : Ps s) (ps : List Nd) (hl : ps.length ≤ 100) (c : Int) : ∃ (r : Re) (l : Nat), GRe ps r ∧ callF G sub tab fu (n + 1) 32 [.lst ((menuK b s).map eK), .lst (ps.map eN), .int c] = .ok l (eRe r) := by
  obtain ⟨f, c', o5, o6, h1, h2, e⟩ := src_loop (G := G) (sub := sub) (fu := fu) n (some (0, .lst ((menuK b s).map eK))) (some (0, .lst (ps.map eN))) (some (0, .int c)) ps hl (c / 32) none none
  have gm := menu_gt gb gs
  have pm := menu_ps pb ps'
  have own : ∀ x : Sh, Gt x → Ps x → GRe ps (.own x) := fun x g p => ⟨fun k hk => by cases hk; exact ⟨g, p⟩, [], List.nil_sublist _, by simp, rfl⟩
  rw [callF_s fn32 rfl rfl]
  by_cases h40 : c % 4 = 0
  · exact ⟨.non, 0, ⟨(fun k hk => by cases hk), [], List.nil_sublist _, by simp, rfl⟩, by simp [evB_cons, evB_nil, seqB_nx, seqB_ret, seqB_exc, seqB_bk, seqB_ct, endF_ret, endF_nx, endF_exc, evS, ev, evs, evBop, evo, evc, evSr, R_ok, R_exc, R_some, O_ok, O_exc, startE, getv, lower, ixop, atD, L2.atI, L2.ixN, cmp_int, cmpne_int, cmp_lt, cmp_le, cmp_gt, cmp_ge, cmp_str, cmpne_str, bin_add, bin_sub, bin_mod, bin_div, bin_mul, bltop, slop, isaop, itemsOf, enumOf, zipOf, Tg.put, Tg.ids, setAll, wipeE, fn32, h40, eRe]⟩
  have h40' : (c % 4 == 0) = false := by simpa using h40
  by_cases h41 : c % 4 = 1
  · have h3 : c / 4 % 3 = 0 ∨ c / 4 % 3 = 1 ∨ c / 4 % 3 = 2 := by omega
    rcases h3 with h3 | h3 | h3
    · exact ⟨.own .num, 0, own _ gtNum trivial, by simp [evB_cons, evB_nil, seqB_nx, seqB_ret, seqB_exc, seqB_bk, seqB_ct, endF_ret, endF_nx, endF_exc, evS, ev, evs, evBop, evo, evc, evSr, R_ok, R_exc, R_some, O_ok, O_exc, startE, getv, lower, ixop, atD, L2.atI, L2.ixN, cmp_int, cmpne_int, cmp_lt, cmp_le, cmp_gt, cmp_ge, cmp_str, cmpne_str, bin_add, bin_sub, bin_mod, bin_div, bin_mul, bltop, slop, isaop, itemsOf, enumOf, zipOf, Tg.put, Tg.ids, setAll, wipeE, fn32, h40', h41, h3, eRe, menuK, eK]⟩
    · exact ⟨.own b, 0, own _ gb pb, by simp [evB_cons, evB_nil, seqB_nx, seqB_ret, seqB_exc, seqB_bk, seqB_ct, endF_ret, endF_nx, endF_exc, evS, ev, evs, evBop, evo, evc, evSr, R_ok, R_exc, R_some, O_ok, O_exc, startE, getv, lower, ixop, atD, L2.atI, L2.ixN, cmp_int, cmpne_int, cmp_lt, cmp_le, cmp_gt, cmp_ge, cmp_str, cmpne_str, bin_add, bin_sub, bin_mod, bin_div, bin_mul, bltop, slop, isaop, itemsOf, enumOf, zipOf, Tg.put, Tg.ids, setAll, wipeE, fn32, h40', h41, h3, eRe, menuK, eK]⟩
    · exact ⟨.own s, 0, own _ gs ps', by simp [evB_cons, evB_nil, seqB_nx, seqB_ret, seqB_exc, seqB_bk, seqB_ct, endF_ret, endF_nx, endF_exc, evS, ev, evs, evBop, evo, evc, evSr, R_ok, R_exc, R_some, O_ok, O_exc, startE, getv, lower, ixop, atD, L2.atI, L2.ixN, cmp_int, cmpne_int, cmp_lt, cmp_le, cmp_gt, cmp_ge, cmp_str, cmpne_str, bin_add, bin_sub, bin_mod, bin_div, bin_mul, bltop, slop, isaop, itemsOf, enumOf, zipOf, Tg.put, Tg.ids, setAll, wipeE, fn32, h40', h41, h3, eRe, menuK, eK]⟩
  have h41' : (c % 4 == 1) = false := by simpa using h41
  have h5 : c / 4 % 5 = 0 ∨ c / 4 % 5 = 1 ∨ c / 4 % 5 = 2 ∨ c / 4 % 5 = 3 ∨ c / 4 % 5 = 4 := by omega
  have bd := bin_div c 32 (by decide) (by decide)
  have lent : ∀ x : Sh, Gt x → Ps x → GRe ps (.lent x (f.map (·.l))) := fun x g p => ⟨fun k hk => by cases hk; exact ⟨g, p⟩, f, h1, h2, rfl⟩
  have sole : ∀ x : Sh, Gt x → Ps x → GRe ps (.sole x (f.map (·.l))) := fun x g p => ⟨fun k hk => by cases hk; exact ⟨g, p⟩, f, h1, h2, rfl⟩
  rcases h5 with h5 | h5 | h5 | h5 | h5
  · refine ⟨_, 0, sole b gb pb, ?_⟩
    simp [evB_cons, evB_nil, seqB_nx, seqB_ret, seqB_exc, seqB_bk, seqB_ct, endF_ret, endF_nx, endF_exc, evS, ev, evs, evBop, evo, evc, evSr, R_ok, R_exc, R_some, O_ok, O_exc, startE, getv, lower, ixop, atD, L2.atI, L2.ixN, cmp_int, cmpne_int, cmp_lt, cmp_le, cmp_gt, cmp_ge, cmp_str, cmpne_str, bin_add, bin_sub, bin_mod, bin_div, bin_mul, bltop, slop, isaop, itemsOf, enumOf, zipOf, Tg.put, Tg.ids, setAll, wipeE, fn32, h40', h41', bd]
    rw [e]
    simp [evB_cons, evB_nil, seqB_nx, seqB_ret, seqB_exc, seqB_bk, seqB_ct, endF_ret, endF_nx, endF_exc, evS, ev, evs, evBop, evo, evc, evSr, R_ok, R_exc, R_some, O_ok, O_exc, startE, getv, lower, ixop, atD, L2.atI, L2.ixN, cmp_int, cmpne_int, cmp_lt, cmp_le, cmp_gt, cmp_ge, cmp_str, cmpne_str, bin_add, bin_sub, bin_mod, bin_div, bin_mul, bltop, slop, isaop, itemsOf, enumOf, zipOf, Tg.put, Tg.ids, setAll, wipeE, h5, menuK, eK, bin_catT, eRe, Function.comp_def]
  · refine ⟨_, 0, lent b gb pb, ?_⟩
    simp [evB_cons, evB_nil, seqB_nx, seqB_ret, seqB_exc, seqB_bk, seqB_ct, endF_ret, endF_nx, endF_exc, evS, ev, evs, evBop, evo, evc, evSr, R_ok, R_exc, R_some, O_ok, O_exc, startE, getv, lower, ixop, atD, L2.atI, L2.ixN, cmp_int, cmpne_int, cmp_lt, cmp_le, cmp_gt, cmp_ge, cmp_str, cmpne_str, bin_add, bin_sub, bin_mod, bin_div, bin_mul, bltop, slop, isaop, itemsOf, enumOf, zipOf, Tg.put, Tg.ids, setAll, wipeE, fn32, h40', h41', bd]
    rw [e]
    simp [evB_cons, evB_nil, seqB_nx, seqB_ret, seqB_exc, seqB_bk, seqB_ct, endF_ret, endF_nx, endF_exc, evS, ev, evs, evBop, evo, evc, evSr, R_ok, R_exc, R_some, O_ok, O_exc, startE, getv, lower, ixop, atD, L2.atI, L2.ixN, cmp_int, cmpne_int, cmp_lt, cmp_le, cmp_gt, cmp_ge, cmp_str, cmpne_str, bin_add, bin_sub, bin_mod, bin_div, bin_mul, bltop, slop, isaop, itemsOf, enumOf, zipOf, Tg.put, Tg.ids, setAll, wipeE, h5, menuK, eK, bin_catT, eRe, Function.comp_def]
  · refine ⟨_, 0, sole s gs ps', ?_⟩
    simp [evB_cons, evB_nil, seqB_nx, seqB_ret, seqB_exc, seqB_bk, seqB_ct, endF_ret, endF_nx, endF_exc, evS, ev, evs, evBop, evo, evc, evSr, R_ok, R_exc, R_some, O_ok, O_exc, startE, getv, lower, ixop, atD, L2.atI, L2.ixN, cmp_int, cmpne_int, cmp_lt, cmp_le, cmp_gt, cmp_ge, cmp_str, cmpne_str, bin_add, bin_sub, bin_mod, bin_div, bin_mul, bltop, slop, isaop, itemsOf, enumOf, zipOf, Tg.put, Tg.ids, setAll, wipeE, fn32, h40', h41', bd]
    rw [e]
    simp [evB_cons, evB_nil, seqB_nx, seqB_ret, seqB_exc, seqB_bk, seqB_ct, endF_ret, endF_nx, endF_exc, evS, ev, evs, evBop, evo, evc, evSr, R_ok, R_exc, R_some, O_ok, O_exc, startE, getv, lower, ixop, atD, L2.atI, L2.ixN, cmp_int, cmpne_int, cmp_lt, cmp_le, cmp_gt, cmp_ge, cmp_str, cmpne_str, bin_add, bin_sub, bin_mod, bin_div, bin_mul, bltop, slop, isaop, itemsOf, enumOf, zipOf, Tg.put, Tg.ids, setAll, wipeE, h5, menuK, eK, bin_catT, eRe, Function.comp_def]
  · refine ⟨_, 0, lent s gs ps', ?_⟩
    simp [evB_cons, evB_nil, seqB_nx, seqB_ret, seqB_exc, seqB_bk, seqB_ct, endF_ret, endF_nx, endF_exc, evS, ev, evs, evBop, evo, evc, evSr, R_ok, R_exc, R_some, O_ok, O_exc, startE, getv, lower, ixop, atD, L2.atI, L2.ixN, cmp_int, cmpne_int, cmp_lt, cmp_le, cmp_gt, cmp_ge, cmp_str, cmpne_str, bin_add, bin_sub, bin_mod, bin_div, bin_mul, bltop, slop, isaop, itemsOf, enumOf, zipOf, Tg.put, Tg.ids, setAll, wipeE, fn32, h40', h41', bd]
    rw [e]
    simp [evB_cons, evB_nil, seqB_nx, seqB_ret, seqB_exc, seqB_bk, seqB_ct, endF_ret, endF_nx, endF_exc, evS, ev, evs, evBop, evo, evc, evSr, R_ok, R_exc, R_some, O_ok, O_exc, startE, getv, lower, ixop, atD, L2.atI, L2.ixN, cmp_int, cmpne_int, cmp_lt, cmp_le, cmp_gt, cmp_ge, cmp_str, cmpne_str, bin_add, bin_sub, bin_mod, bin_div, bin_mul, bltop, slop, isaop, itemsOf, enumOf, zipOf, Tg.put, Tg.ids, setAll, wipeE, h5, menuK, eK, bin_catT, eRe, Function.comp_def]
  · refine ⟨_, 0, lent .num gtNum trivial, ?_⟩
    simp [evB_cons, evB_nil, seqB_nx, seqB_ret, seqB_exc, seqB_bk, seqB_ct, endF_ret, endF_nx, endF_exc, evS, ev, evs, evBop, evo, evc, evSr, R_ok, R_exc, R_some, O_ok, O_exc, startE, getv, lower, ixop, atD, L2.atI, L2.ixN, cmp_int, cmpne_int, cmp_lt, cmp_le, cmp_gt, cmp_ge, cmp_str, cmpne_str, bin_add, bin_sub, bin_mod, bin_div, bin_mul, bltop, slop, isaop, itemsOf, enumOf, zipOf, Tg.put, Tg.ids, setAll, wipeE, fn32, h40', h41', bd]
    rw [e]
    simp [evB_cons, evB_nil, seqB_nx, seqB_ret, seqB_exc, seqB_bk, seqB_ct, endF_ret, endF_nx, endF_exc, evS, ev, evs, evBop, evo, evc, evSr, R_ok, R_exc, R_some, O_ok, O_exc, startE, getv, lower, ixop, atD, L2.atI, L2.ixN, cmp_int, cmpne_int, cmp_lt, cmp_le, cmp_gt, cmp_ge, cmp_str, cmpne_str, bin_add, bin_sub, bin_mod, bin_div, bin_mul, bltop, slop, isaop, itemsOf, enumOf, zipOf, Tg.put, Tg.ids, setAll, wipeE, h5, menuK, eK, bin_catT, eRe, Function.comp_def, enc]
end
end Ly

set_option Elab.async false
set_option linter.all false
set_option maxRecDepth 100000
set_option maxHeartbeats 800000
namespace Ly
open PySem
theorem nds_drop_R (ls : List (List Nat)) (ks js : List Kd) (h : ks.length + js.length ≤ ls.length) : (nds ls ks ++ nds (ls.drop ks.length) js).map (·.l) = ls.take (ks.length + js.length) := by
  rw [List.map_append, nds_l ls ks (by omega), nds_l (ls.drop ks.length) js (by rw [List.length_drop]; omega), List.take_add]
theorem rep_mem (m : Nat) : ∀ k ∈ List.replicate m (Kd.own .num), k = .own .num := fun k hk => List.eq_of_mem_replicate hk
/-- params and lets by names: a head -/
theorem mk_head {ls : List (List Nat)} (hn : ls.Nodup) (hs : ∀ l ∈ ls, Sm l) (he : ∀ l ∈ ls, l ≠ []) (nm : List Nat) (hnm : Sm nm) (ks js : List Kd) (re : Re) (hk : ks.length ≤ 4) (hj : js.length ≤ 8) (hl : 12 ≤ ls.length)
    (gk : ∀ k ∈ ks ++ js, Gt k.sh ∧ Ps k.sh) (gr : GRe (nds ls ks) re) (bk' : ∀ k, bk re = some k → k ∈ js) (num : Kd.own .num ∈ js) : GH ⟨nm, nds ls ks, re, nds (ls.drop ks.length) js⟩ := by
  have e := nds_drop_R ls ks js (by omega)
  have hmem : ∀ r ∈ nds ls ks ++ nds (ls.drop ks.length) js, r.l ∈ ls ∧ (r.k ∈ ks ++ js) := fun r hr => by
    rcases List.mem_append.mp hr with hr | hr
    · exact ⟨(nds_mem _ _ r hr).1, List.mem_append_left _ (nds_mem _ _ r hr).2⟩
    · exact ⟨List.mem_of_mem_drop (nds_mem _ _ r hr).1, List.mem_append_right _ (nds_mem _ _ r hr).2⟩
  have inj : ∀ k ∈ js, ∃ r ∈ nds (ls.drop ks.length) js, r.k = k := fun k hk' => by
    have h1 := nds_k (ls.drop ks.length) js (by rw [List.length_drop]; omega)
    rw [← h1] at hk'
    obtain ⟨r, hr, e⟩ := List.mem_map.mp hk'
    exact ⟨r, hr, e⟩
  refine ⟨?_, fun r hr => ⟨hs _ (hmem r hr).1, (gk _ (hmem r hr).2).1⟩, fun r hr => (gk _ (hmem r hr).2).2, fun r hr => he _ (hmem r hr).1, hnm, ?_, ?_, gr, fun k hk' => inj k (bk' k hk'), inj _ num⟩
  · show ((nds ls ks ++ nds (ls.drop ks.length) js).map (·.l)).Nodup
    rw [e]
    exact hn.sublist (List.take_sublist _ _)
  · show (nds ls ks).length ≤ 4
    rw [nds_len _ _ (by omega)]; exact hk
  · show (nds (ls.drop ks.length) js).length ≤ 8
    rw [nds_len _ _ (by rw [List.length_drop]; omega)]; exact hj
theorem gt_bnd {a b : Nat} : cmpop .gt (.int (a : Int)) (.int 0) = some (decide (0 < a)) := by
  rw [cmp_gt]
  congr 1
  rw [decide_eq_decide]
  omega
section
variable {G : Nat → Option D} {sub : Nat → Nat → Bool} {fu : Nat}
theorem drop_dS (ls : List (List Nat)) (m : Nat) (h : m ≤ ls.length) : cutD (ls.map dS) (some (m : Int)) none = (ls.drop m).map dS := by
  rw [cut_from, sIx_some _ _ _ (by omega), List.length_map, List.map_drop, Int.toNat_natCast, show min m ls.length = m by omega]
theorem head_fn (n : Nat) (b s : Sh) (gb : Gt b) (gs : Gt s) (pb : Ps b) (ps' : Ps s) (ls : List (List Nat)) (hn : ls.Nodup) (hs : ∀ l ∈ ls, Sm l) (he : ∀ l ∈ ls, l ≠ []) (hl : ls.length = 16) (k : Nat) (hk : k ≤ 5) (c : Int) :
    ∃ h : Hd, GH h ∧ (k = 0 → h.re = .non ∧ (∀ r ∈ h.ps, r.k = .own .num)) ∧ some h.nm = ls[15 - k]? ∧ callF G sub tab fu (n + 2) 34 [.lst ((menuK b s).map eK), .lst (ls.map dS), .int k, .int c] = .ok 1 (eH h) := by
  obtain ⟨x0, x1, x2, x3, e1⟩ := mixed_fn (G := G) (sub := sub) (fu := fu) n c
  obtain ⟨m3, hm3, hm3'⟩ : ∃ m : Nat, x0 % 3 = (m : Int) ∧ m ≤ 2 := ⟨(x0 % 3).toNat, by omega, by omega⟩
  obtain ⟨m5, hm5, hm5'⟩ : ∃ m : Nat, x0 % 5 = (m : Int) ∧ m ≤ 4 := ⟨(x0 % 5).toNat, by omega, by omega⟩
  obtain ⟨m7, hm7, hm7'⟩ : ∃ m : Nat, x0 / 16 % 7 = (m : Int) ∧ m ≤ 6 := ⟨(x0 / 16 % 7).toNat, by omega, by omega⟩
  obtain ⟨P, hP, hP2, e2⟩ := picked_fn (G := G) (sub := sub) (fu := fu) n (menuK b s) x1 m5 (by omega) (by simp [menuK])
  obtain ⟨L, hL, hL2, e3⟩ := picked_fn (G := G) (sub := sub) (fu := fu) n (menuK b s) x3 m7 (by omega) (by simp [menuK])
  have gm : ∀ k ∈ menuK b s, Gt k.sh ∧ Ps k.sh := fun k hk => ⟨menu_gt gb gs k hk, menu_ps pb ps' k hk⟩
  have gn : ∀ k : Kd, k = .own .num → Gt k.sh ∧ Ps k.sh := fun k hk => by subst hk; exact ⟨gtNum, trivial⟩
  have mk := mulk (eK (.own .num)) m3 (by omega)
  have mk2 : List.replicate m3 (eK (.own .num)) = (List.replicate m3 (Kd.own .num)).map eK := by simp
  rw [mk2] at mk
  have en : eK (.own .num) = .tup [.str "num"] := rfl
  rw [en] at mk
  have ixn : ∃ nm, ls[15 - k]? = some nm ∧ Sm nm ∧ ixop (.lst (ls.map dS)) (.int (15 - (k : Int))) = some (dS nm) := by
    have hlt : 15 - k < ls.length := by omega
    refine ⟨ls[15 - k], List.getElem?_eq_getElem hlt, hs _ (List.getElem_mem hlt), ?_⟩
    have e15 : (15 : Int) - (k : Int) = ((15 - k : Nat) : Int) := by omega
    have h1 : ((15 - k : Nat) : Int) < (ls.length : Int) := by omega
    rw [e15]
    simp [ixop, atD, L2.atI, L2.ixN, hlt]
  obtain ⟨nm, hnm, snm, ixnm⟩ := ixn
  have i0 : ixop (.lst [.int x0, .int x1, .int x2, .int x3]) (.int 0) = some (.int x0) := rfl
  have i1 : ixop (.lst [.int x0, .int x1, .int x2, .int x3]) (.int 1) = some (.int x1) := rfl
  have i2 : ixop (.lst [.int x0, .int x1, .int x2, .int x3]) (.int 2) = some (.int x2) := rfl
  have i3 : ixop (.lst [.int x0, .int x1, .int x2, .int x3]) (.int 3) = some (.int x3) := rfl
  have hg := @gt_bnd k 0
  have bc := bin_cat (L.map eK) [eK (.own .num)] (by simp; omega)
  have bc' : L.map eK ++ [eK (.own .num)] = (L ++ [Kd.own .num]).map eK := by simp
  rw [bc', en] at bc
  have ni : ∀ x : D, cmpop .nisn x .non = some (match x with | .non => false | _ => true) := fun x => rfl
  have fin : ∀ js : List Kd, ∀ ks : List Kd, ks.length + js.length ≤ 16 → zipD (cutD (ls.map dS) (some ((nds ls ks).length : Int)) none) (js.map eK) = (nds (ls.drop ks.length) js).map eN := fun js ks hh => by
    rw [nds_len ls ks (by omega), drop_dS _ _ (by omega), zip_nds]
  by_cases h0 : k = 0
  · subst h0
    refine ⟨⟨nm, nds ls (List.replicate m3 (.own .num)), .non, nds (ls.drop m3) (L ++ [.own .num])⟩, ?_, fun _ => ⟨rfl, fun r hr => rep_mem _ _ (nds_mem _ _ r hr).2⟩, hnm.symm, ?_⟩
    · have := mk_head hn hs he nm snm (List.replicate m3 (.own .num)) (L ++ [.own .num]) .non (by simp; omega) (by simp; omega) (by omega) (fun k hk => by
        rcases List.mem_append.mp hk with hk | hk
        · exact gn k (rep_mem _ _ hk)
        · rcases List.mem_append.mp hk with hk | hk
          · exact gm k (hL2 k hk)
          · exact gn k (List.mem_singleton.mp hk)) ⟨(fun k hk => by cases hk), [], List.nil_sublist _, by simp, rfl⟩ (fun k hk => by cases hk) (by simp)
      simpa using this
    · have hz1 := zip_nds ls (List.replicate m3 (.own .num))
      have hz2 := fin (L ++ [.own .num]) (List.replicate m3 (.own .num)) (by simp; omega)
      have hlr : (List.replicate m3 (Kd.own .num)).length = m3 := by simp
      rw [hlr] at hz2
      have hg0 : cmpop .gt (.int ((0 : Nat) : Int)) (.int 0) = some false := hg
      have hln : ((nds ls (List.replicate m3 (Kd.own .num))).map eN).length = (nds ls (List.replicate m3 (Kd.own .num))).length := by simp
      rw [callF_s fn34 rfl rfl]
      simp only [eH]
      generalize hMM : (menuK b s).map eK = MM at *
      generalize (List.replicate m3 (Kd.own .num)).map eK = RM at *
      generalize hNP : (nds ls (List.replicate m3 (Kd.own .num))).map eN = NP at *
      generalize (nds ls (List.replicate m3 (Kd.own .num))).length = NL at *
      generalize (nds (ls.drop m3) (L ++ [Kd.own .num])).map eN = NQ at *
      generalize (L ++ [Kd.own .num]).map eK = LQ at *
      generalize L.map eK = LM at *
      generalize ls.map dS = LS at *
      have b3 := bin_mod x0 3 (by decide)
      have b16 := bin_div x0 16 (by decide) (by decide)
      have b7 := bin_mod (x0 / 16) 7 (by decide)
      rw [hm3] at b3
      rw [hm7] at b7
      have hn0 : cmpop .nisn .non .non = some false := rfl
      clear hm3 hm5 hm7
      simp at hg0 ixnm e1
      simp [evB_cons, evB_nil, seqB_nx, seqB_ret, seqB_exc, seqB_bk, seqB_ct, endF_ret, endF_nx, endF_exc, evS, ev, evs, evBop, evo, evc, evSr, R_ok, R_exc, R_some, O_ok, O_exc, startE, getv, lower, cmp_int, cmpne_int, cmp_lt, cmp_le, cmp_gt, cmp_ge, cmp_str, cmpne_str, bin_add, bin_sub, bin_mod, bin_div, bin_mul, bltop, slop, isaop, itemsOf, enumOf, zipOf, Tg.put, Tg.ids, setAll, wipeE, fn34, e1, i0, i1, i2, i3, b3, b16, b7, mk, hg0, hz1, e3, bc, hn0, ixnm, hln, hz2, eRe]
  · have hkp : 0 < k := by omega
    obtain ⟨re, lr, gre, e4⟩ := result_fn (G := G) (sub := sub) (fu := fu) n b s gb gs pb ps' (nds ls P) (by rw [nds_len _ _ (by omega)]; omega) x2
    obtain ⟨lb, e5⟩ := back_fn (G := G) (sub := sub) (fu := fu) n re
    have hpl : (nds ls P).length = P.length := nds_len _ _ (by omega)
    have hz1 := zip_nds ls P
    have hgk : cmpop .gt (.int (k : Int)) (.int 0) = some true := by rw [@gt_bnd k 0, decide_eq_true hkp]
    have b5 := bin_mod x0 5 (by decide)
    have b3 := bin_mod x0 3 (by decide)
    have b16 := bin_div x0 16 (by decide) (by decide)
    have b7 := bin_mod (x0 / 16) 7 (by decide)
    rw [hm3] at b3
    rw [hm5] at b5
    rw [hm7] at b7
    have main : ∀ js : List Kd, js.length ≤ 8 → (∀ k ∈ js, Gt k.sh ∧ Ps k.sh) → (∀ k, bk re = some k → k ∈ js) → Kd.own .num ∈ js → GH ⟨nm, nds ls P, re, nds (ls.drop P.length) js⟩ := fun js j1 j2 j3 j4 =>
      mk_head hn hs he nm snm P js re (by omega) j1 (by omega) (fun k hk => by
        rcases List.mem_append.mp hk with hk | hk
        · exact gm k (hP2 k hk)
        · exact j2 k hk) gre j3 j4
    have j0 : ∀ k ∈ L ++ [Kd.own .num], Gt k.sh ∧ Ps k.sh := fun k hk => by
      rcases List.mem_append.mp hk with hk | hk
      · exact gm k (hL2 k hk)
      · exact gn k (List.mem_singleton.mp hk)
    have hln : ((nds ls P).map eN).length = P.length := by simp [hpl]
    cases hb : bk re with
    | none =>
      have hre : re = .non := by cases re <;> first | rfl | (simp [bk] at hb)
      subst hre
      have hz2 := fin (L ++ [.own .num]) P (by simp; omega)
      rw [hpl] at hz2
      refine ⟨⟨nm, nds ls P, .non, nds (ls.drop P.length) (L ++ [.own .num])⟩, main _ (by simp; omega) j0 (fun k hk => by rw [hb] at hk; cases hk) (by simp), fun z => absurd z h0, hnm.symm, ?_⟩
      rw [callF_s fn34 rfl rfl]
      simp only [eH]
      generalize hMM : (menuK b s).map eK = MM at *
      generalize P.map eK = RM at *
      generalize hNP : (nds ls P).map eN = NP at *
      generalize (nds (ls.drop P.length) (L ++ [Kd.own .num])).map eN = NQ at *
      generalize (L ++ [Kd.own .num]).map eK = LQ at *
      generalize L.map eK = LM at *
      generalize ls.map dS = LS at *
      generalize (List.replicate m3 (Kd.own .num)).map eK = RP at *
      have hn0 : cmpop .nisn .non .non = some false := rfl
      clear hm3 hm5 hm7
      simp only [eRe] at e4 ⊢
      simp [evB_cons, evB_nil, seqB_nx, seqB_ret, seqB_exc, seqB_bk, seqB_ct, endF_ret, endF_nx, endF_exc, evS, ev, evs, evBop, evo, evc, evSr, R_ok, R_exc, R_some, O_ok, O_exc, startE, getv, lower, cmp_int, cmpne_int, cmp_lt, cmp_le, cmp_gt, cmp_ge, cmp_str, cmpne_str, bin_add, bin_sub, bin_mod, bin_div, bin_mul, bltop, slop, isaop, itemsOf, enumOf, zipOf, Tg.put, Tg.ids, setAll, wipeE, fn34, e1, i0, i1, i2, i3, b3, b5, b16, b7, mk, hgk, hz1, e2, e3, e4, bc, hn0, ixnm, hln, hz2]
    | some kb =>
      have hz2 := fin (L ++ [.own .num] ++ [kb]) P (by simp; omega)
      rw [hpl] at hz2
      refine ⟨⟨nm, nds ls P, re, nds (ls.drop P.length) (L ++ [.own .num] ++ [kb])⟩, main _ (by simp; omega) (fun k hk => by
        rcases List.mem_append.mp hk with hk | hk
        · exact j0 k hk
        · rw [List.mem_singleton.mp hk]; exact gre.1 kb hb) (fun k hk => by rw [hb] at hk; cases hk; simp) (by simp), fun z => absurd z h0, hnm.symm, ?_⟩
      have bc2 := bin_cat ((L ++ [Kd.own .num]).map eK) [eK kb] (by simp; omega)
      have bc2' : (L ++ [Kd.own .num]).map eK ++ [eK kb] = (L ++ [Kd.own .num] ++ [kb]).map eK := by simp
      rw [bc2'] at bc2
      rw [hb, show eBk (some kb) = eK kb from rfl] at e5
      have hn0 : cmpop .nisn (eRe re) .non = some true := by cases re with
        | non => simp [bk] at hb
        | own s => cases s <;> rfl
        | lent s src => rfl
        | sole s src => rfl
      rw [callF_s fn34 rfl rfl]
      simp only [eH]
      generalize hMM : (menuK b s).map eK = MM at *
      generalize P.map eK = RM at *
      generalize hNP : (nds ls P).map eN = NP at *
      generalize (nds (ls.drop P.length) (L ++ [Kd.own .num] ++ [kb])).map eN = NQ at *
      generalize (L ++ [Kd.own .num] ++ [kb]).map eK = LQ2 at *
      generalize (L ++ [Kd.own .num]).map eK = LQ at *
      generalize L.map eK = LM at *
      generalize ls.map dS = LS at *
      generalize (List.replicate m3 (Kd.own .num)).map eK = RP at *
      generalize eRe re = ER at *
      generalize eK kb = EB at *
      clear hm3 hm5 hm7
      simp [evB_cons, evB_nil, seqB_nx, seqB_ret, seqB_exc, seqB_bk, seqB_ct, endF_ret, endF_nx, endF_exc, evS, ev, evs, evBop, evo, evc, evSr, R_ok, R_exc, R_some, O_ok, O_exc, startE, getv, lower, cmp_int, cmpne_int, cmp_lt, cmp_le, cmp_gt, cmp_ge, cmp_str, cmpne_str, bin_add, bin_sub, bin_mod, bin_div, bin_mul, bltop, slop, isaop, itemsOf, enumOf, zipOf, Tg.put, Tg.ids, setAll, wipeE, fn34, e1, i0, i1, i2, i3, b3, b5, b16, b7, mk, hgk, hz1, e2, e3, e4, e5, bc, bc2, hn0, ixnm, hln, hz2]
structure GHs (HS : List Hd) : Prop where
  ne : HS ≠ []
  len : HS.length ≤ 6
  gh : ∀ h ∈ HS, GH h
  fst : ∀ h, HS[0]? = some h → h.re = .non ∧ ∀ r ∈ h.ps, r.k = .own .num
  nm : (HS.map (·.nm)).Nodup
theorem heads_fn (n : Nat) (ns : List Int) (hl : ns.length ≤ 63) : ∃ HS : List Hd, GHs HS ∧ callF G sub tab fu (n + 4) 35 [.lst (ns.map D.int)] = .ok 1 (.lst (HS.map eH)) := by
  obtain ⟨c0, e0⟩ := at_fn (G := G) (sub := sub) (fu := fu) (n + 2) ns 0 (by omega)
  obtain ⟨c1, e1⟩ := at_fn (G := G) (sub := sub) (fu := fu) (n + 2) ns 1 (by omega)
  obtain ⟨c2, e2⟩ := at_fn (G := G) (sub := sub) (fu := fu) (n + 2) ns 2 (by omega)
  obtain ⟨B, at_, hat, e3⟩ := names_fn (G := G) (sub := sub) (fu := fu) (n + 2) c0 16 (by omega)
  obtain ⟨b, s, gb, gs, pb, ps, e4⟩ := menu_fn (G := G) (sub := sub) (fu := fu) (n + 2) (c1 * 48271 % 2147483647)
  have hnn := names_nodup (c := c0) (B := B) (at_ := at_) (M := 16) hat (by omega)
  have hss : ∀ l ∈ (List.range' 0 16).map (nmk c0 B at_), Sm l := fun l hl => by
    obtain ⟨k, _, rfl⟩ := List.mem_map.mp hl
    exact nmk_sm _ _ _ _
  have hne : ∀ l ∈ (List.range' 0 16).map (nmk c0 B at_), l ≠ [] := fun l hl => by
    obtain ⟨k, _, rfl⟩ := List.mem_map.mp hl
    exact nmk_ne hat
  have hl16 : ((List.range' 0 16).map (nmk c0 B at_)).length = 16 := by simp
  generalize (List.range' 0 16).map (nmk c0 B at_) = LS at *
  obtain ⟨m, hm, hm1, hm6⟩ : ∃ m : Nat, 1 + c2 % 6 = (m : Int) ∧ 1 ≤ m ∧ m ≤ 6 := ⟨(1 + c2 % 6).toNat, by omega, by omega, by omega⟩
  have hr := rngop (m := m) (by omega)
  have each : ∀ k : Nat, ∃ h : Hd, k ≤ 5 → ∃ v : Int, callF G sub tab fu (n + 3) 20 [.lst (ns.map D.int), .int (3 + (k : Int))] = .ok 0 (.int v) ∧ GH h ∧ (k = 0 → h.re = .non ∧ (∀ r ∈ h.ps, r.k = .own .num)) ∧ some h.nm = LS[15 - k]? ∧ callF G sub tab fu (n + 3) 34 [.lst ((menuK b s).map eK), .lst (LS.map dS), .int k, .int v] = .ok 1 (eH h) := fun k => by
    by_cases hk : k ≤ 5
    · obtain ⟨v, ev⟩ := at_fn (G := G) (sub := sub) (fu := fu) (n + 2) ns (3 + k) (by omega)
      obtain ⟨h, h1, h2, h3, h4⟩ := head_fn (G := G) (sub := sub) (fu := fu) (n + 1) b s gb gs pb ps LS hnn hss hne hl16 k hk v
      exact ⟨h, fun _ => ⟨v, by rw [show (3 : Int) + (k : Int) = ((3 + k : Nat) : Int) by omega]; exact ev, h1, h2, h3, h4⟩⟩
    · exact ⟨⟨[], [], .non, []⟩, fun z => absurd z hk⟩
  obtain ⟨f, hf⟩ := Classical.axiomOfChoice each
  refine ⟨(List.range' 0 m).map f, ⟨?_, by simp; omega, fun h hh => ?_, fun h hh => ?_, ?_⟩, ?_⟩
  · intro z
    have := congrArg List.length z
    simp at this
    omega
  · obtain ⟨k, hk, rfl⟩ := List.mem_map.mp hh
    rw [List.mem_range'_1] at hk
    obtain ⟨v, _, h1, _⟩ := hf k (by omega)
    exact h1
  · obtain ⟨m', rfl⟩ : ∃ m', m = m' + 1 := ⟨m - 1, by omega⟩
    rw [List.range'_succ] at hh
    simp at hh
    subst hh
    obtain ⟨v, _, _, h2, _⟩ := hf 0 (by omega)
    exact h2 rfl
  · rw [List.map_map, List.nodup_iff_pairwise_ne, List.pairwise_map]
    refine List.Pairwise.imp_of_mem ?_ (List.nodup_iff_pairwise_ne.mp List.nodup_range')
    intro i j hi hj hij e
    rw [List.mem_range'_1] at hi hj
    obtain ⟨_, _, _, _, h3, _⟩ := hf i (by omega)
    obtain ⟨_, _, _, _, h4, _⟩ := hf j (by omega)
    have e' : (f i).nm = (f j).nm := e
    have h34 : LS[15 - i]? = LS[15 - j]? := h3.symm.trans ((congrArg some e').trans h4)
    have := (List.getElem?_inj (by omega) hnn).mp h34
    omega
  · have e0' : callF G sub tab fu (n + 3) 20 [.lst (ns.map D.int), .int 0] = .ok 0 (.int c0) := by rw [show (0 : Int) = ((0 : Nat) : Int) from rfl]; exact e0
    have e1' : callF G sub tab fu (n + 3) 20 [.lst (ns.map D.int), .int 1] = .ok 0 (.int c1) := by rw [show (1 : Int) = ((1 : Nat) : Int) from rfl]; exact e1
    have e2' : callF G sub tab fu (n + 3) 20 [.lst (ns.map D.int), .int 2] = .ok 0 (.int c2) := by rw [show (2 : Int) = ((2 : Nat) : Int) from rfl]; exact e2
    have e3' : callF G sub tab fu (n + 3) 22 [.int c0, .int 16] = .ok 1 (.lst (LS.map dS)) := by rw [show (16 : Int) = ((16 : Nat) : Int) from rfl]; exact e3
    have b1 := bin_mul c1 48271 (by decide)
    have b2 := bin_mod (c1 * 48271) 2147483647 (by decide)
    have b3 := bin_mod c2 6 (by decide)
    have b4 := bin_add 1 (c2 % 6)
    rw [hm] at b4
    rw [callF_s fn35 rfl rfl]
    generalize c1 * 48271 = w1 at *
    generalize w1 % 2147483647 = w2 at *
    generalize c2 % 6 = w3 at *
    clear hm
    generalize (menuK b s).map eK = MM at *
    generalize LS.map dS = NN at *
    generalize D.lst (ns.map D.int) = Z at *
    simp [evB_cons, evB_nil, seqB_nx, seqB_ret, seqB_exc, seqB_bk, seqB_ct, endF_ret, endF_nx, endF_exc, evS, ev, evs, evBop, evo, evc, evSr, R_ok, R_exc, R_some, O_ok, O_exc, startE, getv, lower, ixop, atD, L2.atI, L2.ixN, cmp_int, cmpne_int, cmp_lt, cmp_le, cmp_gt, cmp_ge, cmp_str, cmpne_str, bltop, slop, isaop, itemsOf, enumOf, zipOf, Tg.put, Tg.ids, setAll, wipeE, fn35, e0', e1', e2', e3', e4, b1, b2, b3, b4, hr]
    rw [compT_map (fun k : Nat => eH (f k)) (List.range' 0 m) (fun k hk => by
      rw [List.mem_range'_1] at hk
      obtain ⟨v, h1, _, _, _, h2⟩ := hf k (by omega)
      have b5 := bin_add 3 (k : Int)
      simp [compF, evB_cons, evB_nil, seqB_nx, seqB_ret, seqB_exc, seqB_bk, seqB_ct, endF_ret, endF_nx, endF_exc, evS, ev, evs, evBop, evo, evc, evSr, R_ok, R_exc, R_some, O_ok, O_exc, startE, getv, lower, ixop, atD, L2.atI, L2.ixN, cmp_int, cmpne_int, cmp_lt, cmp_le, cmp_gt, cmp_ge, cmp_str, cmpne_str, bltop, slop, isaop, itemsOf, enumOf, zipOf, Tg.put, Tg.ids, setAll, wipeE, b5, h1, h2]) (by simp; omega)]
    simp [evB_cons, evB_nil, seqB_nx, seqB_ret, seqB_exc, seqB_bk, seqB_ct, endF_ret, endF_nx, endF_exc, evS, ev, evs, evBop, evo, evc, evSr, R_ok, R_exc, R_some, O_ok, O_exc, startE, getv, lower, ixop, atD, L2.atI, L2.ixN, cmp_int, cmpne_int, cmp_lt, cmp_le, cmp_gt, cmp_ge, cmp_str, cmpne_str, bin_add, bin_sub, bin_mod, bin_div, bin_mul, bltop, slop, isaop, itemsOf, enumOf, zipOf, Tg.put, Tg.ids, setAll, wipeE, Function.comp_def]
end
end Ly

set_option Elab.async false
set_option linter.all false
set_option maxRecDepth 100000
set_option maxHeartbeats 800000
namespace Ly
open PySem
def fit (R : List Nd) (k : Kd) : List (List Nat) := (R.filter fun nd => eqd (eK nd.k) (eK k)).map (·.l)
/-- a name of a kind alike -/
def Alike (R : List Nd) (k : Kd) (a : List Nat) : Prop := ∃ nd, lk R a = some nd ∧ GN nd ∧ eqd (eK nd.k) (eK k) = true
theorem fit_alike {R : List Nd} (hn : (R.map (·.l)).Nodup) (hg : ∀ r ∈ R, GN r) {k : Kd} {a : List Nat} (h : a ∈ fit R k) : Alike R k a := by
  obtain ⟨nd, h1, rfl⟩ := List.mem_map.mp h
  obtain ⟨h2, h3⟩ := List.mem_filter.mp h1
  exact ⟨nd, find_nd R hn nd h2, hg nd h2, h3⟩
theorem fit_len (R : List Nd) (k : Kd) : (fit R k).length ≤ R.length := by
  unfold fit
  rw [List.length_map]
  exact List.length_filter_le _ _
theorem Alike.hs {R : List Nd} {k : Kd} {a : List Nat} (h : Alike R k a) : Hs R a := by
  obtain ⟨nd, h1, h2, _⟩ := h
  exact ⟨nd, h1, h2⟩
theorem cmp_kd {a b : Kd} (ha : Gt a.sh) (hb : Gt b.sh) : cmpop .eq (eK a) (eK b) = some (eqd (eK a) (eK b)) := by
  simp only [cmpop, okd_eK ha, okd_eK hb, Bool.and_self, if_true]
inductive Alikes (R : List Nd) : List Nd → List (List Nat) → Prop where
  | nil : Alikes R [] []
  | cons {p : Nd} {ps : List Nd} {a : List Nat} {as : List (List Nat)} : Alike R p.k a → Alikes R ps as → Alikes R (p :: ps) (a :: as)
theorem Alikes.hs {R : List Nd} : ∀ {ps : List Nd} {as : List (List Nat)}, Alikes R ps as → ∀ a ∈ as, Hs R a
  | _, _, .nil => by simp
  | _, _, .cons h t => fun a ha => by
    rcases List.mem_cons.mp ha with rfl | ha
    · exact h.hs
    · exact Alikes.hs t a ha
theorem Alikes.len {R : List Nd} : ∀ {ps : List Nd} {as : List (List Nat)}, Alikes R ps as → as.length = ps.length
  | _, _, .nil => rfl
  | _, _, .cons h t => by rw [List.length_cons, List.length_cons, Alikes.len t]
theorem Alikes.snoc {R : List Nd} : ∀ {ps : List Nd} {as : List (List Nat)} {p : Nd} {a : List Nat}, Alikes R ps as → Alike R p.k a → Alikes R (ps ++ [p]) (as ++ [a])
  | _, _, _, _, .nil, h => .cons h .nil
  | _, _, _, _, .cons h t, h' => .cons h (Alikes.snoc t h')
/-- a call that fits -/
structure CallOk (HS : List Hd) (R : List Nd) (m f : List Nat) (as : List (List Nat)) (h : Hd) : Prop where
  mem : h ∈ HS
  nm : f = h.nm
  args : Alikes R h.ps as
  take : match bk h.re with
    | none => m = []
    | some k => Alike R k m
def eOr : Option Rw → D
  | none => .non
  | some r => eRw r
section
variable {G : Nat → Option D} {sub : Nat → Nat → Bool} {fu : Nat}
theorem fit_comp (n : Nat) (t : Env) (ht : t.length = 13) (hv : t[11]? = some (some (0, eK k))) (R : List Nd) (hg : ∀ r ∈ R, GN r) (hl : R.length ≤ 1000) (gk : Gt k.sh) :
    compT (.tup [13, 14]) 0 (evc G sub (callF G sub tab fu n) (.yes (.cmp .eq (.var 14) (.var 11)))) (ev G sub (callF G sub tab fu n) 0 (.var 13)) (R.map eN) (t ++ [none, none]) = some (t ++ [none, none], (fit R k).map dS) := by
  obtain ⟨a0, a1, a2, a3, a4, a5, a6, a7, a8, a9, a10, a12, rfl⟩ : ∃ a0 a1 a2 a3 a4 a5 a6 a7 a8 a9 a10 a12, t = [a0, a1, a2, a3, a4, a5, a6, a7, a8, a9, a10, some (0, eK k), a12] := by
    match t, ht with
    | [a0, a1, a2, a3, a4, a5, a6, a7, a8, a9, a10, a11, a12], _ => simp at hv; subst hv; exact ⟨_, _, _, _, _, _, _, _, _, _, _, _, rfl⟩
  rw [compT_filter (fun nd : Nd => if eqd (eK nd.k) (eK k) then some (dS nd.l) else none) R (fun nd hnd => by
    have h := cmp_kd (hg nd hnd).2 gk
    cases hb : eqd (eK nd.k) (eK k) with
    | true =>
      rw [hb] at h
      generalize eK k = K at *
      simp [compF, evB_cons, evB_nil, seqB_nx, seqB_ret, seqB_exc, seqB_bk, seqB_ct, endF_ret, endF_nx, endF_exc, evS, ev, evs, evBop, evo, evc, evSr, R_ok, R_exc, R_some, O_ok, O_exc, startE, getv, lower, ixop, atD, L2.atI, L2.ixN, cmp_int, cmpne_int, cmp_lt, cmp_le, cmp_gt, cmp_ge, cmp_str, cmpne_str, bin_add, bin_sub, bin_mod, bin_div, bin_mul, bltop, slop, isaop, itemsOf, enumOf, zipOf, Tg.put, Tg.ids, setAll, wipeE, eN, h]
    | false =>
      rw [hb] at h
      generalize eK k = K at *
      simp [compF, evB_cons, evB_nil, seqB_nx, seqB_ret, seqB_exc, seqB_bk, seqB_ct, endF_ret, endF_nx, endF_exc, evS, ev, evs, evBop, evo, evc, evSr, R_ok, R_exc, R_some, O_ok, O_exc, startE, getv, lower, ixop, atD, L2.atI, L2.ixN, cmp_int, cmpne_int, cmp_lt, cmp_le, cmp_gt, cmp_ge, cmp_str, cmpne_str, bin_add, bin_sub, bin_mod, bin_div, bin_mul, bltop, slop, isaop, itemsOf, enumOf, zipOf, Tg.put, Tg.ids, setAll, wipeE, eN, h]) (by omega), filterMap_if (fun nd : Nd => eqd (eK nd.k) (eK k))]
  unfold fit
  rw [List.map_map]
  rfl
theorem args_ind (n : Nat) (R : List Nd) (hn : (R.map (·.l)).Nodup) (hg : ∀ r ∈ R, GN r) (hl : R.length ≤ 1000) (o0 o2 o3 o4 o5 o6 o7 : Option (Nat × D)) : ∀ (ps done : List Nd) (as : List (List Nat)) (c : Int) (o10 o11 o12 : Option (Nat × D)), (∀ p ∈ ps, Gt p.k.sh) → Alikes R done as → as.length + ps.length ≤ 1000 →
    forT (.tup [10, 11]) (evB G sub (callF G sub tab fu n) fu bd36_0) (ps.map eN) [o0, some (0, .lst (R.map eN)), o2, o3, o4, o5, o6, o7, some (1, .lst (as.map dS)), some (0, .int c), o10, o11, o12, none, none] = .ret 0 .non ∨
    ∃ (as' : List (List Nat)) (c' : Int) (o10' o11' o12' : Option (Nat × D)), Alikes R (done ++ ps) as' ∧
      forT (.tup [10, 11]) (evB G sub (callF G sub tab fu n) fu bd36_0) (ps.map eN) [o0, some (0, .lst (R.map eN)), o2, o3, o4, o5, o6, o7, some (1, .lst (as.map dS)), some (0, .int c), o10, o11, o12, none, none] = .nx [o0, some (0, .lst (R.map eN)), o2, o3, o4, o5, o6, o7, some (1, .lst (as'.map dS)), some (0, .int c'), o10', o11', o12', none, none]
  | [], done, as, c, o10, o11, o12, _, h, _ => .inr ⟨as, c, o10, o11, o12, by rw [List.append_nil]; exact h, by simp [forT, forLoop]⟩
  | p :: ps, done, as, c, o10, o11, o12, gp, h, hl' => by
    rw [List.length_cons] at hl'
    have step : ∀ f, forT (.tup [10, 11]) f ((p :: ps).map eN) [o0, some (0, .lst (R.map eN)), o2, o3, o4, o5, o6, o7, some (1, .lst (as.map dS)), some (0, .int c), o10, o11, o12, none, none] = match f [o0, some (0, .lst (R.map eN)), o2, o3, o4, o5, o6, o7, some (1, .lst (as.map dS)), some (0, .int c), some (0, dS p.l), some (0, eK p.k), o12, none, none] with
      | .nx r1 => forT (.tup [10, 11]) f (ps.map eN) r1
      | .ct r1 => forT (.tup [10, 11]) f (ps.map eN) r1
      | .bk r1 => .nx r1
      | .ret l d => .ret l d
      | .exc r1 c => .exc r1 c
      | .bad => .bad := fun f => rfl
    have fc := fit_comp (G := G) (sub := sub) (fu := fu) (k := p.k) n [o0, some (0, .lst (R.map eN)), o2, o3, o4, o5, o6, o7, some (1, .lst (as.map dS)), some (0, .int c), some (0, dS p.l), some (0, eK p.k), o12] rfl rfl R hg hl (gp p List.mem_cons_self)
    simp only [List.cons_append, List.nil_append] at fc
    have hz := cmp_nil0 ((fit R p.k).map dS)
    by_cases hF : fit R p.k = []
    · left
      rw [hF] at fc hz
      have : evB G sub (callF G sub tab fu n) fu bd36_0 [o0, some (0, .lst (R.map eN)), o2, o3, o4, o5, o6, o7, some (1, .lst (as.map dS)), some (0, .int c), some (0, dS p.l), some (0, eK p.k), o12, none, none] = .ret 0 .non := by
        generalize R.map eN = RR at *
        generalize eK p.k = K at *
        simp [evB_cons, evB_nil, seqB_nx, seqB_ret, seqB_exc, seqB_bk, seqB_ct, endF_ret, endF_nx, endF_exc, evS, ev, evs, evBop, evo, evc, evSr, R_ok, R_exc, R_some, O_ok, O_exc, startE, getv, lower, ixop, atD, L2.atI, L2.ixN, cmp_int, cmpne_int, cmp_lt, cmp_le, cmp_gt, cmp_ge, cmp_str, cmpne_str, bin_add, bin_sub, bin_mod, bin_div, bin_mul, bltop, slop, isaop, itemsOf, enumOf, zipOf, Tg.put, Tg.ids, setAll, wipeE, bd36_0] at fc hz ⊢
        rw [fc]
        simp [evB_cons, evB_nil, seqB_nx, seqB_ret, seqB_exc, seqB_bk, seqB_ct, endF_ret, endF_nx, endF_exc, evS, ev, evs, evBop, evo, evc, evSr, R_ok, R_exc, R_some, O_ok, O_exc, startE, getv, lower, ixop, atD, L2.atI, L2.ixN, cmp_int, cmpne_int, cmp_lt, cmp_le, cmp_gt, cmp_ge, cmp_str, cmpne_str, bin_add, bin_sub, bin_mod, bin_div, bin_mul, bltop, slop, isaop, itemsOf, enumOf, zipOf, Tg.put, Tg.ids, setAll, wipeE, hz]
      rw [step, this]
    · have hpos : 0 < (fit R p.k).length := List.length_pos_iff.mpr hF
      have hpz : (0 : Int) < ((fit R p.k).length : Int) := by omega
      obtain ⟨a, ha, hix⟩ := ix_list (g := dS) (L := fit R p.k) (i := c % ((fit R p.k).length : Int)) (Int.emod_nonneg _ (by omega)) (Int.emod_lt_of_pos _ hpz)
      have al := fit_alike hn hg ha
      have bm := bin_mod c ((fit R p.k).length : Int) hpz
      have hemp : (List.map dS (fit R p.k)).isEmpty = false := by cases hh : fit R p.k with
        | nil => exact absurd hh hF
        | cons _ _ => rfl
      rw [hemp] at hz
      have hd' : as.length < LN := by show _ < 16777216; omega
      have e1 : evB G sub (callF G sub tab fu n) fu bd36_0 [o0, some (0, .lst (R.map eN)), o2, o3, o4, o5, o6, o7, some (1, .lst (as.map dS)), some (0, .int c), some (0, dS p.l), some (0, eK p.k), o12, none, none] =
          .nx [o0, some (0, .lst (R.map eN)), o2, o3, o4, o5, o6, o7, some (1, .lst ((as ++ [a]).map dS)), some (0, .int (c / 8)), some (0, dS p.l), some (0, eK p.k), some (0, .lst ((fit R p.k).map dS)), none, none] := by
        generalize R.map eN = RR at *
        generalize eK p.k = K at *
        simp [evB_cons, evB_nil, seqB_nx, seqB_ret, seqB_exc, seqB_bk, seqB_ct, endF_ret, endF_nx, endF_exc, evS, ev, evs, evBop, evo, evc, evSr, R_ok, R_exc, R_some, O_ok, O_exc, startE, getv, lower, cmp_int, cmpne_int, cmp_lt, cmp_le, cmp_gt, cmp_ge, cmp_str, cmpne_str, bin_add, bin_sub, bin_mod, bin_div, bin_mul, bltop, slop, isaop, itemsOf, enumOf, zipOf, Tg.put, Tg.ids, setAll, wipeE, bd36_0] at fc ⊢
        rw [fc]
        simp [evB_cons, evB_nil, seqB_nx, seqB_ret, seqB_exc, seqB_bk, seqB_ct, endF_ret, endF_nx, endF_exc, evS, ev, evs, evBop, evo, evc, evSr, R_ok, R_exc, R_some, O_ok, O_exc, startE, getv, lower, cmp_int, cmpne_int, cmp_lt, cmp_le, cmp_gt, cmp_ge, cmp_str, cmpne_str, bin_add, bin_sub, bin_mod, bin_div, bin_mul, bltop, slop, isaop, itemsOf, enumOf, zipOf, Tg.put, Tg.ids, setAll, wipeE, hz, hix, bm, hd']
      rw [step, e1]
      simp only
      have ih := args_ind n R hn hg hl o0 o2 o3 o4 o5 o6 o7 ps (done ++ [p]) (as ++ [a]) (c / 8) (some (0, dS p.l)) (some (0, eK p.k)) (some (0, .lst ((fit R p.k).map dS))) (fun q hq => gp q (List.mem_cons_of_mem _ hq)) (h.snoc al) (by simp; omega)
      rw [List.append_assoc] at ih
      exact ih
theorem back_comp (n : Nat) (re : Re) (k : Kd) (hk : bk re = some k) (gk : Gt k.sh) (t : Env) (ht : t.length = 13) (hv : t[6]? = some (some (0, eRe re))) (R : List Nd) (hg : ∀ r ∈ R, GN r) (hl : R.length ≤ 1000) :
    compT (.tup [13, 14]) 0 (evc G sub (callF G sub tab fu (n + 1)) (.yes (.cmp .eq (.var 14) (.call false 33 (.cons (.var 6) .nil))))) (ev G sub (callF G sub tab fu (n + 1)) 0 (.var 13)) (R.map eN) (t ++ [none, none]) = some (t ++ [none, none], (fit R k).map dS) := by
  obtain ⟨a0, a1, a2, a3, a4, a5, a7, a8, a9, a10, a11, a12, rfl⟩ : ∃ a0 a1 a2 a3 a4 a5 a7 a8 a9 a10 a11 a12, t = [a0, a1, a2, a3, a4, a5, some (0, eRe re), a7, a8, a9, a10, a11, a12] := by
    match t, ht with
    | [a0, a1, a2, a3, a4, a5, a6, a7, a8, a9, a10, a11, a12], _ => simp at hv; subst hv; exact ⟨_, _, _, _, _, _, _, _, _, _, _, _, rfl⟩
  obtain ⟨lb, e5⟩ := back_fn (G := G) (sub := sub) (fu := fu) n re
  rw [hk, show eBk (some k) = eK k from rfl] at e5
  rw [compT_filter (fun nd : Nd => if eqd (eK nd.k) (eK k) then some (dS nd.l) else none) R (fun nd hnd => by
    have h := cmp_kd (hg nd hnd).2 gk
    generalize eRe re = ER at *
    cases hb : eqd (eK nd.k) (eK k) with
    | true =>
      rw [hb] at h
      generalize eK k = K at *
      simp [compF, evB_cons, evB_nil, seqB_nx, seqB_ret, seqB_exc, seqB_bk, seqB_ct, endF_ret, endF_nx, endF_exc, evS, ev, evs, evBop, evo, evc, evSr, R_ok, R_exc, R_some, O_ok, O_exc, startE, getv, lower, ixop, atD, L2.atI, L2.ixN, cmp_int, cmpne_int, cmp_lt, cmp_le, cmp_gt, cmp_ge, cmp_str, cmpne_str, bin_add, bin_sub, bin_mod, bin_div, bin_mul, bltop, slop, isaop, itemsOf, enumOf, zipOf, Tg.put, Tg.ids, setAll, wipeE, eN, e5, h]
    | false =>
      rw [hb] at h
      generalize eK k = K at *
      simp [compF, evB_cons, evB_nil, seqB_nx, seqB_ret, seqB_exc, seqB_bk, seqB_ct, endF_ret, endF_nx, endF_exc, evS, ev, evs, evBop, evo, evc, evSr, R_ok, R_exc, R_some, O_ok, O_exc, startE, getv, lower, ixop, atD, L2.atI, L2.ixN, cmp_int, cmpne_int, cmp_lt, cmp_le, cmp_gt, cmp_ge, cmp_str, cmpne_str, bin_add, bin_sub, bin_mod, bin_div, bin_mul, bltop, slop, isaop, itemsOf, enumOf, zipOf, Tg.put, Tg.ids, setAll, wipeE, eN, e5, h]) (by omega), filterMap_if (fun nd : Nd => eqd (eK nd.k) (eK k))]
  unfold fit
  rw [List.map_map]
  rfl
/-- a call drawn, or none -/
theorem call_lf (n : Nat) (HS : List Hd) (gh : GHs HS) (R : List Nd) (hn : (R.map (·.l)).Nodup) (hg : ∀ r ∈ R, GN r) (hl : R.length ≤ 12) (c : Int) :
    ∃ (o : Option Rw) (l : Nat), (∀ r, o = some r → ∃ m f as h, r = .call m f as ∧ CallOk HS R m f as h) ∧ callF G sub tab fu (n + 2) 36 [.lst (HS.map eH), .lst (R.map eN), .int c] = .ok l (eOr o) := by
  obtain ⟨x0, x1, x2, x3, e1⟩ := mixed_fn (G := G) (sub := sub) (fu := fu) n c
  have hHp : 0 < HS.length := List.length_pos_iff.mpr gh.ne
  have hHz : (0 : Int) < (HS.length : Int) := by omega
  obtain ⟨h, hh, hix⟩ := ix_list (g := eH) (L := HS) (i := x0 % (HS.length : Int)) (Int.emod_nonneg _ (by omega)) (Int.emod_lt_of_pos _ hHz)
  have bm := bin_mod x0 (HS.length : Int) hHz
  have g := gh.gh h hh
  have i0 : ixop (.lst [.int x0, .int x1, .int x2, .int x3]) (.int 0) = some (.int x0) := rfl
  have i1 : ixop (.lst [.int x0, .int x1, .int x2, .int x3]) (.int 1) = some (.int x1) := rfl
  have i2 : ixop (.lst [.int x0, .int x1, .int x2, .int x3]) (.int 2) = some (.int x2) := rfl
  have gp : ∀ p ∈ h.ps, Gt p.k.sh := fun p hp => (g.gn p (List.mem_append_left _ hp)).2
  have pl := g.pl
  have a1 : evB G sub (callF G sub tab fu (n + 1)) fu (takeB 4 fn36.body) (startE fn36.nn [.lst (HS.map eH), .lst (R.map eN), .int c]) = .nx [some (0, .lst (HS.map eH)), some (0, .lst (R.map eN)), some (0, .int c), some (0, .lst [.int x0, .int x1, .int x2, .int x3]), some (0, dS h.nm), some (0, .lst (h.ps.map eN)), some (0, eRe h.re), some (0, .lst (h.ls.map eN)), some (1, .lst []), some (0, .int x1), none, none, none, none, none] := by
    have heH : eH h = .tup [dS h.nm, .lst (h.ps.map eN), eRe h.re, .lst (h.ls.map eN)] := rfl
    generalize eRe h.re = ER at *
    generalize D.lst (R.map eN) = K at *
    simp [evB_cons, evB_nil, seqB_nx, seqB_ret, seqB_exc, seqB_bk, seqB_ct, endF_ret, endF_nx, endF_exc, evS, ev, evs, evBop, evo, evc, evSr, R_ok, R_exc, R_some, O_ok, O_exc, startE, getv, lower, cmp_int, cmpne_int, cmp_lt, cmp_le, cmp_gt, cmp_ge, cmp_str, cmpne_str, bin_add, bin_sub, bin_mod, bin_div, bin_mul, bltop, slop, isaop, itemsOf, enumOf, zipOf, Tg.put, Tg.ids, setAll, wipeE, fn36, takeB, e1, i0, i1, bm, hix, heH]
  rw [callF_s fn36 rfl rfl, evB_cut 4, a1, seqB_nx]
  have ind := args_ind (G := G) (sub := sub) (fu := fu) (n + 1) R hn hg (by omega) (some (0, .lst (HS.map eH))) (some (0, .int c)) (some (0, .lst [.int x0, .int x1, .int x2, .int x3])) (some (0, dS h.nm)) (some (0, .lst (h.ps.map eN))) (some (0, eRe h.re)) (some (0, .lst (h.ls.map eN))) h.ps [] [] x1 none none none gp .nil (by simp; omega)
  rcases ind with e | ⟨as, c', p10, p11, p12, hal, e⟩
  · refine ⟨none, 0, (fun r z => by cases z), ?_⟩
    simp only [List.map_nil] at e
    generalize R.map eN = RR at *
    generalize eRe h.re = ER at *
    simp [evB_cons, evB_nil, seqB_nx, seqB_ret, seqB_exc, seqB_bk, seqB_ct, endF_ret, endF_nx, endF_exc, evS, ev, evs, evBop, evo, evc, evSr, R_ok, R_exc, R_some, O_ok, O_exc, startE, getv, lower, ixop, atD, L2.atI, L2.ixN, cmp_int, cmpne_int, cmp_lt, cmp_le, cmp_gt, cmp_ge, cmp_str, cmpne_str, bin_add, bin_sub, bin_mod, bin_div, bin_mul, bltop, slop, isaop, itemsOf, enumOf, zipOf, Tg.put, Tg.ids, setAll, wipeE, fn36, dropB]
    rw [e]
    simp [evB_cons, evB_nil, seqB_nx, seqB_ret, seqB_exc, seqB_bk, seqB_ct, endF_ret, endF_nx, endF_exc, evS, ev, evs, evBop, evo, evc, evSr, R_ok, R_exc, R_some, O_ok, O_exc, startE, getv, lower, ixop, atD, L2.atI, L2.ixN, cmp_int, cmpne_int, cmp_lt, cmp_le, cmp_gt, cmp_ge, cmp_str, cmpne_str, bin_add, bin_sub, bin_mod, bin_div, bin_mul, bltop, slop, isaop, itemsOf, enumOf, zipOf, Tg.put, Tg.ids, setAll, wipeE, eOr]
  · simp only [List.map_nil] at e
    rw [List.nil_append] at hal
    cases hb : bk h.re with
    | none =>
      have hre : h.re = .non := by cases hr : h.re <;> first | rfl | (rw [hr] at hb; simp [bk] at hb)
      refine ⟨some (.call [] h.nm as), 1, (fun r z => by cases z; exact ⟨_, _, _, h, rfl, ⟨hh, rfl, hal, by rw [hb]⟩⟩), ?_⟩
      have hs1 : cmpop .isn .non .non = some true := rfl
      rw [hre, show eRe .non = .non from rfl] at e ⊢
      generalize R.map eN = RR at *
      simp [evB_cons, evB_nil, seqB_nx, seqB_ret, seqB_exc, seqB_bk, seqB_ct, endF_ret, endF_nx, endF_exc, evS, ev, evs, evBop, evo, evc, evSr, R_ok, R_exc, R_some, O_ok, O_exc, startE, getv, lower, ixop, atD, L2.atI, L2.ixN, cmp_int, cmpne_int, cmp_lt, cmp_le, cmp_gt, cmp_ge, cmp_str, cmpne_str, bin_add, bin_sub, bin_mod, bin_div, bin_mul, bltop, slop, isaop, itemsOf, enumOf, zipOf, Tg.put, Tg.ids, setAll, wipeE, fn36, dropB]
      rw [e]
      simp [evB_cons, evB_nil, seqB_nx, seqB_ret, seqB_exc, seqB_bk, seqB_ct, endF_ret, endF_nx, endF_exc, evS, ev, evs, evBop, evo, evc, evSr, R_ok, R_exc, R_some, O_ok, O_exc, startE, getv, lower, ixop, atD, L2.atI, L2.ixN, cmp_int, cmpne_int, cmp_lt, cmp_le, cmp_gt, cmp_ge, cmp_str, cmpne_str, bin_add, bin_sub, bin_mod, bin_div, bin_mul, bltop, slop, isaop, itemsOf, enumOf, zipOf, Tg.put, Tg.ids, setAll, wipeE, hs1, eOr, eRw, dS, cat_nil]
    | some k =>
      have gk := (g.re.1 k hb).1
      have bc := back_comp (G := G) (sub := sub) (fu := fu) n h.re k hb gk [some (0, .lst (HS.map eH)), some (0, .lst (R.map eN)), some (0, .int c), some (0, .lst [.int x0, .int x1, .int x2, .int x3]), some (0, dS h.nm), some (0, .lst (h.ps.map eN)), some (0, eRe h.re), some (0, .lst (h.ls.map eN)), some (1, .lst (as.map dS)), some (0, .int c'), p10, p11, p12] rfl rfl R hg (by omega)
      simp only [List.cons_append, List.nil_append] at bc
      have hz := cmp_nil0 ((fit R k).map dS)
      have hs1 : cmpop .isn (eRe h.re) .non = some false := by cases hr : h.re with
        | non => rw [hr] at hb; simp [bk] at hb
        | own s => cases s <;> rfl
        | lent s src => rfl
        | sole s src => rfl
      by_cases hF : fit R k = []
      · refine ⟨none, 0, (fun r z => by cases z), ?_⟩
        rw [hF] at bc hz
        generalize R.map eN = RR at *
        generalize eRe h.re = ER at *
        simp [evB_cons, evB_nil, seqB_nx, seqB_ret, seqB_exc, seqB_bk, seqB_ct, endF_ret, endF_nx, endF_exc, evS, ev, evs, evBop, evo, evc, evSr, R_ok, R_exc, R_some, O_ok, O_exc, startE, getv, lower, ixop, atD, L2.atI, L2.ixN, cmp_int, cmpne_int, cmp_lt, cmp_le, cmp_gt, cmp_ge, cmp_str, cmpne_str, bin_add, bin_sub, bin_mod, bin_div, bin_mul, bltop, slop, isaop, itemsOf, enumOf, zipOf, Tg.put, Tg.ids, setAll, wipeE, fn36, dropB] at bc hz ⊢
        rw [e]
        simp [evB_cons, evB_nil, seqB_nx, seqB_ret, seqB_exc, seqB_bk, seqB_ct, endF_ret, endF_nx, endF_exc, evS, ev, evs, evBop, evo, evc, evSr, R_ok, R_exc, R_some, O_ok, O_exc, startE, getv, lower, ixop, atD, L2.atI, L2.ixN, cmp_int, cmpne_int, cmp_lt, cmp_le, cmp_gt, cmp_ge, cmp_str, cmpne_str, bin_add, bin_sub, bin_mod, bin_div, bin_mul, bltop, slop, isaop, itemsOf, enumOf, zipOf, Tg.put, Tg.ids, setAll, wipeE, hs1]
        rw [bc]
        simp [evB_cons, evB_nil, seqB_nx, seqB_ret, seqB_exc, seqB_bk, seqB_ct, endF_ret, endF_nx, endF_exc, evS, ev, evs, evBop, evo, evc, evSr, R_ok, R_exc, R_some, O_ok, O_exc, startE, getv, lower, ixop, atD, L2.atI, L2.ixN, cmp_int, cmpne_int, cmp_lt, cmp_le, cmp_gt, cmp_ge, cmp_str, cmpne_str, bin_add, bin_sub, bin_mod, bin_div, bin_mul, bltop, slop, isaop, itemsOf, enumOf, zipOf, Tg.put, Tg.ids, setAll, wipeE, hz, eOr]
      · have hpos : 0 < (fit R k).length := List.length_pos_iff.mpr hF
        have hpz : (0 : Int) < ((fit R k).length : Int) := by omega
        obtain ⟨a, ha, hix2⟩ := ix_list (g := dS) (L := fit R k) (i := x2 % ((fit R k).length : Int)) (Int.emod_nonneg _ (by omega)) (Int.emod_lt_of_pos _ hpz)
        have bm2 := bin_mod x2 ((fit R k).length : Int) hpz
        have hemp : (List.map dS (fit R k)).isEmpty = false := by cases hh : fit R k with
          | nil => exact absurd hh hF
          | cons _ _ => rfl
        rw [hemp] at hz
        refine ⟨some (.call a h.nm as), 1, (fun r z => by cases z; exact ⟨_, _, _, h, rfl, ⟨hh, rfl, hal, by rw [hb]; exact fit_alike hn hg ha⟩⟩), ?_⟩
        generalize R.map eN = RR at *
        generalize eRe h.re = ER at *
        simp [evB_cons, evB_nil, seqB_nx, seqB_ret, seqB_exc, seqB_bk, seqB_ct, endF_ret, endF_nx, endF_exc, evS, ev, evs, evBop, evo, evc, evSr, R_ok, R_exc, R_some, O_ok, O_exc, startE, getv, lower, cmp_int, cmpne_int, cmp_lt, cmp_le, cmp_gt, cmp_ge, cmp_str, cmpne_str, bin_add, bin_sub, bin_mod, bin_div, bin_mul, bltop, slop, isaop, itemsOf, enumOf, zipOf, Tg.put, Tg.ids, setAll, wipeE, fn36, dropB] at bc ⊢
        rw [e]
        simp [evB_cons, evB_nil, seqB_nx, seqB_ret, seqB_exc, seqB_bk, seqB_ct, endF_ret, endF_nx, endF_exc, evS, ev, evs, evBop, evo, evc, evSr, R_ok, R_exc, R_some, O_ok, O_exc, startE, getv, lower, cmp_int, cmpne_int, cmp_lt, cmp_le, cmp_gt, cmp_ge, cmp_str, cmpne_str, bin_add, bin_sub, bin_mod, bin_div, bin_mul, bltop, slop, isaop, itemsOf, enumOf, zipOf, Tg.put, Tg.ids, setAll, wipeE, hs1]
        rw [bc]
        simp [evB_cons, evB_nil, seqB_nx, seqB_ret, seqB_exc, seqB_bk, seqB_ct, endF_ret, endF_nx, endF_exc, evS, ev, evs, evBop, evo, evc, evSr, R_ok, R_exc, R_some, O_ok, O_exc, startE, getv, lower, cmp_int, cmpne_int, cmp_lt, cmp_le, cmp_gt, cmp_ge, cmp_str, cmpne_str, bin_add, bin_sub, bin_mod, bin_div, bin_mul, bltop, slop, isaop, itemsOf, enumOf, zipOf, Tg.put, Tg.ids, setAll, wipeE, hz, i2, bm2, hix2, eOr, eRw]
end
theorem CallOk.gr {HS : List Hd} {R : List Nd} {m f : List Nat} {as : List (List Nat)} {h : Hd} (c : CallOk HS R m f as h) (hl : h.ps.length ≤ 10) : Gr R (.call m f as) := by
  refine ⟨?_, c.args.hs, by rw [c.args.len]; exact hl⟩
  have := c.take
  split at this
  · exact .inl this
  · exact .inr this.hs
end Ly

set_option Elab.async false
set_option linter.all false
set_option maxRecDepth 100000
set_option maxHeartbeats 800000
namespace Ly
open PySem
def isC : Rw → Bool
  | .go _ => true
  | .give _ => true
  | .call _ _ _ => true
  | _ => false
def Gq (R : List Nd) (r : Rw) : Prop := Gr R r ∧ isC r = true ∧ (∀ m f as, r = .call m f as → Sm f)
theorem cut_30 {α : Type} (xs : List α) : cutD xs none (some 30) = xs.take 30 := by
  rw [cut_to, sIx_some _ _ _ (by omega)]
  by_cases h : 30 ≤ xs.length
  · rw [show min (30 : Int).toNat xs.length = 30 by simp; omega]
  · rw [show min (30 : Int).toNat xs.length = xs.length by simp; omega, List.take_length, List.take_of_length_le (by omega)]
theorem step_ints (C : List Int) (i k : Int) : ∃ C' : List Int, stepD (C.map D.int) i k = C'.map D.int := by
  refine ⟨(stepIx C.length i k).filterMap (C[·]?), ?_⟩
  unfold stepD
  rw [List.length_map, List.map_filterMap]
  congr 1
  funext j
  rw [List.getElem?_map]
section
variable {G : Nat → Option D} {sub : Nat → Nat → Bool} {fu : Nat}
theorem row_lf (n : Nat) (HS : List Hd) (gh : GHs HS) (h : Hd) (hh : h ∈ HS) (c : Int) (k : Nat) : ∃ (r : Rw) (l : Nat), Gq h.R r ∧ callF G sub tab fu (n + 3) 37 [.lst (HS.map eH), eH h, .int c, .int k] = .ok l (eRw r) := by
  have g := gh.gh h hh
  have hlen := g.len
  have bcat := bin_cat (h.ps.map eN) (h.ls.map eN) (by have := g.pl; have := g.ll; simp; omega)
  rw [← List.map_append] at bcat
  have hR : h.ps ++ h.ls = h.R := rfl
  rw [hR] at bcat
  have i1 : ixop (eH h) (.int 1) = some (.lst (h.ps.map eN)) := rfl
  have i2 : ixop (eH h) (.int 2) = some (eRe h.re) := rfl
  have i3 : ixop (eH h) (.int 3) = some (.lst (h.ls.map eN)) := rfl
  have hs1 : cmpop .isn (eRe h.re) .non = some (match bk h.re with | none => true | some _ => false) := by cases hr : h.re with
    | non => rfl
    | own s => cases s <;> rfl
    | lent s src => rfl
    | sole s src => rfl
  have hn0 : cmpop .isn .non .non = some true := rfl
  have hn1 : ∀ r : Rw, cmpop .isn (eRw r) .non = some false := fun r => by cases r <;> rfl
  rw [callF_s fn37 rfl rfl]
  by_cases h4 : c % 4 = 0
  · cases hb : bk h.re with
    | none =>
      rw [hb] at hs1
      refine ⟨.give [], 1, ⟨.inl rfl, rfl, fun _ _ _ z => (by cases z)⟩, ?_⟩
      have hs2 : ∀ ds, cmpop .isn (.tup ds) .non = some false := fun ds => rfl
      generalize eH h = HH at *
      generalize eRe h.re = ER at *
      generalize h.ps.map eN = PP at *
      generalize h.ls.map eN = LL at *
      generalize h.R.map eN = RR at *
      simp [evB_cons, evB_nil, seqB_nx, seqB_ret, seqB_exc, seqB_bk, seqB_ct, endF_ret, endF_nx, endF_exc, evS, ev, evs, evBop, evo, evc, evSr, R_ok, R_exc, R_some, O_ok, O_exc, startE, getv, lower, cmp_int, cmpne_int, cmp_lt, cmp_le, cmp_gt, cmp_ge, cmp_str, cmpne_str, bin_add, bin_sub, bin_mod, bin_div, bin_mul, bltop, slop, isaop, itemsOf, enumOf, zipOf, Tg.put, Tg.ids, setAll, wipeE, fn37, i1, i2, i3, bcat, h4, hs1, hs2, eRw, dS, cat_nil]
    | some kb =>
      rw [hb] at hs1
      have gk := (g.re.1 kb hb).1
      obtain ⟨nb, hnb, enb⟩ := g.back kb hb
      have hfit : nb.l ∈ fit h.R kb := by
        unfold fit
        refine List.mem_map.mpr ⟨nb, List.mem_filter.mpr ⟨List.mem_append_right _ hnb, ?_⟩, rfl⟩
        rw [enb]
        have := cmp_refl (okd_eK gk)
        rw [cmp_kd gk gk] at this
        exact Option.some.inj this
      have hpos := List.length_pos_of_mem hfit
      have hpz : (0 : Int) < ((fit h.R kb).length : Int) := by omega
      obtain ⟨a, ha, hix⟩ := ix_list (g := dS) (L := fit h.R kb) (i := c / 4 % ((fit h.R kb).length : Int)) (Int.emod_nonneg _ (by omega)) (Int.emod_lt_of_pos _ hpz)
      have bm := bin_mod (c / 4) ((fit h.R kb).length : Int) hpz
      have al := fit_alike g.nd g.gn ha
      refine ⟨.give a, 1, ⟨.inr al.hs, rfl, fun _ _ _ z => (by cases z)⟩, ?_⟩
      obtain ⟨lb, e5⟩ := back_fn (G := G) (sub := sub) (fu := fu) (n + 1) h.re
      rw [hb, show eBk (some kb) = eK kb from rfl] at e5
      have hs2 : ∀ ds, cmpop .isn (.tup ds) .non = some false := fun ds => rfl
      have fc : ∀ (a0 a2 a3 a4 a5 a6 : Option (Nat × D)), compT (.tup [7, 8]) 0 (evc G sub (callF G sub tab fu (n + 2)) (.yes (.cmp .eq (.var 8) (.call false 33 (.cons (.ix (.var 1) (.cst (.int 2))) .nil))))) (ev G sub (callF G sub tab fu (n + 2)) 0 (.var 7)) (h.R.map eN) [a0, some (0, eH h), a2, a3, a4, a5, a6, none, none] = some ([a0, some (0, eH h), a2, a3, a4, a5, a6, none, none], (fit h.R kb).map dS) := fun a0 a2 a3 a4 a5 a6 => by
        rw [compT_filter (fun nd : Nd => if eqd (eK nd.k) (eK kb) then some (dS nd.l) else none) h.R (fun nd hnd => by
          have hc := cmp_kd (g.gn nd hnd).2 gk
          generalize eRe h.re = ER at *
          generalize eH h = HH at *
          cases hbb : eqd (eK nd.k) (eK kb) with
          | true =>
            rw [hbb] at hc
            generalize eK kb = K at *
            simp [compF, evB_cons, evB_nil, seqB_nx, seqB_ret, seqB_exc, seqB_bk, seqB_ct, endF_ret, endF_nx, endF_exc, evS, ev, evs, evBop, evo, evc, evSr, R_ok, R_exc, R_some, O_ok, O_exc, startE, getv, lower, cmp_int, cmpne_int, cmp_lt, cmp_le, cmp_gt, cmp_ge, cmp_str, cmpne_str, bin_add, bin_sub, bin_mod, bin_div, bin_mul, bltop, slop, isaop, itemsOf, enumOf, zipOf, Tg.put, Tg.ids, setAll, wipeE, eN, i2, e5, hc]
          | false =>
            rw [hbb] at hc
            generalize eK kb = K at *
            simp [compF, evB_cons, evB_nil, seqB_nx, seqB_ret, seqB_exc, seqB_bk, seqB_ct, endF_ret, endF_nx, endF_exc, evS, ev, evs, evBop, evo, evc, evSr, R_ok, R_exc, R_some, O_ok, O_exc, startE, getv, lower, cmp_int, cmpne_int, cmp_lt, cmp_le, cmp_gt, cmp_ge, cmp_str, cmpne_str, bin_add, bin_sub, bin_mod, bin_div, bin_mul, bltop, slop, isaop, itemsOf, enumOf, zipOf, Tg.put, Tg.ids, setAll, wipeE, eN, i2, e5, hc]) (by omega), filterMap_if (fun nd : Nd => eqd (eK nd.k) (eK kb))]
        unfold fit
        rw [List.map_map]
        rfl
      generalize eH h = HH at *
      generalize eRe h.re = ER at *
      generalize h.ps.map eN = PP at *
      generalize h.ls.map eN = LL at *
      generalize h.R.map eN = RR at *
      simp [evB_cons, evB_nil, seqB_nx, seqB_ret, seqB_exc, seqB_bk, seqB_ct, endF_ret, endF_nx, endF_exc, evS, ev, evs, evBop, evo, evc, evSr, R_ok, R_exc, R_some, O_ok, O_exc, startE, getv, lower, cmp_int, cmpne_int, cmp_lt, cmp_le, cmp_gt, cmp_ge, cmp_str, cmpne_str, bin_add, bin_sub, bin_mod, bin_div, bin_mul, bltop, slop, isaop, itemsOf, enumOf, zipOf, Tg.put, Tg.ids, setAll, wipeE, fn37, i1, i2, i3, bcat, h4, hs1] at fc ⊢
      rw [fc]
      simp [evB_cons, evB_nil, seqB_nx, seqB_ret, seqB_exc, seqB_bk, seqB_ct, endF_ret, endF_nx, endF_exc, evS, ev, evs, evBop, evo, evc, evSr, R_ok, R_exc, R_some, O_ok, O_exc, startE, getv, lower, cmp_int, cmpne_int, cmp_lt, cmp_le, cmp_gt, cmp_ge, cmp_str, cmpne_str, bin_add, bin_sub, bin_mod, bin_div, bin_mul, bltop, slop, isaop, itemsOf, enumOf, zipOf, Tg.put, Tg.ids, setAll, wipeE, bm, hix, hs2, eRw]
  · have h4' : (c % 4 == 0) = false := by simpa using h4
    obtain ⟨o, l, ho, e⟩ := call_lf (G := G) (sub := sub) (fu := fu) n HS gh h.R g.nd g.gn hlen c
    have hml : min l 1 < 100 := by omega
    cases o with
    | none =>
      refine ⟨.go (k + 1), 1, ⟨trivial, rfl, fun _ _ _ z => (by cases z)⟩, ?_⟩
      rw [show eOr none = .non from rfl] at e
      generalize eH h = HH at *
      generalize eRe h.re = ER at *
      generalize h.ps.map eN = PP at *
      generalize h.ls.map eN = LL at *
      generalize h.R.map eN = RR at *
      simp [evB_cons, evB_nil, seqB_nx, seqB_ret, seqB_exc, seqB_bk, seqB_ct, endF_ret, endF_nx, endF_exc, evS, ev, evs, evBop, evo, evc, evSr, R_ok, R_exc, R_some, O_ok, O_exc, startE, getv, lower, cmp_int, cmpne_int, cmp_lt, cmp_le, cmp_gt, cmp_ge, cmp_str, cmpne_str, bin_add, bin_sub, bin_mod, bin_div, bin_mul, bltop, slop, isaop, itemsOf, enumOf, zipOf, Tg.put, Tg.ids, setAll, wipeE, fn37, i1, i2, i3, bcat, h4', e, hml, hn0, eRw]
    | some r =>
      obtain ⟨m, f, as, h2, rfl, ck⟩ := ho r rfl
      refine ⟨.call m f as, min l 1, ⟨ck.gr (by have := (gh.gh h2 ck.mem).pl; omega), rfl, fun m' f' as' z => (by cases z; rw [ck.nm]; exact (gh.gh h2 ck.mem).nm)⟩, ?_⟩
      rw [show eOr (some (.call m f as)) = eRw (.call m f as) from rfl] at e
      have hn2 := hn1 (.call m f as)
      generalize eRw (.call m f as) = RW at *
      generalize eH h = HH at *
      generalize eRe h.re = ER at *
      generalize h.ps.map eN = PP at *
      generalize h.ls.map eN = LL at *
      generalize h.R.map eN = RR at *
      simp [evB_cons, evB_nil, seqB_nx, seqB_ret, seqB_exc, seqB_bk, seqB_ct, endF_ret, endF_nx, endF_exc, evS, ev, evs, evBop, evo, evc, evSr, R_ok, R_exc, R_some, O_ok, O_exc, startE, getv, lower, cmp_int, cmpne_int, cmp_lt, cmp_le, cmp_gt, cmp_ge, cmp_str, cmpne_str, bin_add, bin_sub, bin_mod, bin_div, bin_mul, bltop, slop, isaop, itemsOf, enumOf, zipOf, Tg.put, Tg.ids, setAll, wipeE, fn37, i1, i2, i3, bcat, h4', e, hml, hn2]
theorem function_fn (n : Nat) (HS : List Hd) (gh : GHs HS) (k : Nat) (h : Hd) (hk : HS[k]? = some h) (C : List Int) (hC : C.length ≤ 63) : ∃ (rs : List Rw), (∀ r ∈ rs, Gq h.R r) ∧ rs.length ≤ 31 ∧
    callF G sub tab fu (n + 4) 38 [.lst (HS.map eH), .int k, .lst (C.map D.int)] = .ok 1 (funD (dS h.nm) (eRe h.re) (.tup (rs.map eRw)) h.ps h.ls) := by
  have hh : h ∈ HS := List.mem_of_getElem? hk
  have hkl : k < HS.length := (List.getElem?_eq_some_iff.mp hk).1
  have hHp : 0 < HS.length := by omega
  obtain ⟨C', hC'⟩ := step_ints C (k : Int) (HS.length : Int)
  have ixh : ixop (.lst (HS.map eH)) (.int (k : Int)) = some (eH h) := by
    have h1 : (k : Int) < (HS.length : Int) := by omega
    simp [ixop, atD, L2.atI, L2.ixN, hkl, h1, hk]
    exact congrArg eH (List.getElem?_eq_some_iff.mp hk).2
  have hcut : cutD (C'.map D.int) none (some 30) = (C'.take 30).map D.int := by rw [cut_30, List.map_take]
  have hl30 : (C'.take 30).length ≤ 30 := by rw [List.length_take]; omega
  generalize C'.take 30 = C3 at *
  obtain ⟨q, er, rs0, o5, q1, q2, rfl⟩ := forT_list (g := D.int) (t := .name 5) (f := evB G sub (callF G sub tab fu (n + 3)) fu bd38_0)
    (fun rest q => ∃ (rs : List Rw) (o5 : Option (Nat × D)), rs.length + rest.length = C3.length ∧ (∀ r ∈ rs, Gq h.R r) ∧ q = [some (0, .lst (HS.map eH)), some (0, .int k), some (0, .lst (C.map D.int)), some (0, eH h), some (1, .lst (rs.map eRw)), o5])
    C3 [some (0, .lst (HS.map eH)), some (0, .int k), some (0, .lst (C.map D.int)), some (0, eH h), some (1, .lst []), none] ⟨[], none, by simp, by simp, rfl⟩ (by
      rintro c rest q ⟨rs, o5, q1, q2, rfl⟩
      rw [List.length_cons] at q1
      obtain ⟨r, l, w1, w3⟩ := row_lf (G := G) (sub := sub) (fu := fu) n HS gh h hh c rs.length
      have hd' : rs.length < LN := by show _ < 16777216; omega
      refine ⟨_, [some (0, .lst (HS.map eH)), some (0, .int k), some (0, .lst (C.map D.int)), some (0, eH h), some (1, .lst ((rs ++ [r]).map eRw)), some (0, .int c)], rfl, .inl ?_, rs ++ [r], _, by simp; omega, fun x hx => ?_, rfl⟩
      · generalize eH h = HH at *
        generalize HS.map eH = HM at *
        simp [evB_cons, evB_nil, seqB_nx, seqB_ret, seqB_exc, seqB_bk, seqB_ct, endF_ret, endF_nx, endF_exc, evS, ev, evs, evBop, evo, evc, evSr, R_ok, R_exc, R_some, O_ok, O_exc, startE, getv, lower, cmp_int, cmpne_int, cmp_lt, cmp_le, cmp_gt, cmp_ge, cmp_str, cmpne_str, bin_add, bin_sub, bin_mod, bin_div, bin_mul, bltop, slop, isaop, itemsOf, enumOf, zipOf, Tg.put, Tg.ids, setAll, wipeE, bd38_0, w3, hd']
      · rcases List.mem_append.mp hx with hx | hx
        · exact q2 x hx
        · rw [List.mem_singleton.mp hx]; exact w1)
  have hrl0 : rs0.length ≤ 30 := by simp at q1; omega
  obtain ⟨r, l, w1, w3⟩ := row_lf (G := G) (sub := sub) (fu := fu) n HS gh h hh 0 rs0.length
  refine ⟨rs0 ++ [r], fun x hx => ?_, by simp; omega, ?_⟩
  · rcases List.mem_append.mp hx with hx | hx
    · exact q2 x hx
    · rw [List.mem_singleton.mp hx]; exact w1
  have hd' : rs0.length < LN := by show _ < 16777216; omega
  have i0 : ixop (eH h) (.int 0) = some (dS h.nm) := rfl
  have i1 : ixop (eH h) (.int 1) = some (.lst (h.ps.map eN)) := rfl
  have i2 : ixop (eH h) (.int 2) = some (eRe h.re) := rfl
  have i3 : ixop (eH h) (.int 3) = some (.lst (h.ls.map eN)) := rfl
  have hlm : ((HS.map eH).length : Int) = (HS.length : Int) := by simp
  have hpz : (0 : Int) < (HS.length : Int) := by omega
  rw [callF_s fn38 rfl rfl]
  unfold funD
  generalize hHH : eH h = HH at *
  generalize eRe h.re = ER at *
  generalize hHM : HS.map eH = HM at *
  generalize C.map D.int = CM at *
  have hlm2 : HM.length = HS.length := by rw [← hHM, List.length_map]
  simp [evB_cons, evB_nil, seqB_nx, seqB_ret, seqB_exc, seqB_bk, seqB_ct, endF_ret, endF_nx, endF_exc, evS, ev, evs, evBop, evo, evc, evSr, R_ok, R_exc, R_some, O_ok, O_exc, startE, getv, lower, cmp_int, cmpne_int, cmp_lt, cmp_le, cmp_gt, cmp_ge, cmp_str, cmpne_str, bin_add, bin_sub, bin_mod, bin_div, bin_mul, bltop, slop, isaop, itemsOf, enumOf, zipOf, Tg.put, Tg.ids, setAll, wipeE, fn38, ixh, hlm2, hHp, hC', hcut]
  rw [er]
  simp [evB_cons, evB_nil, seqB_nx, seqB_ret, seqB_exc, seqB_bk, seqB_ct, endF_ret, endF_nx, endF_exc, evS, ev, evs, evBop, evo, evc, evSr, R_ok, R_exc, R_some, O_ok, O_exc, startE, getv, lower, cmp_int, cmpne_int, cmp_lt, cmp_le, cmp_gt, cmp_ge, cmp_str, cmpne_str, bin_add, bin_sub, bin_mod, bin_div, bin_mul, bltop, slop, isaop, itemsOf, enumOf, zipOf, Tg.put, Tg.ids, setAll, wipeE, w3, hd', i0, i1, i2, i3]
end
end Ly

set_option Elab.async false
set_option linter.all false
set_option maxRecDepth 100000
set_option maxHeartbeats 800000
namespace Ly
open PySem
def isOwn : Sh → Bool
  | .own => true
  | _ => false
mutual
def hasO : Sh → Bool
  | .own => true
  | .rcd ps => hasOs ps
  | _ => false
def hasOs : List Sh → Bool
  | [] => false
  | p :: ps => hasO p || hasOs ps
end
theorem neN : ¬ Str.ofString "num" = Str.ofString "own" := by decide +kernel
theorem eq_own : ∀ t : Sh, eqd (enc t) (enc .own) = isOwn t
  | .num => by simp [eqd, enc, D.pd, pds, PyData.eqv, PyData.eqvAll, isOwn, neN]
  | .own => by simp [eqd, enc, D.pd, pds, PyData.eqv, PyData.eqvAll, isOwn]
  | .strip k => by simp [eqd, enc, D.pd, pds, PyData.eqv, PyData.eqvAll, isOwn]
  | .rcd ps => by simp [eqd, enc, D.pd, pds, PyData.eqv, PyData.eqvAll, isOwn]
mutual
theorem rws_own : ∀ s : Sh, ((rws s).any fun r => isOwn r.s) = hasO s
  | .num => by simp [rws, isOwn, hasO]
  | .own => by simp [rws, isOwn, hasO]
  | .strip k => by simp [rws, isOwn, hasO]
  | .rcd ps => by
    rw [rws, List.any_cons, rwl_own ps 0 0, hasO]
    rfl
theorem rwl_own : ∀ (ps : List Sh) (k : Nat) (a : Int), ((rwl k a ps).any fun r => isOwn r.s) = hasOs ps
  | [], k, a => rfl
  | p :: ps, k, a => by
    rw [rwl, List.any_append, rwl_own ps, hasOs, List.any_map]
    have := rws_own p
    rw [← this]
    rfl
end
mutual
theorem lv_own : ∀ s : Sh, ((lv s).any fun z => eqd z (enc .own)) = hasO s
  | .num => by rw [lv, List.any_cons, eq_own]; rfl
  | .own => by rw [lv, List.any_cons, eq_own]; rfl
  | .strip k => by rw [lv, List.any_cons, eq_own]; rfl
  | .rcd ps => by rw [lv, lvs_own ps, hasO]
theorem lvs_own : ∀ ps : List Sh, ((lvs ps).any fun z => eqd z (enc .own)) = hasOs ps
  | [] => rfl
  | p :: ps => by rw [lvs, List.any_append, lv_own p, lvs_own ps, hasOs]
end
theorem isEmpty_filter {α : Type} (p : α → Bool) : ∀ l : List α, (l.filter p).isEmpty = !l.any p
  | [] => rfl
  | x :: l => by
    rw [List.filter_cons, List.any_cons]
    cases h : p x with
    | true => simp
    | false => simp [isEmpty_filter p l]
theorem walk_gt {s t : Sh} {p : List Int} {m : Nat} (g : Gt s) (h : walk s p = some (m, t)) : Gt t :=
  (first_ok (G := fun _ => none) (sub := fun _ _ => false) (fu := 0) 0 none p s 0 none none none m t g h).1
theorem okd_sh {s : Sh} (g : Gt s) : okd (enc s) = true := okd_eK (k := .own s) g
section
variable {G : Nat → Option D} {sub : Nat → Nat → Bool} {fu : Nat}
theorem lawcop_fn (n : Nat) (s : Sh) (g : Gt s) : callF G sub tab fu (n + 9) 39 [enc s] = .ok 0 (.bl (cp s)) := by
  have e2 := table_all (G := G) (sub := sub) (fu := fu) 3 (n + 8) s g g.2.2 (by omega)
  have hf := g.few
  have hcp : (((rws s).filter fun r => eqd (enc r.s) (enc .own)).map eR3).isEmpty = cp s := by
    rw [List.isEmpty_map, isEmpty_filter]
    unfold cp
    rw [lv_own, ← rws_own]
    congr 2
    funext r
    exact eq_own r.s
  rw [← hcp, callF_s fn39 rfl rfl]
  simp [evB_cons, evB_nil, seqB_nx, seqB_ret, seqB_exc, seqB_bk, seqB_ct, endF_ret, endF_nx, endF_exc, evS, ev, evs, evBop, evo, evc, evSr, R_ok, R_exc, R_some, O_ok, O_exc, startE, getv, lower, cmp_int, cmpne_int, cmp_lt, cmp_le, cmp_gt, cmp_ge, cmp_str, cmpne_str, bin_add, bin_sub, bin_mod, bin_div, bin_mul, bltop, slop, isaop, itemsOf, enumOf, zipOf, Tg.put, Tg.ids, setAll, wipeE, fn39, e2]
  rw [compT_filter (fun r : Row => if eqd (enc r.s) (enc .own) then some (eR3 r) else none) (rws s) (fun r hr => by
    obtain ⟨m, _, hw⟩ := rws_walk g.1 r hr
    have h1 := okd_sh (walk_gt g hw)
    have h2 : okd (enc .own) = true := okd_sh gtOwn
    have hc : cmpop .eq (enc r.s) (enc .own) = some (eqd (enc r.s) (enc .own)) := by simp only [cmpop, h1, h2, Bool.and_self, if_true]
    have i2 : ixop (eR3 r) (.int 2) = some (enc r.s) := rfl
    have h4 : enc .own = .tup [.str "own"] := rfl
    cases hb : eqd (enc r.s) (enc .own) with
    | true =>
      rw [hb, h4] at hc
      generalize eR3 r = X at i2 ⊢
      simp [compF, evB_cons, evB_nil, seqB_nx, seqB_ret, seqB_exc, seqB_bk, seqB_ct, endF_ret, endF_nx, endF_exc, evS, ev, evs, evBop, evo, evc, evSr, R_ok, R_exc, R_some, O_ok, O_exc, startE, getv, lower, cmp_int, cmpne_int, cmp_lt, cmp_le, cmp_gt, cmp_ge, cmp_str, cmpne_str, bin_add, bin_sub, bin_mod, bin_div, bin_mul, bltop, slop, isaop, itemsOf, enumOf, zipOf, Tg.put, Tg.ids, setAll, wipeE, i2, hc]
    | false =>
      rw [hb, h4] at hc
      generalize eR3 r = X at i2 ⊢
      simp [compF, evB_cons, evB_nil, seqB_nx, seqB_ret, seqB_exc, seqB_bk, seqB_ct, endF_ret, endF_nx, endF_exc, evS, ev, evs, evBop, evo, evc, evSr, R_ok, R_exc, R_some, O_ok, O_exc, startE, getv, lower, cmp_int, cmpne_int, cmp_lt, cmp_le, cmp_gt, cmp_ge, cmp_str, cmpne_str, bin_add, bin_sub, bin_mod, bin_div, bin_mul, bltop, slop, isaop, itemsOf, enumOf, zipOf, Tg.put, Tg.ids, setAll, wipeE, i2, hc]) (by omega), filterMap_if (fun r : Row => eqd (enc r.s) (enc .own))]
  simp [evB_cons, evB_nil, seqB_nx, seqB_ret, seqB_exc, seqB_bk, seqB_ct, endF_ret, endF_nx, endF_exc, evS, ev, evs, evBop, evo, evc, evSr, R_ok, R_exc, R_some, O_ok, O_exc, startE, getv, lower, ixop, atD, L2.atI, L2.ixN, cmp_int, cmpne_int, cmp_lt, cmp_le, cmp_gt, cmp_ge, cmp_str, cmpne_str, bin_add, bin_sub, bin_mod, bin_div, bin_mul, bltop, slop, isaop, itemsOf, enumOf, zipOf, Tg.put, Tg.ids, setAll, wipeE, cmp_nil0]
end
/-- a name's things handed on, its holder given this taker -/
def tkn (R : List Nd) (a : List Nat) (tk : Str) : Ac := match lk R a with
  | some ⟨_, .lent _⟩ => na R "lend" a tk
  | some ⟨_, .sole _⟩ => na R "sole" a tk
  | _ => tkA R a
theorem argA_tkn (R : List Nd) (j : Nat) (a : List Nat) : argA R j a = tkn R a (dig j) := rfl
theorem tkn_eq {R : List Nd} {a : List Nat} {nd : Nd} (h : lk R a = some nd) (tk : Str) : tkn R a tk = match nd.k with
    | .lent _ => fa R "lend" (ws nd) tk
    | .sole _ => fa R "sole" (ws nd) tk
    | .own s => fa R (if cp s then "read" else "empty") (ws nd) "" := by
  unfold tkn tkA na
  rw [h]
  obtain ⟨l, k⟩ := nd
  cases k <;> rfl
section
variable {G : Nat → Option D} {sub : Nat → Nat → Bool} {fu : Nat}
theorem taken_lf (n : Nat) (R : List Nd) (h : ∀ r ∈ R, Sm r.l) (hl : R.length ≤ 12) (a : List Nat) (ha : Sm a) (nd : Nd) (hk : lk R a = some nd) (g : GN nd) (tk : Str) :
    callF G sub tab fu (n + 10) 40 [.lst (R.map eN), dS a, .str tk] = .ok 1 (eA (tkn R a tk)) := by
  have hgs := ws_gs hk g
  have el := act_fa (G := G) (sub := sub) (fu := fu) n R "lend" tk (ws nd) h hgs
  have es := act_fa (G := G) (sub := sub) (fu := fu) n R "sole" tk (ws nd) h hgs
  have er := act_fa (G := G) (sub := sub) (fu := fu) n R "read" "" (ws nd) h hgs
  have ee := act_fa (G := G) (sub := sub) (fu := fu) n R "empty" "" (ws nd) h hgs
  rw [ws_eS, (lk_l hk).1] at el es er ee
  have cmp : compT (.tup [4, 5]) 0 (evc G sub (callF G sub tab fu (n + 9)) (.yes (.cmp .eq (.var 4) (.var 1)))) (ev G sub (callF G sub tab fu (n + 9)) 0 (.var 5)) (R.map eN) [some (0, .lst (R.map eN)), some (0, dS a), some (0, .str tk), none, none, none, none] = some ([some (0, .lst (R.map eN)), some (0, dS a), some (0, .str tk), none, none, none, none], ((R.filter fun q => decide (q.l = a)).map fun q => eK q.k)) := by
    rw [compT_filter (fun q : Nd => if decide (q.l = a) then some (eK q.k) else none) R (fun q hq => by
      have hc : cmpop .eq (dS q.l) (dS a) = some (decide (q.l = a)) := eq_cat (h q hq) ha
      by_cases e : q.l = a
      · simp [e] at hc ⊢
        simp [compF, evB_cons, evB_nil, seqB_nx, seqB_ret, seqB_exc, seqB_bk, seqB_ct, endF_ret, endF_nx, endF_exc, evS, ev, evs, evBop, evo, evc, evSr, R_ok, R_exc, R_some, O_ok, O_exc, startE, getv, lower, ixop, atD, L2.atI, L2.ixN, cmp_int, cmpne_int, cmp_lt, cmp_le, cmp_gt, cmp_ge, cmp_str, cmpne_str, bin_add, bin_sub, bin_mod, bin_div, bin_mul, bltop, slop, isaop, itemsOf, enumOf, zipOf, Tg.put, Tg.ids, setAll, wipeE, eN, hc, e]
      · simp [e] at hc ⊢
        simp [compF, evB_cons, evB_nil, seqB_nx, seqB_ret, seqB_exc, seqB_bk, seqB_ct, endF_ret, endF_nx, endF_exc, evS, ev, evs, evBop, evo, evc, evSr, R_ok, R_exc, R_some, O_ok, O_exc, startE, getv, lower, ixop, atD, L2.atI, L2.ixN, cmp_int, cmpne_int, cmp_lt, cmp_le, cmp_gt, cmp_ge, cmp_str, cmpne_str, bin_add, bin_sub, bin_mod, bin_div, bin_mul, bltop, slop, isaop, itemsOf, enumOf, zipOf, Tg.put, Tg.ids, setAll, wipeE, eN, hc]) (by omega), filterMap_if (fun q : Nd => decide (q.l = a))]
  have hfst : ∃ rest, ((R.filter fun q => decide (q.l = a)).map fun q => eK q.k) = eK nd.k :: rest := by
    have := List.head?_filter (l := R) (p := fun q => decide (q.l = a))
    unfold lk at hk
    rw [hk] at this
    cases hh : R.filter fun q => decide (q.l = a) with
    | nil => rw [hh] at this; cases this
    | cons q qs => rw [hh] at this; cases this; exact ⟨_, rfl⟩
  obtain ⟨rest, hf⟩ := hfst
  rw [hf] at cmp
  have ixf : ixop (.lst (eK nd.k :: rest)) (.int 0) = some (eK nd.k) := by
    have : (0 : Int) < (rest.length : Int) + 1 := by omega
    simp [ixop, atD, L2.atI, L2.ixN, this]
  have hi : ixop (eK nd.k) (.int 0) = some (.str nd.k.w) := by
    obtain ⟨rest, e⟩ := eK_hd nd.k
    rw [e]
    exact ix_0 _ _
  have w1 : cmpop .eq (.str "lent") (.str "lent") = some true := by decide +kernel
  have w3 : cmpop .eq (.str "sole") (.str "lent") = some false := by decide +kernel
  have w4 : cmpop .eq (.str "sole") (.str "sole") = some true := by decide +kernel
  rw [tkn_eq hk]
  rw [callF_s fn40 rfl rfl]
  cases hkk : nd.k with
  | lent s =>
    have hw : nd.k.w = "lent" := by rw [hkk]; rfl
    rw [hw] at hi
    rw [show nd.k.thr = true by rw [hkk]; rfl] at el es
    generalize R.map eN = RR at *
    generalize eK nd.k = K at *
    simp [evB_cons, evB_nil, seqB_nx, seqB_ret, seqB_exc, seqB_bk, seqB_ct, endF_ret, endF_nx, endF_exc, evS, ev, evs, evBop, evo, evc, evSr, R_ok, R_exc, R_some, O_ok, O_exc, startE, getv, lower, cmp_int, cmpne_int, cmp_lt, cmp_le, cmp_gt, cmp_ge, cmp_str, cmpne_str, bin_add, bin_sub, bin_mod, bin_div, bin_mul, bltop, slop, isaop, itemsOf, enumOf, zipOf, Tg.put, Tg.ids, setAll, wipeE, fn40] at cmp ⊢
    rw [cmp]
    simp [evB_cons, evB_nil, seqB_nx, seqB_ret, seqB_exc, seqB_bk, seqB_ct, endF_ret, endF_nx, endF_exc, evS, ev, evs, evBop, evo, evc, evSr, R_ok, R_exc, R_some, O_ok, O_exc, startE, getv, lower, cmp_int, cmpne_int, cmp_lt, cmp_le, cmp_gt, cmp_ge, cmp_str, cmpne_str, bin_add, bin_sub, bin_mod, bin_div, bin_mul, bltop, slop, isaop, itemsOf, enumOf, zipOf, Tg.put, Tg.ids, setAll, wipeE, ixf, hi, w1, el]
  | sole s =>
    have hw : nd.k.w = "sole" := by rw [hkk]; rfl
    rw [hw] at hi
    rw [show nd.k.thr = true by rw [hkk]; rfl] at el es
    generalize R.map eN = RR at *
    generalize eK nd.k = K at *
    simp [evB_cons, evB_nil, seqB_nx, seqB_ret, seqB_exc, seqB_bk, seqB_ct, endF_ret, endF_nx, endF_exc, evS, ev, evs, evBop, evo, evc, evSr, R_ok, R_exc, R_some, O_ok, O_exc, startE, getv, lower, cmp_int, cmpne_int, cmp_lt, cmp_le, cmp_gt, cmp_ge, cmp_str, cmpne_str, bin_add, bin_sub, bin_mod, bin_div, bin_mul, bltop, slop, isaop, itemsOf, enumOf, zipOf, Tg.put, Tg.ids, setAll, wipeE, fn40] at cmp ⊢
    rw [cmp]
    simp [evB_cons, evB_nil, seqB_nx, seqB_ret, seqB_exc, seqB_bk, seqB_ct, endF_ret, endF_nx, endF_exc, evS, ev, evs, evBop, evo, evc, evSr, R_ok, R_exc, R_some, O_ok, O_exc, startE, getv, lower, cmp_int, cmpne_int, cmp_lt, cmp_le, cmp_gt, cmp_ge, cmp_str, cmpne_str, bin_add, bin_sub, bin_mod, bin_div, bin_mul, bltop, slop, isaop, itemsOf, enumOf, zipOf, Tg.put, Tg.ids, setAll, wipeE, ixf, hi, w3, w4, es]
  | own s =>
    have hw : nd.k.w = hd s := by rw [hkk]; rfl
    have hks : eK nd.k = enc s := by rw [hkk]; rfl
    have gs : Gt s := by have := g.2; rw [hkk] at this; exact this
    have hq1 := cmp_str nd.k.w "lent" (ok_w _) ok_lent
    have hq2 := cmp_str nd.k.w "sole" (ok_w _) ok_sole
    have ec := lawcop_fn (G := G) (sub := sub) (fu := fu) n s gs
    rw [hw, hd_lent] at hq1
    rw [hw, hd_sole] at hq2
    rw [hw] at hi
    rw [show nd.k.thr = false by rw [hkk]; rfl] at er ee
    rw [← hks] at ec
    have i0 : ixop (.lst [.str "empty", .str "read"]) (.int 0) = some (.str "empty") := rfl
    have i1 : ixop (.lst [.str "empty", .str "read"]) (.int 1) = some (.str "read") := rfl
    generalize R.map eN = RR at *
    generalize eK nd.k = K at *
    simp [evB_cons, evB_nil, seqB_nx, seqB_ret, seqB_exc, seqB_bk, seqB_ct, endF_ret, endF_nx, endF_exc, evS, ev, evs, evBop, evo, evc, evSr, R_ok, R_exc, R_some, O_ok, O_exc, startE, getv, lower, cmp_int, cmpne_int, cmp_lt, cmp_le, cmp_gt, cmp_ge, cmp_str, cmpne_str, bin_add, bin_sub, bin_mod, bin_div, bin_mul, bltop, slop, isaop, itemsOf, enumOf, zipOf, Tg.put, Tg.ids, setAll, wipeE, fn40] at cmp ⊢
    rw [cmp]
    cases hc : cp s with
    | true => rw [hc] at ec; simp [evB_cons, evB_nil, seqB_nx, seqB_ret, seqB_exc, seqB_bk, seqB_ct, endF_ret, endF_nx, endF_exc, evS, ev, evs, evBop, evo, evc, evSr, R_ok, R_exc, R_some, O_ok, O_exc, startE, getv, lower, cmp_int, cmpne_int, cmp_lt, cmp_le, cmp_gt, cmp_ge, cmp_str, cmpne_str, bin_add, bin_sub, bin_mod, bin_div, bin_mul, bltop, slop, isaop, itemsOf, enumOf, zipOf, Tg.put, Tg.ids, setAll, wipeE, ixf, hi, hq1, hq2, ec, i1, er]
    | false => rw [hc] at ec; simp [evB_cons, evB_nil, seqB_nx, seqB_ret, seqB_exc, seqB_bk, seqB_ct, endF_ret, endF_nx, endF_exc, evS, ev, evs, evBop, evo, evc, evSr, R_ok, R_exc, R_some, O_ok, O_exc, startE, getv, lower, cmp_int, cmpne_int, cmp_lt, cmp_le, cmp_gt, cmp_ge, cmp_str, cmpne_str, bin_add, bin_sub, bin_mod, bin_div, bin_mul, bltop, slop, isaop, itemsOf, enumOf, zipOf, Tg.put, Tg.ids, setAll, wipeE, ixf, hi, hq1, hq2, ec, i0, ee]
end
end Ly

set_option Elab.async false
set_option linter.all false
set_option maxRecDepth 100000
set_option maxHeartbeats 800000
namespace Ly
open PySem
/-- what the last loop puts for a name -/
def tkF (R : List Nd) (m : List Nat) (q : Nd) : List Ac := if q.l = m then (if q.k.thr then [⟨"take", [], false, 0, 0, cat m⟩] else [fa R "fill" ⟨m, false, [], .non⟩ ""]) else []
theorem flat_none {R R' : List Nd} {m : List Nat} (h : ∀ q ∈ R', q.l ≠ m) : R'.flatMap (tkF R m) = [] := by
  rw [List.flatMap_eq_nil_iff]
  intro q hq
  unfold tkF
  rw [if_neg (h q hq)]
theorem flat_one {R : List Nd} {m : List Nat} {nd : Nd} : ∀ R' : List Nd, (R'.map (·.l)).Nodup → lk R' m = some nd → R'.flatMap (tkF R m) = tkF R m nd
  | [], _, h => by cases h
  | q :: R', hn, h => by
    rw [List.map_cons, List.nodup_cons] at hn
    unfold lk at h
    rw [List.flatMap_cons]
    by_cases e : q.l = m
    · rw [List.find?_cons_of_pos (by simp [e])] at h
      cases h
      rw [flat_none (R' := R') (fun x hx z => hn.1 (by rw [e, ← z]; exact List.mem_map.mpr ⟨x, hx, rfl⟩)), List.append_nil]
    · rw [List.find?_cons_of_neg (by simp [e])] at h
      have : tkF R m q = [] := by unfold tkF; rw [if_neg e]
      rw [this, List.nil_append]
      exact flat_one R' hn.2 h
theorem take_flat {R : List Nd} {m : List Nat} (hn : (R.map (·.l)).Nodup) (hne : ∀ q ∈ R, q.l ≠ []) (g : m = [] ∨ Hs R m) : R.flatMap (tkF R m) = takeL R m := by
  by_cases h0 : m = []
  · subst h0
    rw [flat_none hne]
    rfl
  · obtain ⟨nd, h1, h2⟩ := g.resolve_left h0
    rw [flat_one R hn h1]
    unfold takeL tkF na
    rw [if_neg h0, h1, (lk_l h1).1, if_pos rfl]
    simp only
    cases ht : nd.k.thr with
    | true => rfl
    | false =>
      have : ws nd = ⟨m, false, [], .non⟩ := by unfold ws; rw [ht, (lk_l h1).1]
      rw [this]
theorem okd_names {L : List (List Nat)} (h : ∀ l ∈ L, Sm l) : D.okd 1 (.tup (L.map dS)) = true := by
  show okds 0 (L.map dS) = true
  exact okds_dS h 0
theorem okd_row {r : Rw} {R : List Nd} (g : Gr R r) (c : isC r = true) (hf : ∀ n f as, r = .call n f as → Sm f) : okd (eRw r) = true := by
  have s1 : ∀ w : Str, PyData.strOk w = true → ∀ n, D.okd n (.str w) = true := fun w hw n => by cases n <;> simpa [D.okd] using hw
  cases r with
  | go t =>
    refine okd_tup (n := 0) ?_ (by omega)
    simp only [okds, s1 "go" (by decide +kernel) 0]
    rfl
  | give m =>
    refine okd_tup (n := 0) ?_ (by omega)
    have hm : Sm m := by rcases g with rfl | g; exact sm_nil; exact hs_sm g
    simp only [okds, s1 "give" (by decide +kernel) 0, okd_dS hm 0]
    rfl
  | call m f as =>
    refine okd_tup (n := 1) ?_ (by omega)
    have hm : Sm m := by rcases g.1 with rfl | g; exact sm_nil; exact hs_sm g
    have ha := okd_names (fun l hl => hs_sm (g.2.1 l hl))
    simp only [okds, s1 "call" (by decide +kernel) 1, okd_dS hm 1, okd_dS (hf m f as rfl) 1, ha]
    rfl
  | _ => simp [isC] at c
theorem okd_g0 : okd (.tup [.str "give", .str ""]) = true := by decide +kernel
section
variable {G : Nat → Option D} {sub : Nat → Nat → Bool} {fu : Nat}
theorem fill_loop (n : Nat) (R : List Nd) (h : ∀ r ∈ R, Sm r.l) (hn : (R.map (·.l)).Nodup) (m : List Nat) (hm : Sm m) (X : D) (ix1 : ixop X (.int 1) = some (dS m)) (o3 : Option (Nat × D)) : ∀ (R' : List Nd) (acc : List Ac) (o4 o5 : Option (Nat × D)), (∀ q ∈ R', q ∈ R ∧ GN q) → acc.length + R'.length ≤ 1000 → ∃ o4' o5',
    forT (.tup [4, 5]) (evB G sub (callF G sub tab fu (n + 9)) fu bd41_0) (R'.map eN) [some (0, .lst (R.map eN)), some (0, X), some (1, .lst (acc.map eA)), o3, o4, o5] = .nx [some (0, .lst (R.map eN)), some (0, X), some (1, .lst ((acc ++ R'.flatMap (tkF R m)).map eA)), o3, o4', o5']
  | [], acc, o4, o5, _, _ => ⟨o4, o5, by simp [forT, forLoop]⟩
  | q :: R', acc, o4, o5, hq, hl => by
    rw [List.length_cons] at hl
    obtain ⟨hqR, gq⟩ := hq q List.mem_cons_self
    have step : ∀ f, forT (.tup [4, 5]) f ((q :: R').map eN) [some (0, .lst (R.map eN)), some (0, X), some (1, .lst (acc.map eA)), o3, o4, o5] = match f [some (0, .lst (R.map eN)), some (0, X), some (1, .lst (acc.map eA)), o3, some (0, dS q.l), some (0, eK q.k)] with
      | .nx r1 => forT (.tup [4, 5]) f (R'.map eN) r1
      | .ct r1 => forT (.tup [4, 5]) f (R'.map eN) r1
      | .bk r1 => .nx r1
      | .ret l d => .ret l d
      | .exc r1 c => .exc r1 c
      | .bad => .bad := fun f => rfl
    have hc : cmpop .eq (dS q.l) (dS m) = some (decide (q.l = m)) := eq_cat gq.1 hm
    have hd' : acc.length < LN := by show _ < 16777216; omega
    have hw := in_w q.k
    have hi : ixop (eK q.k) (.int 0) = some (.str q.k.w) := by
      obtain ⟨rest, e⟩ := eK_hd q.k
      rw [e]
      exact ix_0 _ _
    have hlen : (tkF R m q).length ≤ 1 := by
      unfold tkF
      split
      · split <;> simp
      · simp
    have e1 : evB G sub (callF G sub tab fu (n + 9)) fu bd41_0 [some (0, .lst (R.map eN)), some (0, X), some (1, .lst (acc.map eA)), o3, some (0, dS q.l), some (0, eK q.k)] = .nx [some (0, .lst (R.map eN)), some (0, X), some (1, .lst ((acc ++ tkF R m q).map eA)), o3, some (0, dS q.l), some (0, eK q.k)] := by
      by_cases e : q.l = m
      · rw [decide_eq_true e] at hc
        cases ht : q.k.thr with
        | true =>
          rw [ht] at hw
          have htk : tkF R m q = [⟨"take", [], false, 0, 0, cat m⟩] := by unfold tkF; rw [if_pos e, ht]; rfl
          rw [htk]
          generalize R.map eN = RR at *
          generalize eK q.k = K at *
          simp [evB_cons, evB_nil, seqB_nx, seqB_ret, seqB_exc, seqB_bk, seqB_ct, endF_ret, endF_nx, endF_exc, evS, ev, evs, evBop, evo, evc, evSr, R_ok, R_exc, R_some, O_ok, O_exc, startE, getv, lower, cmp_int, cmpne_int, cmp_lt, cmp_le, cmp_gt, cmp_ge, cmp_str, cmpne_str, bin_add, bin_sub, bin_mod, bin_div, bin_mul, bltop, slop, isaop, itemsOf, enumOf, zipOf, Tg.put, Tg.ids, setAll, wipeE, bd41_0, ix1, hc, hi, hw, hd']
          simp [eA, acL, dS, cat_nil, e]
        | false =>
          rw [ht] at hw
          have htk : tkF R m q = [fa R "fill" ⟨m, false, [], .non⟩ ""] := by unfold tkF; rw [if_pos e, ht]; rfl
          have hws : ws q = ⟨m, false, [], .non⟩ := by unfold ws; rw [ht, e]
          have hlk := find_nd R hn q hqR
          have ea := act_fa (G := G) (sub := sub) (fu := fu) n R "fill" "" ⟨m, false, [], .non⟩ h (by rw [← hws]; exact ws_gs hlk gq)
          have es : eS ⟨m, false, [], .non⟩ = .tup [dS m, .bl false, .tup [], .non] := rfl
          rw [es, ← e] at ea
          rw [htk, ← e]
          rw [← e] at ix1 hc
          generalize R.map eN = RR at *
          generalize eK q.k = K at *
          simp [evB_cons, evB_nil, seqB_nx, seqB_ret, seqB_exc, seqB_bk, seqB_ct, endF_ret, endF_nx, endF_exc, evS, ev, evs, evBop, evo, evc, evSr, R_ok, R_exc, R_some, O_ok, O_exc, startE, getv, lower, cmp_int, cmpne_int, cmp_lt, cmp_le, cmp_gt, cmp_ge, cmp_str, cmpne_str, bin_add, bin_sub, bin_mod, bin_div, bin_mul, bltop, slop, isaop, itemsOf, enumOf, zipOf, Tg.put, Tg.ids, setAll, wipeE, bd41_0, ix1, hc, hi, hw, ea, hd']
      · rw [decide_eq_false e] at hc
        have htk : tkF R m q = [] := by unfold tkF; rw [if_neg e]
        rw [htk]
        generalize R.map eN = RR at *
        generalize eK q.k = K at *
        simp [evB_cons, evB_nil, seqB_nx, seqB_ret, seqB_exc, seqB_bk, seqB_ct, endF_ret, endF_nx, endF_exc, evS, ev, evs, evBop, evo, evc, evSr, R_ok, R_exc, R_some, O_ok, O_exc, startE, getv, lower, cmp_int, cmpne_int, cmp_lt, cmp_le, cmp_gt, cmp_ge, cmp_str, cmpne_str, bin_add, bin_sub, bin_mod, bin_div, bin_mul, bltop, slop, isaop, itemsOf, enumOf, zipOf, Tg.put, Tg.ids, setAll, wipeE, bd41_0, ix1, hc]
    obtain ⟨o4', o5', e2⟩ := fill_loop n R h hn m hm X ix1 o3 R' (acc ++ tkF R m q) (some (0, dS q.l)) (some (0, eK q.k)) (fun x hx => hq x (List.mem_cons_of_mem _ hx)) (by rw [List.length_append]; omega)
    refine ⟨o4', o5', ?_⟩
    rw [step, e1]
    simp only
    rw [e2, List.flatMap_cons, List.append_assoc]
theorem enum_map {α : Type} (f : α → D) : ∀ (as : List α) (k : Nat), enumD k (as.map f) = (as.zipIdx k).map fun p => .tup [.int (p.2 : Nat), f p.1]
  | [], k => rfl
  | a :: as, k => by rw [List.map_cons, enumD, enum_map f as (k + 1)]; rfl
theorem argsA_map (R : List Nd) : ∀ (as : List (List Nat)) (k : Nat), argsA R k as = (as.zipIdx k).map fun p => argA R p.2 p.1
  | [], k => rfl
  | a :: as, k => by rw [argsA, argsA_map R as (k + 1)]; rfl
theorem fa_rest (R : List Nd) (s : Sp) (k : Str) : ∃ rest : List D, ∀ w : Str, acL (fa R w s k) = .str w :: dS s.n :: .bl s.t :: rest := by
  unfold fa
  cases lk R s.n with
  | none => exact ⟨[.int ((0 : Nat) : Int), .int ((0 : Nat) : Int), .str k], fun w => rfl⟩
  | some nd =>
    simp only
    cases walk nd.k.sh s.p with
    | none => exact ⟨[.int ((0 : Nat) : Int), .int ((0 : Nat) : Int), .str k], fun w => rfl⟩
    | some z => exact ⟨[.int (z.1 : Nat), .int (cnt z.2 : Nat), .str k], fun w => rfl⟩
theorem neCG : ¬ Str.ofString "call" = Str.ofString "give" := by decide +kernel
theorem eq_give (m : List Nat) : eqd (eRw (.give m)) (.tup [.str "give", .str ""]) = decide (m = []) := by
  have h := cat_inj (a := m) (b := [])
  rw [cat_nil] at h
  by_cases e : m = []
  · subst e
    simp [eqd, eRw, dS, D.pd, pds, PyData.eqv, PyData.eqvAll, cat_nil]
  · have h' : ¬ cat m = Str.ofString "" := fun z => e (h.mp z)
    simp [eqd, eRw, dS, D.pd, pds, PyData.eqv, PyData.eqvAll, h', e]
theorem eq_call (m f : List Nat) (as : List (List Nat)) : eqd (eRw (.call m f as)) (.tup [.str "give", .str ""]) = false := by
  simp [eqd, eRw, dS, D.pd, pds, PyData.eqv, PyData.eqvAll, neCG]
theorem cut_23 (a b c : D) (ds : List D) : cutD (a :: b :: c :: ds) (some 2) (some 3) = [c] := by
  unfold cutD
  rw [sIx_some _ _ _ (by omega), sIx_some _ _ _ (by omega)]
  simp
theorem cut_1 (a : D) (ds : List D) : cutD (a :: ds) (some 1) none = ds := by
  rw [cut_from, sIx_some _ _ _ (by omega)]
  simp
theorem due_fn (n : Nat) (R : List Nd) (hg : ∀ r ∈ R, GN r) (hn : (R.map (·.l)).Nodup) (hne : ∀ q ∈ R, q.l ≠ []) (hl : R.length ≤ 12) (r : Rw) (g : Gr R r) (c : isC r = true) (hf : ∀ n f as, r = .call n f as → Sm f) :
    ∃ l, callF G sub tab fu (n + 11) 41 [.lst (R.map eN), eRw r] = .ok l (.lst ((rowL R r).map eA)) := by
  have h : ∀ r ∈ R, Sm r.l := fun r hr => (hg r hr).1
  have ok1 := okd_row g c hf
  have et := fun a ha nd hk gn tk => taken_lf (G := G) (sub := sub) (fu := fu) n R h hl a ha nd hk gn tk
  have hceq : cmpop .eq (eRw r) (.tup [.str "give", .str ""]) = some (eqd (eRw r) (.tup [.str "give", .str ""])) := by simp only [cmpop, ok1, okd_g0, Bool.and_self, if_true]
  rw [callF_s fn41 rfl rfl]
  cases r with
  | go t =>
    refine ⟨1, ?_⟩
    simp only [eRw, rowL]
    simp [evB_cons, evB_nil, seqB_nx, seqB_ret, seqB_exc, seqB_bk, seqB_ct, endF_ret, endF_nx, endF_exc, evS, ev, evs, evBop, evo, evc, evSr, R_ok, R_exc, R_some, O_ok, O_exc, startE, getv, lower, cmp_int, cmpne_int, cmp_lt, cmp_le, cmp_gt, cmp_ge, cmp_str, cmpne_str, bin_add, bin_sub, bin_mod, bin_div, bin_mul, bltop, slop, isaop, itemsOf, enumOf, zipOf, Tg.put, Tg.ids, setAll, wipeE, fn41, ix_0, we_put_set, we_put_if, we_put_say, we_put_call, we_put_give, we_put_put, we_put_fill, we_put_drop, we_put_copy, we_put_lend, we_put_sole, we_put_move, we_put_go, wi_put_pf, wi_put_psf, wi_put_cmd, wi_put_ls, wi_put_ps, we_set_set, we_set_if, we_set_say, we_set_call, we_set_give, we_set_put, we_set_fill, we_set_drop, we_set_copy, we_set_lend, we_set_sole, we_set_move, we_set_go, wi_set_pf, wi_set_psf, wi_set_cmd, wi_set_ls, wi_set_ps, we_fill_set, we_fill_if, we_fill_say, we_fill_call, we_fill_give, we_fill_put, we_fill_fill, we_fill_drop, we_fill_copy, we_fill_lend, we_fill_sole, we_fill_move, we_fill_go, wi_fill_pf, wi_fill_psf, wi_fill_cmd, wi_fill_ls, wi_fill_ps, we_if_set, we_if_if, we_if_say, we_if_call, we_if_give, we_if_put, we_if_fill, we_if_drop, we_if_copy, we_if_lend, we_if_sole, we_if_move, we_if_go, wi_if_pf, wi_if_psf, wi_if_cmd, wi_if_ls, wi_if_ps, we_go_set, we_go_if, we_go_say, we_go_call, we_go_give, we_go_put, we_go_fill, we_go_drop, we_go_copy, we_go_lend, we_go_sole, we_go_move, we_go_go, wi_go_pf, wi_go_psf, wi_go_cmd, wi_go_ls, wi_go_ps, we_say_set, we_say_if, we_say_say, we_say_call, we_say_give, we_say_put, we_say_fill, we_say_drop, we_say_copy, we_say_lend, we_say_sole, we_say_move, we_say_go, wi_say_pf, wi_say_psf, wi_say_cmd, wi_say_ls, wi_say_ps, we_give_set, we_give_if, we_give_say, we_give_call, we_give_give, we_give_put, we_give_fill, we_give_drop, we_give_copy, we_give_lend, we_give_sole, we_give_move, we_give_go, wi_give_pf, wi_give_psf, wi_give_cmd, wi_give_ls, wi_give_ps, we_copy_set, we_copy_if, we_copy_say, we_copy_call, we_copy_give, we_copy_put, we_copy_fill, we_copy_drop, we_copy_copy, we_copy_lend, we_copy_sole, we_copy_move, we_copy_go, wi_copy_pf, wi_copy_psf, wi_copy_cmd, wi_copy_ls, wi_copy_ps, we_move_set, we_move_if, we_move_say, we_move_call, we_move_give, we_move_put, we_move_fill, we_move_drop, we_move_copy, we_move_lend, we_move_sole, we_move_move, we_move_go, wi_move_pf, wi_move_psf, wi_move_cmd, wi_move_ls, wi_move_ps, we_drop_set, we_drop_if, we_drop_say, we_drop_call, we_drop_give, we_drop_put, we_drop_fill, we_drop_drop, we_drop_copy, we_drop_lend, we_drop_sole, we_drop_move, we_drop_go, wi_drop_pf, wi_drop_psf, wi_drop_cmd, wi_drop_ls, wi_drop_ps, we_lend_set, we_lend_if, we_lend_say, we_lend_call, we_lend_give, we_lend_put, we_lend_fill, we_lend_drop, we_lend_copy, we_lend_lend, we_lend_sole, we_lend_move, we_lend_go, wi_lend_pf, wi_lend_psf, wi_lend_cmd, wi_lend_ls, wi_lend_ps, we_sole_set, we_sole_if, we_sole_say, we_sole_call, we_sole_give, we_sole_put, we_sole_fill, we_sole_drop, we_sole_copy, we_sole_lend, we_sole_sole, we_sole_move, we_sole_go, wi_sole_pf, wi_sole_psf, wi_sole_cmd, wi_sole_ls, wi_sole_ps, we_call_set, we_call_if, we_call_say, we_call_call, we_call_give, we_call_put, we_call_fill, we_call_drop, we_call_copy, we_call_lend, we_call_sole, we_call_move, we_call_go, wi_call_pf, wi_call_psf, wi_call_cmd, wi_call_ls, wi_call_ps, rest_eA]
  | give m =>
    rw [eq_give] at hceq
    by_cases h0 : m = []
    · subst h0
      refine ⟨1, ?_⟩
      have e1 : rowL R (.give []) = [REST] := by simp [rowL, orRest, giveL]
      rw [e1]
      simp at hceq
      have i0 : ixop (eRw (.give [])) (.int 0) = some (.str "give") := ix_0 _ _
      generalize eRw (.give []) = X at *
      simp [evB_cons, evB_nil, seqB_nx, seqB_ret, seqB_exc, seqB_bk, seqB_ct, endF_ret, endF_nx, endF_exc, evS, ev, evs, evBop, evo, evc, evSr, R_ok, R_exc, R_some, O_ok, O_exc, startE, getv, lower, cmp_int, cmpne_int, cmp_lt, cmp_le, cmp_gt, cmp_ge, cmp_str, cmpne_str, bin_add, bin_sub, bin_mod, bin_div, bin_mul, bltop, slop, isaop, itemsOf, enumOf, zipOf, Tg.put, Tg.ids, setAll, wipeE, fn41, i0, we_put_set, we_put_if, we_put_say, we_put_call, we_put_give, we_put_put, we_put_fill, we_put_drop, we_put_copy, we_put_lend, we_put_sole, we_put_move, we_put_go, wi_put_pf, wi_put_psf, wi_put_cmd, wi_put_ls, wi_put_ps, we_set_set, we_set_if, we_set_say, we_set_call, we_set_give, we_set_put, we_set_fill, we_set_drop, we_set_copy, we_set_lend, we_set_sole, we_set_move, we_set_go, wi_set_pf, wi_set_psf, wi_set_cmd, wi_set_ls, wi_set_ps, we_fill_set, we_fill_if, we_fill_say, we_fill_call, we_fill_give, we_fill_put, we_fill_fill, we_fill_drop, we_fill_copy, we_fill_lend, we_fill_sole, we_fill_move, we_fill_go, wi_fill_pf, wi_fill_psf, wi_fill_cmd, wi_fill_ls, wi_fill_ps, we_if_set, we_if_if, we_if_say, we_if_call, we_if_give, we_if_put, we_if_fill, we_if_drop, we_if_copy, we_if_lend, we_if_sole, we_if_move, we_if_go, wi_if_pf, wi_if_psf, wi_if_cmd, wi_if_ls, wi_if_ps, we_go_set, we_go_if, we_go_say, we_go_call, we_go_give, we_go_put, we_go_fill, we_go_drop, we_go_copy, we_go_lend, we_go_sole, we_go_move, we_go_go, wi_go_pf, wi_go_psf, wi_go_cmd, wi_go_ls, wi_go_ps, we_say_set, we_say_if, we_say_say, we_say_call, we_say_give, we_say_put, we_say_fill, we_say_drop, we_say_copy, we_say_lend, we_say_sole, we_say_move, we_say_go, wi_say_pf, wi_say_psf, wi_say_cmd, wi_say_ls, wi_say_ps, we_give_set, we_give_if, we_give_say, we_give_call, we_give_give, we_give_put, we_give_fill, we_give_drop, we_give_copy, we_give_lend, we_give_sole, we_give_move, we_give_go, wi_give_pf, wi_give_psf, wi_give_cmd, wi_give_ls, wi_give_ps, we_copy_set, we_copy_if, we_copy_say, we_copy_call, we_copy_give, we_copy_put, we_copy_fill, we_copy_drop, we_copy_copy, we_copy_lend, we_copy_sole, we_copy_move, we_copy_go, wi_copy_pf, wi_copy_psf, wi_copy_cmd, wi_copy_ls, wi_copy_ps, we_move_set, we_move_if, we_move_say, we_move_call, we_move_give, we_move_put, we_move_fill, we_move_drop, we_move_copy, we_move_lend, we_move_sole, we_move_move, we_move_go, wi_move_pf, wi_move_psf, wi_move_cmd, wi_move_ls, wi_move_ps, we_drop_set, we_drop_if, we_drop_say, we_drop_call, we_drop_give, we_drop_put, we_drop_fill, we_drop_drop, we_drop_copy, we_drop_lend, we_drop_sole, we_drop_move, we_drop_go, wi_drop_pf, wi_drop_psf, wi_drop_cmd, wi_drop_ls, wi_drop_ps, we_lend_set, we_lend_if, we_lend_say, we_lend_call, we_lend_give, we_lend_put, we_lend_fill, we_lend_drop, we_lend_copy, we_lend_lend, we_lend_sole, we_lend_move, we_lend_go, wi_lend_pf, wi_lend_psf, wi_lend_cmd, wi_lend_ls, wi_lend_ps, we_sole_set, we_sole_if, we_sole_say, we_sole_call, we_sole_give, we_sole_put, we_sole_fill, we_sole_drop, we_sole_copy, we_sole_lend, we_sole_sole, we_sole_move, we_sole_go, wi_sole_pf, wi_sole_psf, wi_sole_cmd, wi_sole_ls, wi_sole_ps, we_call_set, we_call_if, we_call_say, we_call_call, we_call_give, we_call_put, we_call_fill, we_call_drop, we_call_copy, we_call_lend, we_call_sole, we_call_move, we_call_go, wi_call_pf, wi_call_psf, wi_call_cmd, wi_call_ls, wi_call_ps, hceq, rest_eA]
    · have hs := g.resolve_left h0
      have hm := hs_sm hs
      obtain ⟨nd, hk, gn⟩ := hs
      have e1 := et m hm nd hk gn ""
      rw [decide_eq_false h0] at hceq
      have i0 : ixop (eRw (.give m)) (.int 0) = some (.str "give") := ix_0 _ _
      have i1 : ixop (eRw (.give m)) (.int 1) = some (dS m) := ix_1 _ _ _
      have hgl : rowL R (.give m) = if nd.k.thr then [na R "give" m ""] else [tkA R m] := by
        have : giveL R m = if nd.k.thr then [na R "give" m ""] else [tkA R m] := by
          unfold giveL
          rw [if_neg h0, hk]
        unfold rowL
        simp only [orRest, this]
        cases nd.k.thr <;> simp
      rw [hgl]
      have et1 : cmpop .eq (.tup [.bl true]) (.tup [.bl true]) = some true := by decide +kernel
      have et2 : cmpop .eq (.tup [.bl false]) (.tup [.bl true]) = some false := by decide +kernel
      have tk := tkn_eq hk ""
      have hwst : (ws nd).t = nd.k.thr := rfl
      cases hkk : nd.k with
      | own s =>
        have ht : nd.k.thr = false := by rw [hkk]; rfl
        have htk : tkn R m "" = tkA R m := by
          unfold tkn
          rw [hk]
          obtain ⟨l, k⟩ := nd
          simp only at hkk
          subst hkk
          rfl
        have hx : tkn R m "" = fa R (if cp s then "read" else "empty") (ws nd) "" := by rw [tk, hkk]
        obtain ⟨rest, hr⟩ := fa_rest R (ws nd) ""
        rw [hwst, ht] at hr
        have hea : eA (tkn R m "") = .tup (.str (if cp s then "read" else "empty") :: dS (ws nd).n :: .bl false :: rest) := by
          rw [hx]; unfold eA; rw [hr]
        rw [← htk]
        rw [hea] at e1
        refine ⟨1, ?_⟩
        generalize eRw (.give m) = X at *
        generalize R.map eN = RR at *
        simp [evB_cons, evB_nil, seqB_nx, seqB_ret, seqB_exc, seqB_bk, seqB_ct, endF_ret, endF_nx, endF_exc, evS, ev, evs, evBop, evo, evc, evSr, R_ok, R_exc, R_some, O_ok, O_exc, startE, getv, lower, cmp_int, cmpne_int, cmp_lt, cmp_le, cmp_gt, cmp_ge, cmp_str, cmpne_str, bin_add, bin_sub, bin_mod, bin_div, bin_mul, bltop, slop, isaop, itemsOf, enumOf, zipOf, Tg.put, Tg.ids, setAll, wipeE, fn41, i0, i1, we_put_set, we_put_if, we_put_say, we_put_call, we_put_give, we_put_put, we_put_fill, we_put_drop, we_put_copy, we_put_lend, we_put_sole, we_put_move, we_put_go, wi_put_pf, wi_put_psf, wi_put_cmd, wi_put_ls, wi_put_ps, we_set_set, we_set_if, we_set_say, we_set_call, we_set_give, we_set_put, we_set_fill, we_set_drop, we_set_copy, we_set_lend, we_set_sole, we_set_move, we_set_go, wi_set_pf, wi_set_psf, wi_set_cmd, wi_set_ls, wi_set_ps, we_fill_set, we_fill_if, we_fill_say, we_fill_call, we_fill_give, we_fill_put, we_fill_fill, we_fill_drop, we_fill_copy, we_fill_lend, we_fill_sole, we_fill_move, we_fill_go, wi_fill_pf, wi_fill_psf, wi_fill_cmd, wi_fill_ls, wi_fill_ps, we_if_set, we_if_if, we_if_say, we_if_call, we_if_give, we_if_put, we_if_fill, we_if_drop, we_if_copy, we_if_lend, we_if_sole, we_if_move, we_if_go, wi_if_pf, wi_if_psf, wi_if_cmd, wi_if_ls, wi_if_ps, we_go_set, we_go_if, we_go_say, we_go_call, we_go_give, we_go_put, we_go_fill, we_go_drop, we_go_copy, we_go_lend, we_go_sole, we_go_move, we_go_go, wi_go_pf, wi_go_psf, wi_go_cmd, wi_go_ls, wi_go_ps, we_say_set, we_say_if, we_say_say, we_say_call, we_say_give, we_say_put, we_say_fill, we_say_drop, we_say_copy, we_say_lend, we_say_sole, we_say_move, we_say_go, wi_say_pf, wi_say_psf, wi_say_cmd, wi_say_ls, wi_say_ps, we_give_set, we_give_if, we_give_say, we_give_call, we_give_give, we_give_put, we_give_fill, we_give_drop, we_give_copy, we_give_lend, we_give_sole, we_give_move, we_give_go, wi_give_pf, wi_give_psf, wi_give_cmd, wi_give_ls, wi_give_ps, we_copy_set, we_copy_if, we_copy_say, we_copy_call, we_copy_give, we_copy_put, we_copy_fill, we_copy_drop, we_copy_copy, we_copy_lend, we_copy_sole, we_copy_move, we_copy_go, wi_copy_pf, wi_copy_psf, wi_copy_cmd, wi_copy_ls, wi_copy_ps, we_move_set, we_move_if, we_move_say, we_move_call, we_move_give, we_move_put, we_move_fill, we_move_drop, we_move_copy, we_move_lend, we_move_sole, we_move_move, we_move_go, wi_move_pf, wi_move_psf, wi_move_cmd, wi_move_ls, wi_move_ps, we_drop_set, we_drop_if, we_drop_say, we_drop_call, we_drop_give, we_drop_put, we_drop_fill, we_drop_drop, we_drop_copy, we_drop_lend, we_drop_sole, we_drop_move, we_drop_go, wi_drop_pf, wi_drop_psf, wi_drop_cmd, wi_drop_ls, wi_drop_ps, we_lend_set, we_lend_if, we_lend_say, we_lend_call, we_lend_give, we_lend_put, we_lend_fill, we_lend_drop, we_lend_copy, we_lend_lend, we_lend_sole, we_lend_move, we_lend_go, wi_lend_pf, wi_lend_psf, wi_lend_cmd, wi_lend_ls, wi_lend_ps, we_sole_set, we_sole_if, we_sole_say, we_sole_call, we_sole_give, we_sole_put, we_sole_fill, we_sole_drop, we_sole_copy, we_sole_lend, we_sole_sole, we_sole_move, we_sole_go, wi_sole_pf, wi_sole_psf, wi_sole_cmd, wi_sole_ls, wi_sole_ps, we_call_set, we_call_if, we_call_say, we_call_call, we_call_give, we_call_put, we_call_fill, we_call_drop, we_call_copy, we_call_lend, we_call_sole, we_call_move, we_call_go, wi_call_pf, wi_call_psf, wi_call_cmd, wi_call_ls, wi_call_ps, hceq, e1, cut_23, et2, Kd.thr, hea]
      | lent s =>
        have ht : nd.k.thr = true := by rw [hkk]; rfl
        have hx : tkn R m "" = fa R "lend" (ws nd) "" := by rw [tk, hkk]
        have hng : na R "give" m "" = fa R "give" (ws nd) "" := by unfold na; rw [hk]
        obtain ⟨rest, hr⟩ := fa_rest R (ws nd) ""
        rw [hwst, ht] at hr
        have hea : eA (tkn R m "") = .tup (.str "lend" :: dS (ws nd).n :: .bl true :: rest) := by
          rw [hx]; unfold eA; rw [hr]
        have heg : eA (na R "give" m "") = .tup (.str "give" :: dS (ws nd).n :: .bl true :: rest) := by
          rw [hng]; unfold eA; rw [hr]
        rw [hea] at e1
        have bt := bin_catT [.str "give"] (dS (ws nd).n :: .bl true :: rest) (by
          have := congrArg List.length (hr "give")
          simp [acL] at this ⊢
          omega)
        refine ⟨1, ?_⟩
        generalize eRw (.give m) = X at *
        generalize R.map eN = RR at *
        simp at bt
        simp [evB_cons, evB_nil, seqB_nx, seqB_ret, seqB_exc, seqB_bk, seqB_ct, endF_ret, endF_nx, endF_exc, evS, ev, evs, evBop, evo, evc, evSr, R_ok, R_exc, R_some, O_ok, O_exc, startE, getv, lower, cmp_int, cmpne_int, cmp_lt, cmp_le, cmp_gt, cmp_ge, cmp_str, cmpne_str, bin_add, bin_sub, bin_mod, bin_div, bin_mul, bltop, slop, isaop, itemsOf, enumOf, zipOf, Tg.put, Tg.ids, setAll, wipeE, fn41, i0, i1, we_put_set, we_put_if, we_put_say, we_put_call, we_put_give, we_put_put, we_put_fill, we_put_drop, we_put_copy, we_put_lend, we_put_sole, we_put_move, we_put_go, wi_put_pf, wi_put_psf, wi_put_cmd, wi_put_ls, wi_put_ps, we_set_set, we_set_if, we_set_say, we_set_call, we_set_give, we_set_put, we_set_fill, we_set_drop, we_set_copy, we_set_lend, we_set_sole, we_set_move, we_set_go, wi_set_pf, wi_set_psf, wi_set_cmd, wi_set_ls, wi_set_ps, we_fill_set, we_fill_if, we_fill_say, we_fill_call, we_fill_give, we_fill_put, we_fill_fill, we_fill_drop, we_fill_copy, we_fill_lend, we_fill_sole, we_fill_move, we_fill_go, wi_fill_pf, wi_fill_psf, wi_fill_cmd, wi_fill_ls, wi_fill_ps, we_if_set, we_if_if, we_if_say, we_if_call, we_if_give, we_if_put, we_if_fill, we_if_drop, we_if_copy, we_if_lend, we_if_sole, we_if_move, we_if_go, wi_if_pf, wi_if_psf, wi_if_cmd, wi_if_ls, wi_if_ps, we_go_set, we_go_if, we_go_say, we_go_call, we_go_give, we_go_put, we_go_fill, we_go_drop, we_go_copy, we_go_lend, we_go_sole, we_go_move, we_go_go, wi_go_pf, wi_go_psf, wi_go_cmd, wi_go_ls, wi_go_ps, we_say_set, we_say_if, we_say_say, we_say_call, we_say_give, we_say_put, we_say_fill, we_say_drop, we_say_copy, we_say_lend, we_say_sole, we_say_move, we_say_go, wi_say_pf, wi_say_psf, wi_say_cmd, wi_say_ls, wi_say_ps, we_give_set, we_give_if, we_give_say, we_give_call, we_give_give, we_give_put, we_give_fill, we_give_drop, we_give_copy, we_give_lend, we_give_sole, we_give_move, we_give_go, wi_give_pf, wi_give_psf, wi_give_cmd, wi_give_ls, wi_give_ps, we_copy_set, we_copy_if, we_copy_say, we_copy_call, we_copy_give, we_copy_put, we_copy_fill, we_copy_drop, we_copy_copy, we_copy_lend, we_copy_sole, we_copy_move, we_copy_go, wi_copy_pf, wi_copy_psf, wi_copy_cmd, wi_copy_ls, wi_copy_ps, we_move_set, we_move_if, we_move_say, we_move_call, we_move_give, we_move_put, we_move_fill, we_move_drop, we_move_copy, we_move_lend, we_move_sole, we_move_move, we_move_go, wi_move_pf, wi_move_psf, wi_move_cmd, wi_move_ls, wi_move_ps, we_drop_set, we_drop_if, we_drop_say, we_drop_call, we_drop_give, we_drop_put, we_drop_fill, we_drop_drop, we_drop_copy, we_drop_lend, we_drop_sole, we_drop_move, we_drop_go, wi_drop_pf, wi_drop_psf, wi_drop_cmd, wi_drop_ls, wi_drop_ps, we_lend_set, we_lend_if, we_lend_say, we_lend_call, we_lend_give, we_lend_put, we_lend_fill, we_lend_drop, we_lend_copy, we_lend_lend, we_lend_sole, we_lend_move, we_lend_go, wi_lend_pf, wi_lend_psf, wi_lend_cmd, wi_lend_ls, wi_lend_ps, we_sole_set, we_sole_if, we_sole_say, we_sole_call, we_sole_give, we_sole_put, we_sole_fill, we_sole_drop, we_sole_copy, we_sole_lend, we_sole_sole, we_sole_move, we_sole_go, wi_sole_pf, wi_sole_psf, wi_sole_cmd, wi_sole_ls, wi_sole_ps, we_call_set, we_call_if, we_call_say, we_call_call, we_call_give, we_call_put, we_call_fill, we_call_drop, we_call_copy, we_call_lend, we_call_sole, we_call_move, we_call_go, wi_call_pf, wi_call_psf, wi_call_cmd, wi_call_ls, wi_call_ps, hceq, e1, cut_23, cut_1, et1, Kd.thr, bt, heg]
      | sole s =>
        have ht : nd.k.thr = true := by rw [hkk]; rfl
        have hx : tkn R m "" = fa R "sole" (ws nd) "" := by rw [tk, hkk]
        have hng : na R "give" m "" = fa R "give" (ws nd) "" := by unfold na; rw [hk]
        obtain ⟨rest, hr⟩ := fa_rest R (ws nd) ""
        rw [hwst, ht] at hr
        have hea : eA (tkn R m "") = .tup (.str "sole" :: dS (ws nd).n :: .bl true :: rest) := by
          rw [hx]; unfold eA; rw [hr]
        have heg : eA (na R "give" m "") = .tup (.str "give" :: dS (ws nd).n :: .bl true :: rest) := by
          rw [hng]; unfold eA; rw [hr]
        rw [hea] at e1
        have bt := bin_catT [.str "give"] (dS (ws nd).n :: .bl true :: rest) (by
          have := congrArg List.length (hr "give")
          simp [acL] at this ⊢
          omega)
        refine ⟨1, ?_⟩
        generalize eRw (.give m) = X at *
        generalize R.map eN = RR at *
        simp at bt
        simp [evB_cons, evB_nil, seqB_nx, seqB_ret, seqB_exc, seqB_bk, seqB_ct, endF_ret, endF_nx, endF_exc, evS, ev, evs, evBop, evo, evc, evSr, R_ok, R_exc, R_some, O_ok, O_exc, startE, getv, lower, cmp_int, cmpne_int, cmp_lt, cmp_le, cmp_gt, cmp_ge, cmp_str, cmpne_str, bin_add, bin_sub, bin_mod, bin_div, bin_mul, bltop, slop, isaop, itemsOf, enumOf, zipOf, Tg.put, Tg.ids, setAll, wipeE, fn41, i0, i1, we_put_set, we_put_if, we_put_say, we_put_call, we_put_give, we_put_put, we_put_fill, we_put_drop, we_put_copy, we_put_lend, we_put_sole, we_put_move, we_put_go, wi_put_pf, wi_put_psf, wi_put_cmd, wi_put_ls, wi_put_ps, we_set_set, we_set_if, we_set_say, we_set_call, we_set_give, we_set_put, we_set_fill, we_set_drop, we_set_copy, we_set_lend, we_set_sole, we_set_move, we_set_go, wi_set_pf, wi_set_psf, wi_set_cmd, wi_set_ls, wi_set_ps, we_fill_set, we_fill_if, we_fill_say, we_fill_call, we_fill_give, we_fill_put, we_fill_fill, we_fill_drop, we_fill_copy, we_fill_lend, we_fill_sole, we_fill_move, we_fill_go, wi_fill_pf, wi_fill_psf, wi_fill_cmd, wi_fill_ls, wi_fill_ps, we_if_set, we_if_if, we_if_say, we_if_call, we_if_give, we_if_put, we_if_fill, we_if_drop, we_if_copy, we_if_lend, we_if_sole, we_if_move, we_if_go, wi_if_pf, wi_if_psf, wi_if_cmd, wi_if_ls, wi_if_ps, we_go_set, we_go_if, we_go_say, we_go_call, we_go_give, we_go_put, we_go_fill, we_go_drop, we_go_copy, we_go_lend, we_go_sole, we_go_move, we_go_go, wi_go_pf, wi_go_psf, wi_go_cmd, wi_go_ls, wi_go_ps, we_say_set, we_say_if, we_say_say, we_say_call, we_say_give, we_say_put, we_say_fill, we_say_drop, we_say_copy, we_say_lend, we_say_sole, we_say_move, we_say_go, wi_say_pf, wi_say_psf, wi_say_cmd, wi_say_ls, wi_say_ps, we_give_set, we_give_if, we_give_say, we_give_call, we_give_give, we_give_put, we_give_fill, we_give_drop, we_give_copy, we_give_lend, we_give_sole, we_give_move, we_give_go, wi_give_pf, wi_give_psf, wi_give_cmd, wi_give_ls, wi_give_ps, we_copy_set, we_copy_if, we_copy_say, we_copy_call, we_copy_give, we_copy_put, we_copy_fill, we_copy_drop, we_copy_copy, we_copy_lend, we_copy_sole, we_copy_move, we_copy_go, wi_copy_pf, wi_copy_psf, wi_copy_cmd, wi_copy_ls, wi_copy_ps, we_move_set, we_move_if, we_move_say, we_move_call, we_move_give, we_move_put, we_move_fill, we_move_drop, we_move_copy, we_move_lend, we_move_sole, we_move_move, we_move_go, wi_move_pf, wi_move_psf, wi_move_cmd, wi_move_ls, wi_move_ps, we_drop_set, we_drop_if, we_drop_say, we_drop_call, we_drop_give, we_drop_put, we_drop_fill, we_drop_drop, we_drop_copy, we_drop_lend, we_drop_sole, we_drop_move, we_drop_go, wi_drop_pf, wi_drop_psf, wi_drop_cmd, wi_drop_ls, wi_drop_ps, we_lend_set, we_lend_if, we_lend_say, we_lend_call, we_lend_give, we_lend_put, we_lend_fill, we_lend_drop, we_lend_copy, we_lend_lend, we_lend_sole, we_lend_move, we_lend_go, wi_lend_pf, wi_lend_psf, wi_lend_cmd, wi_lend_ls, wi_lend_ps, we_sole_set, we_sole_if, we_sole_say, we_sole_call, we_sole_give, we_sole_put, we_sole_fill, we_sole_drop, we_sole_copy, we_sole_lend, we_sole_sole, we_sole_move, we_sole_go, wi_sole_pf, wi_sole_psf, wi_sole_cmd, wi_sole_ls, wi_sole_ps, we_call_set, we_call_if, we_call_say, we_call_call, we_call_give, we_call_put, we_call_fill, we_call_drop, we_call_copy, we_call_lend, we_call_sole, we_call_move, we_call_go, wi_call_pf, wi_call_psf, wi_call_cmd, wi_call_ls, wi_call_ps, hceq, e1, cut_23, cut_1, et1, Kd.thr, bt, heg]
  | call m f as =>
    rw [eq_call] at hceq
    have hm : Sm m := by rcases g.1 with rfl | g; exact sm_nil; exact hs_sm g
    have i0 : ixop (eRw (.call m f as)) (.int 0) = some (.str "call") := ix_0 _ _
    have i1 : ixop (eRw (.call m f as)) (.int 1) = some (dS m) := ix_1 _ _ _
    have i3 : ixop (eRw (.call m f as)) (.int 3) = some (.tup (as.map dS)) := ix_3 _ _ _ _ _
    have hen := enum_map dS as 0
    have hal := argsA_len R as 0
    have hal10 := g.2.2
    obtain ⟨o4, o5, e⟩ := fill_loop (G := G) (sub := sub) (fu := fu) (n + 1) R h hn m hm (eRw (.call m f as)) i1 none R (argsA R 0 as ++ [HAND]) none none (fun q hq => ⟨hq, hg q hq⟩) (by simp; omega)
    rw [take_flat hn hne g.1] at e
    have hrl : rowL R (.call m f as) = argsA R 0 as ++ [HAND] ++ takeL R m := rfl
    rw [hrl]
    have hd' : (argsA R 0 as).length < LN := by show _ < 16777216; omega
    have hcm : (argsA R 0 as).map eA = (as.zipIdx 0).map fun p => eA (argA R p.2 p.1) := by
      rw [argsA_map, List.map_map]; rfl
    refine ⟨1, ?_⟩
    generalize eRw (.call m f as) = X at *
    rw [show n + 1 + 9 = n + 10 from rfl] at e
    generalize R.map eN = RR at *
    have hex : ∀ p : List Nat × Nat, p ∈ as.zipIdx 0 → p.2 < 1000 ∧ callF G sub tab fu (n + 10) 40 [.lst RR, dS p.1, .str (dig p.2)] = .ok 1 (eA (argA R p.2 p.1)) := fun p hp => by
      obtain ⟨h1, h2, h3⟩ := List.mem_zipIdx hp
      have hmem : p.1 ∈ as := by rw [h3]; exact List.getElem_mem _
      obtain ⟨nd, hk, gn⟩ := g.2.1 p.1 hmem
      exact ⟨by omega, et p.1 (hs_sm ⟨nd, hk, gn⟩) nd hk gn (dig p.2)⟩
    simp [evB_cons, evB_nil, seqB_nx, seqB_ret, seqB_exc, seqB_bk, seqB_ct, endF_ret, endF_nx, endF_exc, evS, ev, evs, evBop, evo, evc, evSr, R_ok, R_exc, R_some, O_ok, O_exc, startE, getv, lower, cmp_int, cmpne_int, cmp_lt, cmp_le, cmp_gt, cmp_ge, cmp_str, cmpne_str, bin_add, bin_sub, bin_mod, bin_div, bin_mul, slop, isaop, itemsOf, enumOf, zipOf, Tg.put, Tg.ids, setAll, wipeE, fn41, i0, i1, i3, we_put_set, we_put_if, we_put_say, we_put_call, we_put_give, we_put_put, we_put_fill, we_put_drop, we_put_copy, we_put_lend, we_put_sole, we_put_move, we_put_go, wi_put_pf, wi_put_psf, wi_put_cmd, wi_put_ls, wi_put_ps, we_set_set, we_set_if, we_set_say, we_set_call, we_set_give, we_set_put, we_set_fill, we_set_drop, we_set_copy, we_set_lend, we_set_sole, we_set_move, we_set_go, wi_set_pf, wi_set_psf, wi_set_cmd, wi_set_ls, wi_set_ps, we_fill_set, we_fill_if, we_fill_say, we_fill_call, we_fill_give, we_fill_put, we_fill_fill, we_fill_drop, we_fill_copy, we_fill_lend, we_fill_sole, we_fill_move, we_fill_go, wi_fill_pf, wi_fill_psf, wi_fill_cmd, wi_fill_ls, wi_fill_ps, we_if_set, we_if_if, we_if_say, we_if_call, we_if_give, we_if_put, we_if_fill, we_if_drop, we_if_copy, we_if_lend, we_if_sole, we_if_move, we_if_go, wi_if_pf, wi_if_psf, wi_if_cmd, wi_if_ls, wi_if_ps, we_go_set, we_go_if, we_go_say, we_go_call, we_go_give, we_go_put, we_go_fill, we_go_drop, we_go_copy, we_go_lend, we_go_sole, we_go_move, we_go_go, wi_go_pf, wi_go_psf, wi_go_cmd, wi_go_ls, wi_go_ps, we_say_set, we_say_if, we_say_say, we_say_call, we_say_give, we_say_put, we_say_fill, we_say_drop, we_say_copy, we_say_lend, we_say_sole, we_say_move, we_say_go, wi_say_pf, wi_say_psf, wi_say_cmd, wi_say_ls, wi_say_ps, we_give_set, we_give_if, we_give_say, we_give_call, we_give_give, we_give_put, we_give_fill, we_give_drop, we_give_copy, we_give_lend, we_give_sole, we_give_move, we_give_go, wi_give_pf, wi_give_psf, wi_give_cmd, wi_give_ls, wi_give_ps, we_copy_set, we_copy_if, we_copy_say, we_copy_call, we_copy_give, we_copy_put, we_copy_fill, we_copy_drop, we_copy_copy, we_copy_lend, we_copy_sole, we_copy_move, we_copy_go, wi_copy_pf, wi_copy_psf, wi_copy_cmd, wi_copy_ls, wi_copy_ps, we_move_set, we_move_if, we_move_say, we_move_call, we_move_give, we_move_put, we_move_fill, we_move_drop, we_move_copy, we_move_lend, we_move_sole, we_move_move, we_move_go, wi_move_pf, wi_move_psf, wi_move_cmd, wi_move_ls, wi_move_ps, we_drop_set, we_drop_if, we_drop_say, we_drop_call, we_drop_give, we_drop_put, we_drop_fill, we_drop_drop, we_drop_copy, we_drop_lend, we_drop_sole, we_drop_move, we_drop_go, wi_drop_pf, wi_drop_psf, wi_drop_cmd, wi_drop_ls, wi_drop_ps, we_lend_set, we_lend_if, we_lend_say, we_lend_call, we_lend_give, we_lend_put, we_lend_fill, we_lend_drop, we_lend_copy, we_lend_lend, we_lend_sole, we_lend_move, we_lend_go, wi_lend_pf, wi_lend_psf, wi_lend_cmd, wi_lend_ls, wi_lend_ps, we_sole_set, we_sole_if, we_sole_say, we_sole_call, we_sole_give, we_sole_put, we_sole_fill, we_sole_drop, we_sole_copy, we_sole_lend, we_sole_sole, we_sole_move, we_sole_go, wi_sole_pf, wi_sole_psf, wi_sole_cmd, wi_sole_ls, wi_sole_ps, we_call_set, we_call_if, we_call_say, we_call_call, we_call_give, we_call_put, we_call_fill, we_call_drop, we_call_copy, we_call_lend, we_call_sole, we_call_move, we_call_go, wi_call_pf, wi_call_psf, wi_call_cmd, wi_call_ls, wi_call_ps, hceq]
    rw [hen, compT_map (fun p : List Nat × Nat => eA (argA R p.2 p.1)) (as.zipIdx 0) (fun p hp => by
      obtain ⟨q1, q2⟩ := hex p hp
      have q3 := str_dig p.2 q1
      simp [compF, evB_cons, evB_nil, seqB_nx, seqB_ret, seqB_exc, seqB_bk, seqB_ct, endF_ret, endF_nx, endF_exc, evS, ev, evs, evBop, evo, evc, evSr, R_ok, R_exc, R_some, O_ok, O_exc, startE, getv, lower, cmp_int, cmpne_int, cmp_lt, cmp_le, cmp_gt, cmp_ge, cmp_str, cmpne_str, bin_add, bin_sub, bin_mod, bin_div, bin_mul, slop, isaop, itemsOf, enumOf, zipOf, Tg.put, Tg.ids, setAll, wipeE, q2, q3]) (by simp; omega)]
    rw [← hcm]
    simp at e
    simp [evB_cons, evB_nil, seqB_nx, seqB_ret, seqB_exc, seqB_bk, seqB_ct, endF_ret, endF_nx, endF_exc, evS, ev, evs, evBop, evo, evc, evSr, R_ok, R_exc, R_some, O_ok, O_exc, startE, getv, lower, cmp_int, cmpne_int, cmp_lt, cmp_le, cmp_gt, cmp_ge, cmp_str, cmpne_str, bin_add, bin_sub, bin_mod, bin_div, bin_mul, bltop, slop, isaop, itemsOf, enumOf, zipOf, Tg.put, Tg.ids, setAll, wipeE, hd']
    have hh : eA HAND = .tup [.str "hand", .str "", .bl false, .int 0, .int 0, .str ""] := hand_eA
    rw [hh] at e
    rw [e]
    simp [evB_cons, evB_nil, seqB_nx, seqB_ret, seqB_exc, seqB_bk, seqB_ct, endF_ret, endF_nx, endF_exc, evS, ev, evs, evBop, evo, evc, evSr, R_ok, R_exc, R_some, O_ok, O_exc, startE, getv, lower, cmp_int, cmpne_int, cmp_lt, cmp_le, cmp_gt, cmp_ge, cmp_str, cmpne_str, bin_add, bin_sub, bin_mod, bin_div, bin_mul, bltop, slop, isaop, itemsOf, enumOf, zipOf, Tg.put, Tg.ids, setAll, wipeE, hh]
  | _ => simp [isC] at c
end
end Ly

set_option Elab.async false
set_option linter.all false
set_option maxRecDepth 100000
set_option maxHeartbeats 800000
namespace Ly
open PySem
theorem allA_len (R : List Nd) : ∀ (rs : List Rw) (k : Nat), (∀ r ∈ rs, Gr R r) → (allA k (rs.map (rowL R))).length ≤ 12 * rs.length
  | [], k, _ => by simp [allA]
  | r :: rs, k, h => by
    have h1 := row_few (h r List.mem_cons_self)
    have h2 := allA_len R rs (k + 1) fun q hq => h q (List.mem_cons_of_mem _ hq)
    rw [List.map_cons, allA, List.length_append, List.length_cons]
    simp only [numb, List.length_map]
    omega
theorem allA_ga (R : List Nd) : ∀ (rs : List Rw) (k : Nat), (∀ r ∈ rs, Gr R r) → ∀ x ∈ allA k (rs.map (rowL R)), GA x.2
  | [], k, _ => by simp [allA]
  | r :: rs, k, h => fun x hx => by
    rw [List.map_cons, allA] at hx
    rcases List.mem_append.mp hx with hx | hx
    · obtain ⟨y, hy, rfl⟩ := List.mem_map.mp hx
      exact ga_row (h r List.mem_cons_self) y hy
    · exact allA_ga R rs (k + 1) (fun q hq => h q (List.mem_cons_of_mem _ hq)) x hx
section
variable {G : Nat → Option D} {sub : Nat → Nat → Bool} {fu : Nat}
theorem due_loop (n : Nat) (h : Hd) (g : GH h) (o0 o1 o2 o3 o5 : Option (Nat × D)) : ∀ (rs : List Rw) (k : Nat) (acc : List (Nat × Ac)) (o4 o8 : Option (Nat × D)), (∀ r ∈ rs, Gq h.R r) → acc.length + 12 * rs.length ≤ 1000 → ∃ o4' o8',
    forT (.tup [4, 8]) (evB G sub (callF G sub tab fu (n + 11)) fu bd42_0) (enumD k (rs.map eRw)) [o0, o1, o2, o3, o4, o5, some (0, .lst (acc.map e7)), some (0, .lst (h.R.map eN)), o8, none] =
      .nx [o0, o1, o2, o3, o4', o5, some (0, .lst ((acc ++ allA k (rs.map (rowL h.R))).map e7)), some (0, .lst (h.R.map eN)), o8', none]
  | [], k, acc, o4, o8, _, _ => ⟨o4, o8, by simp [forT, forLoop, enumD, allA]⟩
  | r :: rs, k, acc, o4, o8, gq, hl => by
    rw [List.length_cons] at hl
    have gr := gq r List.mem_cons_self
    obtain ⟨l, h2⟩ := due_fn (G := G) (sub := sub) (fu := fu) n h.R g.gn g.nd g.ne g.len r gr.1 gr.2.1 gr.2.2
    have step : ∀ f, forT (.tup [4, 8]) f (enumD k ((r :: rs).map eRw)) [o0, o1, o2, o3, o4, o5, some (0, .lst (acc.map e7)), some (0, .lst (h.R.map eN)), o8, none] = match f [o0, o1, o2, o3, some (0, .int k), o5, some (0, .lst (acc.map e7)), some (0, .lst (h.R.map eN)), some (0, eRw r), none] with
      | .nx r1 => forT (.tup [4, 8]) f (enumD (k + 1) (rs.map eRw)) r1
      | .ct r1 => forT (.tup [4, 8]) f (enumD (k + 1) (rs.map eRw)) r1
      | .bk r1 => .nx r1
      | .ret l d => .ret l d
      | .exc r1 c => .exc r1 c
      | .bad => .bad := fun f => rfl
    have hf := row_few gr.1
    have e1 : evB G sub (callF G sub tab fu (n + 11)) fu bd42_0 [o0, o1, o2, o3, some (0, .int k), o5, some (0, .lst (acc.map e7)), some (0, .lst (h.R.map eN)), some (0, eRw r), none] =
        .nx [o0, o1, o2, o3, some (0, .int k), o5, some (0, .lst ((acc ++ numb k (rowL h.R r)).map e7)), some (0, .lst (h.R.map eN)), some (0, eRw r), none] := by
      have hb := bin_cat (acc.map e7) ((numb k (rowL h.R r)).map e7) (by simp [numb]; omega)
      generalize D.lst (h.R.map eN) = K at *
      simp [evB_cons, evB_nil, seqB_nx, seqB_ret, seqB_exc, seqB_bk, seqB_ct, endF_ret, endF_nx, endF_exc, evS, ev, evs, evBop, evo, evc, evSr, R_ok, R_exc, R_some, O_ok, O_exc, startE, getv, lower, cmp_int, cmpne_int, cmp_lt, cmp_le, cmp_gt, cmp_ge, cmp_str, cmpne_str, bin_add, bin_sub, bin_mod, bin_div, bin_mul, bltop, slop, isaop, itemsOf, enumOf, zipOf, Tg.put, Tg.ids, setAll, wipeE, bd42_0, h2]
      rw [compT_map (fun x : Ac => e7 (k, x)) (rowL h.R r) (fun x hx => by
        have hk := put_k k x
        generalize eA x = Y at hk ⊢
        simp [compF, evB_cons, evB_nil, seqB_nx, seqB_ret, seqB_exc, seqB_bk, seqB_ct, endF_ret, endF_nx, endF_exc, evS, ev, evs, evBop, evo, evc, evSr, R_ok, R_exc, R_some, O_ok, O_exc, startE, getv, lower, cmp_int, cmpne_int, cmp_lt, cmp_le, cmp_gt, cmp_ge, cmp_str, cmpne_str, bin_add, bin_sub, bin_mod, bin_div, bin_mul, bltop, slop, isaop, itemsOf, enumOf, zipOf, Tg.put, Tg.ids, setAll, wipeE, hk]) (by omega)]
      have hm : (numb k (rowL h.R r)).map e7 = (rowL h.R r).map fun x => e7 (k, x) := by simp [numb, Function.comp_def]
      rw [hm] at hb
      simp [evB_cons, evB_nil, seqB_nx, seqB_ret, seqB_exc, seqB_bk, seqB_ct, endF_ret, endF_nx, endF_exc, evS, ev, evs, evBop, evo, evc, evSr, R_ok, R_exc, R_some, O_ok, O_exc, startE, getv, lower, cmp_int, cmpne_int, cmp_lt, cmp_le, cmp_gt, cmp_ge, cmp_str, cmpne_str, bin_add, bin_sub, bin_mod, bin_div, bin_mul, bltop, slop, isaop, itemsOf, enumOf, zipOf, Tg.put, Tg.ids, setAll, wipeE, hb, hm]
    have hnl : (numb k (rowL h.R r)).length = (rowL h.R r).length := by simp [numb]
    obtain ⟨o4', o8', e2⟩ := due_loop n h g o0 o1 o2 o3 o5 rs (k + 1) (acc ++ numb k (rowL h.R r)) (some (0, .int k)) (some (0, eRw r)) (fun q hq => gq q (List.mem_cons_of_mem _ hq)) (by rw [List.length_append, hnl]; omega)
    refine ⟨o4', o8', ?_⟩
    rw [step, e1]
    simp only
    rw [e2, List.map_cons, allA, List.append_assoc]
theorem law_fn (hG : G 0 = some (.tup [.str "rest", .str "", .bl false, .int 0, .int 0, .str ""])) (hG1 : G 1 = some (.tup [.str "hand", .str "", .bl false, .int 0, .int 0, .str ""])) (ns : List Int) (hl : ns.length ≤ 63) : ∃ l, callF G sub tab fu 60 42 [.lst (ns.map D.int)] = .ok l (.bl true) := by
  rw [← rest_eA] at hG
  rw [← hand_eA] at hG1
  refine ⟨0, ?_⟩
  obtain ⟨HS, gh, e1⟩ := heads_fn (G := G) (sub := sub) (fu := fu) 55 ns hl
  have hcl : (cutD ns (some 9) (some 72)).length ≤ 63 := by
    unfold cutD
    rw [List.length_take, List.length_drop]
    omega
  have hcm : cutD (ns.map D.int) (some 9) (some 72) = (cutD ns (some 9) (some 72)).map D.int := by
    unfold cutD
    rw [List.length_map, List.map_take, List.map_drop]
  generalize cutD ns (some 9) (some 72) = C at *
  have hHl := gh.len
  have each : ∀ k : Nat, ∃ p : Hd × List Rw, k < HS.length → HS[k]? = some p.1 ∧ (∀ r ∈ p.2, Gq p.1.R r) ∧ p.2.length ≤ 31 ∧ callF G sub tab fu 59 38 [.lst (HS.map eH), .int k, .lst (C.map D.int)] = .ok 1 (funD (dS p.1.nm) (eRe p.1.re) (.tup (p.2.map eRw)) p.1.ps p.1.ls) := fun k => by
    by_cases hk : k < HS.length
    · have hk2 : HS[k]? = some HS[k] := List.getElem?_eq_getElem hk
      obtain ⟨rs, h1, h2, h3⟩ := function_fn (G := G) (sub := sub) (fu := fu) 55 HS gh k HS[k] hk2 C hcl
      exact ⟨(HS[k], rs), fun _ => ⟨hk2, h1, h2, h3⟩⟩
    · exact ⟨(⟨[], [], .non, []⟩, []), fun z => absurd z hk⟩
  obtain ⟨f, hf⟩ := Classical.axiomOfChoice each
  let FD : Nat → D := fun k => funD (dS (f k).1.nm) (eRe (f k).1.re) (.tup ((f k).2.map eRw)) (f k).1.ps (f k).1.ls
  have hr := rngop (m := HS.length) (by omega)
  have hFD : ∀ k, k < HS.length → ((List.range' 0 HS.length).map FD)[k]? = some (FD k) := fun k hk => by
    rw [List.getElem?_map, List.getElem?_range' hk]
    simp
  have a1 : evB G sub (callF G sub tab fu 59) fu (takeB 3 fn42.body) (startE fn42.nn [.lst (ns.map D.int)]) = .nx [some (0, .lst (ns.map D.int)), some (0, .lst (HS.map eH)), some (0, .lst (C.map D.int)), some (0, .tup ((List.range' 0 HS.length).map FD)), none, none, none, none, none, none] := by
    have hlm : ((HS.map eH).length : Int) = (HS.length : Int) := by simp
    generalize ns.map D.int = NS at *
    simp [evB_cons, evB_nil, seqB_nx, seqB_ret, seqB_exc, seqB_bk, seqB_ct, endF_ret, endF_nx, endF_exc, evS, ev, evs, evBop, evo, evc, evSr, R_ok, R_exc, R_some, O_ok, O_exc, startE, getv, lower, cmp_int, cmpne_int, cmp_lt, cmp_le, cmp_gt, cmp_ge, cmp_str, cmpne_str, bin_add, bin_sub, bin_mod, bin_div, bin_mul, bltop, slop, isaop, itemsOf, enumOf, zipOf, Tg.put, Tg.ids, setAll, wipeE, fn42, takeB, e1, hcm, hr]
    rw [compT_map FD (List.range' 0 HS.length) (fun k hk => by
      rw [List.mem_range'_1] at hk
      obtain ⟨_, _, _, h4⟩ := hf k (by omega)
      show compF _ _ _ _ _ _ = R.ok (_, some (funD (dS (f k).1.nm) (eRe (f k).1.re) (.tup ((f k).2.map eRw)) (f k).1.ps (f k).1.ls))
      simp [compF, evB_cons, evB_nil, seqB_nx, seqB_ret, seqB_exc, seqB_bk, seqB_ct, endF_ret, endF_nx, endF_exc, evS, ev, evs, evBop, evo, evc, evSr, R_ok, R_exc, R_some, O_ok, O_exc, startE, getv, lower, cmp_int, cmpne_int, cmp_lt, cmp_le, cmp_gt, cmp_ge, cmp_str, cmpne_str, bin_add, bin_sub, bin_mod, bin_div, bin_mul, bltop, slop, isaop, itemsOf, enumOf, zipOf, Tg.put, Tg.ids, setAll, wipeE, h4]) (by simp; omega)]
    simp [evB_cons, evB_nil, seqB_nx, seqB_ret, seqB_exc, seqB_bk, seqB_ct, endF_ret, endF_nx, endF_exc, evS, ev, evs, evBop, evo, evc, evSr, R_ok, R_exc, R_some, O_ok, O_exc, startE, getv, lower, cmp_int, cmpne_int, cmp_lt, cmp_le, cmp_gt, cmp_ge, cmp_str, cmpne_str, bin_add, bin_sub, bin_mod, bin_div, bin_mul, bltop, slop, isaop, itemsOf, enumOf, zipOf, Tg.put, Tg.ids, setAll, wipeE]
  have hNS : ((List.range' 0 HS.length).map FD).length = HS.length := by simp
  obtain ⟨q, er, o4, o5, o6, o7, o8, _, rfl⟩ := forT_list (g := fun i : Nat => D.int i) (t := .name 5) (f := evB G sub (callF G sub tab fu 59) fu bd42_1)
    (fun rest q => ∃ (o4 o5 o6 o7 o8 : Option (Nat × D)), (∀ k ∈ rest, k < HS.length) ∧ q = [some (0, .lst (ns.map D.int)), some (0, .lst (HS.map eH)), some (0, .lst (C.map D.int)), some (0, .tup ((List.range' 0 HS.length).map FD)), o4, o5, o6, o7, o8, none])
    (List.range' 0 HS.length) [some (0, .lst (ns.map D.int)), some (0, .lst (HS.map eH)), some (0, .lst (C.map D.int)), some (0, .tup ((List.range' 0 HS.length).map FD)), none, none, none, none, none, none] ⟨none, none, none, none, none, fun k hk => by rw [List.mem_range'_1] at hk; omega, rfl⟩ (by
      rintro k rest q ⟨o4, o5, o6, o7, o8, hrest, rfl⟩
      have hk := hrest k List.mem_cons_self
      obtain ⟨h1, h2, h3, _⟩ := hf k hk
      have g := gh.gh _ (List.mem_of_getElem? h1)
      rcases hfk : f k with ⟨h, rs⟩
      rw [hfk] at h1 h2 h3 g
      simp only at h1 h2 h3 g
      have hfd : FD k = funD (dS h.nm) (eRe h.re) (.tup (rs.map eRw)) h.ps h.ls := by
        show funD (dS (f k).1.nm) (eRe (f k).1.re) (.tup ((f k).2.map eRw)) (f k).1.ps (f k).1.ls = _
        rw [hfk]
      have hgr : ∀ r ∈ rs, Gr h.R r := fun r hr => (h2 r hr).1
      have hsm : ∀ r ∈ h.R, Sm r.l := fun r hr => (g.gn r hr).1
      have hact := acts_fn (G := G) (sub := sub) (fu := fu) eRw (rowL h.R) 58 (dS h.nm) (eRe h.re) h.ps h.ls rs ((List.range' 0 HS.length).map FD) k (by rw [hFD k hk, hfd]) (fun r hr => by
        refine ⟨by have := row_few (hgr r hr); omega, ?_⟩
        exact row_fn (G := G) (sub := sub) (fu := fu) hG hG1 44 (dS h.nm) (eRe h.re) (.tup (rs.map eRw)) h.ps h.ls r hsm (by have := g.pl; have := g.ll; omega) (hgr r hr)) (by omega)
      have htold := told_fn (G := G) (sub := sub) (fu := fu) 56 (allA 0 (rs.map (rowL h.R))) (allA_ga h.R rs 0 hgr)
      obtain ⟨p4, p8, ed⟩ := due_loop (G := G) (sub := sub) (fu := fu) 48 h g (some (0, .lst (ns.map D.int))) (some (0, .lst (HS.map eH))) (some (0, .lst (C.map D.int))) (some (0, .tup ((List.range' 0 HS.length).map FD))) (some (0, .int k)) rs 0 [] o4 o8 h2 (by simp; omega)
      have bcat := bin_cat (h.ps.map eN) (h.ls.map eN) (by have := g.pl; have := g.ll; simp; omega)
      rw [← List.map_append, show h.ps ++ h.ls = h.R from rfl] at bcat
      have ixh : ixop (.lst (HS.map eH)) (.int (k : Int)) = some (eH h) := by
        have h1' : (k : Int) < (HS.length : Int) := by omega
        simp [ixop, atD, L2.atI, L2.ixN, hk, h1', h1]
        exact congrArg eH (List.getElem?_eq_some_iff.mp h1).2
      have i1 : ixop (eH h) (.int 1) = some (.lst (h.ps.map eN)) := rfl
      have i3 : ixop (eH h) (.int 3) = some (.lst (h.ls.map eN)) := rfl
      have ixp : ixop (.tup ((List.range' 0 HS.length).map FD)) (.int (k : Int)) = some (funD (dS h.nm) (eRe h.re) (.tup (rs.map eRw)) h.ps h.ls) := by
        have h5 := hFD k hk
        rw [hfd] at h5
        have h6 : k < ((List.range' 0 HS.length).map FD).length := by rw [hNS]; exact hk
        have h7 : (k : Int) < (((List.range' 0 HS.length).map FD).length : Int) := by omega
        show L2.atI _ _ = _
        unfold L2.atI L2.ixN
        rw [if_pos (by omega), if_pos h7]
        simpa using h5
      have i4 : ixop (funD (dS h.nm) (eRe h.re) (.tup (rs.map eRw)) h.ps h.ls) (.int 4) = some (.tup (rs.map eRw)) := rfl
      refine ⟨_, [some (0, .lst (ns.map D.int)), some (0, .lst (HS.map eH)), some (0, .lst (C.map D.int)), some (0, .tup ((List.range' 0 HS.length).map FD)), p4, some (0, .int k), some (0, .lst ((allA 0 (rs.map (rowL h.R))).map e7)), some (0, .lst (h.R.map eN)), p8, none], rfl, .inl ?_, p4, _, _, _, p8, fun j hj => hrest j (List.mem_cons_of_mem _ hj), rfl⟩
      simp only [List.nil_append, List.map_nil] at ed
      generalize (allA 0 (rs.map (rowL h.R))).map e7 = EE at *
      generalize funD (dS h.nm) (eRe h.re) (.tup (rs.map eRw)) h.ps h.ls = FF at *
      generalize eH h = HH at *
      generalize h.R.map eN = RR at *
      generalize (List.range' 0 HS.length).map FD = FDs at *
      generalize HS.map eH = HM at *
      generalize ns.map D.int = NS at *
      generalize C.map D.int = CS at *
      generalize rs.map eRw = RS at *
      simp [evB_cons, evB_nil, seqB_nx, seqB_ret, seqB_exc, seqB_bk, seqB_ct, endF_ret, endF_nx, endF_exc, evS, ev, evs, evBop, evo, evc, evSr, R_ok, R_exc, R_some, O_ok, O_exc, startE, getv, lower, cmp_int, cmpne_int, cmp_lt, cmp_le, cmp_gt, cmp_ge, cmp_str, cmpne_str, bin_add, bin_sub, bin_mod, bin_div, bin_mul, bltop, slop, isaop, itemsOf, enumOf, zipOf, Tg.put, Tg.ids, setAll, wipeE, bd42_1, ixh, i1, i3, bcat, ixp, i4]
      rw [ed]
      simp [evB_cons, evB_nil, seqB_nx, seqB_ret, seqB_exc, seqB_bk, seqB_ct, endF_ret, endF_nx, endF_exc, evS, ev, evs, evBop, evo, evc, evSr, R_ok, R_exc, R_some, O_ok, O_exc, startE, getv, lower, cmp_int, cmpne_int, cmp_lt, cmp_le, cmp_gt, cmp_ge, cmp_str, cmpne_str, bin_add, bin_sub, bin_mod, bin_div, bin_mul, bltop, slop, isaop, itemsOf, enumOf, zipOf, Tg.put, Tg.ids, setAll, wipeE, hact, htold])
  rw [callF_s fn42 rfl rfl, evB_cut 3, a1, seqB_nx]
  have hr' : rangeop [.int ((((List.range' 0 HS.length).map FD).length : Nat) : Int)] = some ((List.range' 0 HS.length).map fun i : Nat => D.int i) := by rw [hNS]; exact hr
  generalize (List.range' 0 HS.length).map FD = FDs at *
  generalize HS.map eH = HM at *
  generalize ns.map D.int = NS at *
  generalize C.map D.int = CS at *
  simp [evB_cons, evB_nil, seqB_nx, seqB_ret, seqB_exc, seqB_bk, seqB_ct, endF_ret, endF_nx, endF_exc, evS, ev, evs, evBop, evo, evc, evSr, R_ok, R_exc, R_some, O_ok, O_exc, startE, getv, lower, cmp_int, cmpne_int, cmp_lt, cmp_le, cmp_gt, cmp_ge, cmp_str, cmpne_str, bin_add, bin_sub, bin_mod, bin_div, bin_mul, bltop, slop, isaop, itemsOf, enumOf, zipOf, Tg.put, Tg.ids, setAll, wipeE, fn42, dropB, hr']
  rw [er]
  simp [evB_cons, evB_nil, seqB_nx, seqB_ret, seqB_exc, seqB_bk, seqB_ct, endF_ret, endF_nx, endF_exc, evS, ev, evs, evBop, evo, evc, evSr, R_ok, R_exc, R_some, O_ok, O_exc, startE, getv, lower, cmp_int, cmpne_int, cmp_lt, cmp_le, cmp_gt, cmp_ge, cmp_str, cmpne_str, bin_add, bin_sub, bin_mod, bin_div, bin_mul, bltop, slop, isaop, itemsOf, enumOf, zipOf, Tg.put, Tg.ids, setAll, wipeE]
end
/-! LAWARGS: rfl rfl -/
end Ly

namespace Ly
open PySem PySem.Spec PyProof.Rows L2
abbrev fuel : Nat := 60
abbrev wfuel : Nat := 0
/-! ### the program, in the small language (printed by gen.py) -/
def cfg : Cfg := { fns := [("leaves" : Str), ("part_at" : Str), ("part" : Str), ("first" : Str), ("is_copied" : Str), ("is_holder" : Str), ("shape_of" : Str), ("kind_of" : Str), ("operands" : Str), ("spot_act" : Str), ("name_act" : Str), ("at_acts" : Str), ("operand_acts" : Str), ("target_acts" : Str), ("thing_acts" : Str), ("taken_act" : Str), ("call_acts" : Str), ("give_acts" : Str), ("row_acts" : Str), ("acts" : Str), ("_law_cell_at" : Str), ("_law_mixed" : Str), ("_law_names" : Str), ("_law_many" : Str), ("_law_table" : Str), ("_law_held" : Str), ("_law_menu" : Str), ("_law_picked" : Str), ("_law_act" : Str), ("_law_whole" : Str), ("_law_same_act" : Str), ("_law_told" : Str), ("_law_result" : Str), ("_law_back" : Str), ("_law_head" : Str), ("_law_heads" : Str), ("_law_call" : Str), ("_law_row" : Str), ("_law_function" : Str), ("_law_copied" : Str), ("_law_taken" : Str), ("_law_due" : Str), ("law" : Str)], exs := ["NoName", "NoPart"], gls := [("REST", (.tup [(.str "rest"), (.str ""), (.bl false), (.int 0), (.int 0), (.str "")])), ("HAND", (.tup [(.str "hand"), (.str ""), (.bl false), (.int 0), (.int 0), (.str "")]))], sub := fun c k => (([[true, false], [false, true]] : List (List Bool)).getD c [true, false]).getD k false, nown := 2, dfl := [(9, [""]), (10, [""])] }
def top (i : Nat) : Stmt := PySem.Challenge.pw_lendrule_k14_acts_of_calls_and_gives.main.body.getD i (.Pass ⟨0, 0, 0, 0⟩)
abbrev st0 : Stmt := top 5
def nm0 : List Str := ["shape", "found", "one"]
theorem sc0 : FnScope nm0 ["shape"] (defScope st0) := ⟨rfl, rfl, rfl, by decide +kernel, rfl, by decide +kernel, by decide +kernel⟩
theorem mb0 : mB cfg nm0 (defScope st0) true fn0.body (defBody st0) = true := by decide +kernel
abbrev st1 : Stmt := top 6
def nm1 : List Str := ["shape", "number"]
theorem sc1 : FnScope nm1 ["shape", "number"] (defScope st1) := ⟨rfl, rfl, rfl, by decide +kernel, rfl, by decide +kernel, by decide +kernel⟩
theorem mb1 : mB cfg nm1 (defScope st1) true fn1.body (defBody st1) = true := by decide +kernel
abbrev st2 : Stmt := top 7
def nm2 : List Str := ["shape", "path", "number"]
theorem sc2 : FnScope nm2 ["shape", "path"] (defScope st2) := ⟨rfl, rfl, rfl, by decide +kernel, rfl, by decide +kernel, by decide +kernel⟩
theorem mb2 : mB cfg nm2 (defScope st2) true fn2.body (defBody st2) = true := by decide +kernel
abbrev st3 : Stmt := top 8
def nm3 : List Str := ["shape", "path", "leaf", "number", "inner", "one"]
theorem sc3 : FnScope nm3 ["shape", "path"] (defScope st3) := ⟨rfl, rfl, rfl, by decide +kernel, rfl, by decide +kernel, by decide +kernel⟩
theorem mb3 : mB cfg nm3 (defScope st3) true fn3.body (defBody st3) = true := by decide +kernel
abbrev st4 : Stmt := top 9
def nm4 : List Str := ["shape"]
theorem sc4 : FnScope nm4 ["shape"] (defScope st4) := ⟨rfl, rfl, rfl, by decide +kernel, rfl, by decide +kernel, by decide +kernel⟩
theorem mb4 : mB cfg nm4 (defScope st4) true fn4.body (defBody st4) = true := by decide +kernel
abbrev st5 : Stmt := top 11
def nm5 : List Str := ["kind"]
theorem sc5 : FnScope nm5 ["kind"] (defScope st5) := ⟨rfl, rfl, rfl, by decide +kernel, rfl, by decide +kernel, by decide +kernel⟩
theorem mb5 : mB cfg nm5 (defScope st5) true fn5.body (defBody st5) = true := by decide +kernel
abbrev st6 : Stmt := top 12
def nm6 : List Str := ["kind"]
theorem sc6 : FnScope nm6 ["kind"] (defScope st6) := ⟨rfl, rfl, rfl, by decide +kernel, rfl, by decide +kernel, by decide +kernel⟩
theorem mb6 : mB cfg nm6 (defScope st6) true fn6.body (defBody st6) = true := by decide +kernel
abbrev st7 : Stmt := top 13
def nm7 : List Str := ["function", "name", "known", "kind"]
theorem sc7 : FnScope nm7 ["function", "name"] (defScope st7) := ⟨rfl, rfl, rfl, by decide +kernel, rfl, by decide +kernel, by decide +kernel⟩
theorem mb7 : mB cfg nm7 (defScope st7) true fn7.body (defBody st7) = true := by decide +kernel
abbrev st8 : Stmt := top 14
def nm8 : List Str := ["row"]
theorem sc8 : FnScope nm8 ["row"] (defScope st8) := ⟨rfl, rfl, rfl, by decide +kernel, rfl, by decide +kernel, by decide +kernel⟩
theorem mb8 : mB cfg nm8 (defScope st8) true fn8.body (defBody st8) = true := by decide +kernel
abbrev st9 : Stmt := top 18
def nm9 : List Str := ["function", "act", "spot", "taker", "shape", "many"]
theorem sc9 : FnScope nm9 ["function", "act", "spot", "taker"] (defScope st9) := ⟨rfl, rfl, rfl, by decide +kernel, rfl, by decide +kernel, by decide +kernel⟩
theorem mb9 : mB cfg nm9 (defScope st9) true fn9.body (defBody st9) = true := by decide +kernel
abbrev st10 : Stmt := top 19
def nm10 : List Str := ["function", "act", "name", "taker"]
theorem sc10 : FnScope nm10 ["function", "act", "name", "taker"] (defScope st10) := ⟨rfl, rfl, rfl, by decide +kernel, rfl, by decide +kernel, by decide +kernel⟩
theorem mb10 : mB cfg nm10 (defScope st10) true fn10.body (defBody st10) = true := by decide +kernel
abbrev st11 : Stmt := top 20
def nm11 : List Str := ["spot"]
theorem sc11 : FnScope nm11 ["spot"] (defScope st11) := ⟨rfl, rfl, rfl, by decide +kernel, rfl, by decide +kernel, by decide +kernel⟩
theorem mb11 : mB cfg nm11 (defScope st11) true fn11.body (defBody st11) = true := by decide +kernel
abbrev st12 : Stmt := top 21
def nm12 : List Str := ["function", "some", "found", "operand"]
theorem sc12 : FnScope nm12 ["function", "some"] (defScope st12) := ⟨rfl, rfl, rfl, by decide +kernel, rfl, by decide +kernel, by decide +kernel⟩
theorem mb12 : mB cfg nm12 (defScope st12) true fn12.body (defBody st12) = true := by decide +kernel
abbrev st13 : Stmt := top 22
def nm13 : List Str := ["function", "spot"]
theorem sc13 : FnScope nm13 ["function", "spot"] (defScope st13) := ⟨rfl, rfl, rfl, by decide +kernel, rfl, by decide +kernel, by decide +kernel⟩
theorem mb13 : mB cfg nm13 (defScope st13) true fn13.body (defBody st13) = true := by decide +kernel
abbrev st14 : Stmt := top 23
def nm14 : List Str := ["function", "row", "word"]
theorem sc14 : FnScope nm14 ["function", "row"] (defScope st14) := ⟨rfl, rfl, rfl, by decide +kernel, rfl, by decide +kernel, by decide +kernel⟩
theorem mb14 : mB cfg nm14 (defScope st14) true fn14.body (defBody st14) = true := by decide +kernel
abbrev st15 : Stmt := top 24
def nm15 : List Str := ["function", "name"]
theorem sc15 : FnScope nm15 ["function", "name"] (defScope st15) := ⟨rfl, rfl, rfl, by decide +kernel, rfl, by decide +kernel, by decide +kernel⟩
theorem mb15 : mB cfg nm15 (defScope st15) true fn15.body (defBody st15) = true := by decide +kernel
abbrev st16 : Stmt := top 25
def nm16 : List Str := ["function", "row", "found", "number", "name", "kind"]
theorem sc16 : FnScope nm16 ["function", "row"] (defScope st16) := ⟨rfl, rfl, rfl, by decide +kernel, rfl, by decide +kernel, by decide +kernel⟩
theorem mb16 : mB cfg nm16 (defScope st16) true fn16.body (defBody st16) = true := by decide +kernel
abbrev st17 : Stmt := top 26
def nm17 : List Str := ["function", "name"]
theorem sc17 : FnScope nm17 ["function", "name"] (defScope st17) := ⟨rfl, rfl, rfl, by decide +kernel, rfl, by decide +kernel, by decide +kernel⟩
theorem mb17 : mB cfg nm17 (defScope st17) true fn17.body (defBody st17) = true := by decide +kernel
abbrev st18 : Stmt := top 27
def nm18 : List Str := ["function", "row", "found"]
theorem sc18 : FnScope nm18 ["function", "row"] (defScope st18) := ⟨rfl, rfl, rfl, by decide +kernel, rfl, by decide +kernel, by decide +kernel⟩
theorem mb18 : mB cfg nm18 (defScope st18) true fn18.body (defBody st18) = true := by decide +kernel
abbrev st19 : Stmt := top 28
def nm19 : List Str := ["program", "at", "function", "found", "k", "row", "act"]
theorem sc19 : FnScope nm19 ["program", "at"] (defScope st19) := ⟨rfl, rfl, rfl, by decide +kernel, rfl, by decide +kernel, by decide +kernel⟩
theorem mb19 : mB cfg nm19 (defScope st19) true fn19.body (defBody st19) = true := by decide +kernel
abbrev st20 : Stmt := top 30
def nm20 : List Str := ["_law_script", "_law_k"]
theorem sc20 : FnScope nm20 ["_law_script", "_law_k"] (defScope st20) := ⟨rfl, rfl, rfl, by decide +kernel, rfl, by decide +kernel, by decide +kernel⟩
theorem mb20 : mB cfg nm20 (defScope st20) true fn20.body (defBody st20) = true := by decide +kernel
abbrev st21 : Stmt := top 31
def nm21 : List Str := ["_law_cell"]
theorem sc21 : FnScope nm21 ["_law_cell"] (defScope st21) := ⟨rfl, rfl, rfl, by decide +kernel, rfl, by decide +kernel, by decide +kernel⟩
theorem mb21 : mB cfg nm21 (defScope st21) true fn21.body (defBody st21) = true := by decide +kernel
abbrev st22 : Stmt := top 32
def nm22 : List Str := ["_law_cell", "_law_many_here", "_law_letters", "_law_base", "_law_k", "_law_at", "_law_found", "_law_name", "_law_j"]
theorem sc22 : FnScope nm22 ["_law_cell", "_law_many_here"] (defScope st22) := ⟨rfl, rfl, rfl, by decide +kernel, rfl, by decide +kernel, by decide +kernel⟩
theorem mb22 : mB cfg nm22 (defScope st22) true fn22.body (defBody st22) = true := by decide +kernel
abbrev st23 : Stmt := top 33
def nm23 : List Str := ["_law_shape", "_law_one"]
theorem sc23 : FnScope nm23 ["_law_shape"] (defScope st23) := ⟨rfl, rfl, rfl, by decide +kernel, rfl, by decide +kernel, by decide +kernel⟩
theorem mb23 : mB cfg nm23 (defScope st23) true fn23.body (defBody st23) = true := by decide +kernel
abbrev st24 : Stmt := top 34
def nm24 : List Str := ["_law_shape", "_law_found", "_law_ahead", "_law_k", "_law_one", "_law_path", "_law_at", "_law_inner"]
theorem sc24 : FnScope nm24 ["_law_shape"] (defScope st24) := ⟨rfl, rfl, rfl, by decide +kernel, rfl, by decide +kernel, by decide +kernel⟩
theorem mb24 : mB cfg nm24 (defScope st24) true fn24.body (defBody st24) = true := by decide +kernel
abbrev st25 : Stmt := top 35
def nm25 : List Str := ["_law_kind"]
theorem sc25 : FnScope nm25 ["_law_kind"] (defScope st25) := ⟨rfl, rfl, rfl, by decide +kernel, rfl, by decide +kernel, by decide +kernel⟩
theorem mb25 : mB cfg nm25 (defScope st25) true fn25.body (defBody st25) = true := by decide +kernel
abbrev st26 : Stmt := top 37
def nm26 : List Str := ["_law_cell", "_law_strip", "_law_two", "_law_deep", "_law_some", "_law_big", "_law_small", "_law_holders"]
theorem sc26 : FnScope nm26 ["_law_cell"] (defScope st26) := ⟨rfl, rfl, rfl, by decide +kernel, rfl, by decide +kernel, by decide +kernel⟩
theorem mb26 : mB cfg nm26 (defScope st26) true fn26.body (defBody st26) = true := by decide +kernel
abbrev st27 : Stmt := top 38
def nm27 : List Str := ["_law_menu_here", "_law_number", "_law_many_here", "_law_found", "_law_k"]
theorem sc27 : FnScope nm27 ["_law_menu_here", "_law_number", "_law_many_here"] (defScope st27) := ⟨rfl, rfl, rfl, by decide +kernel, rfl, by decide +kernel, by decide +kernel⟩
theorem mb27 : mB cfg nm27 (defScope st27) true fn27.body (defBody st27) = true := by decide +kernel
abbrev st28 : Stmt := top 39
def nm28 : List Str := ["_law_kinds", "_law_word", "_law_spot", "_law_taker", "_law_name", "_law_kind", "_law_path", "_law_at", "_law_inner"]
theorem sc28 : FnScope nm28 ["_law_kinds", "_law_word", "_law_spot", "_law_taker"] (defScope st28) := ⟨rfl, rfl, rfl, by decide +kernel, rfl, by decide +kernel, by decide +kernel⟩
theorem mb28 : mB cfg nm28 (defScope st28) true fn28.body (defBody st28) = true := by decide +kernel
abbrev st29 : Stmt := top 40
def nm29 : List Str := ["_law_found"]
theorem sc29 : FnScope nm29 ["_law_found"] (defScope st29) := ⟨rfl, rfl, rfl, by decide +kernel, rfl, by decide +kernel, by decide +kernel⟩
theorem mb29 : mB cfg nm29 (defScope st29) true fn29.body (defBody st29) = true := by decide +kernel
abbrev st30 : Stmt := top 41
def nm30 : List Str := ["_law_found", "_law_due_here", "_law_k"]
theorem sc30 : FnScope nm30 ["_law_found", "_law_due_here"] (defScope st30) := ⟨rfl, rfl, rfl, by decide +kernel, rfl, by decide +kernel, by decide +kernel⟩
theorem mb30 : mB cfg nm30 (defScope st30) true fn30.body (defBody st30) = true := by decide +kernel
abbrev st31 : Stmt := top 42
def nm31 : List Str := ["_law_found", "_law_due_here", "_law_one", "_law_other"]
theorem sc31 : FnScope nm31 ["_law_found", "_law_due_here"] (defScope st31) := ⟨rfl, rfl, rfl, by decide +kernel, rfl, by decide +kernel, by decide +kernel⟩
theorem mb31 : mB cfg nm31 (defScope st31) true fn31.body (defBody st31) = true := by decide +kernel
abbrev st32 : Stmt := top 43
def nm32 : List Str := ["_law_menu_here", "_law_params", "_law_number", "_law_sources", "_law_bits", "_law_name", "_law_kind"]
theorem sc32 : FnScope nm32 ["_law_menu_here", "_law_params", "_law_number"] (defScope st32) := ⟨rfl, rfl, rfl, by decide +kernel, rfl, by decide +kernel, by decide +kernel⟩
theorem mb32 : mB cfg nm32 (defScope st32) true fn32.body (defBody st32) = true := by decide +kernel
abbrev st33 : Stmt := top 44
def nm33 : List Str := ["_law_result_here"]
theorem sc33 : FnScope nm33 ["_law_result_here"] (defScope st33) := ⟨rfl, rfl, rfl, by decide +kernel, rfl, by decide +kernel, by decide +kernel⟩
theorem mb33 : mB cfg nm33 (defScope st33) true fn33.body (defBody st33) = true := by decide +kernel
abbrev st34 : Stmt := top 45
def nm34 : List Str := ["_law_menu_here", "_law_names_here", "_law_number", "_law_cell", "_law_c", "_law_kinds", "_law_params", "_law_result_here", "_law_lets"]
theorem sc34 : FnScope nm34 ["_law_menu_here", "_law_names_here", "_law_number", "_law_cell"] (defScope st34) := ⟨rfl, rfl, rfl, by decide +kernel, rfl, by decide +kernel, by decide +kernel⟩
theorem mb34 : mB cfg nm34 (defScope st34) true fn34.body (defBody st34) = true := by decide +kernel
abbrev st35 : Stmt := top 46
def nm35 : List Str := ["_law_script", "_law_names_here", "_law_menu_here", "_law_many_here", "_law_k"]
theorem sc35 : FnScope nm35 ["_law_script"] (defScope st35) := ⟨rfl, rfl, rfl, by decide +kernel, rfl, by decide +kernel, by decide +kernel⟩
theorem mb35 : mB cfg nm35 (defScope st35) true fn35.body (defBody st35) = true := by decide +kernel
abbrev st36 : Stmt := top 47
def nm36 : List Str := ["_law_heads_here", "_law_kinds", "_law_cell", "_law_c", "_law_name", "_law_params", "_law_result_here", "_law_lets", "_law_args", "_law_number", "_law_param", "_law_kind", "_law_some", "_law_one", "_law_other"]
theorem sc36 : FnScope nm36 ["_law_heads_here", "_law_kinds", "_law_cell"] (defScope st36) := ⟨rfl, rfl, rfl, by decide +kernel, rfl, by decide +kernel, by decide +kernel⟩
theorem mb36 : mB cfg nm36 (defScope st36) true fn36.body (defBody st36) = true := by decide +kernel
abbrev st37 : Stmt := top 48
def nm37 : List Str := ["_law_heads_here", "_law_head_here", "_law_cell", "_law_k", "_law_kinds", "_law_row_here", "_law_some", "_law_name", "_law_kind"]
theorem sc37 : FnScope nm37 ["_law_heads_here", "_law_head_here", "_law_cell", "_law_k"] (defScope st37) := ⟨rfl, rfl, rfl, by decide +kernel, rfl, by decide +kernel, by decide +kernel⟩
theorem mb37 : mB cfg nm37 (defScope st37) true fn37.body (defBody st37) = true := by decide +kernel
abbrev st38 : Stmt := top 49
def nm38 : List Str := ["_law_heads_here", "_law_number", "_law_cells", "_law_head_here", "_law_rows", "_law_cell"]
theorem sc38 : FnScope nm38 ["_law_heads_here", "_law_number", "_law_cells"] (defScope st38) := ⟨rfl, rfl, rfl, by decide +kernel, rfl, by decide +kernel, by decide +kernel⟩
theorem mb38 : mB cfg nm38 (defScope st38) true fn38.body (defBody st38) = true := by decide +kernel
abbrev st39 : Stmt := top 50
def nm39 : List Str := ["_law_shape", "_law_row_here"]
theorem sc39 : FnScope nm39 ["_law_shape"] (defScope st39) := ⟨rfl, rfl, rfl, by decide +kernel, rfl, by decide +kernel, by decide +kernel⟩
theorem mb39 : mB cfg nm39 (defScope st39) true fn39.body (defBody st39) = true := by decide +kernel
abbrev st40 : Stmt := top 51
def nm40 : List Str := ["_law_kinds", "_law_name", "_law_taker", "_law_kind", "_law_one", "_law_other", "_law_word"]
theorem sc40 : FnScope nm40 ["_law_kinds", "_law_name", "_law_taker"] (defScope st40) := ⟨rfl, rfl, rfl, by decide +kernel, rfl, by decide +kernel, by decide +kernel⟩
theorem mb40 : mB cfg nm40 (defScope st40) true fn40.body (defBody st40) = true := by decide +kernel
abbrev st41 : Stmt := top 52
def nm41 : List Str := ["_law_kinds", "_law_row_here", "_law_found", "_law_k", "_law_name", "_law_kind"]
theorem sc41 : FnScope nm41 ["_law_kinds", "_law_row_here"] (defScope st41) := ⟨rfl, rfl, rfl, by decide +kernel, rfl, by decide +kernel, by decide +kernel⟩
theorem mb41 : mB cfg nm41 (defScope st41) true fn41.body (defBody st41) = true := by decide +kernel
abbrev st42 : Stmt := top 53
def nm42 : List Str := ["_law_script", "_law_heads_here", "_law_cells", "_law_program", "_law_k", "_law_at", "_law_due_here", "_law_kinds", "_law_row_here", "_law_act_here"]
theorem sc42 : FnScope nm42 ["_law_script"] (defScope st42) := ⟨rfl, rfl, rfl, by decide +kernel, rfl, by decide +kernel, by decide +kernel⟩
theorem mb42 : mB cfg nm42 (defScope st42) true fn42.body (defBody st42) = true := by decide +kernel
def exOwn : List Str := ["NoName", "NoPart"]
def caA (K : PySem.W.Frag) (c : Nat) : Addr := match PySem.W.nsIn K mainGlobals (exOwn.getD c "NoName") with
  | some (some (.ref a)) => a
  | _ => 0
theorem kit_own {K : PySem.W.Frag} {C D : Addr} {b : Bool} (h1 : PySem.W.subIn K (.ref D) (.type "BaseException") = some true) (hd : PySem.W.hasDictIn K D = true) (ht : PySem.W.typeIn K (.ref D) = some (.type "type")) (hs : PySem.W.subIn K (.ref C) (.ref C) = some true) (h : PySem.W.subIn K (.ref C) (.ref D) = some b) : PySem.W.kitOne K (.ref C) (.ref D) = some b := by
  obtain ⟨cd, hc, _⟩ := PySem.W.any_some hd
  have e2 : ((PySem.W.clsIn K D).isSome && PySem.W.typeIn K (.ref D) == some (.type "type")) = true := by rw [hc, ht] <;> rfl
  unfold PySem.W.kitOne
  split
  · rename_i q
    have e : Value.ref C = Value.ref D := beq_iff_eq.mp q
    cases e
    rw [hs] at h
    exact h
  · show (if ((PySem.W.clsIn K D).isSome && PySem.W.typeIn K (.ref D) == some (.type "type")) = true then PySem.W.subIn K (.ref C) (.ref D) else none) = some b
    rw [if_pos e2]
    exact h
theorem kit_ty {K : PySem.W.Frag} {C : Addr} {T : String} {b : Bool} (hm : PySem.W.kitMeta T = true) (h : PySem.W.subIn K (.ref C) (.type T) = some b) : PySem.W.kitOne K (.ref C) (.type T) = some b := by
  unfold PySem.W.kitOne
  split
  · rename_i q
    exact absurd (beq_iff_eq.mp q) (fun z => by cases z)
  · show (if PySem.W.kitMeta T = true then PySem.W.subIn K (.ref C) (.type T) else none) = some b
    rw [if_pos hm]
    exact h
theorem exm_ty {K : PySem.W.Frag} {C : Addr} {T : String} {b : Bool} (h1 : (PySem.fastBuiltinMro T).map (·.contains (.type "BaseException")) = some true) (hm : PySem.W.kitMeta T = true) (h : PySem.W.subIn K (.ref C) (.type T) = some b) : PySem.W.exmOne K (.ref C) (.type T) = some b := by
  have e1 : (PySem.W.subIn K (.type T) (.type "BaseException") == some true) = true := by
    show ((PySem.fastBuiltinMro T).map (·.contains (.type "BaseException")) == some true) = true
    rw [h1]
    rfl
  show (if (PySem.W.subIn K (.type T) (.type "BaseException") == some true) = true then (if PySem.W.kitMeta T = true then PySem.W.subIn K (.ref C) (.type T) else none) else none) = some b
  rw [if_pos e1, if_pos hm]
  exact h
abbrev spA (K : PySem.W.Frag) (cf : Nat → List D → CR) (f : Nat) : L2.Sp := spF K (caA K) cf f
theorem law_true (ns : List Int) (hl : ns.length ≤ 63) : ∃ l, callF cfg.G cfg.sub tab wfuel fuel 42 [.lst (ns.map D.int)] = .ok l (.bl true) := law_fn rfl rfl ns hl
theorem all_mk {l : PySem.W.OpenLaw} {w : World} {K : PySem.W.Frag} {h : Heap} {mg : Str → Option Value} {fa f0 f1 f2 f3 f4 f5 f6 f7 f8 f9 f10 f11 f12 f13 f14 f15 f16 f17 f18 f19 f20 f21 f22 f23 f24 f25 f26 f27 f28 f29 f30 f31 f32 f33 f34 f35 f36 f37 f38 f39 f40 f41 f42 : Addr} (X : K.In h) (G : h.Ns mainGlobals mg) (hfa : mg "law" = some (.ref fa))
    {od0 an0 : Option Addr} {sl0 : Array (Option Value)} {oc0 kV0 dc0 pm0 cd0 ct0 : Value}
    {od1 an1 : Option Addr} {sl1 : Array (Option Value)} {oc1 kV1 dc1 pm1 cd1 ct1 : Value}
    {od2 an2 : Option Addr} {sl2 : Array (Option Value)} {oc2 kV2 dc2 pm2 cd2 ct2 : Value}
    {od3 an3 : Option Addr} {sl3 : Array (Option Value)} {oc3 kV3 dc3 pm3 cd3 ct3 : Value}
    {od4 an4 : Option Addr} {sl4 : Array (Option Value)} {oc4 kV4 dc4 pm4 cd4 ct4 : Value}
    {od5 an5 : Option Addr} {sl5 : Array (Option Value)} {oc5 kV5 dc5 pm5 cd5 ct5 : Value}
    {od6 an6 : Option Addr} {sl6 : Array (Option Value)} {oc6 kV6 dc6 pm6 cd6 ct6 : Value}
    {od7 an7 : Option Addr} {sl7 : Array (Option Value)} {oc7 kV7 dc7 pm7 cd7 ct7 : Value}
    {od8 an8 : Option Addr} {sl8 : Array (Option Value)} {oc8 kV8 dc8 pm8 cd8 ct8 : Value}
    {od9 an9 : Option Addr} {sl9 : Array (Option Value)} {oc9 kV9 dc9 pm9 cd9 ct9 : Value} {T9 : Addr} {tc9 : Value} {td9 : Option Addr} {tn9 : Nat} {ts9 : Array (Option Value)} {tk9_0 : Tok}
    {od10 an10 : Option Addr} {sl10 : Array (Option Value)} {oc10 kV10 dc10 pm10 cd10 ct10 : Value} {T10 : Addr} {tc10 : Value} {td10 : Option Addr} {tn10 : Nat} {ts10 : Array (Option Value)} {tk10_0 : Tok}
    {od11 an11 : Option Addr} {sl11 : Array (Option Value)} {oc11 kV11 dc11 pm11 cd11 ct11 : Value}
    {od12 an12 : Option Addr} {sl12 : Array (Option Value)} {oc12 kV12 dc12 pm12 cd12 ct12 : Value}
    {od13 an13 : Option Addr} {sl13 : Array (Option Value)} {oc13 kV13 dc13 pm13 cd13 ct13 : Value}
    {od14 an14 : Option Addr} {sl14 : Array (Option Value)} {oc14 kV14 dc14 pm14 cd14 ct14 : Value}
    {od15 an15 : Option Addr} {sl15 : Array (Option Value)} {oc15 kV15 dc15 pm15 cd15 ct15 : Value}
    {od16 an16 : Option Addr} {sl16 : Array (Option Value)} {oc16 kV16 dc16 pm16 cd16 ct16 : Value}
    {od17 an17 : Option Addr} {sl17 : Array (Option Value)} {oc17 kV17 dc17 pm17 cd17 ct17 : Value}
    {od18 an18 : Option Addr} {sl18 : Array (Option Value)} {oc18 kV18 dc18 pm18 cd18 ct18 : Value}
    {od19 an19 : Option Addr} {sl19 : Array (Option Value)} {oc19 kV19 dc19 pm19 cd19 ct19 : Value}
    {od20 an20 : Option Addr} {sl20 : Array (Option Value)} {oc20 kV20 dc20 pm20 cd20 ct20 : Value}
    {od21 an21 : Option Addr} {sl21 : Array (Option Value)} {oc21 kV21 dc21 pm21 cd21 ct21 : Value}
    {od22 an22 : Option Addr} {sl22 : Array (Option Value)} {oc22 kV22 dc22 pm22 cd22 ct22 : Value}
    {od23 an23 : Option Addr} {sl23 : Array (Option Value)} {oc23 kV23 dc23 pm23 cd23 ct23 : Value}
    {od24 an24 : Option Addr} {sl24 : Array (Option Value)} {oc24 kV24 dc24 pm24 cd24 ct24 : Value}
    {od25 an25 : Option Addr} {sl25 : Array (Option Value)} {oc25 kV25 dc25 pm25 cd25 ct25 : Value}
    {od26 an26 : Option Addr} {sl26 : Array (Option Value)} {oc26 kV26 dc26 pm26 cd26 ct26 : Value}
    {od27 an27 : Option Addr} {sl27 : Array (Option Value)} {oc27 kV27 dc27 pm27 cd27 ct27 : Value}
    {od28 an28 : Option Addr} {sl28 : Array (Option Value)} {oc28 kV28 dc28 pm28 cd28 ct28 : Value}
    {od29 an29 : Option Addr} {sl29 : Array (Option Value)} {oc29 kV29 dc29 pm29 cd29 ct29 : Value}
    {od30 an30 : Option Addr} {sl30 : Array (Option Value)} {oc30 kV30 dc30 pm30 cd30 ct30 : Value}
    {od31 an31 : Option Addr} {sl31 : Array (Option Value)} {oc31 kV31 dc31 pm31 cd31 ct31 : Value}
    {od32 an32 : Option Addr} {sl32 : Array (Option Value)} {oc32 kV32 dc32 pm32 cd32 ct32 : Value}
    {od33 an33 : Option Addr} {sl33 : Array (Option Value)} {oc33 kV33 dc33 pm33 cd33 ct33 : Value}
    {od34 an34 : Option Addr} {sl34 : Array (Option Value)} {oc34 kV34 dc34 pm34 cd34 ct34 : Value}
    {od35 an35 : Option Addr} {sl35 : Array (Option Value)} {oc35 kV35 dc35 pm35 cd35 ct35 : Value}
    {od36 an36 : Option Addr} {sl36 : Array (Option Value)} {oc36 kV36 dc36 pm36 cd36 ct36 : Value}
    {od37 an37 : Option Addr} {sl37 : Array (Option Value)} {oc37 kV37 dc37 pm37 cd37 ct37 : Value}
    {od38 an38 : Option Addr} {sl38 : Array (Option Value)} {oc38 kV38 dc38 pm38 cd38 ct38 : Value}
    {od39 an39 : Option Addr} {sl39 : Array (Option Value)} {oc39 kV39 dc39 pm39 cd39 ct39 : Value}
    {od40 an40 : Option Addr} {sl40 : Array (Option Value)} {oc40 kV40 dc40 pm40 cd40 ct40 : Value}
    {od41 an41 : Option Addr} {sl41 : Array (Option Value)} {oc41 kV41 dc41 pm41 cd41 ct41 : Value}
    {od42 an42 : Option Addr} {sl42 : Array (Option Value)} {oc42 kV42 dc42 pm42 cd42 ct42 : Value}
    (a0 : PySem.W.nsIn K mainGlobals "leaves" = some (some (.ref f0))) (l0 : K.lookup f0 = some ⟨oc0, od0, .func (PySem.W.fnOf "leaves" "leaves" (defArgs st0) (defBody st0) (defScope st0) .none kV0 dc0 pm0 an0 cd0 ct0), sl0⟩) (c0 : PySem.W.codeIn K cd0 "leaves" = true) (k0 : PySem.W.keepIn K (.ref f0) = true)
    (a1 : PySem.W.nsIn K mainGlobals "part_at" = some (some (.ref f1))) (l1 : K.lookup f1 = some ⟨oc1, od1, .func (PySem.W.fnOf "part_at" "part_at" (defArgs st1) (defBody st1) (defScope st1) .none kV1 dc1 pm1 an1 cd1 ct1), sl1⟩) (c1 : PySem.W.codeIn K cd1 "part_at" = true) (k1 : PySem.W.keepIn K (.ref f1) = true)
    (a2 : PySem.W.nsIn K mainGlobals "part" = some (some (.ref f2))) (l2 : K.lookup f2 = some ⟨oc2, od2, .func (PySem.W.fnOf "part" "part" (defArgs st2) (defBody st2) (defScope st2) .none kV2 dc2 pm2 an2 cd2 ct2), sl2⟩) (c2 : PySem.W.codeIn K cd2 "part" = true) (k2 : PySem.W.keepIn K (.ref f2) = true)
    (a3 : PySem.W.nsIn K mainGlobals "first" = some (some (.ref f3))) (l3 : K.lookup f3 = some ⟨oc3, od3, .func (PySem.W.fnOf "first" "first" (defArgs st3) (defBody st3) (defScope st3) .none kV3 dc3 pm3 an3 cd3 ct3), sl3⟩) (c3 : PySem.W.codeIn K cd3 "first" = true) (k3 : PySem.W.keepIn K (.ref f3) = true)
    (a4 : PySem.W.nsIn K mainGlobals "is_copied" = some (some (.ref f4))) (l4 : K.lookup f4 = some ⟨oc4, od4, .func (PySem.W.fnOf "is_copied" "is_copied" (defArgs st4) (defBody st4) (defScope st4) .none kV4 dc4 pm4 an4 cd4 ct4), sl4⟩) (c4 : PySem.W.codeIn K cd4 "is_copied" = true) (k4 : PySem.W.keepIn K (.ref f4) = true)
    (a5 : PySem.W.nsIn K mainGlobals "is_holder" = some (some (.ref f5))) (l5 : K.lookup f5 = some ⟨oc5, od5, .func (PySem.W.fnOf "is_holder" "is_holder" (defArgs st5) (defBody st5) (defScope st5) .none kV5 dc5 pm5 an5 cd5 ct5), sl5⟩) (c5 : PySem.W.codeIn K cd5 "is_holder" = true) (k5 : PySem.W.keepIn K (.ref f5) = true)
    (a6 : PySem.W.nsIn K mainGlobals "shape_of" = some (some (.ref f6))) (l6 : K.lookup f6 = some ⟨oc6, od6, .func (PySem.W.fnOf "shape_of" "shape_of" (defArgs st6) (defBody st6) (defScope st6) .none kV6 dc6 pm6 an6 cd6 ct6), sl6⟩) (c6 : PySem.W.codeIn K cd6 "shape_of" = true) (k6 : PySem.W.keepIn K (.ref f6) = true)
    (a7 : PySem.W.nsIn K mainGlobals "kind_of" = some (some (.ref f7))) (l7 : K.lookup f7 = some ⟨oc7, od7, .func (PySem.W.fnOf "kind_of" "kind_of" (defArgs st7) (defBody st7) (defScope st7) .none kV7 dc7 pm7 an7 cd7 ct7), sl7⟩) (c7 : PySem.W.codeIn K cd7 "kind_of" = true) (k7 : PySem.W.keepIn K (.ref f7) = true)
    (a8 : PySem.W.nsIn K mainGlobals "operands" = some (some (.ref f8))) (l8 : K.lookup f8 = some ⟨oc8, od8, .func (PySem.W.fnOf "operands" "operands" (defArgs st8) (defBody st8) (defScope st8) .none kV8 dc8 pm8 an8 cd8 ct8), sl8⟩) (c8 : PySem.W.codeIn K cd8 "operands" = true) (k8 : PySem.W.keepIn K (.ref f8) = true)
    (a9 : PySem.W.nsIn K mainGlobals "spot_act" = some (some (.ref f9))) (l9 : K.lookup f9 = some ⟨oc9, od9, .func (PySem.W.fnOf "spot_act" "spot_act" (defArgs st9) (defBody st9) (defScope st9) (.ref T9) kV9 dc9 pm9 an9 cd9 ct9), sl9⟩) (c9 : PySem.W.codeIn K cd9 "spot_act" = true) (k9 : PySem.W.keepIn K (.ref f9) = true) (t9 : K.lookup T9 = some { cls := tc9, dict := td9, data := .seq #[.str "" tk9_0] tn9, slots := ts9 })
    (a10 : PySem.W.nsIn K mainGlobals "name_act" = some (some (.ref f10))) (l10 : K.lookup f10 = some ⟨oc10, od10, .func (PySem.W.fnOf "name_act" "name_act" (defArgs st10) (defBody st10) (defScope st10) (.ref T10) kV10 dc10 pm10 an10 cd10 ct10), sl10⟩) (c10 : PySem.W.codeIn K cd10 "name_act" = true) (k10 : PySem.W.keepIn K (.ref f10) = true) (t10 : K.lookup T10 = some { cls := tc10, dict := td10, data := .seq #[.str "" tk10_0] tn10, slots := ts10 })
    (a11 : PySem.W.nsIn K mainGlobals "at_acts" = some (some (.ref f11))) (l11 : K.lookup f11 = some ⟨oc11, od11, .func (PySem.W.fnOf "at_acts" "at_acts" (defArgs st11) (defBody st11) (defScope st11) .none kV11 dc11 pm11 an11 cd11 ct11), sl11⟩) (c11 : PySem.W.codeIn K cd11 "at_acts" = true) (k11 : PySem.W.keepIn K (.ref f11) = true)
    (a12 : PySem.W.nsIn K mainGlobals "operand_acts" = some (some (.ref f12))) (l12 : K.lookup f12 = some ⟨oc12, od12, .func (PySem.W.fnOf "operand_acts" "operand_acts" (defArgs st12) (defBody st12) (defScope st12) .none kV12 dc12 pm12 an12 cd12 ct12), sl12⟩) (c12 : PySem.W.codeIn K cd12 "operand_acts" = true) (k12 : PySem.W.keepIn K (.ref f12) = true)
    (a13 : PySem.W.nsIn K mainGlobals "target_acts" = some (some (.ref f13))) (l13 : K.lookup f13 = some ⟨oc13, od13, .func (PySem.W.fnOf "target_acts" "target_acts" (defArgs st13) (defBody st13) (defScope st13) .none kV13 dc13 pm13 an13 cd13 ct13), sl13⟩) (c13 : PySem.W.codeIn K cd13 "target_acts" = true) (k13 : PySem.W.keepIn K (.ref f13) = true)
    (a14 : PySem.W.nsIn K mainGlobals "thing_acts" = some (some (.ref f14))) (l14 : K.lookup f14 = some ⟨oc14, od14, .func (PySem.W.fnOf "thing_acts" "thing_acts" (defArgs st14) (defBody st14) (defScope st14) .none kV14 dc14 pm14 an14 cd14 ct14), sl14⟩) (c14 : PySem.W.codeIn K cd14 "thing_acts" = true) (k14 : PySem.W.keepIn K (.ref f14) = true)
    (a15 : PySem.W.nsIn K mainGlobals "taken_act" = some (some (.ref f15))) (l15 : K.lookup f15 = some ⟨oc15, od15, .func (PySem.W.fnOf "taken_act" "taken_act" (defArgs st15) (defBody st15) (defScope st15) .none kV15 dc15 pm15 an15 cd15 ct15), sl15⟩) (c15 : PySem.W.codeIn K cd15 "taken_act" = true) (k15 : PySem.W.keepIn K (.ref f15) = true)
    (a16 : PySem.W.nsIn K mainGlobals "call_acts" = some (some (.ref f16))) (l16 : K.lookup f16 = some ⟨oc16, od16, .func (PySem.W.fnOf "call_acts" "call_acts" (defArgs st16) (defBody st16) (defScope st16) .none kV16 dc16 pm16 an16 cd16 ct16), sl16⟩) (c16 : PySem.W.codeIn K cd16 "call_acts" = true) (k16 : PySem.W.keepIn K (.ref f16) = true)
    (a17 : PySem.W.nsIn K mainGlobals "give_acts" = some (some (.ref f17))) (l17 : K.lookup f17 = some ⟨oc17, od17, .func (PySem.W.fnOf "give_acts" "give_acts" (defArgs st17) (defBody st17) (defScope st17) .none kV17 dc17 pm17 an17 cd17 ct17), sl17⟩) (c17 : PySem.W.codeIn K cd17 "give_acts" = true) (k17 : PySem.W.keepIn K (.ref f17) = true)
    (a18 : PySem.W.nsIn K mainGlobals "row_acts" = some (some (.ref f18))) (l18 : K.lookup f18 = some ⟨oc18, od18, .func (PySem.W.fnOf "row_acts" "row_acts" (defArgs st18) (defBody st18) (defScope st18) .none kV18 dc18 pm18 an18 cd18 ct18), sl18⟩) (c18 : PySem.W.codeIn K cd18 "row_acts" = true) (k18 : PySem.W.keepIn K (.ref f18) = true)
    (a19 : PySem.W.nsIn K mainGlobals "acts" = some (some (.ref f19))) (l19 : K.lookup f19 = some ⟨oc19, od19, .func (PySem.W.fnOf "acts" "acts" (defArgs st19) (defBody st19) (defScope st19) .none kV19 dc19 pm19 an19 cd19 ct19), sl19⟩) (c19 : PySem.W.codeIn K cd19 "acts" = true) (k19 : PySem.W.keepIn K (.ref f19) = true)
    (a20 : PySem.W.nsIn K mainGlobals "_law_cell_at" = some (some (.ref f20))) (l20 : K.lookup f20 = some ⟨oc20, od20, .func (PySem.W.fnOf "_law_cell_at" "_law_cell_at" (defArgs st20) (defBody st20) (defScope st20) .none kV20 dc20 pm20 an20 cd20 ct20), sl20⟩) (c20 : PySem.W.codeIn K cd20 "_law_cell_at" = true) (k20 : PySem.W.keepIn K (.ref f20) = true)
    (a21 : PySem.W.nsIn K mainGlobals "_law_mixed" = some (some (.ref f21))) (l21 : K.lookup f21 = some ⟨oc21, od21, .func (PySem.W.fnOf "_law_mixed" "_law_mixed" (defArgs st21) (defBody st21) (defScope st21) .none kV21 dc21 pm21 an21 cd21 ct21), sl21⟩) (c21 : PySem.W.codeIn K cd21 "_law_mixed" = true) (k21 : PySem.W.keepIn K (.ref f21) = true)
    (a22 : PySem.W.nsIn K mainGlobals "_law_names" = some (some (.ref f22))) (l22 : K.lookup f22 = some ⟨oc22, od22, .func (PySem.W.fnOf "_law_names" "_law_names" (defArgs st22) (defBody st22) (defScope st22) .none kV22 dc22 pm22 an22 cd22 ct22), sl22⟩) (c22 : PySem.W.codeIn K cd22 "_law_names" = true) (k22 : PySem.W.keepIn K (.ref f22) = true)
    (a23 : PySem.W.nsIn K mainGlobals "_law_many" = some (some (.ref f23))) (l23 : K.lookup f23 = some ⟨oc23, od23, .func (PySem.W.fnOf "_law_many" "_law_many" (defArgs st23) (defBody st23) (defScope st23) .none kV23 dc23 pm23 an23 cd23 ct23), sl23⟩) (c23 : PySem.W.codeIn K cd23 "_law_many" = true) (k23 : PySem.W.keepIn K (.ref f23) = true)
    (a24 : PySem.W.nsIn K mainGlobals "_law_table" = some (some (.ref f24))) (l24 : K.lookup f24 = some ⟨oc24, od24, .func (PySem.W.fnOf "_law_table" "_law_table" (defArgs st24) (defBody st24) (defScope st24) .none kV24 dc24 pm24 an24 cd24 ct24), sl24⟩) (c24 : PySem.W.codeIn K cd24 "_law_table" = true) (k24 : PySem.W.keepIn K (.ref f24) = true)
    (a25 : PySem.W.nsIn K mainGlobals "_law_held" = some (some (.ref f25))) (l25 : K.lookup f25 = some ⟨oc25, od25, .func (PySem.W.fnOf "_law_held" "_law_held" (defArgs st25) (defBody st25) (defScope st25) .none kV25 dc25 pm25 an25 cd25 ct25), sl25⟩) (c25 : PySem.W.codeIn K cd25 "_law_held" = true) (k25 : PySem.W.keepIn K (.ref f25) = true)
    (a26 : PySem.W.nsIn K mainGlobals "_law_menu" = some (some (.ref f26))) (l26 : K.lookup f26 = some ⟨oc26, od26, .func (PySem.W.fnOf "_law_menu" "_law_menu" (defArgs st26) (defBody st26) (defScope st26) .none kV26 dc26 pm26 an26 cd26 ct26), sl26⟩) (c26 : PySem.W.codeIn K cd26 "_law_menu" = true) (k26 : PySem.W.keepIn K (.ref f26) = true)
    (a27 : PySem.W.nsIn K mainGlobals "_law_picked" = some (some (.ref f27))) (l27 : K.lookup f27 = some ⟨oc27, od27, .func (PySem.W.fnOf "_law_picked" "_law_picked" (defArgs st27) (defBody st27) (defScope st27) .none kV27 dc27 pm27 an27 cd27 ct27), sl27⟩) (c27 : PySem.W.codeIn K cd27 "_law_picked" = true) (k27 : PySem.W.keepIn K (.ref f27) = true)
    (a28 : PySem.W.nsIn K mainGlobals "_law_act" = some (some (.ref f28))) (l28 : K.lookup f28 = some ⟨oc28, od28, .func (PySem.W.fnOf "_law_act" "_law_act" (defArgs st28) (defBody st28) (defScope st28) .none kV28 dc28 pm28 an28 cd28 ct28), sl28⟩) (c28 : PySem.W.codeIn K cd28 "_law_act" = true) (k28 : PySem.W.keepIn K (.ref f28) = true)
    (a29 : PySem.W.nsIn K mainGlobals "_law_whole" = some (some (.ref f29))) (l29 : K.lookup f29 = some ⟨oc29, od29, .func (PySem.W.fnOf "_law_whole" "_law_whole" (defArgs st29) (defBody st29) (defScope st29) .none kV29 dc29 pm29 an29 cd29 ct29), sl29⟩) (c29 : PySem.W.codeIn K cd29 "_law_whole" = true) (k29 : PySem.W.keepIn K (.ref f29) = true)
    (a30 : PySem.W.nsIn K mainGlobals "_law_same_act" = some (some (.ref f30))) (l30 : K.lookup f30 = some ⟨oc30, od30, .func (PySem.W.fnOf "_law_same_act" "_law_same_act" (defArgs st30) (defBody st30) (defScope st30) .none kV30 dc30 pm30 an30 cd30 ct30), sl30⟩) (c30 : PySem.W.codeIn K cd30 "_law_same_act" = true) (k30 : PySem.W.keepIn K (.ref f30) = true)
    (a31 : PySem.W.nsIn K mainGlobals "_law_told" = some (some (.ref f31))) (l31 : K.lookup f31 = some ⟨oc31, od31, .func (PySem.W.fnOf "_law_told" "_law_told" (defArgs st31) (defBody st31) (defScope st31) .none kV31 dc31 pm31 an31 cd31 ct31), sl31⟩) (c31 : PySem.W.codeIn K cd31 "_law_told" = true) (k31 : PySem.W.keepIn K (.ref f31) = true)
    (a32 : PySem.W.nsIn K mainGlobals "_law_result" = some (some (.ref f32))) (l32 : K.lookup f32 = some ⟨oc32, od32, .func (PySem.W.fnOf "_law_result" "_law_result" (defArgs st32) (defBody st32) (defScope st32) .none kV32 dc32 pm32 an32 cd32 ct32), sl32⟩) (c32 : PySem.W.codeIn K cd32 "_law_result" = true) (k32 : PySem.W.keepIn K (.ref f32) = true)
    (a33 : PySem.W.nsIn K mainGlobals "_law_back" = some (some (.ref f33))) (l33 : K.lookup f33 = some ⟨oc33, od33, .func (PySem.W.fnOf "_law_back" "_law_back" (defArgs st33) (defBody st33) (defScope st33) .none kV33 dc33 pm33 an33 cd33 ct33), sl33⟩) (c33 : PySem.W.codeIn K cd33 "_law_back" = true) (k33 : PySem.W.keepIn K (.ref f33) = true)
    (a34 : PySem.W.nsIn K mainGlobals "_law_head" = some (some (.ref f34))) (l34 : K.lookup f34 = some ⟨oc34, od34, .func (PySem.W.fnOf "_law_head" "_law_head" (defArgs st34) (defBody st34) (defScope st34) .none kV34 dc34 pm34 an34 cd34 ct34), sl34⟩) (c34 : PySem.W.codeIn K cd34 "_law_head" = true) (k34 : PySem.W.keepIn K (.ref f34) = true)
    (a35 : PySem.W.nsIn K mainGlobals "_law_heads" = some (some (.ref f35))) (l35 : K.lookup f35 = some ⟨oc35, od35, .func (PySem.W.fnOf "_law_heads" "_law_heads" (defArgs st35) (defBody st35) (defScope st35) .none kV35 dc35 pm35 an35 cd35 ct35), sl35⟩) (c35 : PySem.W.codeIn K cd35 "_law_heads" = true) (k35 : PySem.W.keepIn K (.ref f35) = true)
    (a36 : PySem.W.nsIn K mainGlobals "_law_call" = some (some (.ref f36))) (l36 : K.lookup f36 = some ⟨oc36, od36, .func (PySem.W.fnOf "_law_call" "_law_call" (defArgs st36) (defBody st36) (defScope st36) .none kV36 dc36 pm36 an36 cd36 ct36), sl36⟩) (c36 : PySem.W.codeIn K cd36 "_law_call" = true) (k36 : PySem.W.keepIn K (.ref f36) = true)
    (a37 : PySem.W.nsIn K mainGlobals "_law_row" = some (some (.ref f37))) (l37 : K.lookup f37 = some ⟨oc37, od37, .func (PySem.W.fnOf "_law_row" "_law_row" (defArgs st37) (defBody st37) (defScope st37) .none kV37 dc37 pm37 an37 cd37 ct37), sl37⟩) (c37 : PySem.W.codeIn K cd37 "_law_row" = true) (k37 : PySem.W.keepIn K (.ref f37) = true)
    (a38 : PySem.W.nsIn K mainGlobals "_law_function" = some (some (.ref f38))) (l38 : K.lookup f38 = some ⟨oc38, od38, .func (PySem.W.fnOf "_law_function" "_law_function" (defArgs st38) (defBody st38) (defScope st38) .none kV38 dc38 pm38 an38 cd38 ct38), sl38⟩) (c38 : PySem.W.codeIn K cd38 "_law_function" = true) (k38 : PySem.W.keepIn K (.ref f38) = true)
    (a39 : PySem.W.nsIn K mainGlobals "_law_copied" = some (some (.ref f39))) (l39 : K.lookup f39 = some ⟨oc39, od39, .func (PySem.W.fnOf "_law_copied" "_law_copied" (defArgs st39) (defBody st39) (defScope st39) .none kV39 dc39 pm39 an39 cd39 ct39), sl39⟩) (c39 : PySem.W.codeIn K cd39 "_law_copied" = true) (k39 : PySem.W.keepIn K (.ref f39) = true)
    (a40 : PySem.W.nsIn K mainGlobals "_law_taken" = some (some (.ref f40))) (l40 : K.lookup f40 = some ⟨oc40, od40, .func (PySem.W.fnOf "_law_taken" "_law_taken" (defArgs st40) (defBody st40) (defScope st40) .none kV40 dc40 pm40 an40 cd40 ct40), sl40⟩) (c40 : PySem.W.codeIn K cd40 "_law_taken" = true) (k40 : PySem.W.keepIn K (.ref f40) = true)
    (a41 : PySem.W.nsIn K mainGlobals "_law_due" = some (some (.ref f41))) (l41 : K.lookup f41 = some ⟨oc41, od41, .func (PySem.W.fnOf "_law_due" "_law_due" (defArgs st41) (defBody st41) (defScope st41) .none kV41 dc41 pm41 an41 cd41 ct41), sl41⟩) (c41 : PySem.W.codeIn K cd41 "_law_due" = true) (k41 : PySem.W.keepIn K (.ref f41) = true)
    (a42 : PySem.W.nsIn K mainGlobals "law" = some (some (.ref f42))) (l42 : K.lookup f42 = some ⟨oc42, od42, .func (PySem.W.fnOf "law" "law" (defArgs st42) (defBody st42) (defScope st42) .none kV42 dc42 pm42 an42 cd42 ct42), sl42⟩) (c42 : PySem.W.codeIn K cd42 "law" = true) (k42 : PySem.W.keepIn K (.ref f42) = true)
    (zb0 : PySem.W.nsIn K mainGlobals "len" = some none)
    (zb1 : PySem.W.nsIn K mainGlobals "tuple" = some none)
    (zb2 : PySem.W.nsIn K mainGlobals "list" = some none)
    (zb3 : PySem.W.nsIn K mainGlobals "int" = some none)
    (zb4 : PySem.W.nsIn K mainGlobals "bool" = some none)
    (zb5 : PySem.W.nsIn K mainGlobals "max" = some none)
    (zb6 : PySem.W.nsIn K mainGlobals "min" = some none)
    (zb7 : PySem.W.nsIn K mainGlobals "sum" = some none)
    (zb8 : PySem.W.nsIn K mainGlobals "all" = some none)
    (zb9 : PySem.W.nsIn K mainGlobals "any" = some none)
    (zb10 : PySem.W.nsIn K mainGlobals "sorted" = some none)
    (zb11 : PySem.W.nsIn K mainGlobals "str" = some none)
    (zb12 : PySem.W.nsIn K mainGlobals "isinstance" = some none)
    (zb13 : PySem.W.nsIn K mainGlobals "range" = some none)
    (zb14 : PySem.W.nsIn K mainGlobals "enumerate" = some none)
    (zb15 : PySem.W.nsIn K mainGlobals "zip" = some none)
    (zb16 : PySem.W.nsIn K mainGlobals "set" = some none)
    (zb17 : PySem.W.nsIn K mainGlobals "dict" = some none)
    (zb18 : PySem.W.nsIn K mainGlobals "reversed" = some none)
    {tg0_0 : Tok} {tg0_1 : Tok} {tg0_3 : Tok} {tg0_4 : Tok} {tg0_5 : Tok} {TG0 : Addr} {gd0 : Option Addr} {gn0 : Nat} {gs0 : Array (Option Value)} {tg1_0 : Tok} {tg1_1 : Tok} {tg1_3 : Tok} {tg1_4 : Tok} {tg1_5 : Tok} {TG1 : Addr} {gd1 : Option Addr} {gn1 : Nat} {gs1 : Array (Option Value)} {C0 : Addr} {C1 : Addr}
    (q0 : PySem.W.nsIn K mainGlobals "REST" = some (some (.ref TG0)))
    (u0 : K.lookup TG0 = some { cls := .type "tuple", dict := gd0, data := .seq #[Value.str "rest" tg0_0, Value.str "" tg0_1, Value.bool false, Value.int 0 tg0_3, Value.int 0 tg0_4, Value.str "" tg0_5] gn0, slots := gs0 })
    (q1 : PySem.W.nsIn K mainGlobals "HAND" = some (some (.ref TG1)))
    (u1 : K.lookup TG1 = some { cls := .type "tuple", dict := gd1, data := .seq #[Value.str "hand" tg1_0, Value.str "" tg1_1, Value.bool false, Value.int 0 tg1_3, Value.int 0 tg1_4, Value.str "" tg1_5] gn1, slots := gs1 })
    (en : PySem.W.specialIn K (.builtin "object.__class__") "__get__" = some (some (.builtin "getset_descriptor.__get__")))
    (eh : PySem.W.takesIn K (.builtin "object.__class__") = some true)
    (ga0 : PySem.W.nsIn K mainGlobals "NoName" = some (some (.ref C0)))
    (es0 : PySem.W.subIn K (.ref C0) (.type "BaseException") = some true)
    (ed0 : PySem.W.hasDictIn K C0 = true)
    (et0 : PySem.W.typeIn K (.ref C0) = some (.type "type"))
    (ga1 : PySem.W.nsIn K mainGlobals "NoPart" = some (some (.ref C1)))
    (es1 : PySem.W.subIn K (.ref C1) (.type "BaseException") = some true)
    (ed1 : PySem.W.hasDictIn K C1 = true)
    (et1 : PySem.W.typeIn K (.ref C1) = some (.type "type"))
    (eg0 : PySem.W.findIn K (.ref C0) "__getattribute__" = some (some (.builtin "BaseException.__getattribute__")))
    (ek0 : PySem.W.findIn K (.ref C0) "__getattr__" = some none)
    (ea0 : PySem.W.findIn K (.ref C0) "__class__" = some (some (.builtin "object.__class__")))
    (em0 : PySem.W.mroIn K C0 (.type "object") = some true)
    (ei0 : PySem.W.excIn K C0 [.type "ValueError", .type "Exception", .type "BaseException", .type "object"] "ValueError.__new__" = true)
    (ep0 : PySem.W.keepIn K (.ref C0) = true)
    (x0_0 : PySem.W.subIn K (.ref C0) (.ref C0) = some true)
    (x0_1 : PySem.W.subIn K (.ref C0) (.ref C1) = some false)
    (eg1 : PySem.W.findIn K (.ref C1) "__getattribute__" = some (some (.builtin "BaseException.__getattribute__")))
    (ek1 : PySem.W.findIn K (.ref C1) "__getattr__" = some none)
    (ea1 : PySem.W.findIn K (.ref C1) "__class__" = some (some (.builtin "object.__class__")))
    (em1 : PySem.W.mroIn K C1 (.type "object") = some true)
    (ei1 : PySem.W.excIn K C1 [.type "ValueError", .type "Exception", .type "BaseException", .type "object"] "ValueError.__new__" = true)
    (ep1 : PySem.W.keepIn K (.ref C1) = true)
    (x1_0 : PySem.W.subIn K (.ref C1) (.ref C0) = some false)
    (x1_1 : PySem.W.subIn K (.ref C1) (.ref C1) = some true) :
    ∃ fd : FuncData, (∀ (s : Shared) (v : Value), BindsTo s fd ⟨[v], []⟩ [("_law_script", v)]) ∧ ∀ base : Heap, K.In base → base.Ns mainGlobals mg → FnOk l.prog w K mg base (L2.CX l.prog w) fuel fa fd ["_law_script"] (spF K (caA K) (callF cfg.G cfg.sub tab wfuel fuel) 42) := by
  have e := hfa.symm.trans (PySem.W.mg_of X G a42)
  cases e
  have F0 := fun_mk (st := st0) l0 c0 k0
  have b0 := F0.binds (ps := ["shape"]) fun _ _ _ _ _ _ us hl => match us, hl with | [_], _ => rfl
  have X0 := FunX.of F0
  have e0 : ∀ ss, (0, ss) ∈ cfg.dfl → ∃ dsv, Vals (ss.map V.str) dsv ∧ Binds K (PySem.W.fnOf "leaves" "leaves" (defArgs st0) (defBody st0) (defScope st0) .none kV0 dc0 pm0 an0 cd0 ct0) ["shape"] dsv := fun ss h => by simp [cfg] at h
  have F1 := fun_mk (st := st1) l1 c1 k1
  have b1 := F1.binds (ps := ["shape", "number"]) fun _ _ _ _ _ _ us hl => match us, hl with | [_, _], _ => rfl
  have X1 := FunX.of F1
  have e1 : ∀ ss, (1, ss) ∈ cfg.dfl → ∃ dsv, Vals (ss.map V.str) dsv ∧ Binds K (PySem.W.fnOf "part_at" "part_at" (defArgs st1) (defBody st1) (defScope st1) .none kV1 dc1 pm1 an1 cd1 ct1) ["shape", "number"] dsv := fun ss h => by simp [cfg] at h
  have F2 := fun_mk (st := st2) l2 c2 k2
  have b2 := F2.binds (ps := ["shape", "path"]) fun _ _ _ _ _ _ us hl => match us, hl with | [_, _], _ => rfl
  have X2 := FunX.of F2
  have e2 : ∀ ss, (2, ss) ∈ cfg.dfl → ∃ dsv, Vals (ss.map V.str) dsv ∧ Binds K (PySem.W.fnOf "part" "part" (defArgs st2) (defBody st2) (defScope st2) .none kV2 dc2 pm2 an2 cd2 ct2) ["shape", "path"] dsv := fun ss h => by simp [cfg] at h
  have F3 := fun_mk (st := st3) l3 c3 k3
  have b3 := F3.binds (ps := ["shape", "path"]) fun _ _ _ _ _ _ us hl => match us, hl with | [_, _], _ => rfl
  have X3 := FunX.of F3
  have e3 : ∀ ss, (3, ss) ∈ cfg.dfl → ∃ dsv, Vals (ss.map V.str) dsv ∧ Binds K (PySem.W.fnOf "first" "first" (defArgs st3) (defBody st3) (defScope st3) .none kV3 dc3 pm3 an3 cd3 ct3) ["shape", "path"] dsv := fun ss h => by simp [cfg] at h
  have F4 := fun_mk (st := st4) l4 c4 k4
  have b4 := F4.binds (ps := ["shape"]) fun _ _ _ _ _ _ us hl => match us, hl with | [_], _ => rfl
  have X4 := FunX.of F4
  have e4 : ∀ ss, (4, ss) ∈ cfg.dfl → ∃ dsv, Vals (ss.map V.str) dsv ∧ Binds K (PySem.W.fnOf "is_copied" "is_copied" (defArgs st4) (defBody st4) (defScope st4) .none kV4 dc4 pm4 an4 cd4 ct4) ["shape"] dsv := fun ss h => by simp [cfg] at h
  have F5 := fun_mk (st := st5) l5 c5 k5
  have b5 := F5.binds (ps := ["kind"]) fun _ _ _ _ _ _ us hl => match us, hl with | [_], _ => rfl
  have X5 := FunX.of F5
  have e5 : ∀ ss, (5, ss) ∈ cfg.dfl → ∃ dsv, Vals (ss.map V.str) dsv ∧ Binds K (PySem.W.fnOf "is_holder" "is_holder" (defArgs st5) (defBody st5) (defScope st5) .none kV5 dc5 pm5 an5 cd5 ct5) ["kind"] dsv := fun ss h => by simp [cfg] at h
  have F6 := fun_mk (st := st6) l6 c6 k6
  have b6 := F6.binds (ps := ["kind"]) fun _ _ _ _ _ _ us hl => match us, hl with | [_], _ => rfl
  have X6 := FunX.of F6
  have e6 : ∀ ss, (6, ss) ∈ cfg.dfl → ∃ dsv, Vals (ss.map V.str) dsv ∧ Binds K (PySem.W.fnOf "shape_of" "shape_of" (defArgs st6) (defBody st6) (defScope st6) .none kV6 dc6 pm6 an6 cd6 ct6) ["kind"] dsv := fun ss h => by simp [cfg] at h
  have F7 := fun_mk (st := st7) l7 c7 k7
  have b7 := F7.binds (ps := ["function", "name"]) fun _ _ _ _ _ _ us hl => match us, hl with | [_, _], _ => rfl
  have X7 := FunX.of F7
  have e7 : ∀ ss, (7, ss) ∈ cfg.dfl → ∃ dsv, Vals (ss.map V.str) dsv ∧ Binds K (PySem.W.fnOf "kind_of" "kind_of" (defArgs st7) (defBody st7) (defScope st7) .none kV7 dc7 pm7 an7 cd7 ct7) ["function", "name"] dsv := fun ss h => by simp [cfg] at h
  have F8 := fun_mk (st := st8) l8 c8 k8
  have b8 := F8.binds (ps := ["row"]) fun _ _ _ _ _ _ us hl => match us, hl with | [_], _ => rfl
  have X8 := FunX.of F8
  have e8 : ∀ ss, (8, ss) ∈ cfg.dfl → ∃ dsv, Vals (ss.map V.str) dsv ∧ Binds K (PySem.W.fnOf "operands" "operands" (defArgs st8) (defBody st8) (defScope st8) .none kV8 dc8 pm8 an8 cd8 ct8) ["row"] dsv := fun ss h => by simp [cfg] at h
  have F9 : FunD K "spot_act" "spot_act" (defArgs st9) (defBody st9) (defScope st9) [V.str ""] [] f9 (PySem.W.fnOf "spot_act" "spot_act" (defArgs st9) (defBody st9) (defScope st9) (.ref T9) kV9 dc9 pm9 an9 cd9 ct9) := ⟨⟨_, _, _, _, _, _, _, _, _, _, rfl, l9, c9, .inr ⟨by simp, T9, _, [.str "" tk9_0], _, rfl, t9, rfl, (.cons ⟨_, rfl⟩ .nil)⟩, .inl rfl⟩, k9⟩
  have b9 : Binds K (PySem.W.fnOf "spot_act" "spot_act" (defArgs st9) (defBody st9) (defScope st9) (.ref T9) kV9 dc9 pm9 an9 cd9 ct9) ["function", "act", "spot", "taker"] [] := by
    obtain ⟨ds, r, h⟩ := F9.binds1 (ps := ["function", "act", "spot", "taker"]) 4 1 (by simp) rfl fun T kV doc pm an cdv ct us its h1 h2 => match us, h1, its, h2 with | [_, _, _, _], _, [_], _ => ⟨_, rfl, rfl⟩
    cases r
    exact h
  have X9 : FunX K "spot_act" st9 f9 (PySem.W.fnOf "spot_act" "spot_act" (defArgs st9) (defBody st9) (defScope st9) (.ref T9) kV9 dc9 pm9 an9 cd9 ct9) := ⟨_, F9⟩
  have e9 : ∀ ss, (9, ss) ∈ cfg.dfl → ∃ dsv, Vals (ss.map V.str) dsv ∧ Binds K (PySem.W.fnOf "spot_act" "spot_act" (defArgs st9) (defBody st9) (defScope st9) (.ref T9) kV9 dc9 pm9 an9 cd9 ct9) ["function", "act", "spot", "taker"] dsv := fun ss h => by
    simp [cfg] at h
    subst h
    exact F9.binds1 (ps := ["function", "act", "spot", "taker"]) 3 0 (by simp) rfl fun T kV doc pm an cdv ct us its h1 h2 => match us, h1, its, h2 with | [_, _, _], _, [_], _ => ⟨_, rfl, rfl⟩
  have F10 : FunD K "name_act" "name_act" (defArgs st10) (defBody st10) (defScope st10) [V.str ""] [] f10 (PySem.W.fnOf "name_act" "name_act" (defArgs st10) (defBody st10) (defScope st10) (.ref T10) kV10 dc10 pm10 an10 cd10 ct10) := ⟨⟨_, _, _, _, _, _, _, _, _, _, rfl, l10, c10, .inr ⟨by simp, T10, _, [.str "" tk10_0], _, rfl, t10, rfl, (.cons ⟨_, rfl⟩ .nil)⟩, .inl rfl⟩, k10⟩
  have b10 : Binds K (PySem.W.fnOf "name_act" "name_act" (defArgs st10) (defBody st10) (defScope st10) (.ref T10) kV10 dc10 pm10 an10 cd10 ct10) ["function", "act", "name", "taker"] [] := by
    obtain ⟨ds, r, h⟩ := F10.binds1 (ps := ["function", "act", "name", "taker"]) 4 1 (by simp) rfl fun T kV doc pm an cdv ct us its h1 h2 => match us, h1, its, h2 with | [_, _, _, _], _, [_], _ => ⟨_, rfl, rfl⟩
    cases r
    exact h
  have X10 : FunX K "name_act" st10 f10 (PySem.W.fnOf "name_act" "name_act" (defArgs st10) (defBody st10) (defScope st10) (.ref T10) kV10 dc10 pm10 an10 cd10 ct10) := ⟨_, F10⟩
  have e10 : ∀ ss, (10, ss) ∈ cfg.dfl → ∃ dsv, Vals (ss.map V.str) dsv ∧ Binds K (PySem.W.fnOf "name_act" "name_act" (defArgs st10) (defBody st10) (defScope st10) (.ref T10) kV10 dc10 pm10 an10 cd10 ct10) ["function", "act", "name", "taker"] dsv := fun ss h => by
    simp [cfg] at h
    subst h
    exact F10.binds1 (ps := ["function", "act", "name", "taker"]) 3 0 (by simp) rfl fun T kV doc pm an cdv ct us its h1 h2 => match us, h1, its, h2 with | [_, _, _], _, [_], _ => ⟨_, rfl, rfl⟩
  have F11 := fun_mk (st := st11) l11 c11 k11
  have b11 := F11.binds (ps := ["spot"]) fun _ _ _ _ _ _ us hl => match us, hl with | [_], _ => rfl
  have X11 := FunX.of F11
  have e11 : ∀ ss, (11, ss) ∈ cfg.dfl → ∃ dsv, Vals (ss.map V.str) dsv ∧ Binds K (PySem.W.fnOf "at_acts" "at_acts" (defArgs st11) (defBody st11) (defScope st11) .none kV11 dc11 pm11 an11 cd11 ct11) ["spot"] dsv := fun ss h => by simp [cfg] at h
  have F12 := fun_mk (st := st12) l12 c12 k12
  have b12 := F12.binds (ps := ["function", "some"]) fun _ _ _ _ _ _ us hl => match us, hl with | [_, _], _ => rfl
  have X12 := FunX.of F12
  have e12 : ∀ ss, (12, ss) ∈ cfg.dfl → ∃ dsv, Vals (ss.map V.str) dsv ∧ Binds K (PySem.W.fnOf "operand_acts" "operand_acts" (defArgs st12) (defBody st12) (defScope st12) .none kV12 dc12 pm12 an12 cd12 ct12) ["function", "some"] dsv := fun ss h => by simp [cfg] at h
  have F13 := fun_mk (st := st13) l13 c13 k13
  have b13 := F13.binds (ps := ["function", "spot"]) fun _ _ _ _ _ _ us hl => match us, hl with | [_, _], _ => rfl
  have X13 := FunX.of F13
  have e13 : ∀ ss, (13, ss) ∈ cfg.dfl → ∃ dsv, Vals (ss.map V.str) dsv ∧ Binds K (PySem.W.fnOf "target_acts" "target_acts" (defArgs st13) (defBody st13) (defScope st13) .none kV13 dc13 pm13 an13 cd13 ct13) ["function", "spot"] dsv := fun ss h => by simp [cfg] at h
  have F14 := fun_mk (st := st14) l14 c14 k14
  have b14 := F14.binds (ps := ["function", "row"]) fun _ _ _ _ _ _ us hl => match us, hl with | [_, _], _ => rfl
  have X14 := FunX.of F14
  have e14 : ∀ ss, (14, ss) ∈ cfg.dfl → ∃ dsv, Vals (ss.map V.str) dsv ∧ Binds K (PySem.W.fnOf "thing_acts" "thing_acts" (defArgs st14) (defBody st14) (defScope st14) .none kV14 dc14 pm14 an14 cd14 ct14) ["function", "row"] dsv := fun ss h => by simp [cfg] at h
  have F15 := fun_mk (st := st15) l15 c15 k15
  have b15 := F15.binds (ps := ["function", "name"]) fun _ _ _ _ _ _ us hl => match us, hl with | [_, _], _ => rfl
  have X15 := FunX.of F15
  have e15 : ∀ ss, (15, ss) ∈ cfg.dfl → ∃ dsv, Vals (ss.map V.str) dsv ∧ Binds K (PySem.W.fnOf "taken_act" "taken_act" (defArgs st15) (defBody st15) (defScope st15) .none kV15 dc15 pm15 an15 cd15 ct15) ["function", "name"] dsv := fun ss h => by simp [cfg] at h
  have F16 := fun_mk (st := st16) l16 c16 k16
  have b16 := F16.binds (ps := ["function", "row"]) fun _ _ _ _ _ _ us hl => match us, hl with | [_, _], _ => rfl
  have X16 := FunX.of F16
  have e16 : ∀ ss, (16, ss) ∈ cfg.dfl → ∃ dsv, Vals (ss.map V.str) dsv ∧ Binds K (PySem.W.fnOf "call_acts" "call_acts" (defArgs st16) (defBody st16) (defScope st16) .none kV16 dc16 pm16 an16 cd16 ct16) ["function", "row"] dsv := fun ss h => by simp [cfg] at h
  have F17 := fun_mk (st := st17) l17 c17 k17
  have b17 := F17.binds (ps := ["function", "name"]) fun _ _ _ _ _ _ us hl => match us, hl with | [_, _], _ => rfl
  have X17 := FunX.of F17
  have e17 : ∀ ss, (17, ss) ∈ cfg.dfl → ∃ dsv, Vals (ss.map V.str) dsv ∧ Binds K (PySem.W.fnOf "give_acts" "give_acts" (defArgs st17) (defBody st17) (defScope st17) .none kV17 dc17 pm17 an17 cd17 ct17) ["function", "name"] dsv := fun ss h => by simp [cfg] at h
  have F18 := fun_mk (st := st18) l18 c18 k18
  have b18 := F18.binds (ps := ["function", "row"]) fun _ _ _ _ _ _ us hl => match us, hl with | [_, _], _ => rfl
  have X18 := FunX.of F18
  have e18 : ∀ ss, (18, ss) ∈ cfg.dfl → ∃ dsv, Vals (ss.map V.str) dsv ∧ Binds K (PySem.W.fnOf "row_acts" "row_acts" (defArgs st18) (defBody st18) (defScope st18) .none kV18 dc18 pm18 an18 cd18 ct18) ["function", "row"] dsv := fun ss h => by simp [cfg] at h
  have F19 := fun_mk (st := st19) l19 c19 k19
  have b19 := F19.binds (ps := ["program", "at"]) fun _ _ _ _ _ _ us hl => match us, hl with | [_, _], _ => rfl
  have X19 := FunX.of F19
  have e19 : ∀ ss, (19, ss) ∈ cfg.dfl → ∃ dsv, Vals (ss.map V.str) dsv ∧ Binds K (PySem.W.fnOf "acts" "acts" (defArgs st19) (defBody st19) (defScope st19) .none kV19 dc19 pm19 an19 cd19 ct19) ["program", "at"] dsv := fun ss h => by simp [cfg] at h
  have F20 := fun_mk (st := st20) l20 c20 k20
  have b20 := F20.binds (ps := ["_law_script", "_law_k"]) fun _ _ _ _ _ _ us hl => match us, hl with | [_, _], _ => rfl
  have X20 := FunX.of F20
  have e20 : ∀ ss, (20, ss) ∈ cfg.dfl → ∃ dsv, Vals (ss.map V.str) dsv ∧ Binds K (PySem.W.fnOf "_law_cell_at" "_law_cell_at" (defArgs st20) (defBody st20) (defScope st20) .none kV20 dc20 pm20 an20 cd20 ct20) ["_law_script", "_law_k"] dsv := fun ss h => by simp [cfg] at h
  have F21 := fun_mk (st := st21) l21 c21 k21
  have b21 := F21.binds (ps := ["_law_cell"]) fun _ _ _ _ _ _ us hl => match us, hl with | [_], _ => rfl
  have X21 := FunX.of F21
  have e21 : ∀ ss, (21, ss) ∈ cfg.dfl → ∃ dsv, Vals (ss.map V.str) dsv ∧ Binds K (PySem.W.fnOf "_law_mixed" "_law_mixed" (defArgs st21) (defBody st21) (defScope st21) .none kV21 dc21 pm21 an21 cd21 ct21) ["_law_cell"] dsv := fun ss h => by simp [cfg] at h
  have F22 := fun_mk (st := st22) l22 c22 k22
  have b22 := F22.binds (ps := ["_law_cell", "_law_many_here"]) fun _ _ _ _ _ _ us hl => match us, hl with | [_, _], _ => rfl
  have X22 := FunX.of F22
  have e22 : ∀ ss, (22, ss) ∈ cfg.dfl → ∃ dsv, Vals (ss.map V.str) dsv ∧ Binds K (PySem.W.fnOf "_law_names" "_law_names" (defArgs st22) (defBody st22) (defScope st22) .none kV22 dc22 pm22 an22 cd22 ct22) ["_law_cell", "_law_many_here"] dsv := fun ss h => by simp [cfg] at h
  have F23 := fun_mk (st := st23) l23 c23 k23
  have b23 := F23.binds (ps := ["_law_shape"]) fun _ _ _ _ _ _ us hl => match us, hl with | [_], _ => rfl
  have X23 := FunX.of F23
  have e23 : ∀ ss, (23, ss) ∈ cfg.dfl → ∃ dsv, Vals (ss.map V.str) dsv ∧ Binds K (PySem.W.fnOf "_law_many" "_law_many" (defArgs st23) (defBody st23) (defScope st23) .none kV23 dc23 pm23 an23 cd23 ct23) ["_law_shape"] dsv := fun ss h => by simp [cfg] at h
  have F24 := fun_mk (st := st24) l24 c24 k24
  have b24 := F24.binds (ps := ["_law_shape"]) fun _ _ _ _ _ _ us hl => match us, hl with | [_], _ => rfl
  have X24 := FunX.of F24
  have e24 : ∀ ss, (24, ss) ∈ cfg.dfl → ∃ dsv, Vals (ss.map V.str) dsv ∧ Binds K (PySem.W.fnOf "_law_table" "_law_table" (defArgs st24) (defBody st24) (defScope st24) .none kV24 dc24 pm24 an24 cd24 ct24) ["_law_shape"] dsv := fun ss h => by simp [cfg] at h
  have F25 := fun_mk (st := st25) l25 c25 k25
  have b25 := F25.binds (ps := ["_law_kind"]) fun _ _ _ _ _ _ us hl => match us, hl with | [_], _ => rfl
  have X25 := FunX.of F25
  have e25 : ∀ ss, (25, ss) ∈ cfg.dfl → ∃ dsv, Vals (ss.map V.str) dsv ∧ Binds K (PySem.W.fnOf "_law_held" "_law_held" (defArgs st25) (defBody st25) (defScope st25) .none kV25 dc25 pm25 an25 cd25 ct25) ["_law_kind"] dsv := fun ss h => by simp [cfg] at h
  have F26 := fun_mk (st := st26) l26 c26 k26
  have b26 := F26.binds (ps := ["_law_cell"]) fun _ _ _ _ _ _ us hl => match us, hl with | [_], _ => rfl
  have X26 := FunX.of F26
  have e26 : ∀ ss, (26, ss) ∈ cfg.dfl → ∃ dsv, Vals (ss.map V.str) dsv ∧ Binds K (PySem.W.fnOf "_law_menu" "_law_menu" (defArgs st26) (defBody st26) (defScope st26) .none kV26 dc26 pm26 an26 cd26 ct26) ["_law_cell"] dsv := fun ss h => by simp [cfg] at h
  have F27 := fun_mk (st := st27) l27 c27 k27
  have b27 := F27.binds (ps := ["_law_menu_here", "_law_number", "_law_many_here"]) fun _ _ _ _ _ _ us hl => match us, hl with | [_, _, _], _ => rfl
  have X27 := FunX.of F27
  have e27 : ∀ ss, (27, ss) ∈ cfg.dfl → ∃ dsv, Vals (ss.map V.str) dsv ∧ Binds K (PySem.W.fnOf "_law_picked" "_law_picked" (defArgs st27) (defBody st27) (defScope st27) .none kV27 dc27 pm27 an27 cd27 ct27) ["_law_menu_here", "_law_number", "_law_many_here"] dsv := fun ss h => by simp [cfg] at h
  have F28 := fun_mk (st := st28) l28 c28 k28
  have b28 := F28.binds (ps := ["_law_kinds", "_law_word", "_law_spot", "_law_taker"]) fun _ _ _ _ _ _ us hl => match us, hl with | [_, _, _, _], _ => rfl
  have X28 := FunX.of F28
  have e28 : ∀ ss, (28, ss) ∈ cfg.dfl → ∃ dsv, Vals (ss.map V.str) dsv ∧ Binds K (PySem.W.fnOf "_law_act" "_law_act" (defArgs st28) (defBody st28) (defScope st28) .none kV28 dc28 pm28 an28 cd28 ct28) ["_law_kinds", "_law_word", "_law_spot", "_law_taker"] dsv := fun ss h => by simp [cfg] at h
  have F29 := fun_mk (st := st29) l29 c29 k29
  have b29 := F29.binds (ps := ["_law_found"]) fun _ _ _ _ _ _ us hl => match us, hl with | [_], _ => rfl
  have X29 := FunX.of F29
  have e29 : ∀ ss, (29, ss) ∈ cfg.dfl → ∃ dsv, Vals (ss.map V.str) dsv ∧ Binds K (PySem.W.fnOf "_law_whole" "_law_whole" (defArgs st29) (defBody st29) (defScope st29) .none kV29 dc29 pm29 an29 cd29 ct29) ["_law_found"] dsv := fun ss h => by simp [cfg] at h
  have F30 := fun_mk (st := st30) l30 c30 k30
  have b30 := F30.binds (ps := ["_law_found", "_law_due_here"]) fun _ _ _ _ _ _ us hl => match us, hl with | [_, _], _ => rfl
  have X30 := FunX.of F30
  have e30 : ∀ ss, (30, ss) ∈ cfg.dfl → ∃ dsv, Vals (ss.map V.str) dsv ∧ Binds K (PySem.W.fnOf "_law_same_act" "_law_same_act" (defArgs st30) (defBody st30) (defScope st30) .none kV30 dc30 pm30 an30 cd30 ct30) ["_law_found", "_law_due_here"] dsv := fun ss h => by simp [cfg] at h
  have F31 := fun_mk (st := st31) l31 c31 k31
  have b31 := F31.binds (ps := ["_law_found", "_law_due_here"]) fun _ _ _ _ _ _ us hl => match us, hl with | [_, _], _ => rfl
  have X31 := FunX.of F31
  have e31 : ∀ ss, (31, ss) ∈ cfg.dfl → ∃ dsv, Vals (ss.map V.str) dsv ∧ Binds K (PySem.W.fnOf "_law_told" "_law_told" (defArgs st31) (defBody st31) (defScope st31) .none kV31 dc31 pm31 an31 cd31 ct31) ["_law_found", "_law_due_here"] dsv := fun ss h => by simp [cfg] at h
  have F32 := fun_mk (st := st32) l32 c32 k32
  have b32 := F32.binds (ps := ["_law_menu_here", "_law_params", "_law_number"]) fun _ _ _ _ _ _ us hl => match us, hl with | [_, _, _], _ => rfl
  have X32 := FunX.of F32
  have e32 : ∀ ss, (32, ss) ∈ cfg.dfl → ∃ dsv, Vals (ss.map V.str) dsv ∧ Binds K (PySem.W.fnOf "_law_result" "_law_result" (defArgs st32) (defBody st32) (defScope st32) .none kV32 dc32 pm32 an32 cd32 ct32) ["_law_menu_here", "_law_params", "_law_number"] dsv := fun ss h => by simp [cfg] at h
  have F33 := fun_mk (st := st33) l33 c33 k33
  have b33 := F33.binds (ps := ["_law_result_here"]) fun _ _ _ _ _ _ us hl => match us, hl with | [_], _ => rfl
  have X33 := FunX.of F33
  have e33 : ∀ ss, (33, ss) ∈ cfg.dfl → ∃ dsv, Vals (ss.map V.str) dsv ∧ Binds K (PySem.W.fnOf "_law_back" "_law_back" (defArgs st33) (defBody st33) (defScope st33) .none kV33 dc33 pm33 an33 cd33 ct33) ["_law_result_here"] dsv := fun ss h => by simp [cfg] at h
  have F34 := fun_mk (st := st34) l34 c34 k34
  have b34 := F34.binds (ps := ["_law_menu_here", "_law_names_here", "_law_number", "_law_cell"]) fun _ _ _ _ _ _ us hl => match us, hl with | [_, _, _, _], _ => rfl
  have X34 := FunX.of F34
  have e34 : ∀ ss, (34, ss) ∈ cfg.dfl → ∃ dsv, Vals (ss.map V.str) dsv ∧ Binds K (PySem.W.fnOf "_law_head" "_law_head" (defArgs st34) (defBody st34) (defScope st34) .none kV34 dc34 pm34 an34 cd34 ct34) ["_law_menu_here", "_law_names_here", "_law_number", "_law_cell"] dsv := fun ss h => by simp [cfg] at h
  have F35 := fun_mk (st := st35) l35 c35 k35
  have b35 := F35.binds (ps := ["_law_script"]) fun _ _ _ _ _ _ us hl => match us, hl with | [_], _ => rfl
  have X35 := FunX.of F35
  have e35 : ∀ ss, (35, ss) ∈ cfg.dfl → ∃ dsv, Vals (ss.map V.str) dsv ∧ Binds K (PySem.W.fnOf "_law_heads" "_law_heads" (defArgs st35) (defBody st35) (defScope st35) .none kV35 dc35 pm35 an35 cd35 ct35) ["_law_script"] dsv := fun ss h => by simp [cfg] at h
  have F36 := fun_mk (st := st36) l36 c36 k36
  have b36 := F36.binds (ps := ["_law_heads_here", "_law_kinds", "_law_cell"]) fun _ _ _ _ _ _ us hl => match us, hl with | [_, _, _], _ => rfl
  have X36 := FunX.of F36
  have e36 : ∀ ss, (36, ss) ∈ cfg.dfl → ∃ dsv, Vals (ss.map V.str) dsv ∧ Binds K (PySem.W.fnOf "_law_call" "_law_call" (defArgs st36) (defBody st36) (defScope st36) .none kV36 dc36 pm36 an36 cd36 ct36) ["_law_heads_here", "_law_kinds", "_law_cell"] dsv := fun ss h => by simp [cfg] at h
  have F37 := fun_mk (st := st37) l37 c37 k37
  have b37 := F37.binds (ps := ["_law_heads_here", "_law_head_here", "_law_cell", "_law_k"]) fun _ _ _ _ _ _ us hl => match us, hl with | [_, _, _, _], _ => rfl
  have X37 := FunX.of F37
  have e37 : ∀ ss, (37, ss) ∈ cfg.dfl → ∃ dsv, Vals (ss.map V.str) dsv ∧ Binds K (PySem.W.fnOf "_law_row" "_law_row" (defArgs st37) (defBody st37) (defScope st37) .none kV37 dc37 pm37 an37 cd37 ct37) ["_law_heads_here", "_law_head_here", "_law_cell", "_law_k"] dsv := fun ss h => by simp [cfg] at h
  have F38 := fun_mk (st := st38) l38 c38 k38
  have b38 := F38.binds (ps := ["_law_heads_here", "_law_number", "_law_cells"]) fun _ _ _ _ _ _ us hl => match us, hl with | [_, _, _], _ => rfl
  have X38 := FunX.of F38
  have e38 : ∀ ss, (38, ss) ∈ cfg.dfl → ∃ dsv, Vals (ss.map V.str) dsv ∧ Binds K (PySem.W.fnOf "_law_function" "_law_function" (defArgs st38) (defBody st38) (defScope st38) .none kV38 dc38 pm38 an38 cd38 ct38) ["_law_heads_here", "_law_number", "_law_cells"] dsv := fun ss h => by simp [cfg] at h
  have F39 := fun_mk (st := st39) l39 c39 k39
  have b39 := F39.binds (ps := ["_law_shape"]) fun _ _ _ _ _ _ us hl => match us, hl with | [_], _ => rfl
  have X39 := FunX.of F39
  have e39 : ∀ ss, (39, ss) ∈ cfg.dfl → ∃ dsv, Vals (ss.map V.str) dsv ∧ Binds K (PySem.W.fnOf "_law_copied" "_law_copied" (defArgs st39) (defBody st39) (defScope st39) .none kV39 dc39 pm39 an39 cd39 ct39) ["_law_shape"] dsv := fun ss h => by simp [cfg] at h
  have F40 := fun_mk (st := st40) l40 c40 k40
  have b40 := F40.binds (ps := ["_law_kinds", "_law_name", "_law_taker"]) fun _ _ _ _ _ _ us hl => match us, hl with | [_, _, _], _ => rfl
  have X40 := FunX.of F40
  have e40 : ∀ ss, (40, ss) ∈ cfg.dfl → ∃ dsv, Vals (ss.map V.str) dsv ∧ Binds K (PySem.W.fnOf "_law_taken" "_law_taken" (defArgs st40) (defBody st40) (defScope st40) .none kV40 dc40 pm40 an40 cd40 ct40) ["_law_kinds", "_law_name", "_law_taker"] dsv := fun ss h => by simp [cfg] at h
  have F41 := fun_mk (st := st41) l41 c41 k41
  have b41 := F41.binds (ps := ["_law_kinds", "_law_row_here"]) fun _ _ _ _ _ _ us hl => match us, hl with | [_, _], _ => rfl
  have X41 := FunX.of F41
  have e41 : ∀ ss, (41, ss) ∈ cfg.dfl → ∃ dsv, Vals (ss.map V.str) dsv ∧ Binds K (PySem.W.fnOf "_law_due" "_law_due" (defArgs st41) (defBody st41) (defScope st41) .none kV41 dc41 pm41 an41 cd41 ct41) ["_law_kinds", "_law_row_here"] dsv := fun ss h => by simp [cfg] at h
  have F42 := fun_mk (st := st42) l42 c42 k42
  have b42 := F42.binds (ps := ["_law_script"]) fun _ _ _ _ _ _ us hl => match us, hl with | [_], _ => rfl
  have X42 := FunX.of F42
  have e42 : ∀ ss, (42, ss) ∈ cfg.dfl → ∃ dsv, Vals (ss.map V.str) dsv ∧ Binds K (PySem.W.fnOf "law" "law" (defArgs st42) (defBody st42) (defScope st42) .none kV42 dc42 pm42 an42 cd42 ct42) ["_law_script"] dsv := fun ss h => by simp [cfg] at h
  have D : ∀ f x, cfg.fns[f]? = some x → DefOk K mg cfg tab f x := fun f x h => by
    match f, h with
    | 0, h => cases h; exact ⟨_, _, _, st0, nm0, fn0, PySem.W.mg_of X G a0, k0, X0, b0, e0, sc0, rfl, rfl, rfl, mb0⟩
    | 1, h => cases h; exact ⟨_, _, _, st1, nm1, fn1, PySem.W.mg_of X G a1, k1, X1, b1, e1, sc1, rfl, rfl, rfl, mb1⟩
    | 2, h => cases h; exact ⟨_, _, _, st2, nm2, fn2, PySem.W.mg_of X G a2, k2, X2, b2, e2, sc2, rfl, rfl, rfl, mb2⟩
    | 3, h => cases h; exact ⟨_, _, _, st3, nm3, fn3, PySem.W.mg_of X G a3, k3, X3, b3, e3, sc3, rfl, rfl, rfl, mb3⟩
    | 4, h => cases h; exact ⟨_, _, _, st4, nm4, fn4, PySem.W.mg_of X G a4, k4, X4, b4, e4, sc4, rfl, rfl, rfl, mb4⟩
    | 5, h => cases h; exact ⟨_, _, _, st5, nm5, fn5, PySem.W.mg_of X G a5, k5, X5, b5, e5, sc5, rfl, rfl, rfl, mb5⟩
    | 6, h => cases h; exact ⟨_, _, _, st6, nm6, fn6, PySem.W.mg_of X G a6, k6, X6, b6, e6, sc6, rfl, rfl, rfl, mb6⟩
    | 7, h => cases h; exact ⟨_, _, _, st7, nm7, fn7, PySem.W.mg_of X G a7, k7, X7, b7, e7, sc7, rfl, rfl, rfl, mb7⟩
    | 8, h => cases h; exact ⟨_, _, _, st8, nm8, fn8, PySem.W.mg_of X G a8, k8, X8, b8, e8, sc8, rfl, rfl, rfl, mb8⟩
    | 9, h => cases h; exact ⟨_, _, _, st9, nm9, fn9, PySem.W.mg_of X G a9, k9, X9, b9, e9, sc9, rfl, rfl, rfl, mb9⟩
    | 10, h => cases h; exact ⟨_, _, _, st10, nm10, fn10, PySem.W.mg_of X G a10, k10, X10, b10, e10, sc10, rfl, rfl, rfl, mb10⟩
    | 11, h => cases h; exact ⟨_, _, _, st11, nm11, fn11, PySem.W.mg_of X G a11, k11, X11, b11, e11, sc11, rfl, rfl, rfl, mb11⟩
    | 12, h => cases h; exact ⟨_, _, _, st12, nm12, fn12, PySem.W.mg_of X G a12, k12, X12, b12, e12, sc12, rfl, rfl, rfl, mb12⟩
    | 13, h => cases h; exact ⟨_, _, _, st13, nm13, fn13, PySem.W.mg_of X G a13, k13, X13, b13, e13, sc13, rfl, rfl, rfl, mb13⟩
    | 14, h => cases h; exact ⟨_, _, _, st14, nm14, fn14, PySem.W.mg_of X G a14, k14, X14, b14, e14, sc14, rfl, rfl, rfl, mb14⟩
    | 15, h => cases h; exact ⟨_, _, _, st15, nm15, fn15, PySem.W.mg_of X G a15, k15, X15, b15, e15, sc15, rfl, rfl, rfl, mb15⟩
    | 16, h => cases h; exact ⟨_, _, _, st16, nm16, fn16, PySem.W.mg_of X G a16, k16, X16, b16, e16, sc16, rfl, rfl, rfl, mb16⟩
    | 17, h => cases h; exact ⟨_, _, _, st17, nm17, fn17, PySem.W.mg_of X G a17, k17, X17, b17, e17, sc17, rfl, rfl, rfl, mb17⟩
    | 18, h => cases h; exact ⟨_, _, _, st18, nm18, fn18, PySem.W.mg_of X G a18, k18, X18, b18, e18, sc18, rfl, rfl, rfl, mb18⟩
    | 19, h => cases h; exact ⟨_, _, _, st19, nm19, fn19, PySem.W.mg_of X G a19, k19, X19, b19, e19, sc19, rfl, rfl, rfl, mb19⟩
    | 20, h => cases h; exact ⟨_, _, _, st20, nm20, fn20, PySem.W.mg_of X G a20, k20, X20, b20, e20, sc20, rfl, rfl, rfl, mb20⟩
    | 21, h => cases h; exact ⟨_, _, _, st21, nm21, fn21, PySem.W.mg_of X G a21, k21, X21, b21, e21, sc21, rfl, rfl, rfl, mb21⟩
    | 22, h => cases h; exact ⟨_, _, _, st22, nm22, fn22, PySem.W.mg_of X G a22, k22, X22, b22, e22, sc22, rfl, rfl, rfl, mb22⟩
    | 23, h => cases h; exact ⟨_, _, _, st23, nm23, fn23, PySem.W.mg_of X G a23, k23, X23, b23, e23, sc23, rfl, rfl, rfl, mb23⟩
    | 24, h => cases h; exact ⟨_, _, _, st24, nm24, fn24, PySem.W.mg_of X G a24, k24, X24, b24, e24, sc24, rfl, rfl, rfl, mb24⟩
    | 25, h => cases h; exact ⟨_, _, _, st25, nm25, fn25, PySem.W.mg_of X G a25, k25, X25, b25, e25, sc25, rfl, rfl, rfl, mb25⟩
    | 26, h => cases h; exact ⟨_, _, _, st26, nm26, fn26, PySem.W.mg_of X G a26, k26, X26, b26, e26, sc26, rfl, rfl, rfl, mb26⟩
    | 27, h => cases h; exact ⟨_, _, _, st27, nm27, fn27, PySem.W.mg_of X G a27, k27, X27, b27, e27, sc27, rfl, rfl, rfl, mb27⟩
    | 28, h => cases h; exact ⟨_, _, _, st28, nm28, fn28, PySem.W.mg_of X G a28, k28, X28, b28, e28, sc28, rfl, rfl, rfl, mb28⟩
    | 29, h => cases h; exact ⟨_, _, _, st29, nm29, fn29, PySem.W.mg_of X G a29, k29, X29, b29, e29, sc29, rfl, rfl, rfl, mb29⟩
    | 30, h => cases h; exact ⟨_, _, _, st30, nm30, fn30, PySem.W.mg_of X G a30, k30, X30, b30, e30, sc30, rfl, rfl, rfl, mb30⟩
    | 31, h => cases h; exact ⟨_, _, _, st31, nm31, fn31, PySem.W.mg_of X G a31, k31, X31, b31, e31, sc31, rfl, rfl, rfl, mb31⟩
    | 32, h => cases h; exact ⟨_, _, _, st32, nm32, fn32, PySem.W.mg_of X G a32, k32, X32, b32, e32, sc32, rfl, rfl, rfl, mb32⟩
    | 33, h => cases h; exact ⟨_, _, _, st33, nm33, fn33, PySem.W.mg_of X G a33, k33, X33, b33, e33, sc33, rfl, rfl, rfl, mb33⟩
    | 34, h => cases h; exact ⟨_, _, _, st34, nm34, fn34, PySem.W.mg_of X G a34, k34, X34, b34, e34, sc34, rfl, rfl, rfl, mb34⟩
    | 35, h => cases h; exact ⟨_, _, _, st35, nm35, fn35, PySem.W.mg_of X G a35, k35, X35, b35, e35, sc35, rfl, rfl, rfl, mb35⟩
    | 36, h => cases h; exact ⟨_, _, _, st36, nm36, fn36, PySem.W.mg_of X G a36, k36, X36, b36, e36, sc36, rfl, rfl, rfl, mb36⟩
    | 37, h => cases h; exact ⟨_, _, _, st37, nm37, fn37, PySem.W.mg_of X G a37, k37, X37, b37, e37, sc37, rfl, rfl, rfl, mb37⟩
    | 38, h => cases h; exact ⟨_, _, _, st38, nm38, fn38, PySem.W.mg_of X G a38, k38, X38, b38, e38, sc38, rfl, rfl, rfl, mb38⟩
    | 39, h => cases h; exact ⟨_, _, _, st39, nm39, fn39, PySem.W.mg_of X G a39, k39, X39, b39, e39, sc39, rfl, rfl, rfl, mb39⟩
    | 40, h => cases h; exact ⟨_, _, _, st40, nm40, fn40, PySem.W.mg_of X G a40, k40, X40, b40, e40, sc40, rfl, rfl, rfl, mb40⟩
    | 41, h => cases h; exact ⟨_, _, _, st41, nm41, fn41, PySem.W.mg_of X G a41, k41, X41, b41, e41, sc41, rfl, rfl, rfl, mb41⟩
    | 42, h => cases h; exact ⟨_, _, _, st42, nm42, fn42, PySem.W.mg_of X G a42, k42, X42, b42, e42, sc42, rfl, rfl, rfl, mb42⟩
    | n + 43, h => simp [cfg] at h
  have hca : ∀ c, caA K c = ([C0, C1] : List Addr).getD c C0 := fun c => match c with
    | 0 => by show (match PySem.W.nsIn K mainGlobals "NoName" with | some (some (.ref a)) => a | _ => 0) = C0; rw [ga0]
    | 1 => by show (match PySem.W.nsIn K mainGlobals "NoPart" with | some (some (.ref a)) => a | _ => 0) = C1; rw [ga1]
    | n + 2 => by show (match PySem.W.nsIn K mainGlobals "NoName" with | some (some (.ref a)) => a | _ => 0) = C0; rw [ga0]
  have Tp : Tops K mg cfg (caA K) :=
    { bl := fun x hx => by
        simp only [bNames, List.mem_cons, List.mem_nil_iff, or_false] at hx
        rcases hx with rfl | rfl | rfl | rfl | rfl | rfl | rfl | rfl | rfl | rfl | rfl | rfl | rfl | rfl | rfl | rfl | rfl | rfl | rfl
        · exact PySem.W.mg_none_of X G zb0
        · exact PySem.W.mg_none_of X G zb1
        · exact PySem.W.mg_none_of X G zb2
        · exact PySem.W.mg_none_of X G zb3
        · exact PySem.W.mg_none_of X G zb4
        · exact PySem.W.mg_none_of X G zb5
        · exact PySem.W.mg_none_of X G zb6
        · exact PySem.W.mg_none_of X G zb7
        · exact PySem.W.mg_none_of X G zb8
        · exact PySem.W.mg_none_of X G zb9
        · exact PySem.W.mg_none_of X G zb10
        · exact PySem.W.mg_none_of X G zb11
        · exact PySem.W.mg_none_of X G zb12
        · exact PySem.W.mg_none_of X G zb13
        · exact PySem.W.mg_none_of X G zb14
        · exact PySem.W.mg_none_of X G zb15
        · exact PySem.W.mg_none_of X G zb16
        · exact PySem.W.mg_none_of X G zb17
        · exact PySem.W.mg_none_of X G zb18
      gls := fun g p h => match g, h with
        | 0, h => by cases h; exact ⟨_, .ref TG0, PySem.W.mg_of X G q0, rfl, fun H hot => .tup (vs := [V.str "rest", V.str "", V.bl false, V.int 0, V.int 0, V.str ""]) (.inr ⟨.inr ⟨_, _, _, u0, rfl, rfl, by rw [sizeLine_eq]; exact (show (6 : Nat) ≤ 16777216 by omega), (.cons ⟨_, rfl⟩ (.cons ⟨_, rfl⟩ (.cons rfl (.cons ⟨_, rfl⟩ (.cons ⟨_, rfl⟩ (.cons ⟨_, rfl⟩ .nil))))))⟩, V.bl false, by simp, fun k => by cases k <;> exact fun z => nomatch z⟩) (.cons (A := []) (.str _ _) (.cons (A := []) (.str _ _) (.cons (A := []) (.bl _ _) (.cons (A := []) (.int _ _) (.cons (A := []) (.int _ _) (.cons (A := []) (.str _ _) (.nil _)))))))⟩
        | 1, h => by cases h; exact ⟨_, .ref TG1, PySem.W.mg_of X G q1, rfl, fun H hot => .tup (vs := [V.str "hand", V.str "", V.bl false, V.int 0, V.int 0, V.str ""]) (.inr ⟨.inr ⟨_, _, _, u1, rfl, rfl, by rw [sizeLine_eq]; exact (show (6 : Nat) ≤ 16777216 by omega), (.cons ⟨_, rfl⟩ (.cons ⟨_, rfl⟩ (.cons rfl (.cons ⟨_, rfl⟩ (.cons ⟨_, rfl⟩ (.cons ⟨_, rfl⟩ .nil))))))⟩, V.bl false, by simp, fun k => by cases k <;> exact fun z => nomatch z⟩) (.cons (A := []) (.str _ _) (.cons (A := []) (.str _ _) (.cons (A := []) (.bl _ _) (.cons (A := []) (.int _ _) (.cons (A := []) (.int _ _) (.cons (A := []) (.str _ _) (.nil _)))))))⟩
        | n + 2, h => by simp [cfg] at h
      exC := fun _ c => by
        rw [hca]
        match c with
        | 0 => exact (⟨eg0, ek0, es0, ed0, ea0, en, eh, em0⟩ : ExcC K C0)
        | 1 => exact (⟨eg1, ek1, es1, ed1, ea1, en, eh, em1⟩ : ExcC K C1)
        | n + 2 => exact (⟨eg0, ek0, es0, ed0, ea0, en, eh, em0⟩ : ExcC K C0)
      exK := fun k T h => match k, h with
        | 0, h => by
          cases h
          exact ⟨.ref C0, .ref C0, rfl, fun u r => r, .inl (PySem.W.mg_of X G ga0), fun c => by
            rw [hca]
            match c with
            | 0 => exact ⟨kit_own es0 ed0 et0 x0_0 x0_0, PySem.W.exm_ref es0 ed0 et0 x0_0⟩
            | 1 => exact ⟨kit_own es0 ed0 et0 x1_1 x1_0, PySem.W.exm_ref es0 ed0 et0 x1_0⟩
            | n + 2 => exact ⟨kit_own es0 ed0 et0 x0_0 x0_0, PySem.W.exm_ref es0 ed0 et0 x0_0⟩⟩
        | 1, h => by
          cases h
          exact ⟨.ref C1, .ref C1, rfl, fun u r => r, .inl (PySem.W.mg_of X G ga1), fun c => by
            rw [hca]
            match c with
            | 0 => exact ⟨kit_own es1 ed1 et1 x0_0 x0_1, PySem.W.exm_ref es1 ed1 et1 x0_1⟩
            | 1 => exact ⟨kit_own es1 ed1 et1 x1_1 x1_1, PySem.W.exm_ref es1 ed1 et1 x1_1⟩
            | n + 2 => exact ⟨kit_own es1 ed1 et1 x0_0 x0_1, PySem.W.exm_ref es1 ed1 et1 x0_1⟩⟩
        | n + 2, h => by simp [cfg] at h
      rs := fun k T h hk => match k, h, hk with
        | 0, h, _ => by cases h; exact ⟨"ValueError.__new__", "ValueError.__init__", "ValueError", _, PySem.F.excBase_ValueError, (by rw [hca]; exact ei0), (by rw [hca]; exact PySem.W.mg_of X G ga0), (by rw [hca]; exact ep0), (by rw [hca]; exact es0), (by rw [hca]; exact et0)⟩
        | 1, h, _ => by cases h; exact ⟨"ValueError.__new__", "ValueError.__init__", "ValueError", _, PySem.F.excBase_ValueError, (by rw [hca]; exact ei1), (by rw [hca]; exact PySem.W.mg_of X G ga1), (by rw [hca]; exact ep1), (by rw [hca]; exact es1), (by rw [hca]; exact et1)⟩
        | n + 2, _, hk => absurd hk (by show ¬ n + 2 < 2; omega) }
  refine ⟨PySem.W.fnOf "law" "law" (defArgs st42) (defBody st42) (defScope st42) .none kV42 dc42 pm42 an42 cd42 ct42, fun s v => .of_eq rfl, fun base _ _ => ?_⟩
  exact fns_ok (P := l.prog) (w := w) (base := base) (fu := wfuel) D Tp fuel 42 "law" _ _ _ ⟨st42, nm42, fn42, PySem.W.mg_of X G a42, k42, X42, b42, e42, sc42, rfl, rfl, rfl, mb42⟩
end Ly
open PySem PySem.W PyProof.Rows
set_option maxHeartbeats 0 in
theorem PySem.Challenge.cw_lendrule_k14_acts_of_calls_and_gives_holds : PySem.Challenge.rw_lendrule_k14_acts_of_calls_and_gives.Holds := by
  w_on; o_law; k_head; (case hw => w_witness2)
  k_fill
  refine L2.walk_of (l := PySem.Challenge.rw_lendrule_k14_acts_of_calls_and_gives) (n := 63) (k := Ly.fuel) (x := "_law_script") (CX := fun w => L2.CX PySem.Challenge.rw_lendrule_k14_acts_of_calls_and_gives.prog w) (sp := fun w => Ly.spA _ (Ly.callF Ly.cfg.G Ly.cfg.sub Ly.tab Ly.wfuel Ly.fuel) 42) rfl (by decide) rfl ⟨rfl, by decide, by decide⟩ (fun w h Y => PySem.W.kIn_of Y) ?F (fun _ _ a ns hl _ hS => Ly.spF_law hS (Ly.law_true ns hl)) (fun _ _ _ _ _ h => by obtain ⟨_, _, _, _, _, _, _, _, _, _, _, _, z⟩ := h; exact z.elim)
  case F =>
    intro w mg fa h KX G hmg
    refine' Ly.all_mk KX G hmg ?a0 ?l0 ?c0 ?k0 ?a1 ?l1 ?c1 ?k1 ?a2 ?l2 ?c2 ?k2 ?a3 ?l3 ?c3 ?k3 ?a4 ?l4 ?c4 ?k4 ?a5 ?l5 ?c5 ?k5 ?a6 ?l6 ?c6 ?k6 ?a7 ?l7 ?c7 ?k7 ?a8 ?l8 ?c8 ?k8 ?a9 ?l9 ?t9 ?c9 ?k9 ?a10 ?l10 ?t10 ?c10 ?k10 ?a11 ?l11 ?c11 ?k11 ?a12 ?l12 ?c12 ?k12 ?a13 ?l13 ?c13 ?k13 ?a14 ?l14 ?c14 ?k14 ?a15 ?l15 ?c15 ?k15 ?a16 ?l16 ?c16 ?k16 ?a17 ?l17 ?c17 ?k17 ?a18 ?l18 ?c18 ?k18 ?a19 ?l19 ?c19 ?k19 ?a20 ?l20 ?c20 ?k20 ?a21 ?l21 ?c21 ?k21 ?a22 ?l22 ?c22 ?k22 ?a23 ?l23 ?c23 ?k23 ?a24 ?l24 ?c24 ?k24 ?a25 ?l25 ?c25 ?k25 ?a26 ?l26 ?c26 ?k26 ?a27 ?l27 ?c27 ?k27 ?a28 ?l28 ?c28 ?k28 ?a29 ?l29 ?c29 ?k29 ?a30 ?l30 ?c30 ?k30 ?a31 ?l31 ?c31 ?k31 ?a32 ?l32 ?c32 ?k32 ?a33 ?l33 ?c33 ?k33 ?a34 ?l34 ?c34 ?k34 ?a35 ?l35 ?c35 ?k35 ?a36 ?l36 ?c36 ?k36 ?a37 ?l37 ?c37 ?k37 ?a38 ?l38 ?c38 ?k38 ?a39 ?l39 ?c39 ?k39 ?a40 ?l40 ?c40 ?k40 ?a41 ?l41 ?c41 ?k41 ?a42 ?l42 ?c42 ?k42 ?zb0 ?zb1 ?zb2 ?zb3 ?zb4 ?zb5 ?zb6 ?zb7 ?zb8 ?zb9 ?zb10 ?zb11 ?zb12 ?zb13 ?zb14 ?zb15 ?zb16 ?zb17 ?zb18 ?q0 ?u0 ?q1 ?u1 ?en ?eh ?ga0 ?es0 ?ed0 ?et0 ?ga1 ?es1 ?ed1 ?et1 ?eg0 ?ek0 ?ea0 ?em0 ?ei0 ?ep0 ?x0_0 ?x0_1 ?eg1 ?ek1 ?ea1 ?em1 ?ei1 ?ep1 ?x1_0 ?x1_1
    (case a0 => k_is); (case l0 => k_is); (case c0 => k_is); (case k0 => k_is); (case a1 => k_is); (case l1 => k_is); (case c1 => k_is); (case k1 => k_is); (case a2 => k_is); (case l2 => k_is); (case c2 => k_is); (case k2 => k_is); (case a3 => k_is); (case l3 => k_is); (case c3 => k_is); (case k3 => k_is); (case a4 => k_is); (case l4 => k_is); (case c4 => k_is); (case k4 => k_is); (case a5 => k_is); (case l5 => k_is); (case c5 => k_is); (case k5 => k_is); (case a6 => k_is); (case l6 => k_is); (case c6 => k_is); (case k6 => k_is); (case a7 => k_is); (case l7 => k_is); (case c7 => k_is); (case k7 => k_is); (case a8 => k_is); (case l8 => k_is); (case c8 => k_is); (case k8 => k_is); (case a9 => k_is); (case l9 => k_is); (case t9 => k_is); (case c9 => k_is); (case k9 => k_is); (case a10 => k_is); (case l10 => k_is); (case t10 => k_is); (case c10 => k_is); (case k10 => k_is); (case a11 => k_is); (case l11 => k_is); (case c11 => k_is); (case k11 => k_is); (case a12 => k_is); (case l12 => k_is); (case c12 => k_is); (case k12 => k_is); (case a13 => k_is); (case l13 => k_is); (case c13 => k_is); (case k13 => k_is); (case a14 => k_is); (case l14 => k_is); (case c14 => k_is); (case k14 => k_is); (case a15 => k_is); (case l15 => k_is); (case c15 => k_is); (case k15 => k_is); (case a16 => k_is); (case l16 => k_is); (case c16 => k_is); (case k16 => k_is); (case a17 => k_is); (case l17 => k_is); (case c17 => k_is); (case k17 => k_is); (case a18 => k_is); (case l18 => k_is); (case c18 => k_is); (case k18 => k_is); (case a19 => k_is); (case l19 => k_is); (case c19 => k_is); (case k19 => k_is); (case a20 => k_is); (case l20 => k_is); (case c20 => k_is); (case k20 => k_is); (case a21 => k_is); (case l21 => k_is); (case c21 => k_is); (case k21 => k_is); (case a22 => k_is); (case l22 => k_is); (case c22 => k_is); (case k22 => k_is); (case a23 => k_is); (case l23 => k_is); (case c23 => k_is); (case k23 => k_is); (case a24 => k_is); (case l24 => k_is); (case c24 => k_is); (case k24 => k_is); (case a25 => k_is); (case l25 => k_is); (case c25 => k_is); (case k25 => k_is); (case a26 => k_is); (case l26 => k_is); (case c26 => k_is); (case k26 => k_is); (case a27 => k_is); (case l27 => k_is); (case c27 => k_is); (case k27 => k_is); (case a28 => k_is); (case l28 => k_is); (case c28 => k_is); (case k28 => k_is); (case a29 => k_is); (case l29 => k_is); (case c29 => k_is); (case k29 => k_is); (case a30 => k_is); (case l30 => k_is); (case c30 => k_is); (case k30 => k_is); (case a31 => k_is); (case l31 => k_is); (case c31 => k_is); (case k31 => k_is); (case a32 => k_is); (case l32 => k_is); (case c32 => k_is); (case k32 => k_is); (case a33 => k_is); (case l33 => k_is); (case c33 => k_is); (case k33 => k_is); (case a34 => k_is); (case l34 => k_is); (case c34 => k_is); (case k34 => k_is); (case a35 => k_is); (case l35 => k_is); (case c35 => k_is); (case k35 => k_is); (case a36 => k_is); (case l36 => k_is); (case c36 => k_is); (case k36 => k_is); (case a37 => k_is); (case l37 => k_is); (case c37 => k_is); (case k37 => k_is); (case a38 => k_is); (case l38 => k_is); (case c38 => k_is); (case k38 => k_is); (case a39 => k_is); (case l39 => k_is); (case c39 => k_is); (case k39 => k_is); (case a40 => k_is); (case l40 => k_is); (case c40 => k_is); (case k40 => k_is); (case a41 => k_is); (case l41 => k_is); (case c41 => k_is); (case k41 => k_is); (case a42 => k_is); (case l42 => k_is); (case c42 => k_is); (case k42 => k_is); (case zb0 => k_is); (case zb1 => k_is); (case zb2 => k_is); (case zb3 => k_is); (case zb4 => k_is); (case zb5 => k_is); (case zb6 => k_is); (case zb7 => k_is); (case zb8 => k_is); (case zb9 => k_is); (case zb10 => k_is); (case zb11 => k_is); (case zb12 => k_is); (case zb13 => k_is); (case zb14 => k_is); (case zb15 => k_is); (case zb16 => k_is); (case zb17 => k_is); (case zb18 => k_is); (case q0 => k_is); (case u0 => k_is); (case q1 => k_is); (case u1 => k_is); (case en => k_is); (case eh => k_is); (case ga0 => k_is); (case es0 => k_is); (case ed0 => k_is); (case et0 => k_is); (case ga1 => k_is); (case es1 => k_is); (case ed1 => k_is); (case et1 => k_is); (case eg0 => k_is); (case ek0 => k_is); (case ea0 => k_is); (case em0 => k_is); (case ei0 => k_exc); (case ep0 => k_is); (case x0_0 => first | k_is | rfl); (case x0_1 => first | k_is | rfl); (case eg1 => k_is); (case ek1 => k_is); (case ea1 => k_is); (case em1 => k_is); (case ei1 => k_exc); (case ep1 => k_is); (case x1_0 => first | k_is | rfl); (case x1_1 => first | k_is | rfl)

