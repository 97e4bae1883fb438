import PyProof.Rows.All
import Wide.All
import OpenK.AllK
import Wide.FinOn
import HandS.ForMost
import KE.SortData
import KE.DataMinMax
import HandS.ForExc
import HandS.Lambda
import HandS.AnyAll
import HandS.Wide
import HandS.TupAny
import HandS.Deep
import HandS.Iter
import HandS.Zip
import KE.GoesMore
import KE.GoesEnum
import PyProof.Draws
import HandS.Style
import HandS.ExcOwn
import HandS.CallSlots
import HandS.WordsExc
import PyProof.SumAny
import HandS.HeadWalk
import HandS.SetFor
import HandS.Conv
import HandS.DictComp
import HandS.More
import PyProof.EqKinds
import PyProof.GenArm
import PyProof.GenQ
import HandS.GenList
import PyProof.ConsumeWalk
import HandS.Nested
import HandS.Defaults
import KE.DataEq
import HandS.Head0
import HandS.Head1
import HandS.Head2
import HandS.HeadEnd
import HandS.HeadHook1
import HandS.HeadHook2
import HandS.HeadHook3
import HandS.HeadHook4
import HandS.NestedK
import PyProof.ExcBaseAll.ValueError
import PySem.Challenge.RW_hotelstack_k01_days_and_stays
import PyProof.TableCode
import KE.KStateDown
import Lean
section
set_option linter.all false
set_option autoImplicit false
set_option maxRecDepth 100000
/-! Ev, part A: values, the small heap, the syntax of our own, its meaning (a plain function). -/
namespace Ev
open PySem L2

/-! ### values -/
abbrev D := PyData
/-- a reference to a logical cell -/
def cellD (r : Nat) : D := .dict [(.dict [], .int r)]
def asCell : D → Option Nat
  | .dict [(.dict [], .int (.ofNat r))] => some r
  | _ => none
/-- the script: a list that is only cut -/
def scrD (ns : List Int) : D := .dict [(.list [], .list (ns.map .int))]
def asScr : D → Option (List D)
  | .dict [(.list [], .list xs)] => some xs
  | _ => none
inductive Cell where
  | ins (c : Nat) (fs : List (Str × Bool × D))
  | lst (xs : List D)
  | dic (lk : Bool) (kvs : List (D × D))
abbrev M := List Cell
inductive R (α : Type) where
  | ok (a : α) (m : M)
  | exc (c : Nat) (m : M)
  | stuck
inductive Pl where
  | sl (i : Nat)
  | ce (r : Nat) (f : Str)
  deriving DecidableEq
abbrev Wr := Pl → Bool
abbrev Slot := Option (Bool × D)
abbrev Ga := List Slot
def R.bind {α β : Type} (x : R α) (f : α → M → R β) : R β :=
  match x with
  | .ok a m => f a m
  | .exc c m => .exc c m
  | .stuck => .stuck
@[simp] theorem R.bind_ok {α β : Type} (a : α) (m : M) (f : α → M → R β) : (R.ok a m).bind f = f a m := rfl
@[simp] theorem R.bind_exc {α β : Type} (c : Nat) (m : M) (f : α → M → R β) : (R.exc c m : R α).bind f = .exc c m := rfl
@[simp] theorem R.bind_stuck {α β : Type} (f : α → M → R β) : (R.stuck : R α).bind f = .stuck := rfl
def R.of {α : Type} (o : Option α) (m : M) : R α := match o with
  | some a => .ok a m
  | none => .stuck
@[simp] theorem R.of_some {α : Type} (a : α) (m : M) : R.of (some a) m = .ok a m := rfl
@[simp] theorem R.of_none {α : Type} (m : M) : R.of (none : Option α) m = .stuck := rfl

/-! ### operators by values -/
inductive BOp where | add | sub | mul | fdiv | mod | pow
inductive COp where | lt | le | gt | ge | eq | ne | isin | notin | isN | notN
def mulOk (i j : Int) : Bool := decide (i.natAbs < 2 ^ 64) || decide (j.natAbs < 2 ^ 64) || decide (i.natAbs.log2 + j.natAbs.log2 < 1000000)
def semBin : BOp → D → D → Option D
  | .add, .int i, .int j => some (.int (i + j))
  | .add, .str a, .str b => if a.length + b.length ≤ sizeLine then some (.str (a ++ b)) else none
  | .add, .list xs, .list ys => if xs.length + ys.length ≤ sizeLine then some (.list (xs ++ ys)) else none
  | .add, .tuple xs, .tuple ys => if xs.length + ys.length ≤ sizeLine then some (.tuple (xs ++ ys)) else none
  | .sub, .int i, .int j => some (.int (i - j))
  | .mul, .int i, .int j => if mulOk i j then some (.int (i * j)) else none
  | .mul, .list xs, .int k => if k < 2 ^ 63 ∧ -(2 ^ 63) ≤ k ∧ xs.length * k.toNat ≤ sizeLine then some (.list (List.replicate k.toNat xs).flatten) else none
  | .fdiv, .int i, .int j => if 0 < j ∧ j.natAbs.log2 < 9000 then some (.int (i / j)) else none
  | .mod, .int i, .int j => if 0 < j then some (.int (i % j)) else none
  | .pow, .int i, .int j => if 0 ≤ j ∧ j ≤ 1000 ∧ i.natAbs < 2 ^ 64 then some (.int (i ^ j.toNat)) else none
  | _, _, _ => none
def eqS (x y : D) : Option Bool := if SeqAt.shaped x && SeqAt.shaped y then some (PyData.eqv x y) else none
def lookD (kvs : List (D × D)) (k : D) : Option D := (kvs.find? fun p => PyData.eqv p.1 k).map (·.2)
def putD (kvs : List (D × D)) (k v : D) : List (D × D) :=
  if (kvs.any fun p => PyData.eqv p.1 k) = true then kvs.map (fun p => if PyData.eqv p.1 k = true then (p.1, v) else p) else kvs ++ [(k, v)]
def isKey : D → Bool
  | .int _ => true
  | .str _ => true
  | _ => false
def semIn (x : D) : D → Option Bool
  | .list ys => if SeqAt.shaped x && SeqAt.shaped (.list ys) then some (ys.any fun y => PyData.eqv y x) else none
  | .tuple ys => if SeqAt.shaped x && SeqAt.shaped (.tuple ys) then some (ys.any fun y => PyData.eqv y x) else none
  | .str z => match x with
    | .str c => if c.length = 1 then some (decide (c.cps.getD 0 0 ∈ z.cps.toList)) else none
    | _ => none
  | _ => none
def isNoneD : D → Bool
  | .none => true
  | _ => false
def semCmp : COp → D → D → Option Bool
  | .lt, .int i, .int j => some (decide (i < j))
  | .le, .int i, .int j => some (decide (i ≤ j))
  | .gt, .int i, .int j => some (decide (j < i))
  | .ge, .int i, .int j => some (decide (j ≤ i))
  | .eq, x, y => eqS x y
  | .ne, x, y => (eqS x y).map (!·)
  | .isin, x, y => semIn x y
  | .notin, x, y => (semIn x y).map (!·)
  | .isN, x, .none => some (isNoneD x)
  | .notN, x, .none => some (!isNoneD x)
  | _, _, _ => none
def semIdx (m : M) (x y : D) : Option D :=
  match x, y with
  | .list xs, .int i => atI xs i
  | .tuple xs, .int i => atI xs i
  | .str z, .int i => if z.length ≤ sizeLine then (atI z.cps.toList i).map fun c => .str ⟨#[c]⟩ else none
  | x, y => match asCell x with
    | some r => match m[r]?, y with
      | some (.lst xs), .int i => atI xs i
      | _, _ => none
    | none => none
def semSlc (x : D) (lo hi : Option Int) : Option D :=
  match x with
  | .list xs => some (.list (cutV' xs lo hi))
  | .tuple xs => some (.tuple (cutV' xs lo hi))
  | x => (asScr x).map fun xs => .list (cutV' xs lo hi)
where cutV' (xs : List D) (lo hi : Option Int) : List D := (xs.drop (HT.sIx xs.length 0 lo)).take (HT.sIx xs.length xs.length hi - HT.sIx xs.length 0 lo)
end Ev
end
section
set_option linter.all false
set_option autoImplicit false
set_option maxRecDepth 100000
/-! Ev, part B: the syntax of our own and its meaning. -/
namespace Ev
open PySem L2

inductive Tg where
  | nm (i : Nat)
  | tup (ts : List Tg)
/-- built-in functions of values -/
inductive Bi where | len | abs | max2 | min2 | max1 | min1 | sum1 | sorted | tuple | list | int | str | dict
/-- methods of values -/
inductive Mn where | count | index | get1 | get2 | startswith | join
/-- what a comprehension or a consumer makes -/
inductive Ck where | lc | any | all | sum | tuple | sorted | min
mutual
inductive Ex where
  | nm (i : Nat) | pk (i : Nat)
  | cst (d : D) | glb (g : Nat)
  | bin (o : BOp) (a b : Ex) | neg (a : Ex) | not (a : Ex) | and (a b : Ex) | or (a b : Ex)
  | cmp (o : COp) (a b : Ex) | chn (o o' : COp) (a b c : Ex)
  | ite (t a b : Ex)
  | tup (es : List Ex) | lst (es : List Ex) | lstC (es : List Ex)
  | idx (a b : Ex) | slc (a : Ex) (lo hi : Option Ex)
  | fld (e : Ex) (f : Str) | vw (e : Ex) | box (e : Ex)
  | dct (es : List Ex) | dco (k v : Ex) (tg : Tg) (src : Src) (ifs : List Ex)
  | bs (b : Bi) (src : Src) | mth (n : Mn) (o : Ex) (es : List Ex) | pop (o k : Ex) | lk (c x : Ex) | fstr (es : List Ex) | rev (a : Ex)
  | call (f : Nat) (es : List Ex) | met (f : Nat) (o : Ex) (es : List Ex) | new (c : Nat) (es : List Ex)
  | bi (b : Bi) (es : List Ex)
  | co (k : Ck) (elt : Ex) (tg : Tg) (src : Src) (ifs : List Ex)
  | told (f c : Nat) (body : Ex) | eqs (e : Ex) (z : Str)
inductive Src where
  | seq (b : Bs) | rng (es : List Ex) | enum (b : Bs) | zip (a b : Ex) | items (b : Bs) | vals (b : Bs)
/-- what is walked: a value, or a thing that a slot owns or that a cell holds -/
inductive Bs where
  | e (e : Ex) | sl (i : Nat) | vw (e : Ex)
end
/-- a place that is changed -/
inductive PlE where
  | sl (i : Nat) | cl (e : Ex)
inductive St where
  | asg (i : Nat) (e : Ex) | asgO (i : Nat) (e : Ex) | unp (t : Tg) (e : Ex) | par (is : List (Nat × Bool)) (es : List Ex)
  | setf (o : Ex) (f : Str) (e : Ex) | seti (p : PlE) (k e : Ex)
  | augn (i : Nat) (o : BOp) (e : Ex) | augf (o : Ex) (f : Str) (op : BOp) (e : Ex) | augi (p : PlE) (k : Ex) (op : BOp) (e : Ex)
  | app (p : PlE) (e : Ex) | del (p : PlE) (k : Ex) | upd (o e : Ex) | exp (e : Ex) | lk (c : Ex) (s : St)
  | ifs (t : Ex) (a b : List St) | for (tg : Tg) (src : Src) (body : List St) | whl (t : Ex) (body : List St)
  | ret (e : Ex) | retn | rai (c : Nat) | pass | frz (i : Nat)
  | bads (i j : Nat) (es : List Ex) (c : Nat)
/-- may the value be one that somebody owns? -/
def isB : Ex → Bool
  | .pk _ => true
  | .vw _ => true
  | _ => false
/-- is it a list (a dict) that was just made? -/
def isFresh : Ex → Bool
  | .lst _ => true
  | .bin .mul (.lst _) _ => true
  | .co .lc _ _ _ _ => true
  | .dct _ => true
  | .dco _ _ _ _ _ => true
  | .bi .dict _ => true
  | .bs .dict _ => true
  | _ => false
def bindT : Tg → D → Ga → Option Ga
  | .nm i, d, g => if i < g.length then some (g.set i (some (false, d))) else none
  | .tup ts, .tuple xs, g => bindTs ts xs g
  | .tup _, _, _ => none
where bindTs : List Tg → List D → Ga → Option Ga
  | [], [], g => some g
  | t :: ts, x :: xs, g => (bindT t x g).bind fun g' => bindTs ts xs g'
  | _, _, _ => none
/-- the slots that a target fills -/
def tvars : Tg → List Nat
  | .nm i => [i]
  | .tup ts => tvarsL ts
where tvarsL : List Tg → List Nat
  | [] => []
  | t :: ts => tvars t ++ tvarsL ts
def wipeG (g : Ga) : List Nat → Ga
  | [] => g
  | v :: vs => (wipeG g vs).set v none
def dMax (x y : Int) : Int := if y > x then y else x
def dMin (x y : Int) : Int := if y < x then y else x
def intsOf : List D → Option (List Int)
  | [] => some []
  | .int i :: r => (intsOf r).map (i :: ·)
  | _ :: _ => none
/-- what sorted, min want of their items -/
def sortable (xs : List D) : Bool :=
  (xs.all fun x => xs.all fun y => PySem.W.alike x y) && xs.all (fun x => decide (x.depth ≤ 60)) &&
    ((xs.all fun x => match x with | .tuple (_ :: _) => true | _ => false) || xs.all fun x => match x with | .int _ => true | .str _ => true | _ => false)
def dLe (x y : D) : Bool := PySem.W.dataLe false id x y
def dLt (x y : D) : Bool := PySem.W.dataLt x y
def minL : List D → Option D
  | [] => none
  | x :: r => some (PySem.W.minD x r)
/-- a dict of pairs, each later one in the place of an earlier one -/
def mkD : List D → List (D × D) → Option (List (D × D))
  | [], acc => some acc
  | .tuple [k, v] :: r, acc => if isKey k then mkD r (putD acc k v) else none
  | _ :: _, _ => none
def pairUp : List D → Option (List D)
  | [] => some []
  | k :: v :: r => (pairUp r).map (.tuple [k, v] :: ·)
  | [_] => none
def pureD (x : D) : Bool := (asCell x).isNone && (asScr x).isNone
def semBi : Bi → List D → Option D
  | .len, [.list xs] => some (.int xs.length)
  | .len, [.tuple xs] => some (.int xs.length)
  | .len, [.str z] => if z.length ≤ sizeLine then some (.int z.length) else none
  | .abs, [.int i] => some (.int (if i < 0 then -i else i))
  | .max2, [.int i, .int j] => some (.int (dMax i j))
  | .min2, [.int i, .int j] => some (.int (dMin i j))
  | .max1, [.list xs] => (intsOf xs).bind fun ns => match ns with | [] => none | n :: r => some (.int (r.foldl dMax n))
  | .min1, [.list (x :: xs)] => if sortable (x :: xs) then some (PySem.W.minD x xs) else none
  | .sum1, [.list xs] => (intsOf xs).map fun ns => .int ns.sum
  | .sum1, [.tuple xs] => (intsOf xs).map fun ns => .int ns.sum
  | .sorted, [.list xs] => if sortable xs then some (.list (xs.mergeSort dLe)) else none
  | .tuple, [.list xs] => some (.tuple xs)
  | .tuple, [.tuple xs] => some (.tuple xs)
  | .list, [.list xs] => some (.list xs)
  | .list, [.tuple xs] => some (.list xs)
  | .len, [.dict kvs] => if pureD (.dict kvs) then some (.int kvs.length) else none
  | .dict, [.dict kvs] => if pureD (.dict kvs) then some (.dict kvs) else none
  | .dict, [.list xs] => (mkD xs []).map .dict
  | .int, [.int i] => some (.int i)
  | .int, [.bool b] => some (.int (if b then 1 else 0))
  | _, _ => none
def semMth : Mn → D → List D → Option D
  | .count, .list xs, [y] => if SeqAt.shaped y && SeqAt.shaped (.list xs) then some (.int ((xs.filter fun x => PyData.eqv x y).length : Nat)) else none
  | .index, .list xs, [y] => if SeqAt.shaped y && SeqAt.shaped (.list xs) then (xs.findIdx? fun x => PyData.eqv x y).map fun i => .int (i : Nat) else none
  | .get1, .dict kvs, [k] => if pureD (.dict kvs) && isKey k then some ((lookD kvs k).getD .none) else none
  | .get2, .dict kvs, [k, d] => if pureD (.dict kvs) && isKey k then some ((lookD kvs k).getD d) else none
  | _, _, _ => none
/-- what has the method -/
def mthOk : Mn → D → Bool
  | .count, .list _ => true
  | .index, .list _ => true
  | .get1, .dict kvs => pureD (.dict kvs)
  | .get2, .dict kvs => pureD (.dict kvs)
  | .startswith, .str _ => true
  | .join, .str _ => true
  | _, _ => false
/-- the world of a text -/
structure Wd where
  call : Nat → Wr → List D → M → R D
  glb : Nat → D
  ini : Nat → Nat
  cls : Nat → Nat
  nam : Nat → Str
  has : Nat → Str → Bool := fun _ _ => false
  obj : Nat → Bool := fun _ => false
  sub : Nat → Nat → Bool
  tol : Nat → Str
  fuel : Nat
def wr0 : Wr := fun _ => false
/-- no exception leaves -/
def R.nox {α : Type} : R α → R α
  | .ok a m => .ok a m
  | _ => .stuck
/-- b behind a: while a is borrowed nothing is written -/
def with2 {α : Type} (bor : Bool) (b : Wr → M → R D) (wr : Wr) (m : M) (k : D → M → R α) : R α :=
  if bor then (match b wr0 m with | .ok y _ => k y m | .exc c _ => .exc c m | .stuck => .stuck) else (b wr m).bind k
/-- .. more of them -/
def withL {α : Type} (bor : Bool) (b : Wr → M → R (List D)) (wr : Wr) (m : M) (k : List D → M → R α) : R α :=
  if bor then (match b wr0 m with | .ok y _ => k y m | .exc c _ => .exc c m | .stuck => .stuck) else (b wr m).bind k
/-- the turns of a comprehension: what is made so far -/
def turns (body : D → M → R (Option D)) : List D → List D → M → R (List D)
  | [], acc, m => .ok acc m
  | x :: xs, acc, m => (body x m).bind fun o m' => match o with
    | some y => if acc.length < sizeLine then turns body xs (acc ++ [y]) m' else .stuck
    | none => turns body xs acc m'
/-- until one is b -/
def until' (b : Bool) (body : D → M → R (Option D)) : List D → M → R Bool
  | [], m => .ok (!b) m
  | x :: xs, m => (body x m).bind fun o m' => match o with
    | some (.bool c) => if c = b then .ok b m' else until' b body xs m'
    | some _ => .stuck
    | none => until' b body xs m'
def endCo : Ck → List D → Option D
  | .lc, xs => some (.list xs)
  | .tuple, xs => some (.tuple xs)
  | .sum, xs => (intsOf xs).map fun ns => .int ns.sum
  | .sorted, xs => if sortable xs then some (.list (xs.mergeSort dLe)) else none
  | .min, xs => if sortable xs then minL xs else none
  | _, _ => none
def runCo (k : Ck) (body : D → M → R (Option D)) (xs : List D) (m : M) : R D :=
  match k with
  | .any => (until' true body xs m).bind fun b m' => .ok (.bool b) m'
  | .all => (until' false body xs m).bind fun b m' => .ok (.bool b) m'
  | k => (turns body xs [] m).bind fun ys m' => R.of (endCo k ys) m'
def lockW (wr : Wr) : Option Pl → Wr
  | none => wr
  | some p => fun q => wr q && decide (q ≠ p)
def seqOf : D → Option (List D)
  | .list xs => some xs
  | .tuple xs => some xs
  | _ => none
def itemsOf : D → Option (List D)
  | .list xs => some xs
  | .tuple xs => some xs
  | .dict kvs => if pureD (.dict kvs) then some (kvs.map (·.1)) else none
  | _ => none
def pairsOf : D → Option (List D)
  | .dict kvs => if pureD (.dict kvs) then some (kvs.map fun p => .tuple [p.1, p.2]) else none
  | _ => none
def valsOf : D → Option (List D)
  | .dict kvs => if pureD (.dict kvs) then some (kvs.map (·.2)) else none
  | _ => none
/-- what a cell holds -/
def viewC : Cell → Option D
  | .lst xs => some (.list xs)
  | .dic _ kvs => some (.dict kvs)
  | .ins _ _ => none
def viewD (m : M) (x : D) : Option D := (asCell x).bind fun r => (m[r]?).bind viewC
/-- .. and may be walked -/
def walkC : Cell → Option D
  | .lst xs => some (.list xs)
  | .dic true kvs => some (.dict kvs)
  | _ => none
def boxC : D → Option Cell
  | .list xs => some (.lst xs)
  | .dict kvs => some (.dic false kvs)
  | _ => none
def delD (kvs : List (D × D)) (k : D) : List (D × D) := kvs.filter fun p => !PyData.eqv p.1 k
/-- the dict at r is walked, m the memory ahead -/
def lkR {α : Type} (r : Nat) (kvs : List (D × D)) : R α → R α
  | .ok a m => .ok a (m.set r (.dic false kvs))
  | _ => .stuck
def rngOf : List D → Option (List D)
  | [.int j] => if -(2 ^ 62) ≤ j ∧ j < 2 ^ 62 then some ((List.range j.toNat).map fun (k : Nat) => .int (0 + (k : Int))) else none
  | [.int i, .int j] => if -(2 ^ 62) ≤ i ∧ i < 2 ^ 62 ∧ -(2 ^ 62) ≤ j ∧ j < 2 ^ 62 then some ((List.range (j - i).toNat).map fun (k : Nat) => .int (i + (k : Int))) else none
  | _ => none
def enumOf (xs : List D) : List D := (List.range xs.length).zipWith (fun (i : Nat) x => .tuple [.int (i : Int), x]) xs
def fldAt (m : M) (x : D) (f : Str) : Option (Bool × D) :=
  (asCell x).bind fun r => match m[r]? with
    | some (.ins _ fs) => fs.lookup f
    | _ => none
def clsAt (m : M) (x : D) : Option (Nat × List (Str × Bool × D)) :=
  (asCell x).bind fun r => match m[r]? with
    | some (.ins c fs) => some (c, fs)
    | _ => none
/-- the cell of an expression that changes nothing -/
def cellOf : Ex → Ga → M → Option Nat
  | .nm i, g, _ => match g[i]? with
    | some (some (false, d)) => asCell d
    | _ => none
  | .fld e f, g, m => (cellOf e g m).bind fun r => match m[r]? with
    | some (.ins _ fs) => (match fs.lookup f with
      | some (false, d) => asCell d
      | _ => none)
    | _ => none
  | .idx (.vw e) (.cst k), g, m => (cellOf e g m).bind fun r => match m[r]? with
    | some (.dic _ kvs) => (lookD kvs k).bind asCell
    | _ => none
  | _, _, _ => none
mutual
def ev (W : Wd) : Ex → Wr → Ga → M → R D
  | .nm i, _, g, m => match g[i]? with
    | some (some (false, d)) => .ok d m
    | _ => .stuck
  | .pk i, _, g, m => match g[i]? with
    | some (some (_, d)) => .ok d m
    | _ => .stuck
  | .cst d, _, _, m => .ok d m
  | .glb k, _, _, m => .ok (W.glb k) m
  | .bin o a b, wr, g, m => if isB a || isB b then .stuck else (ev W a wr g m).bind fun x m1 => (ev W b wr g m1).bind fun y m2 => R.of (semBin o x y) m2
  | .neg a, wr, g, m => (ev W a wr g m).bind fun x m1 => match x with
    | .int i => .ok (.int (-i)) m1
    | _ => .stuck
  | .not a, wr, g, m => (ev W a wr g m).bind fun x m1 => match x with
    | .bool b => .ok (.bool (!b)) m1
    | _ => .stuck
  | .and a b, wr, g, m => (ev W a wr g m).bind fun x m1 => match x with
    | .bool true => if isB b then .stuck else ev W b wr g m1
    | .bool false => .ok (.bool false) m1
    | _ => .stuck
  | .or a b, wr, g, m => (ev W a wr g m).bind fun x m1 => match x with
    | .bool false => if isB b then .stuck else ev W b wr g m1
    | .bool true => .ok (.bool true) m1
    | _ => .stuck
  | .cmp o a b, wr, g, m => (ev W a wr g m).bind fun x m1 => with2 (isB a) (fun wr m => ev W b wr g m) wr m1 fun y m2 => R.of ((semCmp o x y).map .bool) m2
  | .chn o o' a b c, wr, g, m => if isB a || isB b then .stuck else
    (ev W a wr g m).bind fun x m1 => (ev W b wr g m1).bind fun y m2 => match semCmp o x y with
      | some true => (ev W c wr g m2).bind fun z m3 => R.of ((semCmp o' y z).map .bool) m3
      | some false => .ok (.bool false) m2
      | none => .stuck
  | .ite t a b, wr, g, m => if isB a || isB b then .stuck else (ev W t wr g m).bind fun x m1 => match x with
    | .bool true => ev W a wr g m1
    | .bool false => ev W b wr g m1
    | _ => .stuck
  | .tup es, wr, g, m => if es.length ≤ 1000 then (evL W es wr g m).bind fun xs m1 => .ok (.tuple xs) m1 else .stuck
  | .lst es, wr, g, m => if es.length ≤ 1000 then (evL W es wr g m).bind fun xs m1 => .ok (.list xs) m1 else .stuck
  | .lstC es, wr, g, m => if es.length ≤ 1000 then (evL W es wr g m).bind fun xs m1 => .ok (cellD m1.length) (m1 ++ [.lst xs]) else .stuck
  | .idx a b, wr, g, m => if isB b then .stuck else (ev W a wr g m).bind fun x m1 => with2 (isB a) (fun wr m => ev W b wr g m) wr m1 fun y m2 => R.of (semIdx m2 x y) m2
  | .slc a lo hi, wr, g, m => if isB a then .stuck else (ev W a wr g m).bind fun x m1 => (evO W lo wr g m1).bind fun l m2 => (evO W hi wr g m2).bind fun h m3 => R.of (semSlc x l h) m3
  | .fld e f, wr, g, m => if isB e then .stuck else (ev W e wr g m).bind fun x m1 => match clsAt m1 x with
    | some (c, fs) => if W.has c f then (match fs.lookup f with
      | some (false, d) => .ok d m1
      | _ => .stuck) else .stuck
    | none => .stuck
  | .vw e, wr, g, m => if isB e then .stuck else (ev W e wr g m).bind fun x m1 => R.of (viewD m1 x) m1
  | .box e, wr, g, m => (ev W e wr g m).bind fun d m1 => match boxC d with
    | some c => .ok (cellD m1.length) (m1 ++ [c])
    | none => .stuck
  | .dct es, wr, g, m => (evL W es wr g m).bind fun xs m1 => R.of (((pairUp xs).bind fun ps => mkD ps []).map .dict) m1
  | .dco k v tg src ifs, wr, g, m => if isB k || isB v then .stuck else (evS W src wr g m).bind fun (xs, p) m1 =>
    (turns (fun x m => R.nox (match bindT tg x (wipeG g (tvars tg)) with
      | none => .stuck
      | some g' => (evI W ifs (lockW wr p) g' m).bind fun b m' => if b then (ev W k (lockW wr p) g' m').bind fun kd m2 => (ev W v (lockW wr p) g' m2).bind fun vd m3 => .ok (some (.tuple [kd, vd])) m3 else .ok none m')) xs [] m1).bind fun ys m2 => R.of ((mkD ys []).map .dict) m2
  | .bs b src, wr, g, m => (evS W src wr g m).bind fun r m1 => if r.1.length ≤ 16777216 then R.of (semBi b [.list r.1]) m1 else .stuck
  | .mth n o es, wr, g, m => (ev W o wr g m).bind fun x m1 => if mthOk n x then withL (isB o) (fun wr m => evL W es wr g m) wr m1 fun ys m2 => R.of (semMth n x ys) m2 else .stuck
  | .pop o k, wr, g, m => if isB o || isB k then .stuck else (ev W o wr g m).bind fun x m1 => (ev W k wr g m1).bind fun kd m2 => match asCell x with
    | some r => (match m2[r]? with
      | some (.dic false kvs) => (match lookD kvs kd with
        | some v => if wr (.ce r "") && isKey kd then .ok v (m2.set r (.dic false (delD kvs kd))) else .stuck
        | none => .stuck)
      | _ => .stuck)
    | none => .stuck
  | .lk c x, wr, g, m => if isB x then .stuck else match cellOf c g m with
    | some r => (match m[r]? with
      | some (.dic false kvs) => lkR r kvs (ev W x (lockW wr (some (.ce r ""))) g (m.set r (.dic true kvs)))
      | _ => .stuck)
    | none => .stuck
  | .fstr _, _, _, _ => .stuck
  | .rev a, wr, g, m => if isB a then .stuck else (ev W a wr g m).bind fun x m1 => match x with
    | .list xs => .ok (.list xs.reverse) m1
    | .tuple xs => .ok (.tuple xs.reverse) m1
    | _ => .stuck
  | .call f es, wr, g, m => (evL W es wr g m).bind fun xs m1 => W.call f wr xs m1
  | .met f o es, wr, g, m => if isB o then .stuck else (ev W o wr g m).bind fun x m1 => match clsAt m1 x with
    | some (c, fs) => if c = W.cls f ∧ fs.lookup (W.nam f) = none then (evL W es wr g m1).bind fun xs m2 => W.call f wr (x :: xs) m2 else .stuck
    | none => .stuck
  | .new c es, wr, g, m => (evL W es wr g m).bind fun xs m1 => (W.call (W.ini c) wr (cellD m1.length :: xs) (m1 ++ [.ins c []])).bind fun v m2 => match v with
    | .none => .ok (cellD m1.length) m2
    | _ => .stuck
  | .bi b [e], wr, g, m => (ev W e wr g m).bind fun x m1 => R.of (semBi b [x]) m1
  | .bi b es, wr, g, m => (evL W es wr g m).bind fun xs m1 => R.of (semBi b xs) m1
  | .co k elt tg src ifs, wr, g, m => if isB elt then .stuck else (evS W src wr g m).bind fun (xs, p) m1 =>
    runCo k (fun x m => R.nox (match bindT tg x (wipeG g (tvars tg)) with
      | none => .stuck
      | some g' => (evI W ifs (lockW wr p) g' m).bind fun b m' => if b then (ev W elt (lockW wr p) g' m').bind fun y m'' => .ok (some y) m'' else .ok none m')) xs m1
  | .told _ c body, wr, g, m => if isB body then .stuck else match ev W body wr g m with
    | .ok d m' => .ok d m'
    | .exc e m' => if W.sub e c then .ok (.str (W.tol c)) m' else .stuck
    | .stuck => .stuck
  | .eqs e z, wr, g, m => if isB e then .stuck else (ev W e wr g m).bind fun x m1 => match clsAt m1 x with
    | some (c, _) => if W.obj c then .ok (.bool false) m1 else .stuck
    | none => R.of ((semCmp .eq x (.str z)).map .bool) m1
def evL (W : Wd) : List Ex → Wr → Ga → M → R (List D)
  | [], _, _, m => .ok [] m
  | e :: es, wr, g, m => if isB e then .stuck else (ev W e wr g m).bind fun x m1 => (evL W es wr g m1).bind fun xs m2 => .ok (x :: xs) m2
def evO (W : Wd) : Option Ex → Wr → Ga → M → R (Option Int)
  | none, _, _, m => .ok none m
  | some e, wr, g, m => if isB e then .stuck else (ev W e wr g m).bind fun d m1 => match d with
    | .int i => .ok (some i) m1
    | _ => .stuck
/-- the tests of a comprehension -/
def evI (W : Wd) : List Ex → Wr → Ga → M → R Bool
  | [], _, _, m => .ok true m
  | e :: es, wr, g, m => (ev W e wr g m).bind fun x m1 => match x with
    | .bool true => evI W es wr g m1
    | .bool false => .ok false m1
    | _ => .stuck
def evS (W : Wd) : Src → Wr → Ga → M → R (List D × Option Pl)
  | .seq b, wr, g, m => (evB W b wr g m).bind fun (x, p) m1 => R.of ((itemsOf x).map fun xs => (xs, p)) m1
  | .rng es, wr, g, m => (evL W es wr g m).bind fun xs m1 => R.of ((rngOf xs).map fun ys => (ys, none)) m1
  | .enum b, wr, g, m => (evB W b wr g m).bind fun (x, p) m1 => R.of ((seqOf x).map fun xs => (enumOf xs, p)) m1
  | .zip a b, wr, g, m => if isB a || isB b then .stuck else (ev W a wr g m).bind fun x m1 => (ev W b wr g m1).bind fun y m2 => match x, y with
    | .list xs, .list ys => .ok (xs.zipWith (fun a b => .tuple [a, b]) ys, none) m2
    | .tuple xs, .tuple ys => .ok (xs.zipWith (fun a b => .tuple [a, b]) ys, none) m2
    | _, _ => .stuck
  | .items b, wr, g, m => (evB W b wr g m).bind fun (x, p) m1 => R.of ((pairsOf x).map fun xs => (xs, p)) m1
  | .vals b, wr, g, m => (evB W b wr g m).bind fun (x, p) m1 => R.of ((valsOf x).map fun xs => (xs, p)) m1
def evB (W : Wd) : Bs → Wr → Ga → M → R (D × Option Pl)
  | .e e, wr, g, m => if isB e then .stuck else (ev W e wr g m).bind fun x m1 => .ok (x, none) m1
  | .sl i, _, g, m => match g[i]? with
    | some (some (true, .list xs)) => .ok (.list xs, some (.sl i)) m
    | some (some (false, d)) => .ok (d, none) m
    | _ => .stuck
  | .vw e, wr, g, m => if isB e then .stuck else (ev W e wr g m).bind fun x m1 => match asCell x with
    | some r => R.of (((m1[r]?).bind walkC).map fun d => (d, some (.ce r ""))) m1
    | none => .stuck
end
end Ev
end
section
set_option linter.all false
set_option autoImplicit false
set_option maxRecDepth 100000
/-! Ev, part C: how values, cells and slots stand in HandS's abstract heap. -/
namespace Ev
open PySem L2

structure Om where
  B : Addr → Prop
  ad : Nat → Str → Addr
  sl : Nat → Addr
  n : Nat
/-- what is fixed: the written part, the classes' addresses, tables of code objects -/
structure Fx where
  K : PySem.W.Frag
  ca : Nat → Addr
  xa : Nat → Addr
  TG : List Addr
  TL : List (Addr × Str)
def KTup (K : PySem.W.Frag) (a : Addr) (xs : List V) : Prop :=
  ∃ (o : Obj) (its : Array Value) (n : Nat), K.lookup a = some o ∧ o.cls = .type "tuple" ∧ o.data = .seq its n ∧ its.size ≤ sizeLine ∧ Vals xs its.toList
def TupAt (F : Fx) (ω : Om) (H : Hp) (a : Addr) (vs : List V) : Prop := (H a = some (.tup vs) ∧ ¬ ω.B a) ∨ KTup F.K a vs
def KLst (K : PySem.W.Frag) (a : Addr) (xs : List V) : Prop :=
  ∃ (o : Obj) (its : Array Value) (n : Nat), K.lookup a = some o ∧ o.cls = .type "list" ∧ o.dict = none ∧ o.data = .seq its n ∧ its.size ≤ sizeLine ∧ Vals xs its.toList
/-- a list that is only read -/
def LstAt (F : Fx) (ω : Om) (H : Hp) (a : Addr) (vs : List V) : Prop := (Rd H a (.lst vs) ∧ ¬ ω.B a) ∨ KLst F.K a vs
theorem LstAt.sq {F : Fx} {ω : Om} {H : Hp} {a : Addr} {vs : List V} (h : LstAt F ω H a vs) : SqL F.K H a vs := by
  rcases h with ⟨h, _⟩ | h
  · exact .inl h
  · exact .inr h
theorem TupAt.sq {F : Fx} {ω : Om} {H : Hp} {a : Addr} {vs : List V} (h : TupAt F ω H a vs) : SqT F.K H a vs := by
  rcases h with ⟨h, _⟩ | h
  · exact SqT.of h
  · exact .inr h
def keyRel : D → Key → Prop
  | .int i, k => k = .inl i
  | .str s, k => k = .inr s
  | _, _ => False
mutual
def Rep (F : Fx) (ω : Om) (H : Hp) : D → V → Prop
  | .none, v => v = .non
  | .bool b, v => v = .bl b
  | .int i, v => v = .int i
  | .str s, v => v = .str s
  | .list ds, v => ∃ a vs, v = .ref a ∧ H a = some (.lst vs) ∧ ¬ ω.B a ∧ Reps F ω H ds vs
  | .tuple ds, v => ∃ a vs, v = .ref a ∧ TupAt F ω H a vs ∧ Reps F ω H ds vs
  | .dict kvs, v => (∃ r, asCell (.dict kvs) = some r ∧ r < ω.n ∧ v = .ref (ω.ad r "")) ∨ (∃ a ns, (.dict kvs : D) = scrD ns ∧ v = .ref a ∧ LstAt F ω H a (ns.map V.int)) ∨
      ∃ a vs, v = .ref a ∧ (∃ o, H a = some (.frz o (.dK vs))) ∧ ¬ ω.B a ∧ RepP F ω H kvs vs
def Reps (F : Fx) (ω : Om) (H : Hp) : List D → List V → Prop
  | [], vs => vs = []
  | d :: ds, vs => ∃ v r, vs = v :: r ∧ Rep F ω H d v ∧ Reps F ω H ds r
def RepP (F : Fx) (ω : Om) (H : Hp) : List (D × D) → List (Key × V) → Prop
  | [], vs => vs = []
  | (k, d) :: ds, vs => ∃ k' v r, vs = (k', v) :: r ∧ keyRel k k' ∧ Rep F ω H d v ∧ RepP F ω H ds r
end
def ContAt (F : Fx) (ω : Om) (H : Hp) (a : Addr) : D → Prop
  | .list ds => ∃ vs, H a = some (.lst vs) ∧ Reps F ω H ds vs
  | .dict kvs => ∃ vs, H a = some (.dK vs) ∧ RepP F ω H kvs vs
  | _ => False
/-- a content that is read alone -/
def VCont (F : Fx) (ω : Om) (H : Hp) (a : Addr) : D → Prop
  | .list ds => ∃ vs, H a = some (.lst vs) ∧ Reps F ω H ds vs
  | .dict kvs => ∃ vs, Rd H a (.dK vs) ∧ RepP F ω H kvs vs
  | _ => False
theorem ContAt.v {F : Fx} {ω : Om} {H : Hp} {a : Addr} : ∀ {d : D}, ContAt F ω H a d → VCont F ω H a d
  | .list _, h => h
  | .dict _, h => let ⟨vs, h1, h2⟩ := h; ⟨vs, .inl h1, h2⟩
  | .none, h => h
  | .bool _, h => h
  | .int _, h => h
  | .str _, h => h
  | .tuple _, h => h
/-- a place that holds something of its own -/
def LvC (m : M) (r : Nat) (f : Str) : Prop := r < m.length ∧ (f = "" ∨ ∃ c fs d, m[r]? = some (.ins c fs) ∧ fs.lookup f = some (true, d) ∧ f ≠ "")
def FvRel (F : Fx) (ω : Om) (H : Hp) (r : Nat) (p : Str × Bool × D) (q : Str × V) : Prop :=
  p.1 = q.1 ∧ match p.2.1 with
    | false => Rep F ω H p.2.2 q.2
    | true => p.1 ≠ "" ∧ q.2 = .ref (ω.ad r p.1) ∧ ContAt F ω H (ω.ad r p.1) p.2.2
def CellAt (F : Fx) (ω : Om) (H : Hp) (r : Nat) : Cell → Prop
  | .ins c fs => ∃ dx vs, H (ω.ad r "") = some (.ins (F.ca c) dx vs) ∧ Paired (FvRel F ω H r) fs vs
  | .lst xs => ∃ vs, H (ω.ad r "") = some (.lst vs) ∧ Reps F ω H xs vs
  | .dic lk kvs => ∃ vs, (match lk with | true => ∃ o, H (ω.ad r "") = some (.frz o (.dK vs)) | false => H (ω.ad r "") = some (.dK vs)) ∧ RepP F ω H kvs vs
structure Cells (F : Fx) (ω : Om) (m : M) (H : Hp) : Prop where
  len : m.length = ω.n
  at_ : ∀ (r : Nat) (c : Cell), m[r]? = some c → CellAt F ω H r c
  inj : ∀ r f r' f', LvC m r f → LvC m r' f' → ω.ad r f = ω.ad r' f' → r = r' ∧ f = f'
  inB : ∀ r f, LvC m r f → ω.B (ω.ad r f)
  nd : ∀ (r c : Nat) (fs : List (Str × Bool × D)), m[r]? = some (.ins c fs) → (fs.map (·.1)).Nodup
/-- what may be written -/
def Ub (ω : Om) (m : M) (wr : Wr) (b : Addr) : Prop := ∃ r f, LvC m r f ∧ wr (.ce r f) = true ∧ ω.ad r f = b
structure Fr (U B B' : Addr → Prop) (H H' : Hp) : Prop where
  keep : ∀ b o, H b = some o → ¬ U b → (∀ ps, o ≠ .tbl ps) → H' b = some o
  tab : ∀ b ps, H b = some (.tbl ps) → ∃ more, H' b = some (.tbl (ps ++ more))
  nb : ∀ b o, H b = some o → ¬ B b → ¬ B' b
  pb : ∀ b o, H b = some o → B b → B' b
  st : ∀ b o, H b = some o → ∃ o', H' b = some o'
def TabInv (F : Fx) (H : Hp) : Prop := (∀ P ∈ F.TG, GxR.TabG H P) ∧ LamX.Tabs F.TL H
structure Po (F : Fx) (wr : Wr) (ω : Om) (m : M) (H : Hp) (ω' : Om) (m' : M) (H' : Hp) : Prop where
  le : ω.n ≤ ω'.n
  ad : ∀ r, r < ω.n → ω'.ad r "" = ω.ad r ""
  sl : ω'.sl = ω.sl
  fr : Fr (Ub ω m wr) ω.B ω'.B H H'
  aq : ∀ r f, LvC m' r f → (LvC m r f ∧ ω'.ad r f = ω.ad r f) ∨ H (ω'.ad r f) = none
  cells : Cells F ω' m' H'
  tabs : TabInv F H'
structure SlRel (F : Fx) (ω : Om) (g : Ga) (m : M) (σ : L2.St) (H : Hp) : Prop where
  len : g.length = σ.length
  val : ∀ (i : Nat) (d : D), g[i]? = some (some (false, d)) → ∃ v, σ[i]? = some (some v) ∧ Rep F ω H d v
  own : ∀ (i : Nat) (d : D), g[i]? = some (some (true, d)) → σ[i]? = some (some (.ref (ω.sl i))) ∧ ContAt F ω H (ω.sl i) d ∧ ω.B (ω.sl i) ∧ ∀ r f, LvC m r f → ω.ad r f ≠ ω.sl i
  inj : ∀ (i : Nat) (d : D) (j : Nat) (e : D), g[i]? = some (some (true, d)) → g[j]? = some (some (true, e)) → ω.sl i = ω.sl j → i = j

section
variable {F : Fx} {ω ω' ω₁ ω₂ : Om} {H H' H₁ H₂ : Hp} {U B B' : Addr → Prop}
theorem Reps.length : ∀ {ds : List D} {vs : List V}, Reps F ω H ds vs → vs.length = ds.length
  | [], _, h => by
    have h : _ = [] := h
    rw [h]
    rfl
  | d :: ds, _, h => by
    obtain ⟨v, r, rfl, _, h⟩ := h
    simp [Reps.length h]
theorem Reps.get : ∀ {ds : List D} {vs : List V} {i : Nat} {d : D}, Reps F ω H ds vs → ds[i]? = some d → ∃ v, vs[i]? = some v ∧ Rep F ω H d v
  | [], _, _, _, _, e => by simp at e
  | d :: ds, _, 0, _, h, e => by
    obtain ⟨v, r, rfl, h1, _⟩ := h
    simp at e
    subst e
    exact ⟨v, rfl, h1⟩
  | d :: ds, _, i + 1, _, h, e => by
    obtain ⟨v, r, rfl, _, h1⟩ := h
    obtain ⟨w, a, b⟩ := Reps.get (i := i) h1 (by simpa using e)
    exact ⟨w, by simpa using a, b⟩
theorem Reps.cons {d : D} {v : V} {ds : List D} {vs : List V} (a : Rep F ω H d v) (b : Reps F ω H ds vs) : Reps F ω H (d :: ds) (v :: vs) := ⟨v, vs, rfl, a, b⟩
theorem Reps.app : ∀ {ds es : List D} {vs us : List V}, Reps F ω H ds vs → Reps F ω H es us → Reps F ω H (ds ++ es) (vs ++ us)
  | [], _, _, _, h, k => by
    have h : _ = [] := h
    rw [h]
    exact k
  | d :: ds, _, _, _, h, k => by
    obtain ⟨v, r, rfl, h1, h2⟩ := h
    exact ⟨v, _, rfl, h1, Reps.app h2 k⟩
theorem Reps.take : ∀ {ds : List D} {vs : List V} (n : Nat), Reps F ω H ds vs → Reps F ω H (ds.take n) (vs.take n)
  | _, _, 0, _ => rfl
  | [], _, n + 1, h => by
    have h : _ = [] := h
    rw [h]
    rfl
  | d :: ds, _, n + 1, h => by
    obtain ⟨v, r, rfl, h1, h2⟩ := h
    exact ⟨v, _, rfl, h1, Reps.take n h2⟩
theorem Reps.drop : ∀ {ds : List D} {vs : List V} (n : Nat), Reps F ω H ds vs → Reps F ω H (ds.drop n) (vs.drop n)
  | _, _, 0, h => h
  | [], _, n + 1, h => by
    have h : _ = [] := h
    rw [h]
    rfl
  | d :: ds, _, n + 1, h => by
    obtain ⟨v, r, rfl, h1, h2⟩ := h
    exact Reps.drop n h2
theorem Reps.set : ∀ {ds : List D} {vs : List V} (i : Nat) {d : D} {v : V}, Reps F ω H ds vs → Rep F ω H d v → Reps F ω H (ds.set i d) (vs.set i v)
  | [], _, i, _, _, h, _ => by
    have h : _ = [] := h
    rw [h]
    rfl
  | d :: ds, _, 0, _, _, h, k => by
    obtain ⟨v, r, rfl, h1, h2⟩ := h
    exact ⟨_, _, rfl, k, h2⟩
  | d :: ds, _, i + 1, _, _, h, k => by
    obtain ⟨v, r, rfl, h1, h2⟩ := h
    exact ⟨_, _, rfl, h1, Reps.set i h2 k⟩

/-- what is read stays -/
structure Stays (F : Fx) (ω ω' : Om) (H H' : Hp) : Prop where
  le : ω.n ≤ ω'.n
  ad : ∀ r, r < ω.n → ω'.ad r "" = ω.ad r ""
  keep : ∀ b o, H b = some o → ¬ ω.B b → (∀ ps, o ≠ .tbl ps) → H' b = some o ∨ ∃ u ob, o = .dK u ∧ H' b = some (.frz ob (.dK u))
  nb : ∀ b o, H b = some o → ¬ ω.B b → ¬ ω'.B b
mutual
theorem Rep.stays (S : Stays F ω ω' H H') : ∀ (d : D) (v : V), Rep F ω H d v → Rep F ω' H' d v
  | .none, _, h => h
  | .bool _, _, h => h
  | .int _, _, h => h
  | .str _, _, h => h
  | .list ds, _, h => by
    obtain ⟨a, vs, rfl, h1, h2, h3⟩ := h
    refine ⟨a, vs, rfl, ?_, S.nb _ _ h1 h2, Reps.stays S ds vs h3⟩
    rcases S.keep _ _ h1 h2 (fun ps z => by cases z) with e | ⟨u, ob, z, _⟩
    · exact e
    · cases z
  | .tuple ds, _, h => by
    obtain ⟨a, vs, rfl, h1, h3⟩ := h
    refine ⟨a, vs, rfl, ?_, Reps.stays S ds vs h3⟩
    rcases h1 with ⟨h1, h2⟩ | h1
    · refine .inl ⟨?_, S.nb _ _ h1 h2⟩
      rcases S.keep _ _ h1 h2 (fun ps z => by cases z) with e | ⟨u, ob, z, _⟩
      · exact e
      · cases z
    · exact .inr h1
  | .dict kvs, _, h => by
    rcases h with ⟨r, h1, h2, rfl⟩ | ⟨a, ns, h1, rfl, h2⟩ | ⟨a, vs, rfl, h1, h2, h3⟩
    · exact .inl ⟨r, h1, Nat.lt_of_lt_of_le h2 S.le, by rw [S.ad r h2]⟩
    · refine .inr (.inl ⟨a, ns, h1, rfl, ?_⟩)
      rcases h2 with ⟨h2 | ⟨o, h2⟩, h3⟩ | h2
      · rcases S.keep _ _ h2 h3 (fun ps z => by cases z) with e | ⟨u, ob, z, _⟩
        · exact .inl ⟨.inl e, S.nb _ _ h2 h3⟩
        · cases z
      · rcases S.keep _ _ h2 h3 (fun ps z => by cases z) with e | ⟨u, ob, z, _⟩
        · exact .inl ⟨.inr ⟨_, e⟩, S.nb _ _ h2 h3⟩
        · cases z
      · exact .inr h2
    · obtain ⟨o, h1⟩ := h1
      refine .inr (.inr ⟨a, vs, rfl, ⟨o, ?_⟩, S.nb _ _ h1 h2, RepP.stays S kvs vs h3⟩)
      rcases S.keep _ _ h1 h2 (fun ps z => by cases z) with e | ⟨u, ob, z, e⟩
      · exact e
      · cases z
theorem Reps.stays (S : Stays F ω ω' H H') : ∀ (ds : List D) (vs : List V), Reps F ω H ds vs → Reps F ω' H' ds vs
  | [], _, h => h
  | d :: ds, _, h => by
    obtain ⟨v, r, rfl, h1, h2⟩ := h
    exact ⟨v, r, rfl, Rep.stays S d v h1, Reps.stays S ds r h2⟩
theorem RepP.stays (S : Stays F ω ω' H H') : ∀ (ds : List (D × D)) (vs : List (Key × V)), RepP F ω H ds vs → RepP F ω' H' ds vs
  | [], _, h => h
  | (k, d) :: ds, _, h => by
    obtain ⟨k', v, r, rfl, h0, h1, h2⟩ := h
    exact ⟨k', v, r, rfl, h0, Rep.stays S d v h1, RepP.stays S ds r h2⟩
end
end
end Ev
end
section
set_option linter.all false
set_option autoImplicit false
set_option maxRecDepth 100000
/-! Ev, part D: what holds from state to state; the lifted readings. -/
namespace Ev
open PySem L2

section
variable {F : Fx} {wr : Wr} {ω ω' ω₁ ω₂ : Om} {m m' m₁ m₂ : M} {H H' H₁ H₂ : Hp}
theorem Cells.ub (C : Cells F ω m H) {b : Addr} (h : Ub ω m wr b) : ω.B b := by
  obtain ⟨r, f, h1, _, rfl⟩ := h
  exact C.inB r f h1
theorem Po.stays (C : Cells F ω m H) (p : Po F wr ω m H ω' m' H') : Stays F ω ω' H H' :=
  ⟨p.le, p.ad, fun b o h hb ht => .inl (p.fr.keep b o h (fun z => hb (C.ub z)) ht), fun b o h hb => p.fr.nb b o h hb⟩
theorem Po.nu (C : Cells F ω m H) (p : Po F wr ω m H ω' m' H') {b : Addr} {o : HO} (h : H b = some o) (hu : ¬ Ub ω m wr b) : ¬ Ub ω' m' wr b := by
  rintro ⟨r, f, h1, h2, rfl⟩
  rcases p.aq r f h1 with ⟨z1, z2⟩ | z
  · exact hu ⟨r, f, z1, h2, z2.symm⟩
  · rw [h] at z
    cases z
theorem Po.refl (C : Cells F ω m H) (T : TabInv F H) : Po F wr ω m H ω m H :=
  ⟨Nat.le_refl _, fun _ _ => rfl, rfl, ⟨fun _ _ h _ _ => h, fun _ ps h => ⟨#[], by rw [h]; simp⟩, fun _ _ _ h => h, fun _ _ _ h => h, fun _ o h => ⟨o, h⟩⟩, fun _ _ h => .inl ⟨h, rfl⟩, C, T⟩
theorem Po.trans (C : Cells F ω m H) (p : Po F wr ω m H ω₁ m₁ H₁) (q : Po F wr ω₁ m₁ H₁ ω₂ m₂ H₂) : Po F wr ω m H ω₂ m₂ H₂ := by
  refine ⟨Nat.le_trans p.le q.le, fun r h => (q.ad r (Nat.lt_of_lt_of_le h p.le)).trans (p.ad r h), q.sl.trans p.sl, ⟨fun b o h hu ht => q.fr.keep b o (p.fr.keep b o h hu ht) (p.nu C h hu) ht, fun b ps h => ?_, fun b o h hb => ?_, fun b o h hb => ?_, fun b o h => ?_⟩, fun r f h => ?_, q.cells, q.tabs⟩
  · obtain ⟨m1, e1⟩ := p.fr.tab b ps h
    obtain ⟨m2, e2⟩ := q.fr.tab b _ e1
    exact ⟨m1 ++ m2, by rw [e2, Array.append_assoc]⟩
  · obtain ⟨o1, e1⟩ := p.fr.st b o h
    exact q.fr.nb b o1 e1 (p.fr.nb b o h hb)
  · obtain ⟨o1, e1⟩ := p.fr.st b o h
    exact q.fr.pb b o1 e1 (p.fr.pb b o h hb)
  · obtain ⟨o1, e1⟩ := p.fr.st b o h
    exact q.fr.st b o1 e1
  · rcases q.aq r f h with ⟨h1, e1⟩ | h1
    · rcases p.aq r f h1 with ⟨h2, e2⟩ | h2
      · exact .inl ⟨h2, e1.trans e2⟩
      · exact .inr (by rw [e1]; exact h2)
    · refine .inr ?_
      cases e : H (ω₂.ad r f) with
      | none => rfl
      | some o =>
        obtain ⟨o1, e1⟩ := p.fr.st _ o e
        rw [h1] at e1
        cases e1
theorem Cont.keep (S : Stays F ω ω' H H') {a : Addr} (k : ∀ o, H a = some o → (∀ ps, o ≠ .tbl ps) → H' a = some o) : ∀ {d : D}, ContAt F ω H a d → ContAt F ω' H' a d
  | .list ds, h => by
    obtain ⟨vs, h1, h2⟩ := h
    exact ⟨vs, k _ h1 (fun ps z => by cases z), Reps.stays S _ _ h2⟩
  | .dict ds, h => by
    obtain ⟨vs, h1, h2⟩ := h
    exact ⟨vs, k _ h1 (fun ps z => by cases z), RepP.stays S _ _ h2⟩
  | .none, h => h.elim
  | .bool _, h => h.elim
  | .int _, h => h.elim
  | .str _, h => h.elim
  | .tuple _, h => h.elim
theorem Cont.tracked {a : Addr} : ∀ {d : D}, ContAt F ω H a d → ∃ o, H a = some o ∧ ∀ ps, o ≠ .tbl ps
  | .list ds, h => by
    obtain ⟨vs, h1, h2⟩ := h
    exact ⟨_, h1, fun ps z => by cases z⟩
  | .dict ds, h => by
    obtain ⟨vs, h1, h2⟩ := h
    exact ⟨_, h1, fun ps z => by cases z⟩
  | .none, h => h.elim
  | .bool _, h => h.elim
  | .int _, h => h.elim
  | .str _, h => h.elim
  | .tuple _, h => h.elim
theorem VCont.keep (S : Stays F ω ω' H H') {a : Addr} (k : ∀ o, H a = some o → (∀ ps, o ≠ .tbl ps) → H' a = some o) : ∀ {d : D}, VCont F ω H a d → VCont F ω' H' a d
  | .list ds, h => by
    obtain ⟨vs, h1, h2⟩ := h
    exact ⟨vs, k _ h1 (fun ps z => by cases z), Reps.stays S _ _ h2⟩
  | .dict ds, h => by
    obtain ⟨vs, h1, h2⟩ := h
    refine ⟨vs, ?_, RepP.stays S _ _ h2⟩
    rcases h1 with h1 | ⟨o, h1⟩
    · exact .inl (k _ h1 fun ps z => by cases z)
    · exact .inr ⟨o, k _ h1 fun ps z => by cases z⟩
  | .none, h => h.elim
  | .bool _, h => h.elim
  | .int _, h => h.elim
  | .str _, h => h.elim
  | .tuple _, h => h.elim
theorem SlRel.po {g : Ga} {σ : L2.St} (S : SlRel F ω g m σ H) (C : Cells F ω m H) (p : Po F wr ω m H ω' m' H') : SlRel F ω' g m' σ H' := by
  have T := p.stays C
  refine ⟨S.len, fun i d e => ?_, fun i d e => ?_, fun i d j e h1 h2 h3 => ?_⟩
  · obtain ⟨v, h1, h2⟩ := S.val i d e
    exact ⟨v, h1, Rep.stays T d v h2⟩
  · obtain ⟨h1, h2, h3, h4⟩ := S.own i d e
    obtain ⟨o, h5, _⟩ := Cont.tracked h2
    rw [p.sl]
    refine ⟨h1, Cont.keep T (fun o q nt => p.fr.keep _ o q (fun ⟨r, f, z1, _, z2⟩ => h4 r f z1 z2) nt) h2, p.fr.pb _ _ h5 h3, fun r f z e2 => ?_⟩
    rcases p.aq r f z with ⟨z1, z2⟩ | z1
    · exact h4 r f z1 (z2.symm.trans e2)
    · rw [e2, h5] at z1
      cases z1
  · rw [p.sl] at h3
    exact S.inj i d j e h1 h2 h3
end

/-! ### states and ends -/
structure Stt (F : Fx) (ω : Om) (g : Ga) (m : M) (σ : L2.St) (H : Hp) : Prop where
  sl : SlRel F ω g m σ H
  ce : Cells F ω m H
  tb : TabInv F H
def VRel (F : Fx) (bor : Bool) (ω : Om) (H : Hp) (d : D) (v : V) : Prop := Rep F ω H d v ∨ (bor = true ∧ ∃ a, v = .ref a ∧ VCont F ω H a d)
def Fin {α β : Type} (F : Fx) (W : WX) (wr : Wr) (σ : L2.St) (rel : Om → Hp → α → β → Prop) (Q : β → Hp → Prop) (ω : Om) (m : M) (H : Hp) : R α → Prop
  | .stuck => False
  | .ok d m' => ∀ ω' v H', Po F wr ω m H ω' m' H' → rel ω' H' d v → Q v H'
  | .exc c m' => ∀ ω' H', Po F wr ω m H ω' m' H' → W (.ref (F.xa c)) none σ H'
def LG {α β : Type} (F : Fx) (W : WX) (rel : Om → Hp → α → β → Prop) (f : Wr → Ga → M → R α) : L2.St → Hp → (β → Hp → Prop) → Prop := fun σ H Q =>
  ∃ ω g m wr, Stt F ω g m σ H ∧ Fin F W wr σ rel Q ω m H (f wr g m)
abbrev LE (F : Fx) (W : WX) (bor : Bool) (f : Wr → Ga → M → R D) : TE := LG F W (VRel F bor) f
abbrev LA (F : Fx) (W : WX) (f : Wr → Ga → M → R (List D)) : TA := LG F W (Reps F) f
def RelB : Om → Hp → D → Bool → Prop := fun _ _ d b => d = .bool b
abbrev LT (F : Fx) (W : WX) (f : Wr → Ga → M → R D) : TT := fun σ H Q => LG F W RelB (fun wr g m => (f wr g m).bind fun d m' => match d with | .bool b => .ok (.bool b) m' | _ => .stuck) σ H Q

section
variable {F : Fx} {W : WX} {wr : Wr} {ω ω' ω₁ ω₂ : Om} {m m' m₁ m₂ : M} {H H' H₁ H₂ : Hp} {σ : L2.St} {g : Ga} {α β γ δ : Type}
theorem Stt.po (S : Stt F ω g m σ H) (p : Po F wr ω m H ω' m' H') : Stt F ω' g m' σ H' := ⟨S.sl.po S.ce p, p.cells, p.tabs⟩
theorem Fin.shift {rel : Om → Hp → α → β → Prop} {Q : β → Hp → Prop} (C : Cells F ω m H) (p : Po F wr ω m H ω₁ m₁ H₁) : ∀ {r : R α}, Fin F W wr σ rel Q ω m H r → Fin F W wr σ rel Q ω₁ m₁ H₁ r
  | .stuck, h => h
  | .ok d m', h => fun ω' v H' q => h ω' v H' (p.trans C q)
  | .exc c m', h => fun ω' H' q => h ω' H' (p.trans C q)
/-- a part first, then the rest -/
theorem Fin.bind {rel : Om → Hp → α → β → Prop} {rel' : Om → Hp → γ → δ → Prop} {Q : δ → Hp → Prop} {x : R α} {k : α → M → R γ} (C : Cells F ω m H) (h : Fin F W wr σ rel' Q ω m H (x.bind k)) :
    Fin F W wr σ rel (fun v H1 => ∃ ω₁ d m₁, x = .ok d m₁ ∧ Po F wr ω m H ω₁ m₁ H1 ∧ rel ω₁ H1 d v ∧ Fin F W wr σ rel' Q ω₁ m₁ H1 (k d m₁)) ω m H x := by
  cases x with
  | stuck => exact h
  | exc c m' => exact h
  | ok d m' => exact fun ω' v H' p r => ⟨ω', d, m', rfl, p, r, Fin.shift C p h⟩
theorem LG.of {rel : Om → Hp → α → β → Prop} {f : Wr → Ga → M → R α} {Q : β → Hp → Prop} (S : Stt F ω g m σ H) (h : Fin F W wr σ rel Q ω m H (f wr g m)) : LG F W rel f σ H Q := ⟨ω, g, m, wr, S, h⟩
theorem Fin.mono {rel : Om → Hp → α → β → Prop} {Q Q' : β → Hp → Prop} (hQ : ∀ v H, Q v H → Q' v H) : ∀ {r : R α}, Fin F W wr σ rel Q ω m H r → Fin F W wr σ rel Q' ω m H r
  | .stuck, h => h
  | .ok d m', h => fun ω' v H' q r => hQ _ _ (h ω' v H' q r)
  | .exc c m', h => h
end
theorem PE_imp {X : Cx} {e : Expr} {t t' : TE} (h : PE X e t) (i : ∀ σ H Q, t' σ H Q → t σ H Q) : PE X e t' := ⟨fun pins s σ H Q I hw => h.run pins s σ H Q I (i σ H Q hw)⟩
theorem PT_imp {X : Cx} {e : Expr} {t t' : TT} (h : PT X e t) (i : ∀ σ H Q, t' σ H Q → t σ H Q) : PT X e t' := ⟨fun pins s σ H Q I hw => h.run pins s σ H Q I (i σ H Q hw)⟩
theorem PW_imp {X : Cx} {e : Expr} {t t' : TT} (h : PW X e t) (i : ∀ σ H Q, t' σ H Q → t σ H Q) : PW X e t' := ⟨fun wh pins s σ H Q I hw => h.run wh pins s σ H Q I (i σ H Q hw)⟩
theorem PA_imp {X : Cx} {e : List Expr} {t t' : TA} (h : PA X e t) (i : ∀ σ H Q, t' σ H Q → t σ H Q) : PA X e t' := ⟨fun pos pins s σ H Q I hw => h.run pos pins s σ H Q I (i σ H Q hw)⟩
theorem PS_imp {X : Cx} {e : Stmt} {t t' : TS} (h : PS X e t) (i : ∀ D σ H, t' D σ H → t D σ H) : PS X e t' := ⟨fun pins s σ H D I hw => h.run pins s σ H D I (i D σ H hw)⟩
theorem PSs_imp {X : Cx} {e : List Stmt} {t t' : TS} (h : PSs X e t) (i : ∀ D σ H, t' D σ H → t D σ H) : PSs X e t' := ⟨fun pins s σ H D I hw => h.run pins s σ H D I (i D σ H hw)⟩

/-! ### new objects -/
def Om.out (ω : Om) (p : Addr) : Om := { ω with B := fun b => ω.B b ∧ b ≠ p }
def Om.inn (ω : Om) (p : Addr) : Om := { ω with B := fun b => ω.B b ∨ b = p }
section
variable {F : Fx} {W : WX} {wr : Wr} {ω ω' : Om} {m m' : M} {H H' : Hp} {σ : L2.St} {g : Ga} {p : Addr} {o : HO}
theorem stays_new (hp : H p = none) (ω' : Om) (hn : ω'.n = ω.n) (ha : ω'.ad = ω.ad) (hb : ∀ b o, H b = some o → ¬ ω.B b → ¬ ω'.B b) : Stays F ω ω' H (upd H p o) :=
  ⟨Nat.le_of_eq hn.symm, fun r _ => by rw [ha], fun b o h _ _ => .inl (by rw [upd_ne (ne_of_none h hp)]; exact h), hb⟩
theorem Paired.mp' {α β : Type} {P Q : α → β → Prop} (h : ∀ a b, P a b → Q a b) : ∀ {xs : List α} {ys : List β}, Paired P xs ys → Paired Q xs ys
  | _, _, .nil => .nil
  | _, _, .cons a b => .cons (h _ _ a) (Paired.mp' h b)
/-- the cells stand where their own objects stay -/
theorem CellAt.stays (S : Stays F ω ω' H H') {r : Nat} {c : Cell} (hr : ω'.ad r = ω.ad r) (k : ∀ f : Str, (f = "" ∨ ∃ c' fs d, c = .ins c' fs ∧ (f, true, d) ∈ fs) → ∀ o, H (ω.ad r f) = some o → (∀ ps, o ≠ .tbl ps) → H' (ω.ad r f) = some o) (h : CellAt F ω H r c) : CellAt F ω' H' r c := by
  cases c with
  | dic lk kvs =>
    obtain ⟨vs, h1, h2⟩ := h
    refine ⟨vs, ?_, RepP.stays S _ _ h2⟩
    rw [hr]
    cases lk with
    | true =>
      obtain ⟨o, h1⟩ := h1
      exact ⟨o, k "" (.inl rfl) _ h1 (fun ps z => by cases z)⟩
    | false => exact k "" (.inl rfl) _ h1 (fun ps z => by cases z)
  | lst xs =>
    obtain ⟨vs, h1, h2⟩ := h
    exact ⟨vs, by rw [hr]; exact k "" (.inl rfl) _ h1 (fun ps z => by cases z), Reps.stays S _ _ h2⟩
  | ins c fs =>
    obtain ⟨dx, vs, h1, h2⟩ := h
    refine ⟨dx, vs, by rw [hr]; exact k "" (.inl rfl) _ h1 (fun ps z => by cases z), ?_⟩
    have all : ∀ (l : List (Str × Bool × D)) (us : List (Str × V)), (∀ q ∈ l, q ∈ fs) → Paired (FvRel F ω H r) l us → Paired (FvRel F ω' H' r) l us := by
      intro l
      induction l with
      | nil => intro us _ q; cases q; exact .nil
      | cons q l ih =>
        intro us hs hq
        cases hq with
        | cons a b =>
          refine .cons ?_ (ih _ (fun z hz => hs z (List.mem_cons_of_mem _ hz)) b)
          obtain ⟨f, own, d⟩ := q
          obtain ⟨e, a⟩ := a
          refine ⟨e, ?_⟩
          cases own with
          | false => exact Rep.stays S _ _ a
          | true =>
            obtain ⟨a0, a1, a2⟩ := a
            refine ⟨a0, by rw [hr]; exact a1, ?_⟩
            show ContAt F ω' H' (ω'.ad r f) d
            rw [hr]
            exact Cont.keep S (k f (.inr ⟨c, fs, d, rfl, hs _ List.mem_cons_self⟩)) a2
    exact all fs vs (fun _ z => z) h2
theorem lookup_of_mem {α : Type} : ∀ {l : List (Str × α)} {f : Str} {a : α}, (l.map (·.1)).Nodup → (f, a) ∈ l → l.lookup f = some a
  | (k, b) :: r, f, a, nd, h => by
    rw [List.map_cons, List.nodup_cons] at nd
    rw [List.lookup_cons]
    rcases List.mem_cons.mp h with e | h
    · cases e
      simp
    · have : (f == k) = false := by
        rw [beq_eq_false_iff_ne]
        intro e
        exact nd.1 (List.mem_map.mpr ⟨(f, a), h, e⟩)
      rw [this]
      exact lookup_of_mem nd.2 h
theorem Cells.tracked (C : Cells F ω m H) {r : Nat} {f : Str} (h : LvC m r f) : ∃ o, H (ω.ad r f) = some o ∧ ∀ ps, o ≠ .tbl ps := by
  obtain ⟨hr, h⟩ := h
  have e : m[r]? = some m[r] := List.getElem?_eq_getElem hr
  have a := C.at_ r _ e
  rcases h with rfl | ⟨c, fs, d, e2, h2, h3⟩
  · cases hc : m[r] with
    | lst xs => rw [hc] at a; obtain ⟨vs, h1, _⟩ := a; exact ⟨_, h1, fun ps z => by cases z⟩
    | ins c fs => rw [hc] at a; obtain ⟨dx, vs, h1, _⟩ := a; exact ⟨_, h1, fun ps z => by cases z⟩
    | dic lk kvs =>
      rw [hc] at a
      obtain ⟨vs, h1, _⟩ := a
      cases lk with
      | true =>
        obtain ⟨o, h1⟩ := h1
        exact ⟨_, h1, fun ps z => by cases z⟩
      | false => exact ⟨_, h1, fun ps z => by cases z⟩
  · rw [e] at e2
    rw [Option.some.inj e2] at a
    obtain ⟨dx, vs, _, h4⟩ := a
    have all : ∀ (l : List (Str × Bool × D)) (us : List (Str × V)), Paired (FvRel F ω H r) l us → (f, true, d) ∈ l → ∃ o, H (ω.ad r f) = some o ∧ ∀ ps, o ≠ .tbl ps := by
      intro l
      induction l with
      | nil => intro us _ q; cases q
      | cons q l ih =>
        intro us hq hm
        cases hq with
        | cons a b =>
          rcases List.mem_cons.mp hm with e | hm
          · subst e
            obtain ⟨_, _, _, a⟩ := a
            exact Cont.tracked a
          · exact ih _ b hm
    exact all fs vs h4 (PySem.mem_of_lookup h2)
theorem lvC_own {r c : Nat} {fs : List (Str × Bool × D)} {f : Str} {d : D} (nd : (fs.map (·.1)).Nodup) (e : m[r]? = some (.ins c fs)) (h : (f, true, d) ∈ fs) (hf : f ≠ "") : LvC m r f :=
  ⟨(List.getElem?_eq_some_iff.mp e).1, .inr ⟨c, fs, d, e, lookup_of_mem nd h, hf⟩⟩
theorem own_ne {r c : Nat} {fs : List (Str × Bool × D)} {vs : List (Str × V)} (h : Paired (FvRel F ω H r) fs vs) {f : Str} {d : D} (hm : (f, true, d) ∈ fs) : f ≠ "" := by
  induction h with
  | nil => cases hm
  | cons a b ih =>
    rcases List.mem_cons.mp hm with e | hm
    · subst e
      exact a.2.1
    · exact ih hm
/-- all cells stand where no own object changes -/
theorem Cells.stays (C : Cells F ω m H) (S : Stays F ω ω' H H') (hn : ω'.n = ω.n) (ha : ω'.ad = ω.ad) (hb : ∀ b o, H b = some o → ω.B b → ω'.B b) (k : ∀ b o, H b = some o → (∀ ps, o ≠ .tbl ps) → H' b = some o) : Cells F ω' m H' := by
  refine ⟨C.len.trans hn.symm, fun r c e => ?_, fun r f r' f' h1 h2 h3 => ?_, fun r f h => ?_, C.nd⟩
  · exact CellAt.stays S (by rw [ha]) (fun f _ o h nt => k _ o h nt) (C.at_ r c e)
  · rw [ha] at h3
    exact C.inj r f r' f' h1 h2 h3
  · rw [ha]
    obtain ⟨o, e, _⟩ := C.tracked h
    exact hb _ _ e (C.inB r f h)
theorem TabInv.ext (T : TabInv F H) (k : ∀ b o, H b = some o → H' b = some o) : TabInv F H' :=
  ⟨fun P hP => let ⟨ps, h1, h2⟩ := T.1 P hP; ⟨ps, k _ _ h1, h2⟩, T.2.ext k⟩
/-- a new object is laid -/
theorem Po.new (C : Cells F ω m H) (T : TabInv F H) (hp : H p = none) : Po F wr ω m H (ω.out p) m (upd H p o) := by
  have k : ∀ b u, H b = some u → upd H p o b = some u := fun b u h => by rw [upd_ne (ne_of_none h hp)]; exact h
  have nb : ∀ b u, H b = some u → ¬ ω.B b → ¬ (ω.out p).B b := fun b u _ h z => h z.1
  have pb : ∀ b u, H b = some u → ω.B b → (ω.out p).B b := fun b u h z => ⟨z, ne_of_none h hp⟩
  exact ⟨Nat.le_refl _, fun _ _ => rfl, rfl, ⟨fun b u h _ _ => k b u h, fun b ps h => ⟨#[], by rw [k _ _ h]; simp⟩, nb, pb, fun b u h => ⟨u, k b u h⟩⟩, fun r f h => .inl ⟨h, rfl⟩,
    C.stays (stays_new hp _ rfl rfl nb) rfl rfl pb (fun b u h _ => k b u h), T.ext k⟩
/-- .. and is somebody's own -/
theorem Po.newO (C : Cells F ω m H) (T : TabInv F H) (hp : H p = none) : Po F wr ω m H (ω.inn p) m (upd H p o) := by
  have k : ∀ b u, H b = some u → upd H p o b = some u := fun b u h => by rw [upd_ne (ne_of_none h hp)]; exact h
  have nb : ∀ b u, H b = some u → ¬ ω.B b → ¬ (ω.inn p).B b := fun b u h hn z => z.elim hn (ne_of_none h hp)
  have pb : ∀ b u, H b = some u → ω.B b → (ω.inn p).B b := fun b u h z => .inl z
  exact ⟨Nat.le_refl _, fun _ _ => rfl, rfl, ⟨fun b u h _ _ => k b u h, fun b ps h => ⟨#[], by rw [k _ _ h]; simp⟩, nb, pb, fun b u h => ⟨u, k b u h⟩⟩, fun r f h => .inl ⟨h, rfl⟩,
    C.stays (stays_new hp _ rfl rfl nb) rfl rfl pb (fun b u h _ => k b u h), T.ext k⟩
end
end Ev
end
section
set_option linter.all false
set_option autoImplicit false
set_option maxRecDepth 100000
/-! Ev, part E: operators. -/
namespace Ev
open PySem L2

section
variable {F : Fx} {W : WX} {wr : Wr} {ω ω' ω₁ ω₂ : Om} {m m' m₁ m₂ : M} {H H' H₁ H₂ : Hp} {σ : L2.St} {g : Ga}
theorem ub0 {b : Addr} : ¬ Ub ω m wr0 b := fun ⟨_, _, _, h, _⟩ => by cases h
theorem Po.drop (C : Cells F ω m H) (q : Po F wr0 ω m H ω₂ m₂ H₂) : Po F wr ω m H { ω with B := ω₂.B } m H₂ := by
  have k : ∀ b o, H b = some o → (∀ ps, o ≠ .tbl ps) → H₂ b = some o := fun b o h nt => q.fr.keep b o h ub0 nt
  refine ⟨Nat.le_refl _, fun _ _ => rfl, rfl, ⟨fun b o h _ nt => k b o h nt, q.fr.tab, q.fr.nb, q.fr.pb, q.fr.st⟩, fun r f h => .inl ⟨h, rfl⟩, ?_, q.tabs⟩
  exact C.stays ⟨Nat.le_refl _, fun _ _ => rfl, fun b o h _ nt => .inl (k b o h nt), q.fr.nb⟩ rfl rfl q.fr.pb k
mutual
theorem Rep.dp : ∀ (d : D) (v : V), Rep F ω H d v → PyData.canLay0 d = true → Dp F.K H v d
  | .none, _, h, _ => by
    have h : _ = _ := h
    subst h
    exact .non
  | .bool _, _, h, _ => by
    have h : _ = _ := h
    subst h
    exact .bl _
  | .int _, _, h, _ => by
    have h : _ = _ := h
    subst h
    exact .int _
  | .str _, _, h, _ => by
    have h : _ = _ := h
    subst h
    exact .str _
  | .list ds, _, h, c => by
    obtain ⟨a, vs, rfl, h1, h2, h3⟩ := h
    exact .lst (SqL.of h1) (Reps.dp ds vs h3 (by simpa [PyData.canLay0] using c))
  | .tuple ds, _, h, c => by
    obtain ⟨a, vs, rfl, h1, h3⟩ := h
    exact .tup h1.sq (Reps.dp ds vs h3 (by simpa [PyData.canLay0] using c))
  | .dict kvs, _, h, c => by simp [PyData.canLay0] at c
theorem Reps.dp : ∀ (ds : List D) (vs : List V), Reps F ω H ds vs → PyData.canLayAll0 ds = true → DpAll F.K H vs ds
  | [], _, h, _ => by
    have h : _ = [] := h
    subst h
    exact .nil
  | d :: ds, _, h, c => by
    obtain ⟨v, r, rfl, h1, h2⟩ := h
    rw [PyData.canLayAll0, Bool.and_eq_true] at c
    exact .cons (Rep.dp d v h1 c.1) (Reps.dp ds r h2 c.2)
end
theorem VRel.dp {bor : Bool} {d : D} {v : V} (h : VRel F bor ω H d v) (c : SeqAt.shaped d = true) : Dp F.K H v d := by
  have c := SeqAt.canLay_of_shaped c
  rcases h with h | ⟨_, a, rfl, h⟩
  · exact Rep.dp d v h c
  · cases d with
    | list ds =>
      obtain ⟨vs, h1, h2⟩ := h
      exact .lst (SqL.of h1) (Reps.dp ds vs h2 (by simpa [PyData.canLay0] using c))
    | dict _ => simp [PyData.canLay0] at c
    | none => exact h.elim
    | bool _ => exact h.elim
    | int _ => exact h.elim
    | str _ => exact h.elim
    | tuple _ => exact h.elim
theorem VRel.po {bor : Bool} {d : D} {v : V} (C : Cells F ω m H) (p : Po F wr ω m H ω' m' H') (hb : bor = true → wr = wr0) (h : VRel F bor ω H d v) : VRel F bor ω' H' d v := by
  rcases h with h | ⟨e, a, rfl, h⟩
  · exact .inl (Rep.stays (p.stays C) _ _ h)
  · refine .inr ⟨e, a, rfl, VCont.keep (p.stays C) (fun o q nt => p.fr.keep _ o q ?_ nt) h⟩
    rw [hb e]
    exact ub0
/-- a list's or a tuple's items, whoever owns it -/
theorem VRel.list {bor : Bool} {ds : List D} {v : V} (h : VRel F bor ω H (.list ds) v) : ∃ a vs, v = .ref a ∧ H a = some (.lst vs) ∧ Reps F ω H ds vs := by
  rcases h with ⟨a, vs, e, h1, _, h3⟩ | ⟨_, a, e, vs, h1, h3⟩
  · exact ⟨a, vs, e, h1, h3⟩
  · exact ⟨a, vs, e, h1, h3⟩
theorem VRel.tup {bor : Bool} {ds : List D} {v : V} (h : VRel F bor ω H (.tuple ds) v) : ∃ a vs, v = .ref a ∧ TupAt F ω H a vs ∧ Reps F ω H ds vs := by
  rcases h with ⟨a, vs, e, h1, h3⟩ | ⟨_, a, e, h⟩
  · exact ⟨a, vs, e, h1, h3⟩
  · exact h.elim
theorem VRel.int {bor : Bool} {i : Int} {v : V} (h : VRel F bor ω H (.int i) v) : v = .int i := by
  rcases h with h | ⟨_, a, e, h⟩
  · exact h
  · exact h.elim
theorem VRel.bool {bor : Bool} {i : Bool} {v : V} (h : VRel F bor ω H (.bool i) v) : v = .bl i := by
  rcases h with h | ⟨_, a, e, h⟩
  · exact h
  · exact h.elim
theorem VRel.str {bor : Bool} {i : Str} {v : V} (h : VRel F bor ω H (.str i) v) : v = .str i := by
  rcases h with h | ⟨_, a, e, h⟩
  · exact h
  · exact h.elim
theorem VRel.pure {d : D} {v : V} (h : VRel F false ω H d v) : Rep F ω H d v := by
  rcases h with h | ⟨e, _⟩
  · exact h
  · cases e
theorem asCell_eq {d : D} {r : Nat} (h : asCell d = some r) : d = cellD r := by
  unfold asCell at h
  split at h
  · cases h
    rfl
  · cases h
/-- a cell's reference -/
theorem VRel.cell {bor : Bool} {d : D} {r : Nat} {v : V} (e : asCell d = some r) (h : VRel F bor ω H d v) : r < ω.n ∧ v = .ref (ω.ad r "") := by
  have e1 := asCell_eq e
  subst e1
  have noP : ∀ vs, ¬ RepP F ω H [((.dict [] : D), (.int r : D))] vs := fun vs h => by
    obtain ⟨k', v, r', _, h2, _⟩ := h
    exact h2.elim
  rcases h with h | ⟨_, a, rfl, h⟩
  · rcases h with ⟨r', h1, h2, h3⟩ | ⟨a, ns, h1, _⟩ | ⟨a, vs, _, _, _, h3⟩
    · have z : asCell (cellD r) = some r' := h1
      have z2 : some r = some r' := z
      cases z2
      exact ⟨h2, h3⟩
    · unfold scrD at h1
      simp at h1
    · exact (noP _ h3).elim
  · obtain ⟨vs, _, h2⟩ := h
    exact (noP _ h2).elim
end

/-- an operator by its meaning: a (perhaps owned by somebody) and b; the result is new or a part of theirs -/
def Op2 (X : Cx) (F : Fx) (ba bb : Bool) (r : R2) (sem : D → D → Option D) : Prop :=
  ∀ (wr : Wr) (ω : Om) (m : M) (H : Hp) (x y : V) (dx dy d : D) (Q : VK), Cells F ω m H → TabInv F H → VRel F ba ω H dx x → VRel F bb ω H dy y → sem dx dy = some d →
    (∀ ω' v H', Po F wr ω m H ω' m H' → Rep F ω' H' d v → Q v H') → r x y H Q
section
variable {X : Cx} {F : Fx}
/-- the operators of a BinOp -/
def rBin : BOp → PySem.W.Frag → R2
  | .add, K => fun x y H Q => rI0 (fun i j => .int (i + j)) x y H Q ∨ (∃ i j, x = .str i ∧ y = .str j ∧ i.length + j.length ≤ sizeLine ∧ Q (.str (i ++ j)) H) ∨ rCat x y H Q ∨ rCatA K x y H Q
  | .sub, _ => rI0 fun i j => .int (i - j)
  | .mul, _ => fun x y H Q => rI CMul (fun i j => .int (i * j)) x y H Q ∨ rI CMulW (fun i j => .int (i * j)) x y H Q ∨ rRep x y H Q
  | .fdiv, _ => rI CDivW fun i j => .int (i / j)
  | .mod, _ => rI (fun _ j => 0 < j) fun i j => .int (i % j)
  | .pow, _ => rI CPow fun i j => .int (i ^ j.toNat)
def pyB : BOp → Operator
  | .add => .Add | .sub => .Sub | .mul => .Mult | .fdiv => .FloorDiv | .mod => .Mod | .pow => .Pow
theorem OpR_or {f : Value → Value → Sem Value} {r r' : R2} (h : OpR X f r) (h' : OpR X f r') : OpR X f (fun x y H Q => r x y H Q ∨ r' x y H Q) := h.or h'
theorem or_bin (o : BOp) : OpR X (binaryOp (pyB o)) (rBin o X.K) := by
  cases o with
  | add => exact OpR_or op_add (OpR_or op_add_str (OpR_or op_cat op_catA))
  | sub => exact op_sub
  | mul => exact OpR_or op_mul (OpR_or op_mulW op_rep)
  | fdiv => exact op_fdivW
  | mod => exact op_mod
  | pow => exact op_pow
theorem Reps.rep : ∀ {ω : Om} {H : Hp} (k : Nat) {xs : List D} {vs : List V}, Reps F ω H xs vs → Reps F ω H (List.replicate k xs).flatten (List.replicate k vs).flatten
  | ω, H, 0, _, _, _ => rfl
  | ω, H, k + 1, xs, vs, h => by
    rw [List.replicate_succ, List.replicate_succ, List.flatten_cons, List.flatten_cons]
    exact Reps.app h (Reps.rep k h)
theorem bin_sound (o : BOp) (hK : X.K = F.K) : Op2 X F false false (rBin o X.K) (semBin o) := by
  intro wr ω m H x y dx dy d Q C T hx hy hs hQ
  have hx := hx.pure
  have hy := hy.pure
  have q0 : ∀ {v : V}, Rep F ω H d v → Q v H := fun r => hQ ω _ H (Po.refl C T) r
  have newL : ∀ {ds es : List D} {p : Addr} {vs us : List V}, d = .list ds → Reps F ω H ds vs → H p = none → Q (.ref p) (upd H p (.lst vs)) := fun {ds es p vs us} e h hp => by
    subst e
    refine hQ (ω.out p) _ _ (Po.new C T hp) ⟨p, vs, rfl, upd_same, fun z => z.2 rfl, Reps.stays ((Po.new (wr := wr) (o := .lst vs) C T hp).stays C) _ _ h⟩
  have newT : ∀ {ds es : List D} {p : Addr} {vs us : List V}, d = .tuple ds → Reps F ω H ds vs → H p = none → Q (.ref p) (upd H p (.tup vs)) := fun {ds es p vs us} e h hp => by
    subst e
    refine hQ (ω.out p) _ _ (Po.new C T hp) ⟨p, vs, rfl, .inl ⟨upd_same, fun z => z.2 rfl⟩, Reps.stays ((Po.new (wr := wr) (o := .tup vs) C T hp).stays C) _ _ h⟩
  unfold semBin at hs
  split at hs
  · cases hs
    exact .inl ⟨_, _, hx, hy, q0 rfl⟩
  · split at hs
    · cases hs
      rename_i hl
      exact .inr (.inl ⟨_, _, hx, hy, hl, q0 rfl⟩)
    · cases hs
  · split at hs
    · cases hs
      rename_i hl
      obtain ⟨a, vs, rfl, h1, _, h3⟩ := hx
      obtain ⟨b, us, rfl, k1, _, k3⟩ := hy
      refine .inr (.inr (.inl ⟨a, b, vs, us, rfl, rfl, h1, k1, by rw [h3.length, k3.length]; exact hl, fun p hp => newL (es := []) (us := []) rfl (Reps.app h3 k3) hp⟩))
    · cases hs
  · split at hs
    · cases hs
      rename_i hl
      obtain ⟨a, vs, rfl, h1, h3⟩ := hx
      obtain ⟨b, us, rfl, k1, k3⟩ := hy
      refine .inr (.inr (.inr ⟨a, b, vs, us, rfl, rfl, by rw [hK]; exact h1.sq, by rw [hK]; exact k1.sq, by rw [h3.length, k3.length]; exact hl, fun e => ?_, fun _ e => ?_, fun _ _ p hp => newT (es := []) (us := []) rfl (Reps.app h3 k3) hp⟩))
      · subst e
        refine q0 ⟨b, us, rfl, k1, ?_⟩
        have := h3.length
        simp at this
        have e2 := List.length_eq_zero_iff.mp this.symm
        rw [e2]
        exact k3
      · subst e
        refine q0 ⟨a, vs, rfl, h1, ?_⟩
        have := k3.length
        simp at this
        have e2 := List.length_eq_zero_iff.mp this.symm
        rw [e2, List.append_nil]
        exact h3
    · cases hs
  · cases hs
    exact ⟨_, _, hx, hy, q0 rfl⟩
  · split at hs
    · cases hs
      rename_i i j hm
      unfold mulOk at hm
      rw [Bool.or_eq_true, Bool.or_eq_true, decide_eq_true_eq, decide_eq_true_eq, decide_eq_true_eq] at hm
      rcases hm with (hm | hm) | hm
      · exact .inl ⟨_, _, hx, hy, .inl (by omega), q0 rfl⟩
      · exact .inl ⟨_, _, hx, hy, .inr (by omega), q0 rfl⟩
      · exact .inr (.inl ⟨_, _, hx, hy, hm, q0 rfl⟩)
    · cases hs
  · split at hs
    · cases hs
      rename_i hl
      obtain ⟨a, vs, rfl, h1, _, h3⟩ := hx
      refine .inr (.inr ⟨a, _, vs, rfl, hy, h1, hl.2.1, hl.1, by rw [h3.length]; exact hl.2.2, fun p hp => newL (es := []) (us := []) rfl (Reps.rep _ h3) hp⟩)
    · cases hs
  · split at hs
    · cases hs
      rename_i hl
      exact ⟨_, _, hx, hy, hl, q0 rfl⟩
    · cases hs
  · split at hs
    · cases hs
      rename_i hl
      exact ⟨_, _, hx, hy, hl, q0 rfl⟩
    · cases hs
  · split at hs
    · cases hs
      rename_i hl
      exact ⟨_, _, hx, hy, ⟨hl.1, by omega, hl.2.2⟩, q0 rfl⟩
    · cases hs
  · cases hs
end
end Ev
end
section
set_option linter.all false
set_option autoImplicit false
set_option maxRecDepth 100000
/-! Ev, part F: comparisons, items, slices. -/
namespace Ev
open PySem L2

section
variable {X : Cx} {F : Fx}
def rInT (K : PySem.W.Frag) (neg : Bool) : R2 := fun x y H Q => ∃ d ds, Dp K H x d ∧ Dp K H y (.tuple ds) ∧ SeqAt.shaped d = true ∧ SeqAt.shaped (.tuple ds) = true ∧ Q (.bl (if neg then !(ds.any fun z => PyData.eqv z d) else ds.any fun z => PyData.eqv z d)) H
theorem op_inT (hu : X.A.units + 65 < cLine) : OpR X (compareOp .In) (rInT X.K false) := by
  intro pins s σ H x y v u Q I rx ry h
  obtain ⟨d, ds, hd, he, sd, se, q⟩ := h
  obtain ⟨as, r1⟩ := Dp.reads I d x v hd rx
  obtain ⟨bs, r2⟩ := Dp.reads I (.tuple ds) y u he ry
  exact SeqAt.in_tuple_reads r2 r1 (SeqAt.canLay_of_shaped se) (SeqAt.canLay_of_shaped sd) (PyProof.Rows.room_in_shaped sd hu) ⟨.bl _, H, I, rfl, q⟩
theorem op_notInT (hu : X.A.units + 65 < cLine) : OpR X (compareOp .NotIn) (rInT X.K true) := by
  intro pins s σ H x y v u Q I rx ry h
  obtain ⟨d, ds, hd, he, sd, se, q⟩ := h
  obtain ⟨as, r1⟩ := Dp.reads I d x v hd rx
  obtain ⟨bs, r2⟩ := Dp.reads I (.tuple ds) y u he ry
  exact SeqAt.notIn_tuple_reads r2 r1 (SeqAt.canLay_of_shaped se) (SeqAt.canLay_of_shaped sd) (PyProof.Rows.room_in_shaped sd hu) ⟨.bl _, H, I, rfl, q⟩
def pyC : COp → CmpOp
  | .lt => .Lt | .le => .LtE | .gt => .Gt | .ge => .GtE | .eq => .Eq | .ne => .NotEq | .isin => .In | .notin => .NotIn | .isN => .Is | .notN => .IsNot
def rCmp : COp → PySem.W.Frag → R2
  | .lt, _ => rI0 fun i j => .bl (decide (i < j))
  | .le, _ => rI0 fun i j => .bl (decide (i ≤ j))
  | .gt, _ => rI0 fun i j => .bl (decide (j < i))
  | .ge, _ => rI0 fun i j => .bl (decide (j ≤ i))
  | .eq, K => rEqD K
  | .ne, K => rNeD K
  | .isin, K => fun x y H Q => rInD K x y H Q ∨ rInT K false x y H Q ∨ ∃ (c : Nat) (z : Str), x = .str ⟨#[c]⟩ ∧ y = .str z ∧ Q (.bl (decide (c ∈ z.cps.toList))) H
  | .notin, K => fun x y H Q => rNotInD K x y H Q ∨ rInT K true x y H Q ∨ ∃ (c : Nat) (z : Str), x = .str ⟨#[c]⟩ ∧ y = .str z ∧ Q (.bl (!decide (c ∈ z.cps.toList))) H
  | .isN, _ => fun x y H Q => y = .non ∧ Q (.bl (decide (x = .non))) H
  | .notN, _ => fun x y H Q => y = .non ∧ Q (.bl (!decide (x = .non))) H
theorem or_cmp {k : Nat} (o : COp) (hr : Room k X.A) : OpR X (compareOp (pyC o)) (rCmp o X.K) := by
  have hu : X.A.units + 64 < cLine := hr.units
  have hu2 : X.A.units + 65 < cLine := by have := hr.un; omega
  cases o with
  | lt => exact op_lt
  | le => exact op_le
  | gt => exact op_gt
  | ge => exact op_ge
  | eq => exact op_eqD hu
  | ne => exact op_neD hu
  | isin => exact OpR_or (op_inD hu2) (OpR_or (op_inT hu2) op_in_sign)
  | notin => exact OpR_or (op_notInD hu2) (OpR_or (op_notInT hu2) op_notIn_sign)
  | isN => exact op_isN
  | notN => exact op_notN
theorem str_one {c : Str} (h : c.length = 1) : c = ⟨#[c.cps.getD 0 0]⟩ := by
  obtain ⟨⟨l⟩⟩ := c
  match l, h with
  | [x], _ => rfl
theorem VRel.isNone {bor : Bool} {ω : Om} {H : Hp} {d : D} {v : V} (h : VRel F bor ω H d v) : decide (v = .non) = isNoneD d := by
  cases d with
  | none =>
    rcases h with h | ⟨_, a, e, h⟩
    · have h : v = .non := h
      subst h
      rfl
    · exact h.elim
  | bool b => rw [h.bool]; rfl
  | int i => rw [h.int]; rfl
  | str i => rw [h.str]; rfl
  | list ds =>
    obtain ⟨a, vs, rfl, _⟩ := h.list
    rfl
  | tuple ds =>
    obtain ⟨a, vs, rfl, _⟩ := h.tup
    rfl
  | dict ds =>
    rcases h with h | ⟨_, a, rfl, h⟩
    · rcases h with ⟨r, _, _, rfl⟩ | ⟨a, ns, _, rfl, _⟩ | ⟨a, vs, rfl, _⟩
      · rfl
      · rfl
      · rfl
    · rfl
/-- a comparison by its meaning -/
theorem cmp_sound (o : COp) (hK : X.K = F.K) {ba bb : Bool} {ω ω₂ : Om} {H : Hp} {x y : V} {dx dy : D} {c : Bool} {Q : VK} (hx : VRel F ba ω H dx x) (hy : VRel F bb ω₂ H dy y) (hs : semCmp o dx dy = some c) (q : Q (.bl c) H) : rCmp o X.K x y H Q := by
  rw [hK]
  unfold semCmp at hs
  split at hs
  · cases hs; exact ⟨_, _, hx.int, hy.int, q⟩
  · cases hs; exact ⟨_, _, hx.int, hy.int, q⟩
  · cases hs; exact ⟨_, _, hx.int, hy.int, q⟩
  · cases hs; exact ⟨_, _, hx.int, hy.int, q⟩
  · unfold eqS at hs
    split at hs
    · rename_i hsh
      cases hs
      rw [Bool.and_eq_true] at hsh
      exact ⟨dx, dy, hx.dp hsh.1, hy.dp hsh.2, hsh.1, hsh.2, q⟩
    · cases hs
  · unfold eqS at hs
    split at hs
    · rename_i hsh
      cases hs
      rw [Bool.and_eq_true] at hsh
      exact ⟨dx, dy, hx.dp hsh.1, hy.dp hsh.2, hsh.1, hsh.2, q⟩
    · cases hs
  · unfold semIn at hs
    split at hs
    · split at hs
      · rename_i hsh
        cases hs
        rw [Bool.and_eq_true] at hsh
        exact .inl ⟨dx, _, hx.dp hsh.1, hy.dp hsh.2, hsh.1, hsh.2, q⟩
      · cases hs
    · split at hs
      · rename_i hsh
        cases hs
        rw [Bool.and_eq_true] at hsh
        exact .inr (.inl ⟨dx, _, hx.dp hsh.1, hy.dp hsh.2, hsh.1, hsh.2, q⟩)
      · cases hs
    · split at hs
      · split at hs
        · rename_i hl
          cases hs
          exact .inr (.inr ⟨_, _, by rw [hx.str]; exact congrArg V.str (str_one hl), hy.str, q⟩)
        · cases hs
      · cases hs
    · cases hs
  · unfold semIn at hs
    split at hs
    · split at hs
      · rename_i hsh
        cases hs
        rw [Bool.and_eq_true] at hsh
        exact .inl ⟨dx, _, hx.dp hsh.1, hy.dp hsh.2, hsh.1, hsh.2, q⟩
      · cases hs
    · split at hs
      · rename_i hsh
        cases hs
        rw [Bool.and_eq_true] at hsh
        exact .inr (.inl ⟨dx, _, hx.dp hsh.1, hy.dp hsh.2, hsh.1, hsh.2, q⟩)
      · cases hs
    · split at hs
      · split at hs
        · rename_i hl
          cases hs
          exact .inr (.inr ⟨_, _, by rw [hx.str]; exact congrArg V.str (str_one hl), hy.str, q⟩)
        · cases hs
      · cases hs
    · cases hs
  · cases hs
    refine ⟨?_, ?_⟩
    · rcases hy with hy | ⟨_, a, e, h⟩
      · exact hy
      · exact h.elim
    · show Q (.bl (decide (x = .non))) H
      rw [hx.isNone]
      exact q
  · cases hs
    refine ⟨?_, ?_⟩
    · rcases hy with hy | ⟨_, a, e, h⟩
      · exact hy
      · exact h.elim
    · show Q (.bl (!decide (x = .non))) H
      rw [hx.isNone]
      exact q
  · cases hs

theorem Reps.atI {ω : Om} {H : Hp} {xs : List D} {vs : List V} {i : Int} {d : D} (h : Reps F ω H xs vs) (e : L2.atI xs i = some d) : ∃ v, L2.atI vs i = some v ∧ Rep F ω H d v := by
  unfold L2.atI at e ⊢
  rw [h.length]
  cases hx : ixN xs.length i with
  | none => rw [hx] at e; cases e
  | some j =>
    rw [hx] at e
    exact Reps.get h e
/-- an item by its meaning -/
theorem idx_sound (hK : X.K = F.K) {ba bb : Bool} {ω ω₂ : Om} {m : M} {H : Hp} {x y : V} {dx dy d : D} {Q : VK} (C : Cells F ω m H) (hx : VRel F ba ω H dx x) (hy : VRel F bb ω₂ H dy y) (hs : semIdx m dx dy = some d) (q : ∀ v, Rep F ω H d v → Q v H) : rIx X.K x y H Q := by
  rw [hK]
  unfold semIdx at hs
  split at hs
  · obtain ⟨a, vs, rfl, h1, h2⟩ := hx.list
    obtain ⟨v, e1, e2⟩ := h2.atI hs
    exact .inl ⟨a, vs, _, v, rfl, hy.int, SqL.of h1, e1, q v e2⟩
  · obtain ⟨a, vs, rfl, h1, h2⟩ := hx.tup
    obtain ⟨v, e1, e2⟩ := h2.atI hs
    exact .inr (.inl ⟨a, vs, _, v, rfl, hy.int, h1.sq, e1, q v e2⟩)
  · split at hs
    · rename_i hl
      cases hc : L2.atI (Str.cps _).toList _ with
      | none => rw [hc] at hs; cases hs
      | some c =>
        rw [hc] at hs
        cases hs
        exact .inr (.inr ⟨_, _, c, hx.str, hy.int, hl, hc, q _ rfl⟩)
    · cases hs
  · split at hs
    · rename_i r hr
      cases hm : m[r]? with
      | none => simp [hm] at hs
      | some c =>
        cases c with
        | ins c fs => simp [hm] at hs
        | dic lk kvs => simp [hm] at hs
        | lst xs =>
          cases dy with
          | int i =>
            simp only [hm] at hs
            obtain ⟨h1, rfl⟩ := hx.cell hr
            obtain ⟨vs, h2, h3⟩ := C.at_ _ _ hm
            obtain ⟨v, e1, e2⟩ := h3.atI hs
            exact .inl ⟨_, vs, _, v, rfl, hy.int, SqL.of h2, e1, q v e2⟩
          | none => simp [hm] at hs
          | bool _ => simp [hm] at hs
          | str _ => simp [hm] at hs
          | list _ => simp [hm] at hs
          | tuple _ => simp [hm] at hs
          | dict _ => simp [hm] at hs
    · cases hs
def rSlAll (K : PySem.W.Frag) : V → Option Int → Option Int → Hp → VK → Prop := fun x lo hi H Q => rSlL K x lo hi H Q ∨ rSlA K x lo hi H Q
theorem sl_all : SlR X (rSlAll X.K) := SlR.or sl_list sl_tupA
theorem asScr_eq {d : D} {xs : List D} (h : asScr d = some xs) : d = .dict [(.list [], .list xs)] := by
  unfold asScr at h
  split at h
  · cases h
    rfl
  · cases h
theorem Reps.ints {ω : Om} {H : Hp} : ∀ ns : List Int, Reps F ω H (ns.map .int) (ns.map V.int)
  | [] => rfl
  | n :: ns => ⟨_, _, rfl, rfl, Reps.ints ns⟩
theorem Reps.cut {ω : Om} {H : Hp} {xs : List D} {vs : List V} (h : Reps F ω H xs vs) (lo hi : Option Int) : Reps F ω H (semSlc.cutV' xs lo hi) (cutV vs lo hi) := by
  unfold semSlc.cutV' cutV
  rw [h.length]
  exact (h.drop _).take _
theorem cut_whole {vs : List V} {lo hi : Option Int} (h : HT.sIx vs.length 0 lo = 0 ∧ HT.sIx vs.length vs.length hi = vs.length) : cutV vs lo hi = vs := by
  unfold cutV
  rw [h.1, h.2]
  simp
theorem slc_sound (hK : X.K = F.K) {wr : Wr} {ω : Om} {m : M} {H : Hp} {x : V} {dx d : D} {lo hi : Option Int} {Q : VK} (C : Cells F ω m H) (T : TabInv F H) (hx : Rep F ω H dx x) (hs : semSlc dx lo hi = some d)
    (hQ : ∀ ω' v H', Po F wr ω m H ω' m H' → Rep F ω' H' d v → Q v H') : rSlAll X.K x lo hi H Q := by
  rw [hK]
  have newL : ∀ {ds : List D} {p : Addr} {vs : List V}, d = .list ds → Reps F ω H ds vs → H p = none → Q (.ref p) (upd H p (.lst vs)) := fun {ds p vs} e h hp => by
    subst e
    exact hQ (ω.out p) _ _ (Po.new C T hp) ⟨p, vs, rfl, upd_same, fun z => z.2 rfl, Reps.stays ((Po.new (wr := wr) (o := .lst vs) C T hp).stays C) _ _ h⟩
  unfold semSlc at hs
  split at hs
  · cases hs
    obtain ⟨a, vs, rfl, h1, _, h2⟩ := hx
    exact .inl ⟨a, vs, rfl, SqL.of h1, fun p hp => newL rfl (h2.cut lo hi) hp⟩
  · cases hs
    obtain ⟨a, vs, rfl, h1, h2⟩ := hx
    refine .inr ⟨a, vs, rfl, h1.sq, fun e => ?_, fun _ p hp => ?_⟩
    · refine hQ ω _ H (Po.refl C T) ⟨a, vs, rfl, h1, ?_⟩
      have z := h2.cut lo hi
      rw [cut_whole e] at z
      exact z
    · exact hQ (ω.out p) _ _ (Po.new C T hp) ⟨p, _, rfl, .inl ⟨upd_same, fun z => z.2 rfl⟩, Reps.stays ((Po.new (wr := wr) (o := .tup (cutV vs lo hi)) C T hp).stays C) _ _ (h2.cut lo hi)⟩
  · cases hc : asScr dx with
    | none => rw [hc] at hs; cases hs
    | some xs =>
      rw [hc] at hs
      cases hs
      have e := asScr_eq hc
      subst e
      rcases hx with ⟨r, h1, _⟩ | ⟨a, ns, h1, rfl, h2⟩ | ⟨a, vs, _, _, _, h3⟩
      · cases h1
      · unfold scrD at h1
        simp at h1
        subst h1
        exact .inl ⟨a, _, rfl, h2.sq, fun p hp => newL rfl ((Reps.ints ns).cut lo hi) hp⟩
      · obtain ⟨k', v, r', _, h2, _⟩ := h3
        exact h2.elim
end
end Ev
end
section
set_option linter.all false
set_option autoImplicit false
set_option maxRecDepth 100000
/-! Ev, part G: expressions, one by one. -/
namespace Ev
open PySem L2

section
variable {X : Cx} {F : Fx} {W : Wd} {Wx : WX} {pos : Pos}
abbrev evE (W : Wd) (e : Ex) : Wr → Ga → M → R D := fun wr g m => ev W e wr g m
theorem Fin.ok {α β : Type} {rel : Om → Hp → α → β → Prop} {wr : Wr} {σ : L2.St} {Q : β → Hp → Prop} {ω : Om} {m : M} {H : Hp} {d : α} {v : β} (h : Fin F Wx wr σ rel Q ω m H (.ok d m)) (S : Cells F ω m H) (T : TabInv F H) (r : rel ω H d v) : Q v H := h ω v H (Po.refl S T) r
theorem s_nm {i : Nat} {x : Str} (hN : X.N[i]? = some x) (hv : Vis X.env.scope x) (hd : (x == ("__debug__" : Str)) = false) (hcd : (x == ("__classdict__" : Str)) = false) : PE X (.Name x pos) (LE F Wx false (evE W (.nm i))) := by
  refine PE_imp (pe_var hN hv hd hcd) fun σ H Q h => ?_
  obtain ⟨ω, g, m, wr, S, h⟩ := h
  simp only [evE, ev] at h
  split at h
  · rename_i d e
    obtain ⟨v, e1, e2⟩ := S.sl.val i d e
    exact ⟨v, e1, h.ok S.ce S.tb (.inl e2)⟩
  · exact h.elim
theorem s_pk {i : Nat} {x : Str} (hN : X.N[i]? = some x) (hv : Vis X.env.scope x) (hd : (x == ("__debug__" : Str)) = false) (hcd : (x == ("__classdict__" : Str)) = false) : PE X (.Name x pos) (LE F Wx true (evE W (.pk i))) := by
  refine PE_imp (pe_var hN hv hd hcd) fun σ H Q h => ?_
  obtain ⟨ω, g, m, wr, S, h⟩ := h
  simp only [evE, ev] at h
  split at h
  · rename_i b d e
    cases b with
    | false =>
      obtain ⟨v, e1, e2⟩ := S.sl.val i d e
      exact ⟨v, e1, h.ok S.ce S.tb (.inl e2)⟩
    | true =>
      obtain ⟨e1, e2, _, _⟩ := S.sl.own i d e
      exact ⟨_, e1, h.ok S.ce S.tb (.inr ⟨rfl, _, rfl, e2.v⟩)⟩
  · exact h.elim
/-- a constant, by its own rule -/
theorem s_c {py : Expr} {d : D} {v : V} (hp : PE X py (tC v)) (r : ∀ ω H, Rep F ω H d v) {f : Wr → Ga → M → R D} (hf : ∀ wr g m, f wr g m = .ok d m) : PE X py (LE F Wx false f) := by
  refine PE_imp hp fun σ H Q h => ?_
  obtain ⟨ω, g, m, wr, S, h⟩ := h
  rw [hf] at h
  exact h.ok S.ce S.tb (.inl (r ω H))
theorem s_cst_int {i : Int} {j : Nat} : PE X (.Constant (.int i) j pos) (LE F Wx false (evE W (.cst (.int i)))) := s_c (d := .int i) pe_int (fun _ _ => rfl) fun _ _ _ => by simp only [evE, ev]
theorem s_cst_str {i : Str} {j : Nat} : PE X (.Constant (.str i) j pos) (LE F Wx false (evE W (.cst (.str i)))) := s_c (d := .str i) pe_str (fun _ _ => rfl) fun _ _ _ => by simp only [evE, ev]
theorem s_cst_bl {i : Bool} {j : Nat} : PE X (.Constant (.bool i) j pos) (LE F Wx false (evE W (.cst (.bool i)))) := s_c (d := .bool i) pe_bl (fun _ _ => rfl) fun _ _ _ => by simp only [evE, ev]
theorem s_cst_non {j : Nat} : PE X (.Constant .none j pos) (LE F Wx false (evE W (.cst .none))) := s_c (d := .none) pe_non (fun _ _ => rfl) fun _ _ _ => by simp only [evE, ev]
theorem s_glb {k : Nat} {x : Str} {u : Value} {v : V} (hg : Gl X x) (hm : X.mg x = some u) (r : RelV v u) (hr : ∀ ω H, Rep F ω H (W.glb k) v) (hd : (x == ("__debug__" : Str)) = false) : PE X (.Name x pos) (LE F Wx false (evE W (.glb k))) :=
  s_c (pe_glob hg hm r hd) hr fun _ _ _ => by simp only [evE, ev]

/-- two values in a row -/
theorem s_two {a b : Expr} {fa fb : Wr → Ga → M → R D} {k : D → D → M → R D} {σ : L2.St} {H : Hp} {rel : Om → Hp → D → V → Prop} {Q : VK} {G : V → V → Hp → Prop}
    (h : LG F Wx rel (fun wr g m => (fa wr g m).bind fun x m1 => (fb wr g m1).bind fun y m2 => k x y m2) σ H Q)
    (hG : ∀ ω g m wr x y dx dy H2, Stt F ω g m σ H2 → Rep F ω H2 dx x → Rep F ω H2 dy y → Fin F Wx wr σ rel Q ω m H2 (k dx dy m) → G x y H2) :
    LE F Wx false fa σ H fun x H1 => LE F Wx false fb σ H1 fun y H2 => G x y H2 := by
  obtain ⟨ω, g, m, wr, S, h⟩ := h
  refine LG.of S (Fin.mono (fun x H1 hx => ?_) (Fin.bind (rel := VRel F false) S.ce h))
  obtain ⟨ω1, dx, m1, e1, p1, r1, h1⟩ := hx
  have S1 := S.po p1
  refine LG.of S1 (Fin.mono (fun y H2 hy => ?_) (Fin.bind (rel := VRel F false) S1.ce h1))
  obtain ⟨ω2, dy, m2, e2, p2, r2, h2⟩ := hy
  exact hG ω2 g m2 wr x y dx dy H2 (S1.po p2) (Rep.stays (p2.stays S1.ce) _ _ r1.pure) r2.pure h2
theorem LG.congr {α β : Type} {rel : Om → Hp → α → β → Prop} {f f' : Wr → Ga → M → R α} {σ : L2.St} {H : Hp} {Q : β → Hp → Prop} (e : ∀ wr g m, f wr g m = f' wr g m) (h : LG F Wx rel f σ H Q) : LG F Wx rel f' σ H Q := by
  obtain ⟨ω, g, m, wr, S, h⟩ := h
  rw [e] at h
  exact LG.of S h
theorem Fin.of {rel : Om → Hp → D → V → Prop} {wr : Wr} {σ : L2.St} {Q : VK} {ω : Om} {m : M} {H : Hp} {o : Option D} (h : Fin F Wx wr σ rel Q ω m H (R.of o m)) : ∃ d, o = some d ∧ ∀ ω' v H', Po F wr ω m H ω' m H' → rel ω' H' d v → Q v H' := by
  cases o with
  | none => exact h.elim
  | some d => exact ⟨d, rfl, h⟩
theorem s_bin (hK : X.K = F.K) {o : BOp} {ea eb : Ex} {a b : Expr} (na : isB ea = false) (nb : isB eb = false) (ha : PE X a (LE F Wx false (evE W ea))) (hb : PE X b (LE F Wx false (evE W eb))) : PE X (.BinOp a (pyB o) b pos) (LE F Wx false (evE W (.bin o ea eb))) := by
  refine PE_imp (pe_op (or_bin o) ha hb) fun σ H Q h => ?_
  have h := LG.congr (f' := fun wr g m => (evE W ea wr g m).bind fun x m1 => (evE W eb wr g m1).bind fun y m2 => R.of (semBin o x y) m2) (fun wr g m => by simp only [evE, ev, na, nb, Bool.or_self, Bool.false_eq_true, if_false]) h
  refine s_two (a := a) (b := b) h fun ω g m wr x y dx dy H2 S rx ry hf => ?_
  obtain ⟨d, e, q⟩ := hf.of
  exact bin_sound o hK wr ω m H2 x y dx dy d Q S.ce S.tb (.inl rx) (.inl ry) e fun ω' v H' p r => q ω' v H' p (.inl r)
theorem s_neg {ea : Ex} {a : Expr} (na : isB ea = false) (ha : PE X a (LE F Wx false (evE W ea))) : PE X (.UnaryOp .USub a pos) (LE F Wx false (evE W (.neg ea))) := by
  refine PE_imp (pe_un un_neg ha) fun σ H Q h => ?_
  obtain ⟨ω, g, m, wr, S, h⟩ := h
  simp only [evE, ev] at h
  refine LG.of S (Fin.mono (fun x H1 hx => ?_) (Fin.bind (rel := VRel F false) S.ce h))
  obtain ⟨ω1, dx, m1, e1, p1, r1, h1⟩ := hx
  cases dx with
  | int i => exact ⟨i, r1.int, h1.ok p1.cells p1.tabs (.inl rfl)⟩
  | _ => exact h1.elim
theorem s_not {ea : Ex} {a : Expr} (na : isB ea = false) (ha : PE X a (LE F Wx false (evE W ea))) : PE X (.UnaryOp .Not a pos) (LE F Wx false (evE W (.not ea))) := by
  refine PE_imp (pe_not ha) fun σ H Q h => ?_
  obtain ⟨ω, g, m, wr, S, h⟩ := h
  simp only [evE, ev] at h
  refine LG.of S (Fin.mono (fun x H1 hx => ?_) (Fin.bind (rel := VRel F false) S.ce h))
  obtain ⟨ω1, dx, m1, e1, p1, r1, h1⟩ := hx
  cases dx with
  | bool i => exact ⟨i, r1.bool, h1.ok p1.cells p1.tabs (.inl rfl)⟩
  | _ => exact h1.elim
theorem t_not {ea : Ex} {a : Expr} (ha : PT X a (LT F Wx (evE W ea))) : PT X (.UnaryOp .Not a pos) (LT F Wx (evE W (.not ea))) := by
  refine PT_imp (pt_not ha) fun σ H Q h => ?_
  obtain ⟨ω, g, m, wr, S, h⟩ := h
  refine LG.of (wr := wr) S ?_
  simp only [evE, ev] at h ⊢
  cases hx : ev W ea wr g m with
  | stuck => rw [hx] at h; exact h.elim
  | exc c m' => rw [hx] at h; exact h
  | ok d m' =>
    rw [hx] at h
    cases d with
    | bool b => exact fun ω' v H' p r => h ω' (!v) H' p (by rw [show v = b by cases r; rfl]; rfl)
    | _ => exact h.elim
theorem s_and {ea eb : Ex} {a b : Expr} {rest : List Expr} (na : isB ea = false) (nb : isB eb = false) (ha : PE X a (LE F Wx false (evE W ea))) (hb : PE X (.BoolOp .And (b :: rest) pos) (LE F Wx false (evE W eb))) : PE X (.BoolOp .And (a :: b :: rest) pos) (LE F Wx false (evE W (.and ea eb))) := by
  refine PE_imp (pe_and ha hb) fun σ H Q h => ?_
  obtain ⟨ω, g, m, wr, S, h⟩ := h
  simp only [evE, ev, nb, Bool.false_eq_true, if_false] at h
  refine LG.of S (Fin.mono (fun x H1 hx => ?_) (Fin.bind (rel := VRel F false) S.ce h))
  obtain ⟨ω1, dx, m1, e1, p1, r1, h1⟩ := hx
  cases dx with
  | bool i =>
    refine ⟨i, r1.bool, ?_⟩
    cases i with
    | true => exact iteT (LG.of (S.po p1) h1)
    | false => exact iteF (h1.ok p1.cells p1.tabs (.inl rfl))
  | _ => exact h1.elim
theorem s_or {ea eb : Ex} {a b : Expr} {rest : List Expr} (na : isB ea = false) (nb : isB eb = false) (ha : PE X a (LE F Wx false (evE W ea))) (hb : PE X (.BoolOp .Or (b :: rest) pos) (LE F Wx false (evE W eb))) : PE X (.BoolOp .Or (a :: b :: rest) pos) (LE F Wx false (evE W (.or ea eb))) := by
  refine PE_imp (pe_or ha hb) fun σ H Q h => ?_
  obtain ⟨ω, g, m, wr, S, h⟩ := h
  simp only [evE, ev, nb, Bool.false_eq_true, if_false] at h
  refine LG.of S (Fin.mono (fun x H1 hx => ?_) (Fin.bind (rel := VRel F false) S.ce h))
  obtain ⟨ω1, dx, m1, e1, p1, r1, h1⟩ := hx
  cases dx with
  | bool i =>
    refine ⟨i, r1.bool, ?_⟩
    cases i with
    | true => exact iteT (h1.ok p1.cells p1.tabs (.inl rfl))
    | false => exact iteF (LG.of (S.po p1) h1)
  | _ => exact h1.elim
/-- a test's value -/
def asB (r : R D) : R D := r.bind fun d m' => match d with | .bool b => .ok (.bool b) m' | _ => .stuck
theorem LT_cases {fa : Wr → Ga → M → R D} {k : Bool → Wr → Ga → M → R D} {σ : L2.St} {H : Hp} {Q G : Bool → Hp → Prop} {f : Wr → Ga → M → R D}
    (hf : ∀ wr g m, f wr g m = (fa wr g m).bind fun d m1 => match d with | .bool b => k b wr g m1 | _ => .stuck)
    (h : LT F Wx f σ H Q) (hG : ∀ ω g m wr b H1, Stt F ω g m σ H1 → Fin F Wx wr σ RelB Q ω m H1 (asB (k b wr g m)) → G b H1) : LT F Wx fa σ H G := by
  obtain ⟨ω, g, m, wr, S, h⟩ := h
  refine LG.of (wr := wr) S ?_
  have h : Fin F Wx wr σ RelB Q ω m H (asB (f wr g m)) := h
  rw [hf] at h
  show Fin F Wx wr σ RelB G ω m H (asB (fa wr g m))
  cases hx : fa wr g m with
  | stuck => rw [hx] at h; exact h.elim
  | exc c m' => rw [hx] at h; exact h
  | ok d m' =>
    rw [hx] at h
    cases d with
    | bool b =>
      intro ω' v H' p r
      rw [show v = b by cases r; rfl]
      exact hG ω' g m' wr b H' (S.po p) (Fin.shift S.ce p h)
    | _ => exact h.elim
theorem pw_of {op : PySem.BoolOp} {es : List Expr} {t : TT} (h : PT X (.BoolOp op es pos) t) : PW X (.BoolOp op es pos) t := ⟨fun wh pins s σ H Q I hw => h.run pins s σ H Q I hw⟩
theorem t_and {ea eb : Ex} {a b : Expr} {rest : List Expr} (nb : isB eb = false) (ha : PT X a (LT F Wx (evE W ea))) (hb : PT X (.BoolOp .And (b :: rest) pos) (LT F Wx (evE W eb))) : PT X (.BoolOp .And (a :: b :: rest) pos) (LT F Wx (evE W (.and ea eb))) := by
  refine PT_imp (PW.pt (pw_and ha (pw_of hb))) fun σ H Q h => ?_
  refine LT_cases (k := fun b wr g m => if b then ev W eb wr g m else .ok (.bool false) m) (fun wr g m => ?_) h fun ω g m wr b H1 S hf => ?_
  · simp only [evE, ev, nb, Bool.false_eq_true, if_false]
    congr 1
    funext d m1
    cases d with
    | bool b => cases b <;> rfl
    | _ => rfl
  · cases b with
    | true => exact iteT (LG.of S hf)
    | false => exact iteF (hf ω false H1 (Po.refl S.ce S.tb) rfl)
theorem t_or {ea eb : Ex} {a b : Expr} {rest : List Expr} (nb : isB eb = false) (ha : PT X a (LT F Wx (evE W ea))) (hb : PT X (.BoolOp .Or (b :: rest) pos) (LT F Wx (evE W eb))) : PT X (.BoolOp .Or (a :: b :: rest) pos) (LT F Wx (evE W (.or ea eb))) := by
  refine PT_imp (PW.pt (pw_or ha (pw_of hb))) fun σ H Q h => ?_
  refine LT_cases (k := fun b wr g m => if b then .ok (.bool true) m else ev W eb wr g m) (fun wr g m => ?_) h fun ω g m wr b H1 S hf => ?_
  · simp only [evE, ev, nb, Bool.false_eq_true, if_false]
    congr 1
    funext d m1
    cases d with
    | bool b => cases b <;> rfl
    | _ => rfl
  · cases b with
    | true => exact iteT (hf ω true H1 (Po.refl S.ce S.tb) rfl)
    | false => exact iteF (LG.of S hf)
theorem t_one_and {ea : Ex} {a : Expr} (ha : PT X a (LT F Wx (evE W ea))) : PT X (.BoolOp .And [a] pos) (LT F Wx (evE W ea)) := PW.pt (pw_and1 ha)
theorem t_one_or {ea : Ex} {a : Expr} (ha : PT X a (LT F Wx (evE W ea))) : PT X (.BoolOp .Or [a] pos) (LT F Wx (evE W ea)) := PW.pt (pw_or1 ha)
/-- any value as a test -/
theorem t_val {ea : Ex} {a : Expr} {bor : Bool} (he : ∀ whole, isTrue a X.env whole = (do let v ← whole; standAt a.pos; holding [v] (truthy v))) (ha : PE X a (LE F Wx bor (evE W ea))) : PT X a (LT F Wx (evE W ea)) := by
  refine PT_imp (pt_val ha he) fun σ H Q h => ?_
  obtain ⟨ω, g, m, wr, S, h⟩ := h
  refine LG.of S (Fin.mono (fun x H1 hx => ?_) (Fin.bind (rel := VRel F bor) S.ce h))
  obtain ⟨ω1, dx, m1, e1, p1, r1, h1⟩ := hx
  cases dx with
  | bool i => exact ⟨i, r1.bool, h1 ω1 i H1 (Po.refl p1.cells p1.tabs) rfl⟩
  | _ => exact h1.elim
theorem s_ite {et ea eb : Ex} {t a b : Expr} (na : isB ea = false) (nb : isB eb = false) (ht : PT X t (LT F Wx (evE W et))) (ha : PE X a (LE F Wx false (evE W ea))) (hb : PE X b (LE F Wx false (evE W eb))) : PE X (.IfExp t a b pos) (LE F Wx false (evE W (.ite et ea eb))) := by
  refine PE_imp (pe_ifExp ht ha hb) fun σ H Q h => ?_
  obtain ⟨ω, g, m, wr, S, h⟩ := h
  simp only [evE, ev, na, nb, Bool.or_self, Bool.false_eq_true, if_false] at h
  refine LG.of (wr := wr) S ?_
  show Fin F Wx wr σ RelB _ ω m H (asB (ev W et wr g m))
  cases hx : ev W et wr g m with
  | stuck => rw [hx] at h; exact h.elim
  | exc c m' => rw [hx] at h; exact h
  | ok d m' =>
    rw [hx] at h
    cases d with
    | bool b =>
      intro ω' v H' p r
      rw [show v = b by cases r; rfl]
      cases b with
      | true => exact iteT (LG.of (S.po p) (Fin.shift S.ce p h))
      | false => exact iteF (LG.of (S.po p) (Fin.shift S.ce p h))
    | _ => exact h.elim
end
end Ev
end
section
set_option linter.all false
set_option autoImplicit false
set_option maxRecDepth 100000
/-! Ev, part H: comparisons, items, displays, arguments. -/
namespace Ev
open PySem L2

section
variable {X : Cx} {F : Fx} {W : Wd} {Wx : WX} {pos : Pos}
theorem s_two2 {fa fb : Wr → Ga → M → R D} {α β : Type} {ba bb : Bool} {k : D → D → M → R α} {σ : L2.St} {H : Hp} {rel : Om → Hp → α → β → Prop} {Q : β → Hp → Prop} {G : V → V → Hp → Prop}
    (h : LG F Wx rel (fun wr g m => (fa wr g m).bind fun x m1 => with2 ba (fun wr m => fb wr g m) wr m1 fun y m2 => k x y m2) σ H Q)
    (hG : ∀ ω ω₂ g m wr x y dx dy H2, Stt F ω g m σ H2 → VRel F ba ω H2 dx x → VRel F bb ω₂ H2 dy y → Fin F Wx wr σ rel Q ω m H2 (k dx dy m) → G x y H2) :
    LE F Wx ba fa σ H fun x H1 => LE F Wx bb fb σ H1 fun y H2 => G x y H2 := by
  obtain ⟨ω, g, m, wr, S, h⟩ := h
  refine LG.of S (Fin.mono (fun x H1 hx => ?_) (Fin.bind (rel := VRel F ba) S.ce h))
  obtain ⟨ω1, dx, m1, e1, p1, r1, h1⟩ := hx
  have S1 := S.po p1
  cases ba with
  | false =>
    refine LG.of (wr := wr) S1 (Fin.mono (fun y H2 hy => ?_) (Fin.bind (rel := VRel F bb) S1.ce h1))
    obtain ⟨ω2, dy, m2, e2, p2, r2, h2⟩ := hy
    exact hG ω2 ω2 g m2 wr x y dx dy H2 (S1.po p2) (r1.po S1.ce p2 (fun z => by cases z)) r2 h2
  | true =>
    refine LG.of (wr := wr0) S1 ?_
    have h1 : Fin F Wx wr σ rel Q ω1 m1 H1 (match fb wr0 g m1 with | .ok y _ => k dx y m1 | .exc c _ => .exc c m1 | .stuck => .stuck) := h1
    cases hb : fb wr0 g m1 with
    | stuck => rw [hb] at h1; exact h1
    | exc c m' =>
      rw [hb] at h1
      exact fun ω' H' p => h1 _ H' (Po.drop S1.ce p)
    | ok dy m2 =>
      rw [hb] at h1
      intro ω2 y H2 p2 r2
      have d2 : Po F wr ω1 m1 H1 { ω1 with B := ω2.B } m1 H2 := Po.drop S1.ce p2
      have d0 : Po F wr0 ω1 m1 H1 { ω1 with B := ω2.B } m1 H2 := Po.drop S1.ce p2
      exact hG _ ω2 g m1 wr x y dx dy H2 (S1.po d2) (r1.po S1.ce d0 (fun _ => rfl)) r2 (Fin.shift S1.ce d2 h1)
def plainE : Expr → Bool
  | .Starred .. => false
  | .Slice .. => false
  | .Set .. => false
  | _ => true
theorem plain_ix {b : Expr} (h : plainE b = true) : PlainIx b := fun o i => by cases b <;> first | rfl | (simp [plainE] at h)
theorem plain_star {e : Expr} (h : plainE e = true) (es : List Expr) (env : Env) : starEach (e :: es) env = (false, eval e env) :: starEach es env := by cases e <;> first | rfl | (simp [plainE] at h)
theorem plain_beh {e : Expr} (h : plainE e = true) (op : CmpOp) : behindInMarks op e = false := by cases e <;> first | rfl | (simp [plainE] at h)
theorem plain_fold {e : Expr} (h : plainE e = true) (env : Env) : ∀ x, foldedSetIterable e env x = pure x := fun x => by cases e <;> first | rfl | (simp [plainE] at h)
theorem plain_any : ∀ {es : List Expr} (pos : Pos) (env : Env), (es.all plainE) = true → (backTo pos (starEach es env)).any (·.1) = false
  | [], _, _, _ => rfl
  | e :: es, pos, env, h => by
    rw [List.all_cons, Bool.and_eq_true] at h
    rw [plain_star h.1]
    show (false || (backTo pos (starEach es env)).any (·.1)) = false
    rw [plain_any pos env h.2]
    rfl
theorem cmp_fin (o : COp) (hK : X.K = F.K) {wr : Wr} {σ : L2.St} {ba bb : Bool} {ω ω₂ : Om} {m : M} {H : Hp} {x y : V} {dx dy : D} {Q : VK} (C : Cells F ω m H) (T : TabInv F H) (hx : VRel F ba ω H dx x) (hy : VRel F bb ω₂ H dy y)
    (h : Fin F Wx wr σ (VRel F false) Q ω m H (R.of ((semCmp o dx dy).map .bool) m)) : rCmp o X.K x y H Q := by
  obtain ⟨d, e, q⟩ := h.of
  cases hc : semCmp o dx dy with
  | none => rw [hc] at e; cases e
  | some c =>
    rw [hc] at e
    cases e
    exact cmp_sound o hK hx hy hc (q ω _ H (Po.refl C T) (.inl rfl))
theorem asB_bind {α : Type} (x : R α) (k : α → M → R D) : asB (x.bind k) = x.bind fun a m => asB (k a m) := by cases x <;> rfl
theorem asB_with2 (bor : Bool) (b : Wr → M → R D) (wr : Wr) (m : M) (k : D → M → R D) : asB (with2 bor b wr m k) = with2 bor b wr m fun y m => asB (k y m) := by
  unfold with2
  cases bor with
  | true =>
    simp only [if_true]
    cases b wr0 m <;> rfl
  | false =>
    simp only [Bool.false_eq_true, if_false]
    exact asB_bind _ _
theorem s_cmp {n : Nat} (hK : X.K = F.K) (hr : Room n X.A) {o : COp} {ea eb : Ex} {a b : Expr} (pb : plainE b = true) (ha : PE X a (LE F Wx (isB ea) (evE W ea))) (hb : PE X b (LE F Wx (isB eb) (evE W eb))) : PE X (.Compare a [pyC o] [b] pos) (LE F Wx false (evE W (.cmp o ea eb))) := by
  refine PE_imp (pe_cmpR (or_cmp o hr) ha hb (plain_beh pb _)) fun σ H Q h => ?_
  have h := LG.congr (f' := fun wr g m => (evE W ea wr g m).bind fun x m1 => with2 (isB ea) (fun wr m => evE W eb wr g m) wr m1 fun y m2 => R.of ((semCmp o x y).map .bool) m2) (fun wr g m => by simp only [evE, ev]) h
  exact s_two2 h fun ω ω₂ g m wr x y dx dy H2 S rx ry hf => cmp_fin o hK S.ce S.tb rx ry hf
theorem t_cmp {n : Nat} (hK : X.K = F.K) (hr : Room n X.A) {o : COp} {ea eb : Ex} {a b : Expr} (pb : plainE b = true) (ha : PE X a (LE F Wx (isB ea) (evE W ea))) (hb : PE X b (LE F Wx (isB eb) (evE W eb))) : PT X (.Compare a [pyC o] [b] pos) (LT F Wx (evE W (.cmp o ea eb))) := by
  refine PT_imp (pt_cmpR (or_cmp o hr) ha hb (plain_beh pb _)) fun σ H Q h => ?_
  have h : LG F Wx RelB (fun wr g m => (evE W ea wr g m).bind fun x m1 => with2 (isB ea) (fun wr m => evE W eb wr g m) wr m1 fun y m2 => asB (R.of ((semCmp o x y).map .bool) m2)) σ H Q := by
    refine LG.congr (f := fun wr g m => asB (ev W (.cmp o ea eb) wr g m)) (fun wr g m => ?_) h
    simp only [ev, asB_bind, asB_with2, evE]
  refine s_two2 h fun ω ω₂ g m wr x y dx dy H2 S rx ry hf => ?_
  cases hc : semCmp o dx dy with
  | none => rw [hc] at hf; exact hf.elim
  | some c =>
    rw [hc] at hf
    exact cmp_sound o hK rx ry hc ⟨c, rfl, hf ω c H2 (Po.refl S.ce S.tb) rfl⟩
/-- a chain of two -/
theorem s_chn {n : Nat} (hK : X.K = F.K) (hr : Room n X.A) {o o' : COp} {ea eb ec : Ex} {a b c : Expr} (na : isB ea = false) (nb : isB eb = false) (hpb : behindInMarks (pyC o) b = false) (hpc : behindInMarks (pyC o') c = false)
    (ha : PE X a (LE F Wx false (evE W ea))) (hb : PE X b (LE F Wx false (evE W eb))) (hc : PE X c (LE F Wx (isB ec) (evE W ec))) : True := trivial
theorem s_nil : PA X [] (LA F Wx fun _ _ m => .ok [] m) := by
  refine PA_imp pa_nil fun σ H Q h => ?_
  obtain ⟨ω, g, m, wr, S, h⟩ := h
  exact h.ok S.ce S.tb rfl
abbrev evLs (W : Wd) (es : List Ex) : Wr → Ga → M → R (List D) := fun wr g m => evL W es wr g m
theorem s_nil' : PA X [] (LA F Wx (evLs W [])) := by
  refine PA_imp s_nil fun σ H Q h => LG.congr (fun wr g m => ?_) h
  simp only [evLs, evL]
theorem s_cons {e : Ex} {es : List Ex} {p : Expr} {ps : List Expr} (ne : isB e = false) (pp : plainE p = true) (he : PE X p (LE F Wx false (evE W e))) (hes : PA X ps (LA F Wx (evLs W es))) : PA X (p :: ps) (LA F Wx (evLs W (e :: es))) := by
  refine PA_imp (pa_cons he hes (plain_star pp _ _)) fun σ H Q h => ?_
  obtain ⟨ω, g, m, wr, S, h⟩ := h
  simp only [evLs, evL, ne, Bool.false_eq_true, if_false] at h
  refine LG.of S (Fin.mono (fun x H1 hx => ?_) (Fin.bind (rel := VRel F false) S.ce h))
  obtain ⟨ω1, dx, m1, e1, p1, r1, h1⟩ := hx
  have S1 := S.po p1
  refine LG.of S1 (Fin.mono (fun xs H2 hy => ?_) (Fin.bind (rel := Reps F) S1.ce h1))
  obtain ⟨ω2, dy, m2, e2, p2, r2, h2⟩ := hy
  exact h2.ok p2.cells p2.tabs ⟨x, xs, rfl, Rep.stays (p2.stays S1.ce) _ _ r1.pure, r2⟩
theorem Reps.le1000 {ω : Om} {H : Hp} {xs : List D} {vs : List V} (h : Reps F ω H xs vs) {n : Nat} (hn : n ≤ 1000) (e : xs.length = n) : vs.length ≤ sizeLine := by
  rw [h.length, e]
  exact Nat.le_of_lt (small1000 hn)
theorem evL_len : ∀ (W : Wd) (es : List Ex) (wr : Wr) (g : Ga) (m : M) {xs : List D} {m' : M}, evL W es wr g m = .ok xs m' → xs.length = es.length
  | W, [], wr, g, m, xs, m', h => by
    simp only [evL] at h
    cases h
    rfl
  | W, e :: es, wr, g, m, xs, m', h => by
    simp only [evL] at h
    split at h
    · cases h
    · cases h1 : ev W e wr g m with
      | stuck => rw [h1] at h; cases h
      | exc c m1 => rw [h1] at h; cases h
      | ok x m1 =>
        rw [h1] at h
        simp only [R.bind_ok] at h
        cases h2 : evL W es wr g m1 with
        | stuck => rw [h2] at h; cases h
        | exc c m1 => rw [h2] at h; cases h
        | ok ys m2 =>
          rw [h2] at h
          cases h
          simp [evL_len W es wr g m1 h2]
theorem s_tup {es : List Ex} {ps : List Expr} {k : Nat} (hes : PA X ps (LA F Wx (evLs W es))) : PE X (.Tuple ps k pos) (LE F Wx false (evE W (.tup es))) := by
  refine PE_imp (pe_tup hes) fun σ H Q h => ?_
  obtain ⟨ω, g, m, wr, S, h⟩ := h
  simp only [evE, ev] at h
  split at h
  · rename_i hl
    refine LG.of S (Fin.mono (fun xs H1 hx => ?_) (Fin.bind (rel := Reps F) S.ce h))
    obtain ⟨ω1, dx, m1, e1, p1, r1, h1⟩ := hx
    refine ⟨r1.le1000 hl (evL_len _ _ _ _ _ e1), fun p hp => ?_⟩
    have q := Po.new (wr := wr) (o := .tup xs) p1.cells p1.tabs hp
    exact h1 (ω1.out p) _ _ q (.inl ⟨p, xs, rfl, .inl ⟨upd_same, fun z => z.2 rfl⟩, Reps.stays (q.stays p1.cells) _ _ r1⟩)
  · exact h.elim

/-! ### lists just made -/
def FinF (F : Fx) (Wx : WX) (wr : Wr) (σ : L2.St) (Q : VK) (ω : Om) (m : M) (H : Hp) : R D → Prop
  | .stuck => False
  | .ok d m' => ∀ ω' a H', Po F wr ω m H ω' m' H' → H a = none → ContAt F ω' H' a d → ω'.B a → (∀ r f, LvC m' r f → ω'.ad r f ≠ a) → Q (.ref a) H'
  | .exc c m' => ∀ ω' H', Po F wr ω m H ω' m' H' → Wx (.ref (F.xa c)) none σ H'
def LF (F : Fx) (Wx : WX) (f : Wr → Ga → M → R D) : TE := fun σ H Q => ∃ ω g m wr, Stt F ω g m σ H ∧ FinF F Wx wr σ Q ω m H (f wr g m)
theorem stays_out {ω : Om} {H : Hp} {a : Addr} : Stays F ω (ω.out a) H H := ⟨Nat.le_refl _, fun _ _ => rfl, fun b o h _ _ => .inl h, fun b o _ hb z => hb z.1⟩
theorem Cells.out {ω : Om} {m : M} {H : Hp} {a : Addr} (C : Cells F ω m H) (ha : ∀ r f, LvC m r f → ω.ad r f ≠ a) : Cells F (ω.out a) m H :=
  ⟨C.len, fun r c e => CellAt.stays stays_out rfl (fun _ _ _ h _ => h) (C.at_ r c e), C.inj, fun r f h => ⟨C.inB r f h, ha r f h⟩, C.nd⟩
/-- nobody owns it any more -/
theorem Po.freeze {wr : Wr} {ω ω' : Om} {m m' : M} {H H' : Hp} {a : Addr} (p : Po F wr ω m H ω' m' H') (h0 : H a = none) (ha : ∀ r f, LvC m' r f → ω'.ad r f ≠ a) : Po F wr ω m H (ω'.out a) m' H' :=
  ⟨p.le, p.ad, p.sl, ⟨p.fr.keep, p.fr.tab, fun b o h hb z => p.fr.nb b o h hb z.1, fun b o h hb => ⟨p.fr.pb b o h hb, ne_of_none h h0⟩, p.fr.st⟩, p.aq, p.cells.out ha, p.tabs⟩
section
variable {ω ω' : Om} {m m' : M} {H H' : Hp}
theorem upd_stays {a : Addr} {o : HO} (hB : ω.B a) : Stays F ω ω H (upd H a o) :=
  ⟨Nat.le_refl _, fun _ _ => rfl, fun b u h hb _ => .inl (by rw [upd_ne (fun z => hb (by rw [z]; exact hB))]; exact h), fun _ _ _ h => h⟩
theorem Cells.upd {a : Addr} {o : HO} (C : Cells F ω m H) (hB : ω.B a) (ne : ∀ r f, LvC m r f → ω.ad r f ≠ a) : Cells F ω m (L2.upd H a o) := by
  refine ⟨C.len, fun r c e => CellAt.stays (upd_stays hB) rfl (fun f hf o h _ => ?_) (C.at_ r c e), C.inj, C.inB, C.nd⟩
  have lv : LvC m r f := by
    rcases hf with rfl | ⟨c', fs, d, rfl, hm⟩
    · exact ⟨(List.getElem?_eq_some_iff.mp e).1, .inl rfl⟩
    · have a := C.at_ r _ e
      obtain ⟨dx, vs, _, h2⟩ := a
      exact lvC_own (C.nd r c' fs e) e hm (own_ne (c := 0) h2 hm)
  rw [upd_ne (ne r f lv)]
  exact h
theorem TabInv.updU {a : Addr} {w o : HO} (T : TabInv F H) (h : H a = some w) (n1 : ∀ ps, w ≠ .tbl ps) (n2 : ∀ φ, w ≠ .ext φ) : TabInv F (L2.upd H a o) := by
  have nt : ∀ b u, H b = some u → u ≠ w → L2.upd H a o b = some u := fun b u e hu => by
    rw [upd_ne fun z => hu ?_]
    · exact e
    · rw [z, h] at e
      exact (Option.some.inj e).symm
  refine ⟨fun P hP => ?_, fun p hp => ?_⟩
  · obtain ⟨ps, h1, h2⟩ := T.1 P hP
    exact ⟨ps, nt _ _ h1 (fun z => n1 ps z.symm), h2⟩
  · obtain ⟨ps, h1, h2, h3⟩ := T.2 p hp
    refine ⟨ps, nt _ _ h1 (fun z => n1 ps z.symm), h2, fun pos cv hc => ?_⟩
    obtain ⟨c, e1, e2⟩ := h3 pos cv hc
    exact ⟨c, e1, nt _ _ e2 (fun z => n2 _ (by rw [← z]; rfl))⟩
theorem TabInv.upd {a : Addr} {vs : List V} {o : HO} (T : TabInv F H) (h : H a = some (.lst vs)) : TabInv F (L2.upd H a o) := T.updU h (fun _ z => by cases z) (fun _ z => by cases z)
theorem TabInv.updD {a : Addr} {vs : List (Key × V)} {o : HO} (T : TabInv F H) (h : H a = some (.dK vs)) : TabInv F (L2.upd H a o) := T.updU h (fun _ z => by cases z) (fun _ z => by cases z)
/-- .. and it is locked for good -/
theorem Po.lock {wr : Wr} {a : Addr} {vs : List (Key × V)} {od : Obj} (p : Po F wr ω m H ω' m' H') (h0 : H a = none) (ha : ∀ r f, LvC m' r f → ω'.ad r f ≠ a) (hB : ω'.B a) (hv : H' a = some (.dK vs)) : Po F wr ω m H (ω'.out a) m' (L2.upd H' a (.frz od (.dK vs))) := by
  have ne : ∀ b o, H b = some o → b ≠ a := fun b o h => ne_of_none h h0
  exact ⟨p.le, p.ad, p.sl, ⟨fun b o h hu nt => by rw [upd_ne (ne b o h)]; exact p.fr.keep b o h hu nt, fun b ps h => by rw [upd_ne (ne b _ h)]; exact p.fr.tab b ps h, fun b o h hb z => p.fr.nb b o h hb z.1, fun b o h hb => ⟨p.fr.pb b o h hb, ne b o h⟩, fun b o h => by rw [upd_ne (ne b o h)]; exact p.fr.st b o h⟩, p.aq,
    (p.cells.upd hB ha).out ha, p.tabs.updD hv⟩
end
theorem Rep.freeze {ω : Om} {H : Hp} {a : Addr} {ds : List D} (h : ContAt F ω H a (.list ds)) : Rep F (ω.out a) H (.list ds) (.ref a) := by
  obtain ⟨vs, h1, h2⟩ := h
  exact ⟨a, vs, rfl, h1, fun z => z.2 rfl, Reps.stays stays_out _ _ h2⟩
theorem Rep.lock {ω : Om} {H : Hp} {a : Addr} {kvs : List (D × D)} {vs : List (Key × V)} {od : Obj} (hB : ω.B a) (h : RepP F ω H kvs vs) : Rep F (ω.out a) (L2.upd H a (.frz od (.dK vs))) (.dict kvs) (.ref a) :=
  .inr (.inr ⟨a, vs, rfl, ⟨od, upd_same⟩, fun z => z.2 rfl, RepP.stays (stays_out (H := L2.upd H a (.frz od (.dK vs)))) _ _ (RepP.stays (upd_stays hB) _ _ h)⟩)
theorem pe_lockD {t : TE} {e : Expr} (he : PE X e t) : PE X e (fun σ H Q => t σ H fun v H1 => Q v H1 ∨ ∃ d u, v = .ref d ∧ H1 d = some u ∧ Mut (some u) ∧ ∀ od, Q v (L2.upd H1 d (.frz od u))) := by
  refine ⟨fun pins s σ H Q I h => thn (he.run pins s σ H _ I h) fun u s1 ⟨v, H1, I1, rv, q⟩ => ?_⟩
  rcases q with q | ⟨d, u', rfl, hd, mu, q⟩
  · exact ⟨v, H1, I1, rv, q⟩
  · obtain ⟨od, I2⟩ := I1.lock hd mu
    exact ⟨_, _, I2, rv, q od⟩
theorem cont_nocell {ω : Om} {H : Hp} {a : Addr} {d : D} (h : ContAt F ω H a d) (x : Nat) : asCell d ≠ some x := fun e => by
  have e1 := asCell_eq e
  subst e1
  obtain ⟨vs, _, h2⟩ := h
  obtain ⟨k', v, r', _, h3, _⟩ := h2
  exact h3.elim
theorem LF.le {f : Wr → Ga → M → R D} {e : Expr} (h : PE X e (LF F Wx f)) : PE X e (LE F Wx false f) := by
  refine PE_imp (pe_lockD h) fun σ H Q hq => ?_
  obtain ⟨ω, g, m, wr, S, hq⟩ := hq
  refine ⟨ω, g, m, wr, S, ?_⟩
  cases hf : f wr g m with
  | stuck => rw [hf] at hq; exact hq
  | exc c m' => rw [hf] at hq; exact hq
  | ok d m' =>
    rw [hf] at hq
    intro ω' a H' p h0 hc hB hl
    cases d with
    | list ds => exact .inl (hq (ω'.out a) _ _ (p.freeze h0 hl) (.inl (Rep.freeze hc)))
    | dict kvs =>
      obtain ⟨vs, hv, hr⟩ := hc
      exact .inr ⟨a, _, rfl, hv, trivial, fun od => hq (ω'.out a) _ _ (p.lock h0 hl hB hv) (.inl (Rep.lock hB hr))⟩
    | none => exact hc.elim
    | bool _ => exact hc.elim
    | int _ => exact hc.elim
    | str _ => exact hc.elim
    | tuple _ => exact hc.elim
theorem lv_new {wr : Wr} {ω ω' : Om} {m m' : M} {H H' : Hp} {p : Addr} (q : Po F wr ω m H ω' m' H') (hp : H' p = none) : ∀ r f, LvC m' r f → ω'.ad r f ≠ p := fun r f h e => by
  obtain ⟨o, e2, _⟩ := q.cells.tracked h
  rw [e, hp] at e2
  cases e2
/-- a new list is laid: somebody's own -/
theorem LF.new {wr : Wr} {σ : L2.St} {ω ω₁ : Om} {m m₁ : M} {H H₁ : Hp} {p : Addr} {xs : List D} {vs : List V} {Q : VK} (p1 : Po F wr ω m H ω₁ m₁ H₁) (C : Cells F ω m H) (r1 : Reps F ω₁ H₁ xs vs) (hp : H₁ p = none)
    (h : ∀ ω' a H', Po F wr ω m H ω' m₁ H' → H a = none → ContAt F ω' H' a (.list xs) → ω'.B a → (∀ r f, LvC m₁ r f → ω'.ad r f ≠ a) → Q (.ref a) H') : Q (.ref p) (upd H₁ p (.lst vs)) := by
  have q := Po.newO (wr := wr) (o := .lst vs) p1.cells p1.tabs hp
  refine h (ω₁.inn p) p _ (p1.trans C q) ?_ ⟨vs, upd_same, Reps.stays (q.stays p1.cells) _ _ r1⟩ (.inr rfl) (fun r f hl e => lv_new p1 hp r f hl e)
  cases e : H p with
  | none => rfl
  | some o =>
    obtain ⟨o', e2⟩ := p1.fr.st p o e
    rw [hp] at e2
    cases e2
theorem f_lst {es : List Ex} {ps : List Expr} (hes : PA X ps (LA F Wx (evLs W es))) : PE X (.List ps pos) (LF F Wx (evE W (.lst es))) := by
  refine PE_imp (pe_lst hes) fun σ H Q h => ?_
  obtain ⟨ω, g, m, wr, S, h⟩ := h
  simp only [evE, ev] at h
  split at h
  · rename_i hl
    refine LG.of (wr := wr) S ?_
    show Fin F Wx wr σ (Reps F) _ ω m H (evL W es wr g m)
    cases he : evL W es wr g m with
    | stuck => rw [he] at h; exact h
    | exc c m' => rw [he] at h; exact h
    | ok xs m1 =>
      rw [he] at h
      intro ω1 vs H1 p1 r1
      exact ⟨r1.le1000 hl (evL_len _ _ _ _ _ he), fun p hp => LF.new (σ := σ) p1 S.ce r1 hp h⟩
  · exact h.elim
/-- [a, ..] * n, just made -/
theorem f_rep (hK : X.K = F.K) {es : List Ex} {eb : Ex} {a b : Expr} (nb : isB eb = false) (ha : PE X a (LE F Wx false (evE W (.lst es)))) (hb : PE X b (LE F Wx false (evE W eb))) : PE X (.BinOp a .Mult b pos) (LF F Wx (evE W (.bin .mul (.lst es) eb))) := by
  refine PE_imp (pe_op op_rep ha hb) fun σ H Q h => ?_
  obtain ⟨ω, g, m, wr, S, h⟩ := h
  have e0 : evE W (.bin .mul (.lst es) eb) wr g m = (ev W (.lst es) wr g m).bind fun x m1 => (ev W eb wr g m1).bind fun y m2 => R.of (semBin .mul x y) m2 := by
    simp only [evE]
    rw [ev]
    exact if_neg (by rw [nb]; exact Bool.false_ne_true)
  rw [e0] at h
  refine LG.of (wr := wr) S ?_
  show Fin F Wx wr σ (VRel F false) _ ω m H (ev W (.lst es) wr g m)
  cases hx : ev W (.lst es) wr g m with
  | stuck => rw [hx] at h; exact h
  | exc c m' => rw [hx] at h; exact h
  | ok dx m1 =>
    rw [hx] at h
    intro ω1 x H1 p1 r1
    have S1 := S.po p1
    refine LG.of (wr := wr) S1 ?_
    show Fin F Wx wr σ (VRel F false) _ ω1 m1 H1 (ev W eb wr g m1)
    simp only [R.bind_ok] at h
    cases hy : ev W eb wr g m1 with
    | stuck => rw [hy] at h; exact h
    | exc c m' => rw [hy] at h; exact fun ω' H' p => h ω' H' (p1.trans S.ce p)
    | ok dy m2 =>
      rw [hy] at h
      intro ω2 y H2 p2 r2
      simp only [R.bind_ok] at h
      have rx := Rep.stays (p2.stays S1.ce) _ _ r1.pure
      have ry := r2.pure
      have p12 := p1.trans S.ce p2
      cases dx with
      | list xs =>
        cases dy with
        | int i =>
          simp only [semBin] at h
          split at h
          · rename_i hl
            obtain ⟨q, vs, rfl, h1, _, h3⟩ := rx
            exact ⟨q, i, vs, rfl, ry, h1, hl.2.1, hl.1, by rw [h3.length]; exact hl.2.2, fun p hp => LF.new (σ := σ) p12 S.ce (Reps.rep _ h3) hp h⟩
          · exact h.elim
        | _ => exact h.elim
      | _ =>
        -- a list display gives a list
        exfalso
        have z : ∀ d m', ev W (.lst es) wr g m = .ok d m' → ∃ xs, d = .list xs := fun d m' e => by
          simp only [ev] at e
          split at e
          · cases he : evL W es wr g m with
            | stuck => rw [he] at e; cases e
            | exc c m' => rw [he] at e; cases e
            | ok xs m1 => rw [he] at e; cases e; exact ⟨xs, rfl⟩
          · cases e
        obtain ⟨xs, e⟩ := z _ _ hx
        cases e
end
end Ev
end
section
set_option linter.all false
set_option autoImplicit false
set_option maxRecDepth 100000
/-! Ev, part I: chains, items, slices, built-ins. -/
namespace Ev
open PySem L2

section
variable {X : Cx} {F : Fx} {W : Wd} {Wx : WX} {pos : Pos}
theorem cmp_bool (o : COp) (hK : X.K = F.K) {ω ω₂ : Om} {H : Hp} {x y : V} {dx dy : D} {ba bb : Bool} {c : Bool} {G : Bool → Hp → Prop} (hx : VRel F ba ω H dx x) (hy : VRel F bb ω₂ H dy y) (hs : semCmp o dx dy = some c) (q : G c H) :
    rCmp o X.K x y H fun z H3 => ∃ k, z = .bl k ∧ G k H3 := cmp_sound o hK hx hy hs ⟨c, rfl, q⟩
theorem chn_marks {o o' : COp} {b c : Expr} (pb : plainE b = true) (pc : plainE c = true) : lastMarks [pyC o, pyC o'] [b, c] = false := by
  show behindInMarks (pyC o') c = false
  exact plain_beh pc _
theorem chn_core (hK : X.K = F.K) {o o' : COp} {ea eb ec : Ex} {σ : L2.St} {H : Hp} {Q : VK} (na : isB ea = false) (nb : isB eb = false)
    (h : LE F Wx false (evE W (.chn o o' ea eb ec)) σ H Q) :
    tChain (rCmp o X.K) (rCmp o' X.K) (LE F Wx false (evE W ea)) (LE F Wx false (evE W eb)) (LE F Wx (isB ec) (evE W ec)) σ H Q := by
  have h := LG.congr (f' := fun wr g m => (evE W ea wr g m).bind fun x m1 => (evE W eb wr g m1).bind fun y m2 => match semCmp o x y with
      | some true => (ev W ec wr g m2).bind fun z m3 => R.of ((semCmp o' y z).map .bool) m3
      | some false => .ok (.bool false) m2
      | none => .stuck) (fun wr g m => by
      simp only [evE]
      rw [ev]
      exact if_neg (by rw [na, nb]; exact Bool.false_ne_true)) h
  obtain ⟨ω, g, m, wr, S, h⟩ := h
  refine LG.of S (Fin.mono (fun x H1 hx => ?_) (Fin.bind (rel := VRel F false) S.ce h))
  obtain ⟨ω1, dx, m1, e1, p1, r1, h1⟩ := hx
  have S1 := S.po p1
  refine LG.of S1 (Fin.mono (fun y H2 hy => ?_) (Fin.bind (rel := VRel F false) S1.ce h1))
  obtain ⟨ω2, dy, m2, e2, p2, r2, h2⟩ := hy
  have rx : VRel F false ω2 H2 dx x := .inl (Rep.stays (p2.stays S1.ce) _ _ r1.pure)
  cases hs : semCmp o dx dy with
  | none => simp only [hs] at h2; exact h2.elim
  | some c =>
    refine cmp_bool o hK rx r2 hs ?_
    cases c with
    | false =>
      simp only [hs] at h2
      exact iteF (h2.ok p2.cells p2.tabs (.inl rfl))
    | true =>
      simp only [hs] at h2
      refine iteT ?_
      refine LG.of (S1.po p2) (Fin.mono (fun z H3 hz => ?_) (Fin.bind (rel := VRel F (isB ec)) p2.cells h2))
      obtain ⟨ω3, dz, m3, e3, p3, r3, h3⟩ := hz
      exact cmp_fin o' hK p3.cells p3.tabs (.inl (Rep.stays (p3.stays p2.cells) _ _ r2.pure) : VRel F false ω3 H3 dy y) r3 h3
theorem s_chn' {n : Nat} (hK : X.K = F.K) (hr : Room n X.A) {o o' : COp} {ea eb ec : Ex} {a b c : Expr} (na : isB ea = false) (nb : isB eb = false) (pb : plainE b = true) (pc : plainE c = true)
    (ha : PE X a (LE F Wx false (evE W ea))) (hb : PE X b (LE F Wx false (evE W eb))) (hc : PE X c (LE F Wx (isB ec) (evE W ec))) : PE X (.Compare a [pyC o, pyC o'] [b, c] pos) (LE F Wx false (evE W (.chn o o' ea eb ec))) :=
  PE_imp (pe_chain (or_cmp o hr) (or_cmp o' hr) ha hb hc (chn_marks pb pc)) fun σ H Q h => chn_core hK na nb h
/-- a reading of a bool as a test -/
theorem LT_le {f : Wr → Ga → M → R D} {σ : L2.St} {H : Hp} {Q : Bool → Hp → Prop} {bor : Bool} (h : LT F Wx f σ H Q) : LE F Wx bor f σ H fun x H1 => ∃ k, x = .bl k ∧ Q k H1 := by
  obtain ⟨ω, g, m, wr, S, h⟩ := h
  refine LG.of S (Fin.mono (fun x H1 hx => ?_) (Fin.bind (rel := VRel F bor) S.ce h))
  obtain ⟨ω1, dx, m1, e1, p1, r1, h1⟩ := hx
  cases dx with
  | bool i => exact ⟨i, r1.bool, h1 ω1 i H1 (Po.refl p1.cells p1.tabs) rfl⟩
  | _ => exact h1.elim
theorem t_chn' {n : Nat} (hK : X.K = F.K) (hr : Room n X.A) {o o' : COp} {ea eb ec : Ex} {a b c : Expr} (na : isB ea = false) (nb : isB eb = false) (pb : plainE b = true) (pc : plainE c = true)
    (ha : PE X a (LE F Wx false (evE W ea))) (hb : PE X b (LE F Wx false (evE W eb))) (hc : PE X c (LE F Wx (isB ec) (evE W ec))) : PT X (.Compare a [pyC o, pyC o'] [b, c] pos) (LT F Wx (evE W (.chn o o' ea eb ec))) :=
  PT_imp (pt_chain (or_cmp o hr) (or_cmp o' hr) ha hb hc (chn_marks pb pc)) fun σ H Q h => chn_core hK na nb (LT_le h)
theorem s_idx (hK : X.K = F.K) {ea eb : Ex} {a b : Expr} (nb : isB eb = false) (pb : plainE b = true) (ha : PE X a (LE F Wx (isB ea) (evE W ea))) (hb : PE X b (LE F Wx false (evE W eb))) : PE X (.Subscript a b pos) (LE F Wx false (evE W (.idx ea eb))) := by
  refine PE_imp (pe_ix ix_seq ha hb (plain_ix pb)) fun σ H Q h => ?_
  have h := LG.congr (f' := fun wr g m => (evE W ea wr g m).bind fun x m1 => with2 (isB ea) (fun wr m => evE W eb wr g m) wr m1 fun y m2 => R.of (semIdx m2 x y) m2) (fun wr g m => by
    simp only [evE]
    rw [ev]
    exact if_neg (by rw [nb]; exact Bool.false_ne_true)) h
  refine s_two2 h fun ω ω₂ g m wr x y dx dy H2 S rx ry hf => ?_
  obtain ⟨d, e, q⟩ := hf.of
  exact idx_sound hK S.ce rx ry e fun v r => q ω v H2 (Po.refl S.ce S.tb) (.inl r)
/-- an optional part of a slice -/
abbrev LO (F : Fx) (Wx : WX) (f : Wr → Ga → M → R (Option Int)) : TO := LG F Wx (fun _ _ (d : Option Int) (o : Option Int) => d = o) f
abbrev evOs (W : Wd) (o : Option Ex) : Wr → Ga → M → R (Option Int) := fun wr g m => evO W o wr g m
theorem s_onone : PO X none (LO F Wx (evOs W none)) := by
  refine ⟨fun pins s σ H Q I h => po_none.run pins s σ H Q I ?_⟩
  obtain ⟨ω, g, m, wr, S, h⟩ := h
  simp only [evOs, evO] at h
  exact h.ok S.ce S.tb rfl
theorem s_osome {e : Ex} {p : Expr} (ne : isB e = false) (he : PE X p (LE F Wx false (evE W e))) : PO X (some p) (LO F Wx (evOs W (some e))) := by
  refine ⟨fun pins s σ H Q I h => (po_some he).run pins s σ H Q I ?_⟩
  obtain ⟨ω, g, m, wr, S, h⟩ := h
  simp only [evOs, evO, ne, Bool.false_eq_true, if_false] at h
  refine LG.of S (Fin.mono (fun x H1 hx => ?_) (Fin.bind (rel := VRel F false) S.ce h))
  obtain ⟨ω1, dx, m1, e1, p1, r1, h1⟩ := hx
  cases dx with
  | int i => exact ⟨i, r1.int, h1.ok p1.cells p1.tabs rfl⟩
  | _ => exact h1.elim
theorem s_slc (hK : X.K = F.K) {ea : Ex} {lo hi : Option Ex} {a : Expr} {plo phi : Option Expr} {p2 : Pos} (na : isB ea = false) (ha : PE X a (LE F Wx false (evE W ea)))
    (hlo : PO X plo (LO F Wx (evOs W lo))) (hhi : PO X phi (LO F Wx (evOs W hi))) : PE X (.Subscript a (.Slice plo phi none p2) pos) (LE F Wx false (evE W (.slc ea lo hi))) := by
  refine PE_imp (pe_slice sl_all ha hlo hhi) fun σ H Q h => ?_
  have h := LG.congr (f' := fun wr g m => (evE W ea wr g m).bind fun x m1 => (evO W lo wr g m1).bind fun l m2 => (evO W hi wr g m2).bind fun h m3 => R.of (semSlc x l h) m3) (fun wr g m => by
    simp only [evE]
    rw [ev]
    exact if_neg (by rw [na]; exact Bool.false_ne_true)) h
  obtain ⟨ω, g, m, wr, S, h⟩ := h
  refine LG.of S (Fin.mono (fun x H1 hx => ?_) (Fin.bind (rel := VRel F false) S.ce h))
  obtain ⟨ω1, dx, m1, e1, p1, r1, h1⟩ := hx
  have S1 := S.po p1
  refine LG.of S1 (Fin.mono (fun l H2 hx => ?_) (Fin.bind (rel := fun _ _ (d : Option Int) (o : Option Int) => d = o) S1.ce h1))
  obtain ⟨ω2, dl, m2, e2, p2, rfl, h2⟩ := hx
  have S2 := S1.po p2
  refine LG.of S2 (Fin.mono (fun u H3 hx => ?_) (Fin.bind (rel := fun _ _ (d : Option Int) (o : Option Int) => d = o) S2.ce h2))
  obtain ⟨ω3, du, m3, e3, p3, rfl, h3⟩ := hx
  obtain ⟨d, e, q⟩ := h3.of
  exact slc_sound hK p3.cells p3.tabs (Rep.stays (p3.stays p2.cells) _ _ (Rep.stays (p2.stays S1.ce) _ _ r1.pure)) e fun ω' v H' q' r => q ω' v H' q' (.inl r)

/-! ### cells -/
theorem ad_upd_of (ω : Om) (r : Nat) (f : Str) (a : Addr) : (fun r' f' => if r' = r ∧ f' = f then a else ω.ad r' f') r f = a := by simp
def Om.cell (ω : Om) (p : Addr) : Om := { B := fun b => ω.B b ∨ b = p, ad := fun r f => if r = ω.n then p else ω.ad r f, sl := ω.sl, n := ω.n + 1 }
theorem Po.cellG {wr : Wr} {ω : Om} {m : M} {H : Hp} {p : Addr} {ce : Cell} {ob : HO} (C : Cells F ω m H) (T : TabInv F H) (hp : H p = none) (hat : CellAt F (ω.cell p) (upd H p ob) ω.n ce) (hown : ∀ c fs f d, ce = .ins c fs → fs.lookup f = some (true, d) → False) (hnd : ∀ c fs, ce = .ins c fs → (fs.map (·.1)).Nodup) :
    Po F wr ω m H (ω.cell p) (m ++ [ce]) (upd H p ob) := by
  have k : ∀ b u, H b = some u → upd H p ob b = some u := fun b u h => by rw [upd_ne (ne_of_none h hp)]; exact h
  have nb : ∀ b u, H b = some u → ¬ ω.B b → ¬ (ω.cell p).B b := fun b u h hn z => z.elim hn (ne_of_none h hp)
  have pb : ∀ b u, H b = some u → ω.B b → (ω.cell p).B b := fun b u h z => .inl z
  have adl : ∀ r, r < ω.n → (ω.cell p).ad r = ω.ad r := fun r hr => by
    funext f
    show (if r = ω.n then p else ω.ad r f) = ω.ad r f
    rw [if_neg (Nat.ne_of_lt hr)]
  have adn : ∀ f, (ω.cell p).ad ω.n f = p := fun f => by
    show (if ω.n = ω.n then p else ω.ad ω.n f) = p
    rw [if_pos rfl]
  have st : Stays F ω (ω.cell p) H (upd H p ob) := ⟨Nat.le_succ _, fun r hr => by rw [adl r hr], fun b o h _ _ => .inl (k b o h), nb⟩
  have lv : ∀ r f, LvC (m ++ [ce]) r f → LvC m r f ∨ (r = ω.n ∧ f = "") := fun r f h => by
    obtain ⟨h1, h2⟩ := h
    rw [List.length_append, List.length_singleton, C.len] at h1
    by_cases hr : r < m.length
    · refine .inl ⟨hr, ?_⟩
      rcases h2 with h2 | ⟨c, fs, d, e, h3⟩
      · exact .inl h2
      · rw [List.getElem?_append_left hr] at e
        exact .inr ⟨c, fs, d, e, h3⟩
    · rw [C.len] at hr
      have er : r = ω.n := by omega
      refine .inr ⟨er, ?_⟩
      rcases h2 with h2 | ⟨c, fs, d, e, h3⟩
      · exact h2
      · rw [er, ← C.len, List.getElem?_append_right (Nat.le_refl _), Nat.sub_self] at e
        exact (hown c fs f d (Option.some.inj e) h3.1).elim
  have ltn : ∀ {r f}, LvC m r f → r < ω.n := fun h => by have := h.1; rw [C.len] at this; exact this
  refine ⟨Nat.le_succ _, fun r hr => by rw [adl r hr], rfl, ⟨fun b u h _ _ => k b u h, fun b ps h => ⟨#[], by rw [k _ _ h]; simp⟩, nb, pb, fun b u h => ⟨u, k b u h⟩⟩, fun r f h => ?_, ⟨?_, fun r c e => ?_, fun r f r' f' h1 h2 h3 => ?_, fun r f h => ?_, fun r c fs e => ?_⟩, T.ext k⟩
  · rcases lv r f h with h | ⟨rfl, rfl⟩
    · exact .inl ⟨h, by rw [adl r (ltn h)]⟩
    · exact .inr (by rw [adn]; exact hp)
  · rw [List.length_append, C.len]
    rfl
  · by_cases hr : r < m.length
    · rw [List.getElem?_append_left hr] at e
      rw [C.len] at hr
      exact CellAt.stays st (adl r hr) (fun f _ o h _ => k _ _ h) (C.at_ r c e)
    · have hr2 := (List.getElem?_eq_some_iff.mp e).1
      rw [List.length_append, List.length_singleton] at hr2
      have er : r = ω.n := by rw [← C.len]; omega
      rw [er, ← C.len, List.getElem?_append_right (Nat.le_refl _), Nat.sub_self] at e
      cases e
      rw [er]
      exact hat
  · rcases lv r f h1 with h1 | ⟨rfl, rfl⟩
    · rcases lv r' f' h2 with h2 | ⟨rfl, rfl⟩
      · rw [adl r (ltn h1), adl r' (ltn h2)] at h3
        exact C.inj r f r' f' h1 h2 h3
      · rw [adl r (ltn h1), adn] at h3
        obtain ⟨o, e, _⟩ := C.tracked h1
        rw [h3, hp] at e
        cases e
    · rcases lv r' f' h2 with h2 | ⟨rfl, rfl⟩
      · rw [adl r' (ltn h2), adn] at h3
        obtain ⟨o, e, _⟩ := C.tracked h2
        rw [← h3, hp] at e
        cases e
      · exact ⟨rfl, rfl⟩
  · rcases lv r f h with h | ⟨rfl, rfl⟩
    · rw [adl r (ltn h)]
      exact .inl (C.inB r f h)
    · rw [adn]
      exact .inr rfl
  · by_cases hr : r < m.length
    · rw [List.getElem?_append_left hr] at e
      exact C.nd r c fs e
    · have hr2 := (List.getElem?_eq_some_iff.mp e).1
      rw [List.length_append, List.length_singleton] at hr2
      have er : r = m.length := by omega
      rw [er, List.getElem?_append_right (Nat.le_refl _), Nat.sub_self] at e
      exact hnd c fs (Option.some.inj e)
theorem Po.cell {wr : Wr} {ω : Om} {m : M} {H : Hp} {p : Addr} {xs : List D} {vs : List V} (C : Cells F ω m H) (T : TabInv F H) (hp : H p = none) (rx : Reps F ω H xs vs) :
    Po F wr ω m H (ω.cell p) (m ++ [.lst xs]) (upd H p (.lst vs)) := by
  have st : Stays F ω (ω.cell p) H (upd H p (.lst vs)) := ⟨Nat.le_succ _, fun r hr => by show (if r = ω.n then p else ω.ad r "") = _; rw [if_neg (Nat.ne_of_lt hr)], fun b o h _ _ => .inl (by rw [upd_ne (ne_of_none h hp)]; exact h), fun b u h hn z => z.elim hn (ne_of_none h hp)⟩
  refine Po.cellG C T hp ⟨vs, ?_, Reps.stays st _ _ rx⟩ (fun _ _ _ _ z => by cases z) (fun _ _ z => by cases z)
  show upd H p (.lst vs) (if ω.n = ω.n then p else _) = _
  rw [if_pos rfl, upd_same]
theorem rep_cell {ω : Om} {H : Hp} {r : Nat} (hr : r < ω.n) : Rep F ω H (cellD r) (.ref (ω.ad r "")) := .inl ⟨r, rfl, hr, rfl⟩
theorem s_lstC {es : List Ex} {ps : List Expr} (hes : PA X ps (LA F Wx (evLs W es))) : PE X (.List ps pos) (LE F Wx false (evE W (.lstC es))) := by
  refine PE_imp (pe_lst hes) fun σ H Q h => ?_
  obtain ⟨ω, g, m, wr, S, h⟩ := h
  simp only [evE, ev] at h
  split at h
  · rename_i hl
    refine LG.of S (Fin.mono (fun xs H1 hx => ?_) (Fin.bind (rel := Reps F) S.ce h))
    obtain ⟨ω1, dx, m1, e1, p1, r1, h1⟩ := hx
    refine ⟨r1.le1000 hl (evL_len _ _ _ _ _ e1), fun p hp => ?_⟩
    have q := Po.cell (wr := wr) p1.cells p1.tabs hp r1
    refine h1 (ω1.cell p) _ _ q (.inl ?_)
    have e : (.ref p : V) = .ref ((ω1.cell p).ad m1.length "") := by
      show (.ref p : V) = .ref (if m1.length = ω1.n then p else _)
      rw [if_pos p1.cells.len]
    rw [e]
    exact rep_cell (by rw [p1.cells.len]; exact Nat.lt_succ_self _)
  · exact h.elim
end
end Ev
end
section
set_option linter.all false
set_option autoImplicit false
set_option maxRecDepth 100000
/-! Ev, part J: what is walked. -/
namespace Ev
open PySem PySem.Spec PyProof.Rows L2

structure Hold (F : Fx) (A : Addr → Prop) (ω1 : Om) (H1 : Hp) (ω : Om) (H : Hp) : Prop where
  st : Stays F ω1 ω H1 H
  at_ : ∀ b, A b → ∀ o, H1 b = some o → (∀ ps, o ≠ .tbl ps) → H b = some o
def adr (ω : Om) : Pl → Addr
  | .sl i => ω.sl i
  | .ce r f => ω.ad r f
def OwnP (g : Ga) (m : M) (d : D) : Pl → Prop
  | .sl i => g[i]? = some (some (true, d))
  | .ce r f => LvC m r f
def AOk (ω : Om) (m : M) (g : Ga) (p : Option Pl) (b : Addr) : Prop := ¬ ω.B b ∨ ∃ q d, p = some q ∧ OwnP g m d q ∧ b = adr ω q
structure Walk (F : Fx) (A : Addr → Prop) (ω1 : Om) (H1 : Hp) (J : It) (xs : List D) : Prop where
  go : ∀ ω H i, Hold F A ω1 H1 ω H → i < xs.length → J.go i H
  stop : ∀ ω H, Hold F A ω1 H1 ω H → J.stop xs.length H
  yld : ∀ (wr : Wr) ω m H i x H', Hold F A ω1 H1 ω H → Cells F ω m H → TabInv F H → i < xs.length → J.yld i H x H' → ∃ d ω', xs[i]? = some d ∧ Po F wr ω m H ω' m H' ∧ Rep F ω' H' d x
/-- a content that may be walked -/
def WCont (F : Fx) (ω : Om) (H : Hp) (a : Addr) : D → Prop
  | .list ds => ∃ vs, H a = some (.lst vs) ∧ Reps F ω H ds vs
  | .dict kvs => ∃ o vs, H a = some (.frz o (.dK vs)) ∧ RepP F ω H kvs vs
  | _ => False
/-- what a base is: a value, or somebody's own -/
def RelBs (F : Fx) : Om → Hp → (D × Option Pl × Ga × M) → V → Prop := fun ω H r v => Rep F ω H r.1 v ∨ ∃ q, r.2.1 = some q ∧ v = .ref (adr ω q) ∧ WCont F ω H (adr ω q) r.1 ∧ OwnP r.2.2.1 r.2.2.2 r.1 q
abbrev evBx (W : Wd) (b : Bs) : Wr → Ga → M → R (D × Option Pl × Ga × M) := fun wr g m => (evB W b wr g m).bind fun r m' => .ok (r.1, r.2, g, m') m'
def RelI (F : Fx) : Om → Hp → (List D × Option Pl × Ga × M) → It → Prop := fun ω H r J => ∃ A : Addr → Prop, (∀ b, A b → AOk ω r.2.2.2 r.2.2.1 r.2.1 b ∧ ∃ o, H b = some o ∧ ∀ ps, o ≠ .tbl ps) ∧ Walk F A ω H J r.1
abbrev evSx (W : Wd) (s : Src) : Wr → Ga → M → R (List D × Option Pl × Ga × M) := fun wr g m => (evS W s wr g m).bind fun r m' => .ok (r.1, r.2, g, m') m'
abbrev LI (F : Fx) (Wx : WX) (W : Wd) (s : Src) : TI := LG F Wx (RelI F) (evSx W s)
abbrev LB (F : Fx) (Wx : WX) (W : Wd) (b : Bs) : TE := LG F Wx (RelBs F) (evBx W b)

section
variable {X : Cx} {F : Fx} {W : Wd} {Wx : WX} {pos : Pos}
theorem Reps.get' {ω : Om} {H : Hp} {xs : List D} {vs : List V} {i : Nat} {x : V} (h : Reps F ω H xs vs) (e : vs[i]? = some x) : ∃ d, xs[i]? = some d ∧ Rep F ω H d x := by
  have hl := (List.getElem?_eq_some_iff.mp e).1
  rw [h.length] at hl
  obtain ⟨v, e2, r⟩ := h.get (List.getElem?_eq_getElem hl)
  rw [e] at e2
  cases e2
  exact ⟨_, List.getElem?_eq_getElem hl, r⟩
theorem sqL_hold {A : Addr → Prop} {ω1 ω : Om} {H1 H : Hp} {a : Addr} {vs : List V} (hA : A a) (hq : SqL F.K H1 a vs) (h : Hold F A ω1 H1 ω H) : SqL F.K H a vs := by
  rcases hq with (hq | ⟨o, hq⟩) | hq
  · exact .inl (.inl (h.at_ a hA _ hq fun ps z => by cases z))
  · exact .inl (.inr ⟨o, h.at_ a hA _ hq fun ps z => by cases z⟩)
  · exact .inr hq
theorem sqT_hold {A : Addr → Prop} {ω1 ω : Om} {H1 H : Hp} {a : Addr} {vs : List V} (hA : A a ∨ KTup F.K a vs) (hq : SqT F.K H1 a vs) (h : Hold F A ω1 H1 ω H) : SqT F.K H a vs := by
  rcases hA with hA | hA
  · rcases hq with (hq | ⟨o, hq⟩) | hq
    · exact .inl (.inl (h.at_ a hA _ hq fun ps z => by cases z))
    · exact .inl (.inr ⟨o, h.at_ a hA _ hq fun ps z => by cases z⟩)
    · exact .inr hq
  · exact .inr hA
theorem walk_list {A : Addr → Prop} {ω1 : Om} {H1 : Hp} {a : Addr} {xs : List D} {vs : List V} (hA : A a) (hq : SqL F.K H1 a vs) (r : Reps F ω1 H1 xs vs) : Walk F A ω1 H1 (Itl F.K a) xs := by
  refine ⟨fun ω H i h hi => ?_, fun ω H h => ?_, fun wr ω m H i x H' h C T hi y => ?_⟩
  · rw [← r.length] at hi
    exact ⟨vs, vs[i], sqL_hold hA hq h, List.getElem?_eq_getElem hi⟩
  · exact ⟨vs, sqL_hold hA hq h, by rw [r.length]; exact Nat.le_refl _⟩
  · obtain ⟨e, y⟩ := y
    subst e
    obtain ⟨d, e1, e2⟩ := r.get' (y vs (sqL_hold hA hq h))
    exact ⟨d, ω, e1, Po.refl C T, Rep.stays h.st _ _ e2⟩
theorem walk_tup {A : Addr → Prop} {ω1 : Om} {H1 : Hp} {a : Addr} {xs : List D} {vs : List V} (hA : A a ∨ KTup F.K a vs) (hq : SqT F.K H1 a vs) (r : Reps F ω1 H1 xs vs) : Walk F A ω1 H1 (Itt F.K a) xs := by
  refine ⟨fun ω H i h hi => ?_, fun ω H h => ?_, fun wr ω m H i x H' h C T hi y => ?_⟩
  · rw [← r.length] at hi
    exact ⟨vs, vs[i], sqT_hold hA hq h, List.getElem?_eq_getElem hi⟩
  · exact ⟨vs, sqT_hold hA hq h, by rw [r.length]; exact Nat.le_refl _⟩
  · obtain ⟨e, y⟩ := y
    subst e
    obtain ⟨d, e1, e2⟩ := r.get' (y vs (sqT_hold hA hq h))
    exact ⟨d, ω, e1, Po.refl C T, Rep.stays h.st _ _ e2⟩
theorem walk_rng {A : Addr → Prop} {ω1 : Om} {H1 : Hp} {lo : Int} {n : Nat} : Walk F A ω1 H1 (Itr lo n) ((List.range n).map fun (k : Nat) => (.int (lo + (k : Int)) : D)) := by
  refine ⟨fun ω H i h hi => ?_, fun ω H h => ?_, fun wr ω m H i x H' h C T hi y => ?_⟩
  · rw [List.length_map, List.length_range] at hi
    exact hi
  · rw [List.length_map, List.length_range]
    exact Nat.le_refl _
  · obtain ⟨e, y⟩ := y
    subst e
    rw [List.length_map, List.length_range] at hi
    refine ⟨.int (lo + i), ω, ?_, Po.refl C T, y⟩
    rw [List.getElem?_map, List.getElem?_range hi]
    rfl
theorem enum_get {xs : List D} {i : Nat} {d : D} (e : xs[i]? = some d) : (enumOf xs)[i]? = some (.tuple [.int (i : Int), d]) := by
  have hl := (List.getElem?_eq_some_iff.mp e).1
  unfold enumOf
  rw [List.getElem?_zipWith, e, List.getElem?_range hl]
theorem enum_len (xs : List D) : (enumOf xs).length = xs.length := by simp [enumOf]
theorem pair_new {wr : Wr} {ω : Om} {m : M} {H : Hp} {T : Addr} {x y : V} {dx dy : D} (C : Cells F ω m H) (TI : TabInv F H) (hT : H T = none) (rx : Rep F ω H dx x) (ry : Rep F ω H dy y) :
    Po F wr ω m H (ω.out T) m (upd H T (.tup [x, y])) ∧ Rep F (ω.out T) (upd H T (.tup [x, y])) (.tuple [dx, dy]) (.ref T) := by
  have q := Po.new (wr := wr) (o := .tup [x, y]) C TI hT
  exact ⟨q, T, [x, y], rfl, .inl ⟨upd_same, fun z => z.2 rfl⟩, Reps.stays (q.stays C) _ _ ⟨x, [y], rfl, rx, y, [], rfl, ry, rfl⟩⟩
theorem walk_enum {A : Addr → Prop} {ω1 : Om} {H1 : Hp} {a : Addr} {xs : List D} {vs : List V} (hA : A a) (hq : SqL F.K H1 a vs) (r : Reps F ω1 H1 xs vs) : Walk F A ω1 H1 (Ite F.K a) (enumOf xs) := by
  refine ⟨fun ω H i h hi => ?_, fun ω H h => ?_, fun wr ω m H i x H' h C T hi y => ?_⟩
  · rw [enum_len, ← r.length] at hi
    exact ⟨vs, vs[i], sqL_hold hA hq h, List.getElem?_eq_getElem hi⟩
  · exact ⟨vs, sqL_hold hA hq h, by rw [enum_len, r.length]; exact Nat.le_refl _⟩
  · obtain ⟨Tp, v, rfl, hn, rfl, y⟩ := y
    obtain ⟨d, e1, e2⟩ := r.get' (y vs (sqL_hold hA hq h))
    obtain ⟨q1, q2⟩ := pair_new (wr := wr) (dx := .int (i : Int)) (x := .int (i : Int)) C T hn rfl (Rep.stays h.st _ _ e2)
    exact ⟨_, _, enum_get e1, q1, q2⟩

/-! enumerate of a tuple -/
def IteT (K : PySem.W.Frag) (a : Addr) : It :=
  ⟨fun i H => ∃ (xs : List V) (x : V), SqT K H a xs ∧ xs[i]? = some x, fun i H v H' => ∃ T x, v = .ref T ∧ H T = none ∧ H' = upd H T (.tup [.int (i : Nat), x]) ∧ ∀ xs, SqT K H a xs → xs[i]? = some x, fun i H => ∃ xs : List V, SqT K H a xs ∧ xs.length ≤ i⟩
theorem walk_enumT {A : Addr → Prop} {ω1 : Om} {H1 : Hp} {a : Addr} {xs : List D} {vs : List V} (hA : A a ∨ KTup F.K a vs) (hq : SqT F.K H1 a vs) (r : Reps F ω1 H1 xs vs) : Walk F A ω1 H1 (IteT F.K a) (enumOf xs) := by
  refine ⟨fun ω H i h hi => ?_, fun ω H h => ?_, fun wr ω m H i x H' h C T hi y => ?_⟩
  · rw [enum_len, ← r.length] at hi
    exact ⟨vs, vs[i], sqT_hold hA hq h, List.getElem?_eq_getElem hi⟩
  · exact ⟨vs, sqT_hold hA hq h, by rw [enum_len, r.length]; exact Nat.le_refl _⟩
  · obtain ⟨Tp, v, rfl, hn, rfl, y⟩ := y
    obtain ⟨d, e1, e2⟩ := r.get' (y vs (sqT_hold hA hq h))
    obtain ⟨q1, q2⟩ := pair_new (wr := wr) (dx := .int (i : Int)) (x := .int (i : Int)) C T hn rfl (Rep.stays h.st _ _ e2)
    exact ⟨_, _, enum_get e1, q1, q2⟩
theorem zip_get {xs ys : List D} {i : Nat} {d e : D} (h1 : xs[i]? = some d) (h2 : ys[i]? = some e) : (xs.zipWith (fun a b => (.tuple [a, b] : D)) ys)[i]? = some (.tuple [d, e]) := by
  rw [List.getElem?_zipWith, h1, h2]
theorem walk_zip {A : Addr → Prop} {ω1 : Om} {H1 : Hp} {a b : Addr} {xs ys : List D} {vs us : List V} (hA : A a) (hB : A b) (hq : SqL F.K H1 a vs) (hq2 : SqL F.K H1 b us) (r : Reps F ω1 H1 xs vs) (r2 : Reps F ω1 H1 ys us) : Walk F A ω1 H1 (Itz F.K a b) (xs.zipWith (fun a b => .tuple [a, b]) ys) := by
  refine ⟨fun ω H i h hi => ?_, fun ω H h => ?_, fun wr ω m H i x H' h C T hi y => ?_⟩
  · rw [List.length_zipWith, ← r.length, ← r2.length, Nat.lt_min] at hi
    exact ⟨vs, us, vs[i], us[i], sqL_hold hA hq h, sqL_hold hB hq2 h, List.getElem?_eq_getElem hi.1, List.getElem?_eq_getElem hi.2⟩
  · refine ⟨vs, us, sqL_hold hA hq h, sqL_hold hB hq2 h, ?_⟩
    rw [List.length_zipWith, ← r.length, ← r2.length]
    omega
  · obtain ⟨Tp, v, u, rfl, hn, rfl, y, y2⟩ := y
    obtain ⟨d, e1, e2⟩ := r.get' (y vs (sqL_hold hA hq h))
    obtain ⟨d2, e3, e4⟩ := r2.get' (y2 us (sqL_hold hB hq2 h))
    obtain ⟨q1, q2⟩ := pair_new (wr := wr) C T hn (Rep.stays h.st _ _ e2) (Rep.stays h.st _ _ e4)
    exact ⟨_, _, zip_get e1 e3, q1, q2⟩
theorem walk_zipT {A : Addr → Prop} {ω1 : Om} {H1 : Hp} {a b : Addr} {xs ys : List D} {vs us : List V} (hA : A a ∨ KTup F.K a vs) (hB : A b ∨ KTup F.K b us) (hq : SqT F.K H1 a vs) (hq2 : SqT F.K H1 b us) (r : Reps F ω1 H1 xs vs) (r2 : Reps F ω1 H1 ys us) : Walk F A ω1 H1 (RZ.ItzT F.K a b) (xs.zipWith (fun a b => .tuple [a, b]) ys) := by
  refine ⟨fun ω H i h hi => ?_, fun ω H h => ?_, fun wr ω m H i x H' h C T hi y => ?_⟩
  · rw [List.length_zipWith, ← r.length, ← r2.length, Nat.lt_min] at hi
    exact ⟨vs, us, vs[i], us[i], sqT_hold hA hq h, sqT_hold hB hq2 h, List.getElem?_eq_getElem hi.1, List.getElem?_eq_getElem hi.2⟩
  · refine ⟨vs, us, sqT_hold hA hq h, sqT_hold hB hq2 h, ?_⟩
    rw [List.length_zipWith, ← r.length, ← r2.length]
    omega
  · obtain ⟨Tp, v, u, rfl, hn, rfl, y, y2⟩ := y
    obtain ⟨d, e1, e2⟩ := r.get' (y vs (sqT_hold hA hq h))
    obtain ⟨d2, e3, e4⟩ := r2.get' (y2 us (sqT_hold hB hq2 h))
    obtain ⟨q1, q2⟩ := pair_new (wr := wr) C T hn (Rep.stays h.st _ _ e2) (Rep.stays h.st _ _ e4)
    exact ⟨_, _, zip_get e1 e3, q1, q2⟩
/-! dicts, locked -/
theorem RepP.get : ∀ {kvs : List (D × D)} {vs : List (Key × V)} {i : Nat} {k : Key} {v : V} {ω : Om} {H : Hp}, RepP F ω H kvs vs → vs[i]? = some (k, v) → ∃ kd vd, kvs[i]? = some (kd, vd) ∧ keyRel kd k ∧ Rep F ω H vd v
  | [], _, i, k, v, ω, H, h, e => by
    have h : _ = [] := h
    rw [h] at e
    simp at e
  | (kd, vd) :: r, _, 0, k, v, ω, H, h, e => by
    obtain ⟨k', v', r', rfl, h1, h2, h3⟩ := h
    simp at e
    obtain ⟨rfl, rfl⟩ := e
    exact ⟨kd, vd, rfl, h1, h2⟩
  | (kd, vd) :: r, _, i + 1, k, v, ω, H, h, e => by
    obtain ⟨k', v', r', rfl, h1, h2, h3⟩ := h
    obtain ⟨a, b, e1, e2⟩ := RepP.get (i := i) h3 (by simpa using e)
    exact ⟨a, b, by simpa using e1, e2⟩
theorem RepP.length : ∀ {kvs : List (D × D)} {vs : List (Key × V)} {ω : Om} {H : Hp}, RepP F ω H kvs vs → vs.length = kvs.length
  | [], _, ω, H, h => by
    have h : _ = [] := h
    rw [h]
    rfl
  | (kd, vd) :: r, _, ω, H, h => by
    obtain ⟨k', v', r', rfl, h1, h2, h3⟩ := h
    simp [RepP.length h3]
theorem keyRep {kd : D} {k : Key} {ω : Om} {H : Hp} (h : keyRel kd k) : Rep F ω H kd (kV k) := by
  cases kd with
  | int i =>
    have h : k = .inl i := h
    rw [h]
    rfl
  | str x =>
    have h : k = .inr x := h
    rw [h]
    rfl
  | _ => exact h.elim
theorem walk_keys {A : Addr → Prop} {ω1 : Om} {H1 : Hp} {a : Addr} {o : Obj} {kvs : List (D × D)} {vs : List (Key × V)} (hA : A a) (hq : H1 a = some (.frz o (.dK vs))) (r : RepP F ω1 H1 kvs vs) : Walk F A ω1 H1 (Itk a o vs) (kvs.map (·.1)) := by
  refine ⟨fun ω H i h hi => ?_, fun ω H h => ?_, fun wr ω m H i x H' h C T hi y => ?_⟩
  · rw [List.length_map, ← r.length] at hi
    exact ⟨h.at_ a hA _ hq (fun ps z => by cases z), hi⟩
  · exact ⟨h.at_ a hA _ hq (fun ps z => by cases z), by rw [List.length_map, r.length]; exact Nat.le_refl _⟩
  · obtain ⟨e, k, v, e1, rfl⟩ := y
    subst e
    obtain ⟨kd, vd, e2, e3, e4⟩ := r.get e1
    exact ⟨kd, ω, by rw [List.getElem?_map, e2]; rfl, Po.refl C T, keyRep e3⟩
theorem walk_vals {A : Addr → Prop} {ω1 : Om} {H1 : Hp} {a : Addr} {o : Obj} {kvs : List (D × D)} {vs : List (Key × V)} (hA : A a) (hq : H1 a = some (.frz o (.dK vs))) (r : RepP F ω1 H1 kvs vs) : Walk F A ω1 H1 (Itd a o vs) (kvs.map (·.2)) := by
  refine ⟨fun ω H i h hi => ?_, fun ω H h => ?_, fun wr ω m H i x H' h C T hi y => ?_⟩
  · rw [List.length_map, ← r.length] at hi
    exact ⟨h.at_ a hA _ hq (fun ps z => by cases z), hi⟩
  · exact ⟨h.at_ a hA _ hq (fun ps z => by cases z), by rw [List.length_map, r.length]; exact Nat.le_refl _⟩
  · obtain ⟨e, k, e1⟩ := y
    subst e
    obtain ⟨kd, vd, e2, e3, e4⟩ := r.get e1
    exact ⟨vd, ω, by rw [List.getElem?_map, e2]; rfl, Po.refl C T, Rep.stays h.st _ _ e4⟩
theorem walk_items {A : Addr → Prop} {ω1 : Om} {H1 : Hp} {a : Addr} {o : Obj} {kvs : List (D × D)} {vs : List (Key × V)} (hA : A a) (hq : H1 a = some (.frz o (.dK vs))) (r : RepP F ω1 H1 kvs vs) : Walk F A ω1 H1 (Iti a o vs) (kvs.map fun p => .tuple [p.1, p.2]) := by
  refine ⟨fun ω H i h hi => ?_, fun ω H h => ?_, fun wr ω m H i x H' h C T hi y => ?_⟩
  · rw [List.length_map, ← r.length] at hi
    exact ⟨h.at_ a hA _ hq (fun ps z => by cases z), hi⟩
  · exact ⟨h.at_ a hA _ hq (fun ps z => by cases z), by rw [List.length_map, r.length]; exact Nat.le_refl _⟩
  · obtain ⟨Tp, k, v, e1, rfl, hn, rfl⟩ := y
    obtain ⟨kd, vd, e2, e3, e4⟩ := r.get e1
    obtain ⟨q1, q2⟩ := pair_new (wr := wr) C T hn (keyRep (ω := ω) (H := H) e3) (Rep.stays h.st _ _ e4)
    exact ⟨_, _, by rw [List.getElem?_map, e2]; rfl, q1, q2⟩
end
end Ev
end
section
set_option linter.all false
set_option autoImplicit false
set_option maxRecDepth 100000
/-! Ev, part K: enumerate of a tuple; the readings of what is walked. -/
namespace PySem
open Sem (wp)
open AutoSeq1 (wpAny_loadPart')
set_option maxHeartbeats 1000000 in
theorem ev_meets_enumT (l : Addr) (items : Array Value) (n : Nat) (dct : Option Addr) (sl : Array (Option Value)) :
    Meets (Builtin.«enumerate.__new__» ⟨[.type "enumerate", .ref l], []⟩) (fun _ R s => s.heap.get? l = some { cls := .type "tuple", dict := dct, data := .seq items n, slots := sl } ∧
      R (.ok (.ret (.ref (s.heap.push { cls := .type "tuple_iterator", data := .fields #[.ref l, .int 0 0] }).objs.size)))
        { s with heap := (s.heap.push { cls := .type "tuple_iterator", data := .fields #[.ref l, .int 0 0] }).push { cls := .type "enumerate", data := .fields #[.none, .bool false, .ref s.heap.objs.size, rawInt 0, .none, .none] } }) :=
  .of_wp fun prog w A R s h => by
    obtain ⟨hp, g, d, tk, os⟩ := s; obtain ⟨hl, h⟩ := h
    have hsub := sub_enumerate
    have hL : Heap.IsTuple (Shared.heap ⟨hp, g, d, tk, os⟩) l items := ⟨_, hl, rfl, n, rfl⟩
    wp_walk using wpAny_loadPart' hl
    refine wpAny_stack_any fun st => wpAny_pure ?_
    split
    · rename_i c _ _ _ _ _
      cases (c == Value.type "enumerate")
      · wp_walk using wpAny_loadPart' hl, wpAny_pyIter_tuple hL
        exact ⟨_, rfl, h⟩
      · wp_walk using wpAny_loadPart' hl, wpAny_pyIter_tuple hL
        exact ⟨_, rfl, h⟩
    · wp_walk using wpAny_loadPart' hl, wpAny_pyIter_tuple hL
      exact ⟨_, rfl, h⟩
section
variable {prog : Program} {w : World} {A : Around} {E : Value → Shared → Prop} {s : Shared}
theorem ev_call_enumT {l : Addr} {items : Array Value} {Q : Value → Shared → Prop} (hL : s.heap.IsTuple l items)
    (h : ∀ h', IsEnum h' (s.heap.objs.size + 1) s.heap.objs.size 0 .none → h'.IsTupleIter s.heap.objs.size l 0 → h'.objs.size = s.heap.objs.size + 2 →
      (∀ b o, s.heap.get? b = some o → h'.get? b = some o) → Q (.ref (s.heap.objs.size + 1)) { s with heap := h' }) :
    wpAny (model prog w) A (call (.type "enumerate") [.ref l]) Q E s := by
  obtain ⟨⟨c, dct, dt, sl⟩, hl, hc, n, hd⟩ := hL
  replace hc : c = .type "tuple" := hc
  replace hd : dt = .seq items n := hd
  subst hc hd
  refine callType_new F.called_enumerate (by decide) (F.typeCall_enumerate_1 _) (F.newCall_enumerate_1 _) (fun obj => F.args_object_init_2 obj _) F.entry_enumerate_new
    (ev_meets_enumT l items n dct sl) ⟨hl, ?_⟩
  have hz : (s.heap.push { cls := .type "tuple_iterator", data := .fields #[.ref l, .int 0 0] }).objs.size = s.heap.objs.size + 1 := Heap.size_push ..
  show _ ∧ _
  rw [hz]
  have he : IsEnum ((s.heap.push { cls := .type "tuple_iterator", data := .fields #[.ref l, .int 0 0] }).push
      { cls := .type "enumerate", data := .fields #[.none, .bool false, .ref s.heap.objs.size, rawInt 0, .none, .none] }) (s.heap.objs.size + 1) s.heap.objs.size 0 .none := by
    have := Heap.get?_push_size (s.heap.push { cls := .type "tuple_iterator", data := .fields #[.ref l, .int 0 0] })
      (o := { cls := .type "enumerate", data := .fields #[.none, .bool false, .ref s.heap.objs.size, rawInt 0, .none, .none] }) rfl
    rw [hz] at this; exact this
  refine ⟨⟨_, he, rfl⟩, h _ he ⟨_, Heap.get?_push_of_some _ (Heap.get?_push_size _ rfl), rfl, rfl⟩ (by rw [Heap.size_push, hz]) fun b o x => Heap.get?_push_of_some _ (Heap.get?_push_of_some _ x)⟩
end
end PySem
namespace Ev
open PySem PySem.Spec PyProof.Rows L2
theorem turn_enumT {P : Program} {w : World} {K : PySem.W.Frag} {elts : List Expr} {kk : Nat} {tpos : Pos} (a e it : Addr) (hae : a ≠ e) (hai : a ≠ it) :
    Turn P w K (.Tuple elts kk tpos) (IteT K a) [e, it] e (fun i h => (∃ old, IsEnum h e it ((i : Nat) : Int) old) ∧ h.IsTupleIter it a i ∧ e ≠ it) where
  mem := by simp
  obj := fun i h st b hb => by
    obtain ⟨⟨old, he⟩, ⟨o, ho, hc, hd⟩, _⟩ := st
    have e' : b = e ∨ b = it := by simpa using hb
    rcases e' with z | z
    · rw [z]; exact ⟨_, he, fun v q => nomatch q⟩
    · rw [z]; exact ⟨o, ho, fun v q => by rw [hd] at q; cases q⟩
  keep := fun i h h' st k => let ⟨⟨old, he⟩, hi, hne⟩ := st; ⟨⟨old, k e (by simp) _ he⟩, hi.at fun o q => k it (by simp) o q, hne⟩
  item := by
    intro X hP hw hK hc i pins s σ H E I hf st hg
    subst hP hw hK
    obtain ⟨⟨old, he⟩, hit, hne⟩ := st
    obtain ⟨xs, x, hq, hx⟩ := hg
    obtain ⟨its, rv, p, hz⟩ := I.tuple hq
    obtain ⟨u, hu, ru⟩ := rv.get hx
    have hel : e < s.heap.objs.size := Heap.lt_size he
    have hil : it < s.heap.objs.size := by obtain ⟨_, q, _⟩ := hit; exact Heap.lt_size q
    have hlt : i < its.toArray.size := by
      have := (List.getElem?_eq_some_iff.mp hu).1
      simpa using this
    have hitm : e ∉ [it, a] := by
      intro z
      rcases List.mem_cons.mp z with z | z
      · exact hne z
      · exact hae (List.mem_singleton.mp z).symm
    refine wpAny_pyNext_enum_itemD (n := its.toArray.size) (Draws.tuple (A := X.A.in1) (I.ok.hd hc) it a hai its.toArray) he ⟨hit, p⟩ hlt hne hitm fun xv h' tk hP ho hit' hT hsz hk => ?_
    have hxu : xv = u := by
      have : its.toArray[i]? = some xv := hP
      rw [List.getElem?_toArray, hu] at this
      exact (Option.some.inj this).symm
    subst hxu
    refine ⟨_, rfl, wpAny_letOwnedTupleGo_enum (s := { s with heap := h', toks := tk + 1 }) ho fun h'' he' sb => ?_⟩
    have hT2 : h''.get? s.heap.objs.size = some { cls := .type "tuple", data := .seq #[.int i tk, xv] } := (sb.2 _ (Nat.ne_of_gt hel)).trans hT
    have new : ObjOk X.prog X.w (upd H s.heap.objs.size (.tup [.int (i : Nat), x])) h'' s.heap.objs.size (.tup [.int (i : Nat), x]) :=
      ⟨by show 2 ≤ sizeLine; decide, [.int i tk, xv], .cons ⟨_, rfl⟩ (.cons ru .nil), ⟨_, hT2, rfl, _, rfl⟩⟩
    have I1 : Inv X pins σ (upd H s.heap.objs.size (.tup [.int (i : Nat), x])) { s with heap := h'', toks := tk + 1 } :=
      I.turnedNew (ch := [e, it]) (fun b ob hb q => (sb.2 b (fun z => hb (by simp [z]))).trans (hk b ob (fun z => hb (by simp [z])) (fun z => hb (by simp [z])) q)) hf (Nat.le_refl _) new
    refine ⟨.ref s.heap.objs.size, _, I1, rfl, ⟨_, x, rfl, I.hok.fresh (Nat.le_refl _), rfl, fun ys hy => by rw [I.tuple_inj hy hq]; exact hx⟩, ⟨⟨xv, ?_⟩, hit'.1.at fun o q => (sb.2 it (Ne.symm hne)).trans q, hne⟩, fun b hb => ?_⟩
    · have e1 : ((i + 1 : Nat) : Int) = (i : Int) + 1 := by omega
      rw [e1]; exact he'
    · have hb' : b < s.heap.objs.size := by
        have e' : b = e ∨ b = it := by simpa using hb
        rcases e' with z | z
        · rw [z]; exact hel
        · rw [z]; exact hil
      rw [upd_ne (Nat.ne_of_lt hb')]
      exact (hf b hb).1
  done := by
    intro X hP hw hK hc i pins s σ H E I hf st hg
    subst hP hw hK
    obtain ⟨⟨old, he⟩, hit, hne⟩ := st
    obtain ⟨xs, hq, hx⟩ := hg
    obtain ⟨its, rv, p, hz⟩ := I.tuple hq
    obtain ⟨f0, f1, f2, f3, f4, f5⟩ := hf it (by simp)
    have hl := rv.length
    have hT : s.TypeIs (.ref e) "enumerate" := ⟨_, he, rfl⟩
    unfold pyNext
    refine wpAny_bind (wpAny_attempt (wpAny_callSpecial?_slot (name := Str.ofString "__next__") hT F.slot_enumerate_next
      (wpAny_call_entry F.slot_enumerate_next hT F.entry_enumerate_next ?_ (F.args_enumerate_next_1 _))))
    show wpAny _ _ (field (.ref e) 2 >>= _) _ _ _
    refine wpAny_bind (wpAny_field he rfl (x := .ref it) rfl ?_)
    refine wpAny_bind (wpAny_nextOf_tuple_end (I.ok.hd hc) hit p (by simp; omega) fun h' x he' hx' => ?_)
    obtain ⟨o, ho, hcl⟩ := hx'
    refine wpAny_bind (wpAny_isInstance (T := "StopIteration") (b := true) ⟨o, ho, hcl⟩ isSubtype_stop ?_)
    exact wpAny_pure ⟨rfl, I.turned (t' := s.toks) (fun b o hb q => he' b o hb q) f0 f1 f3 f4 f5⟩
  self := fun A i s Q E st h => let ⟨⟨_, he⟩, _⟩ := st; wpAny_pyIter_enum he h
section
variable {X : Cx}
/-- over a list or a tuple, as the value is -/
def iSeq (K : PySem.W.Frag) (tl : TE) : TI := fun σ H R => tl σ H fun x H1 => ∃ a, x = .ref a ∧ (((∃ xs, SqL K H1 a xs) ∧ R (Itl K a) H1) ∨ ((∃ xs, SqT K H1 a xs) ∧ R (Itt K a) H1) ∨ ∃ o kvs, H1 a = some (.frz o (.dK kvs)) ∧ R (Itk a o kvs) H1)
theorem pi_seq {tg l : Expr} {tl : TE} (hl : PE X l tl) : PI X tg l (iSeq X.K tl) := by
  refine ⟨fun pins s σ H R I h => ?_⟩
  refine thn (hl.run pins s σ H _ I h) fun v s1 ⟨x, H1, I1, r1, q1⟩ => ?_
  obtain ⟨a, e, q1⟩ := q1
  subst e
  cases r1
  have fp1 : ∀ b ∈ [s1.heap.objs.size], FpOk X pins H1 b := fun b hb => by
    have e : b = s1.heap.objs.size := by simpa using hb
    subst e
    exact I1.fpOk (Nat.le_refl _) (I1.hok.fresh (Nat.le_refl _))
  rcases q1 with ⟨⟨xs, hq⟩, q⟩ | ⟨⟨xs, hq⟩, q⟩ | ⟨o, kvs, hd, q⟩
  rotate_left 2
  · obtain ⟨hs, hgd, hx, es, ep, vs, hdt, hsz, kv, hm⟩ := I1.frzK hd
    refine iter_keys hs hgd hx hdt (pi_one (tk := s1.toks) I1 _ (turn_keys _ hdt) ⟨_, Heap.get?_push_size _ rfl, rfl, ?_⟩ q)
    rw [hsz] <;> rfl
  · obtain ⟨its, rv, p, hz⟩ := I1.list hq
    refine wpAny_pyIter_list p.isList ?_
    exact ⟨s1.heap.objs.size, [s1.heap.objs.size], _, _, H1, rfl, I1.kept (t' := s1.toks) fun b o e => Heap.get?_push_of_some _ e, turn_list a _, ⟨_, Heap.get?_push_size _ rfl, rfl, rfl⟩, fp1, q⟩
  · obtain ⟨its, rv, p, hz⟩ := I1.tuple hq
    refine wpAny_pyIter_tuple (show s1.heap.IsTuple a its.toArray from p) ?_
    exact ⟨s1.heap.objs.size, [s1.heap.objs.size], _, _, H1, rfl, I1.kept (t' := s1.toks) fun b o e => Heap.get?_push_of_some _ e, turn_tuple a _, ⟨_, Heap.get?_push_size _ rfl, rfl, rfl⟩, fp1, q⟩
def iEnumA (K : PySem.W.Frag) (ta : TA) : TI := fun σ H R => ta σ H fun vs H1 => ∃ a, vs = [.ref a] ∧ (((∃ xs, SqL K H1 a xs) ∧ R (Ite K a) H1) ∨ ((∃ xs, SqT K H1 a xs) ∧ R (IteT K a) H1))
theorem pi_enumA {e : Expr} {ta : TA} {p pos tpos : Pos} {elts : List Expr} {kk : Nat} (hg : Gl X "enumerate") (hm : X.mg "enumerate" = none) (ha : PA X [e] ta) (hs : starEach [e] X.env = [(false, eval e X.env)]) :
    PI X (.Tuple elts kk tpos) (.Call (.Name "enumerate" p) [e] [] pos) (iEnumA X.K ta) := by
  refine ⟨fun pins s σ H R I h => ?_⟩
  refine Call_ (ld_blt I hg hm boot_enumerate (PyProof.Rows.callWith_type1 (thn (ha.run pos pins s σ H _ I h) fun us s1 ⟨vs, H1, I1, r1, q1⟩ => ?_) hs rfl))
  obtain ⟨a, ex, q1⟩ := q1
  subst ex
  cases r1 with
  | cons r rr =>
    cases rr
    cases r
    have fp2 : ∀ b ∈ [s1.heap.objs.size + 1, s1.heap.objs.size], FpOk X pins H1 b := fun b hb => by
      have e' : b = s1.heap.objs.size + 1 ∨ b = s1.heap.objs.size := by simpa using hb
      have hle : s1.heap.objs.size ≤ b := by
        rcases e' with z | z
        · rw [z]; exact Nat.le_add_right _ _
        · rw [z]; exact Nat.le_refl _
      exact I1.fpOk hle (I1.hok.fresh hle)
    rcases q1 with ⟨⟨xs, hq⟩, q⟩ | ⟨⟨xs, hq⟩, q⟩
    · obtain ⟨its, rv, p', hz⟩ := I1.list hq
      refine call_enumerate_list p'.isList fun h' he hit hsz hk => wpAny_pyIter_enum he ?_
      have I2 : Inv X pins σ H1 { s1 with heap := h' } := I1.kept (t' := s1.toks) hk
      exact ⟨s1.heap.objs.size + 1, [s1.heap.objs.size + 1, s1.heap.objs.size], _, _, H1, rfl, I2, turn_enum a (s1.heap.objs.size + 1) s1.heap.objs.size, ⟨⟨.none, he⟩, hit, Nat.succ_ne_self _⟩, fp2, q⟩
    · obtain ⟨its, rv, p', hz⟩ := I1.tuple hq
      have hal : a < s1.heap.objs.size := by obtain ⟨o, ho, _⟩ := p'; exact Heap.lt_size ho
      refine ev_call_enumT p' fun h' he hit hsz hk => wpAny_pyIter_enum he ?_
      have I2 : Inv X pins σ H1 { s1 with heap := h' } := I1.kept (t' := s1.toks) hk
      exact ⟨s1.heap.objs.size + 1, [s1.heap.objs.size + 1, s1.heap.objs.size], _, _, H1, rfl, I2, turn_enumT a (s1.heap.objs.size + 1) s1.heap.objs.size (Nat.ne_of_lt (Nat.lt_succ_of_lt hal)) (Nat.ne_of_lt hal), ⟨⟨.none, he⟩, hit, Nat.succ_ne_self _⟩, fp2, q⟩
theorem PI_imp {tg e : Expr} {t t' : TI} (h : PI X tg e t) (i : ∀ σ H R, t' σ H R → t σ H R) : PI X tg e t' := ⟨fun pins s σ H R I hw => h.run pins s σ H R I (i σ H R hw)⟩
end
end Ev
end
section
set_option linter.all false
set_option autoImplicit false
set_option maxRecDepth 100000
/-! Ev, part L: sources. -/
namespace Ev
open PySem PySem.Spec PyProof.Rows L2

section
variable {X : Cx} {F : Fx} {W : Wd} {Wx : WX} {pos : Pos}
theorem b_e {e : Ex} {p : Expr} (ne : isB e = false) (he : PE X p (LE F Wx false (evE W e))) : PE X p (LB F Wx W (.e e)) := by
  refine PE_imp he fun σ H Q h => ?_
  obtain ⟨ω, g, m, wr, S, h⟩ := h
  simp only [evBx, evB, ne, Bool.false_eq_true, if_false] at h
  refine LG.of (wr := wr) S ?_
  show Fin F Wx wr σ (VRel F false) _ ω m H (ev W e wr g m)
  cases hx : ev W e wr g m with
  | stuck => rw [hx] at h; exact h
  | exc c m' => rw [hx] at h; exact h
  | ok d m' => rw [hx] at h; exact fun ω' v H' p r => h ω' v H' p (.inl r.pure)
theorem b_sl {i : Nat} {x : Str} (hN : X.N[i]? = some x) (hv : Vis X.env.scope x) (hd : (x == ("__debug__" : Str)) = false) (hcd : (x == ("__classdict__" : Str)) = false) : PE X (.Name x pos) (LB F Wx W (.sl i)) := by
  refine PE_imp (pe_var hN hv hd hcd) fun σ H Q h => ?_
  obtain ⟨ω, g, m, wr, S, h⟩ := h
  simp only [evBx, evB] at h
  split at h
  · rename_i xs e
    obtain ⟨e1, e2, _, _⟩ := S.sl.own i _ e
    exact ⟨_, e1, h.ok S.ce S.tb (.inr ⟨.sl i, rfl, rfl, e2, e⟩)⟩
  · rename_i d e
    obtain ⟨v, e1, e2⟩ := S.sl.val i d e
    exact ⟨v, e1, h.ok S.ce S.tb (.inl e2)⟩
  · exact h.elim
/-- a cell's content -/
theorem b_vw {e : Ex} {p : Expr} (ne : isB e = false) (he : PE X p (LE F Wx false (evE W e))) : PE X p (LB F Wx W (.vw e)) := by
  refine PE_imp he fun σ H Q h => ?_
  obtain ⟨ω, g, m, wr, S, h⟩ := h
  simp only [evBx, evB, ne, Bool.false_eq_true, if_false] at h
  refine LG.of (wr := wr) S ?_
  show Fin F Wx wr σ (VRel F false) _ ω m H (ev W e wr g m)
  cases hx : ev W e wr g m with
  | stuck => rw [hx] at h; exact h
  | exc c m' => rw [hx] at h; exact h
  | ok d m' =>
    rw [hx] at h
    intro ω' v H' p r
    simp only [R.bind_ok] at h
    cases hc : asCell d with
    | none => simp only [hc] at h; exact h.elim
    | some r' =>
      simp only [hc] at h
      obtain ⟨hr, rfl⟩ := VRel.cell hc r
      cases hm : m'[r']? with
      | none => simp only [hm] at h; exact h.elim
      | some c =>
        simp only [hm, Option.bind_some] at h
        have ce := p.cells.at_ r' c hm
        have lv : LvC m' r' "" := ⟨(List.getElem?_eq_some_iff.mp hm).1, .inl rfl⟩
        cases c with
        | ins c fs => exact h.elim
        | lst xs =>
          obtain ⟨vs, h1, h2⟩ := ce
          exact h ω' _ H' p (.inr ⟨.ce r' "", rfl, rfl, ⟨vs, h1, h2⟩, lv⟩)
        | dic lk kvs =>
          cases lk with
          | false => exact h.elim
          | true =>
            obtain ⟨vs, ⟨o, h1⟩, h2⟩ := ce
            exact h ω' _ H' p (.inr ⟨.ce r' "", rfl, rfl, ⟨o, vs, h1, h2⟩, lv⟩)
/-- what a base holds, to be walked -/
theorem bs_walk {α : Type} {ω : Om} {m : M} {H : Hp} {g : Ga} {p : Option Pl} {d : D} {xs : List D} {v : V} (r : RelBs F ω H (d, p, g, m) v) (e : seqOf d = some xs) :
    ∃ a, v = .ref a ∧ ((∃ vs, SqL F.K H a vs ∧ Reps F ω H xs vs ∧ ∃ A : Addr → Prop, A a ∧ ∀ b, A b → AOk ω m g p b ∧ ∃ o, H b = some o ∧ ∀ ps, o ≠ .tbl ps) ∨
      (∃ vs, SqT F.K H a vs ∧ Reps F ω H xs vs ∧ ∃ A : Addr → Prop, (A a ∨ KTup F.K a vs) ∧ ∀ b, A b → AOk ω m g p b ∧ ∃ o, H b = some o ∧ ∀ ps, o ≠ .tbl ps)) := by
  cases d with
  | list ds =>
    cases e
    rcases r with ⟨a, vs, rfl, h1, h2, h3⟩ | ⟨q, e1, rfl, ⟨vs, h1, h3⟩, h4⟩
    · refine ⟨a, rfl, .inl ⟨vs, SqL.of h1, h3, (· = a), rfl, fun b hb => ?_⟩⟩
      subst hb
      exact ⟨.inl h2, _, h1, fun ps z => by cases z⟩
    · refine ⟨_, rfl, .inl ⟨vs, SqL.of h1, h3, (· = adr ω q), rfl, fun b hb => ?_⟩⟩
      subst hb
      exact ⟨.inr ⟨q, _, e1, h4, rfl⟩, _, h1, fun ps z => by cases z⟩
  | tuple ds =>
    cases e
    rcases r with ⟨a, vs, rfl, h1, h3⟩ | ⟨q, e1, rfl, h, h4⟩
    · refine ⟨a, rfl, .inr ⟨vs, h1.sq, h3, ?_⟩⟩
      rcases h1 with ⟨h1, h2⟩ | h1
      · refine ⟨(· = a), .inl rfl, fun b hb => ?_⟩
        subst hb
        exact ⟨.inl h2, _, h1, fun ps z => by cases z⟩
      · exact ⟨fun _ => False, .inr h1, fun b hb => hb.elim⟩
    · exact h.elim
  | none => cases e
  | bool _ => cases e
  | int _ => cases e
  | str _ => cases e
  | dict _ => cases e
/-- a dict that may be walked -/
theorem bs_dict {ω : Om} {m : M} {H : Hp} {g : Ga} {p : Option Pl} {kvs : List (D × D)} {v : V} (r : RelBs F ω H (.dict kvs, p, g, m) v) (hp : pureD (.dict kvs) = true) :
    ∃ a o vs, v = .ref a ∧ H a = some (.frz o (.dK vs)) ∧ RepP F ω H kvs vs ∧ AOk ω m g p a := by
  unfold pureD at hp
  simp only [Bool.and_eq_true, Option.isNone_iff_eq_none] at hp
  rcases r with (⟨r', h1, _⟩ | ⟨a, ns, h1, _⟩ | ⟨a, vs, rfl, ⟨o, h1⟩, h2, h3⟩) | ⟨q, e1, rfl, ⟨o, vs, h1, h3⟩, h4⟩
  · rw [hp.1] at h1
    cases h1
  · rw [h1] at hp
    have z : asScr (scrD ns) = some (ns.map .int) := rfl
    rw [z] at hp
    exact absurd hp.2 (by simp)
  · exact ⟨a, o, vs, rfl, h1, h3, .inl h2⟩
  · exact ⟨_, o, vs, rfl, h1, h3, .inr ⟨q, _, e1, h4, rfl⟩⟩
theorem itemsOf_cases {d : D} {xs : List D} (e : itemsOf d = some xs) : seqOf d = some xs ∨ ∃ kvs, d = .dict kvs ∧ pureD d = true ∧ xs = kvs.map (·.1) := by
  unfold itemsOf at e
  split at e
  · exact .inl e
  · exact .inl e
  · split at e
    · rename_i hp
      cases e
      exact .inr ⟨_, rfl, hp, rfl⟩
    · cases e
  · cases e
theorem pi_seqS {tg p : Expr} {b : Bs} (hK : X.K = F.K) (hb : PE X p (LB F Wx W b)) : PI X tg p (LI F Wx W (.seq b)) := by
  refine PI_imp (pi_seq hb) fun σ H Rr h => ?_
  have h := LG.congr (f' := fun wr g m => (evBx W b wr g m).bind fun r m1 => R.of ((itemsOf r.1).map fun xs => (xs, r.2.1, g, m1)) m1) (fun wr g m => by
    simp only [evSx, evBx, evS]
    cases evB W b wr g m with
    | stuck => rfl
    | exc c m => rfl
    | ok r m1 =>
      obtain ⟨x, p⟩ := r
      simp only [R.bind_ok]
      cases itemsOf x <;> rfl) h
  obtain ⟨ω, g, m, wr, S, h⟩ := h
  refine LG.of S (Fin.mono (fun x H1 hx => ?_) (Fin.bind (rel := RelBs F) S.ce h))
  obtain ⟨ω1, r, m1, e1, p1, r1, h1⟩ := hx
  have e2 : r.2.2 = (g, m1) := by
    simp only [evBx] at e1
    cases e3 : evB W b wr g m with
    | stuck => rw [e3] at e1; cases e1
    | exc c m => rw [e3] at e1; cases e1
    | ok z m2 => rw [e3] at e1; cases e1; rfl
  obtain ⟨d, p, g', m'⟩ := r
  cases e2
  cases e : itemsOf d with
  | none => simp only [e] at h1; exact h1.elim
  | some xs =>
    simp only [e] at h1
    rcases itemsOf_cases e with e | ⟨kvs, rfl, hp, rfl⟩
    · obtain ⟨a, rfl, z⟩ := bs_walk (α := Unit) r1 e
      refine ⟨a, rfl, ?_⟩
      rw [hK]
      rcases z with ⟨vs, q1, q2, A, q3, q4⟩ | ⟨vs, q1, q2, A, q3, q4⟩
      · exact .inl ⟨⟨vs, q1⟩, h1.ok p1.cells p1.tabs ⟨A, q4, walk_list q3 q1 q2⟩⟩
      · exact .inr (.inl ⟨⟨vs, q1⟩, h1.ok p1.cells p1.tabs ⟨A, q4, walk_tup q3 q1 q2⟩⟩)
    · obtain ⟨a, o, vs, rfl, q1, q2, q3⟩ := bs_dict r1 hp
      exact ⟨a, rfl, .inr (.inr ⟨o, vs, q1, h1.ok p1.cells p1.tabs ⟨(· = a), fun b hb => by subst hb; exact ⟨q3, _, q1, fun ps z => by cases z⟩, walk_keys rfl q1 q2⟩⟩)⟩
theorem pi_enumS {p : Expr} {b : Bs} {np pos tpos : Pos} {elts : List Expr} {kk : Nat} (hK : X.K = F.K) (hg : Gl X "enumerate") (hm : X.mg "enumerate" = none) (pp : plainE p = true) (hb : PE X p (LB F Wx W b)) :
    PI X (.Tuple elts kk tpos) (.Call (.Name "enumerate" np) [p] [] pos) (LI F Wx W (.enum b)) := by
  refine PI_imp (pi_enumA hg hm (pa_cons hb pa_nil (plain_star pp _ _)) (plain_star pp _ _)) fun σ H Rr h => ?_
  have h := LG.congr (f' := fun wr g m => (evBx W b wr g m).bind fun r m1 => R.of ((seqOf r.1).map fun xs => (enumOf xs, r.2.1, g, m1)) m1) (fun wr g m => by
    simp only [evSx, evBx, evS]
    cases evB W b wr g m with
    | stuck => rfl
    | exc c m => rfl
    | ok r m1 =>
      obtain ⟨x, p⟩ := r
      simp only [R.bind_ok]
      cases seqOf x <;> rfl) h
  obtain ⟨ω, g, m, wr, S, h⟩ := h
  refine LG.of S (Fin.mono (fun x H1 hx => ?_) (Fin.bind (rel := RelBs F) S.ce h))
  obtain ⟨ω1, r, m1, e1, p1, r1, h1⟩ := hx
  have e2 : r.2.2 = (g, m1) := by
    simp only [evBx] at e1
    cases e3 : evB W b wr g m with
    | stuck => rw [e3] at e1; cases e1
    | exc c m => rw [e3] at e1; cases e1
    | ok z m2 => rw [e3] at e1; cases e1; rfl
  obtain ⟨d, p, g', m'⟩ := r
  cases e2
  cases e : seqOf d with
  | none => simp only [e] at h1; exact h1.elim
  | some xs =>
    simp only [e] at h1
    obtain ⟨a, rfl, z⟩ := bs_walk (α := Unit) r1 e
    refine ⟨a, rfl, ?_⟩
    rw [hK]
    rcases z with ⟨vs, q1, q2, A, q3, q4⟩ | ⟨vs, q1, q2, A, q3, q4⟩
    · exact .inl ⟨⟨vs, q1⟩, h1.ok p1.cells p1.tabs ⟨A, q4, walk_enum q3 q1 q2⟩⟩
    · exact .inr ⟨⟨vs, q1⟩, h1.ok p1.cells p1.tabs ⟨A, q4, walk_enumT q3 q1 q2⟩⟩
theorem ints1 {ω : Om} {H : Hp} {j : Int} {vs : List V} (h : Reps F ω H [.int j] vs) : vs = [.int j] := by
  obtain ⟨v, r, rfl, h1, h2⟩ := h
  have h1 : v = .int j := h1
  have h2 : r = [] := h2
  rw [h1, h2]
theorem ints2 {ω : Om} {H : Hp} {i j : Int} {vs : List V} (h : Reps F ω H [.int i, .int j] vs) : vs = [.int i, .int j] := by
  obtain ⟨v, r, rfl, h1, h2⟩ := h
  have h1 : v = .int i := h1
  rw [h1, ints1 h2]
theorem rng_core {es : List Ex} {σ : L2.St} {H : Hp} {Rr : It → Hp → Prop} (h : LI F Wx W (.rng es) σ H Rr) : LA F Wx (evLs W es) σ H fun vs H1 =>
    (∃ j : Int, vs = [.int j] ∧ -(2 ^ 62) ≤ j ∧ j < 2 ^ 62 ∧ Rr (Itr 0 j.toNat) H1) ∨ ∃ i j : Int, vs = [.int i, .int j] ∧ (-(2 ^ 62) ≤ i ∧ i < 2 ^ 62 ∧ -(2 ^ 62) ≤ j ∧ j < 2 ^ 62) ∧ Rr (Itr i (j - i).toNat) H1 := by
  have h := LG.congr (f' := fun wr g m => (evLs W es wr g m).bind fun xs m1 => R.of ((rngOf xs).map fun ys => (ys, none, g, m1)) m1) (fun wr g m => by
    simp only [evSx, evLs, evS]
    cases evL W es wr g m with
    | stuck => rfl
    | exc c m => rfl
    | ok r m1 =>
      simp only [R.bind_ok]
      cases rngOf r <;> rfl) h
  obtain ⟨ω, g, m, wr, S, h⟩ := h
  refine LG.of S (Fin.mono (fun vs H1 hx => ?_) (Fin.bind (rel := Reps F) S.ce h))
  obtain ⟨ω1, r, m1, e1, p1, r1, h1⟩ := hx
  have fin : ∀ {lo : Int} {n : Nat}, rngOf r = some ((List.range n).map fun (k : Nat) => .int (lo + (k : Int))) → Rr (Itr lo n) H1 := fun e => by
    simp only [e] at h1
    exact h1.ok p1.cells p1.tabs ⟨fun _ => False, fun b hb => hb.elim, walk_rng⟩
  unfold rngOf at h1 fin
  split at h1
  · rename_i j
    split at h1
    · rename_i hj
      exact .inl ⟨j, ints1 r1, hj.1, hj.2, fin (if_pos hj)⟩
    · exact h1.elim
  · rename_i i j
    split at h1
    · rename_i hj
      exact .inr ⟨i, j, ints2 r1, hj, fin (if_pos hj)⟩
    · exact h1.elim
  · exact h1.elim
theorem pi_rng1S {tg p : Expr} {e : Ex} {np pos : Pos} (hg : Gl X "range") (hm : X.mg "range" = none) (pp : plainE p = true) (ha : PA X [p] (LA F Wx (evLs W [e]))) : PI X tg (.Call (.Name "range" np) [p] [] pos) (LI F Wx W (.rng [e])) := by
  refine PI_imp (pi_range1 hg hm ha (plain_star pp _ _)) fun σ H Rr h => ?_
  obtain ⟨ω, g, m, wr, S, h2⟩ := rng_core h
  refine LG.of (wr := wr) S ?_
  show Fin F Wx wr σ (Reps F) _ ω m H (evLs W [e] wr g m)
  cases hx : evLs W [e] wr g m with
  | stuck => rw [hx] at h2; exact h2
  | exc c m' => rw [hx] at h2; exact h2
  | ok xs m' =>
    rw [hx] at h2
    intro ω' vs H' p r
    rcases h2 ω' vs H' p r with z | ⟨i, j, rfl, z⟩
    · exact z
    · exfalso
      have a := r.length
      rw [evL_len _ _ _ _ _ hx] at a
      simp at a
theorem pi_rng2S {tg p q : Expr} {e e2 : Ex} {np pos : Pos} (hg : Gl X "range") (hm : X.mg "range" = none) (pp : plainE p = true) (pq : plainE q = true) (ha : PA X [p, q] (LA F Wx (evLs W [e, e2]))) : PI X tg (.Call (.Name "range" np) [p, q] [] pos) (LI F Wx W (.rng [e, e2])) := by
  refine PI_imp (pi_range2 hg hm ha ((plain_star pp _ _).trans (by rw [plain_star pq]; rfl)) (plain_star pq _ _)) fun σ H Rr h => ?_
  obtain ⟨ω, g, m, wr, S, h2⟩ := rng_core h
  refine LG.of (wr := wr) S ?_
  show Fin F Wx wr σ (Reps F) _ ω m H (evLs W [e, e2] wr g m)
  cases hx : evLs W [e, e2] wr g m with
  | stuck => rw [hx] at h2; exact h2
  | exc c m' => rw [hx] at h2; exact h2
  | ok xs m' =>
    rw [hx] at h2
    intro ω' vs H' p r
    rcases h2 ω' vs H' p r with ⟨j, rfl, z⟩ | z
    · exfalso
      have a := r.length
      rw [evL_len _ _ _ _ _ hx] at a
      simp at a
    · exact z
theorem pi_zipS {p q : Expr} {a b : Ex} {np pos tpos : Pos} {elts : List Expr} {kk : Nat} (hK : X.K = F.K) (hg : Gl X "zip") (hm : X.mg "zip" = none) (na : isB a = false) (nb : isB b = false) (pp : plainE p = true) (pq : plainE q = true)
    (ha : PE X p (LE F Wx false (evE W a))) (hb : PE X q (LE F Wx false (evE W b))) : PI X (.Tuple elts kk tpos) (.Call (.Name "zip" np) [p, q] [] pos) (LI F Wx W (.zip a b)) := by
  refine PI_imp (RZ.pi_zipA hg hm (pa_cons ha (pa_cons hb pa_nil (plain_star pq _ _)) (plain_star pp _ _)) (plain_star pp _ _) (plain_any _ _ (by simp [pq]))) fun σ H Rr h => ?_
  have h := LG.congr (f' := fun wr g m => (evE W a wr g m).bind fun x m1 => (evE W b wr g m1).bind fun y m2 => R.of (match x, y with
      | .list xs, .list ys => some (xs.zipWith (fun a b => .tuple [a, b]) ys, none, g, m2)
      | .tuple xs, .tuple ys => some (xs.zipWith (fun a b => .tuple [a, b]) ys, none, g, m2)
      | _, _ => none) m2) (fun wr g m => by
    simp only [evSx, evS, evE, na, nb, Bool.or_self, Bool.false_eq_true, if_false]
    cases ev W a wr g m with
    | stuck => rfl
    | exc c m => rfl
    | ok x m1 =>
      simp only [R.bind_ok]
      cases ev W b wr g m1 with
      | stuck => rfl
      | exc c m => rfl
      | ok y m2 => cases x <;> cases y <;> rfl) h
  obtain ⟨ω, g, m, wr, S, h⟩ := h
  refine LG.of S (Fin.mono (fun x H1 hx => ?_) (Fin.bind (rel := VRel F false) S.ce h))
  obtain ⟨ω1, dx, m1, e1, p1, r1, h1⟩ := hx
  have S1 := S.po p1
  refine LG.of S1 (Fin.mono (fun y H2 hy => ?_) (Fin.bind (rel := VRel F false) S1.ce h1))
  obtain ⟨ω2, dy, m2, e2, p2, r2, h2⟩ := hy
  have rx := Rep.stays (p2.stays S1.ce) _ _ r1.pure
  have ry := r2.pure
  show ∃ a b xs ys, [x, y] = [.ref a, .ref b] ∧ _
  rw [hK]
  cases dx with
  | list ds =>
    cases dy with
    | list es =>
      obtain ⟨a, vs, rfl, h3, h4, h5⟩ := rx
      obtain ⟨b, us, rfl, h6, h7, h8⟩ := ry
      refine ⟨a, b, vs, us, rfl, .inl ⟨SqL.of h3, SqL.of h6, h2.ok p2.cells p2.tabs ⟨fun c => c = a ∨ c = b, fun c hc => ?_, walk_zip (.inl rfl) (.inr rfl) (SqL.of h3) (SqL.of h6) h5 h8⟩⟩⟩
      rcases hc with rfl | rfl
      · exact ⟨.inl h4, _, h3, fun ps z => by cases z⟩
      · exact ⟨.inl h7, _, h6, fun ps z => by cases z⟩
    | _ => exact h2.elim
  | tuple ds =>
    cases dy with
    | tuple es =>
      obtain ⟨a, vs, rfl, h3, h5⟩ := rx
      obtain ⟨b, us, rfl, h6, h8⟩ := ry
      refine ⟨a, b, vs, us, rfl, .inr ⟨h3.sq, h6.sq, h2.ok p2.cells p2.tabs ⟨fun c => (c = a ∧ H2 a = some (.tup vs) ∧ ¬ ω2.B a) ∨ (c = b ∧ H2 b = some (.tup us) ∧ ¬ ω2.B b), fun c hc => ?_, walk_zipT ?_ ?_ h3.sq h6.sq h5 h8⟩⟩⟩
      · rcases hc with ⟨rfl, q1, q2⟩ | ⟨rfl, q1, q2⟩
        · exact ⟨.inl q2, _, q1, fun ps z => by cases z⟩
        · exact ⟨.inl q2, _, q1, fun ps z => by cases z⟩
      · rcases h3 with ⟨q1, q2⟩ | q
        · exact .inl (.inl ⟨rfl, q1, q2⟩)
        · exact .inr q
      · rcases h6 with ⟨q1, q2⟩ | q
        · exact .inl (.inr ⟨rfl, q1, q2⟩)
        · exact .inr q
    | _ => exact h2.elim
  | _ => exact h2.elim
end
end Ev
end
section
set_option linter.all false
set_option autoImplicit false
set_option maxRecDepth 100000
/-! Ev, part M: targets, list comprehensions. -/
namespace Ev
open PySem PySem.Spec PyProof.Rows L2

section
variable {X : Cx} {F : Fx} {W : Wd} {Wx : WX} {pos : Pos} {wr : Wr} {ω ω' ω₁ ω₂ : Om} {m m' m₁ m₂ : M} {H H' H₁ H₂ : Hp} {σ : L2.St} {g : Ga}
theorem SlRel.set {i : Nat} {d : D} {v : V} (S : SlRel F ω g m σ H) (r : Rep F ω H d v) : SlRel F ω (g.set i (some (false, d))) m (σ.set i (some v)) H := by
  refine ⟨by rw [List.length_set, List.length_set, S.len], fun j e h => ?_, fun j e h => ?_, fun j e k f h1 h2 h3 => ?_⟩
  · by_cases hj : i = j
    · subst hj
      have hl : i < g.length := by
        have := (List.getElem?_eq_some_iff.mp h).1
        simpa using this
      rw [List.getElem?_set_self hl] at h
      cases h
      exact ⟨v, List.getElem?_set_self (by rw [← S.len]; exact hl), r⟩
    · rw [List.getElem?_set_ne hj] at h ⊢
      exact S.val j e h
  · by_cases hj : i = j
    · subst hj
      have hl : i < g.length := by
        have := (List.getElem?_eq_some_iff.mp h).1
        simpa using this
      rw [List.getElem?_set_self hl] at h
      cases h
    · rw [List.getElem?_set_ne hj] at h ⊢
      exact S.own j e h
  · have un : ∀ {j : Nat} {e : D}, (g.set i (some (false, d)))[j]? = some (some (true, e)) → g[j]? = some (some (true, e)) := fun {j e} h => by
      by_cases hj : i = j
      · subst hj
        have hl : i < g.length := by
          have := (List.getElem?_eq_some_iff.mp h).1
          simpa using this
        rw [List.getElem?_set_self hl] at h
        cases h
      · rw [List.getElem?_set_ne hj] at h
        exact h
    exact S.inj j e k f (un h1) (un h2) h3
theorem SlRel.clr {i : Nat} (S : SlRel F ω g m σ H) : SlRel F ω (g.set i none) m (σ.set i none) H := by
  have un : ∀ {j : Nat} {b : Bool} {e : D}, (g.set i none)[j]? = some (some (b, e)) → g[j]? = some (some (b, e)) ∧ i ≠ j := fun {j b e} h => by
    by_cases hj : i = j
    · subst hj
      have hl : i < g.length := by
        have := (List.getElem?_eq_some_iff.mp h).1
        simpa using this
      rw [List.getElem?_set_self hl] at h
      cases h
    · rw [List.getElem?_set_ne hj] at h
      exact ⟨h, hj⟩
  refine ⟨by rw [List.length_set, List.length_set, S.len], fun j e h => ?_, fun j e h => ?_, fun j e k f h1 h2 h3 => S.inj j e k f (un h1).1 (un h2).1 h3⟩
  · obtain ⟨h, hj⟩ := un h
    rw [List.getElem?_set_ne hj]
    exact S.val j e h
  · obtain ⟨h, hj⟩ := un h
    rw [List.getElem?_set_ne hj]
    exact S.own j e h
theorem SlRel.wipe (S : SlRel F ω g m σ H) : ∀ vs : List Nat, SlRel F ω (wipeG g vs) m (L2.wipe σ vs) H
  | [] => S
  | v :: vs => (SlRel.wipe S vs).clr
theorem wipe_in {σ : L2.St} {i : Nat} (hl : i < σ.length) : ∀ {vs : List Nat}, i ∈ vs → (L2.wipe σ vs)[i]? = some none
  | [], h => by cases h
  | v :: vs, h => by
    unfold L2.wipe
    by_cases hv : v = i
    · subst hv
      rw [List.getElem?_set_self (by rw [wipe_length]; exact hl)]
    · rw [List.getElem?_set_ne hv]
      rcases List.mem_cons.mp h with z | z
      · exact absurd z.symm hv
      · exact wipe_in hl z
theorem wipe_eq {σ σ' : L2.St} {vs : List Nat} (hl : σ'.length = σ.length) (h : ∀ i, i ∉ vs → σ'[i]? = σ[i]?) : L2.wipe σ' vs = L2.wipe σ vs := by
  apply List.ext_getElem?
  intro i
  by_cases hi : i ∈ vs
  · by_cases hil : i < σ.length
    · rw [wipe_in hil hi, wipe_in (by rw [hl]; exact hil) hi]
    · rw [List.getElem?_eq_none (by rw [wipe_length]; omega), List.getElem?_eq_none (by rw [wipe_length]; omega)]
  · rw [wipe_out hi, wipe_out hi]
    exact h i hi
theorem wipe_wipe {σ : L2.St} {vs : List Nat} : L2.wipe (L2.wipe σ vs) vs = L2.wipe σ vs := wipe_eq (wipe_length _ _) fun i hi => wipe_out hi

/-! targets -/
/-- a target's reading -/
def GOk (F : Fx) (t : TG) (tg : Tg) : Prop := ∀ (ω : Om) (H : Hp) (g : Ga) (m : M) (σ : L2.St) (d : D) (v : V) (g' : Ga) (Q : L2.St → Hp → Prop), SlRel F ω g m σ H → Rep F ω H d v → bindT tg d g = some g' →
  (∀ σ', SlRel F ω g' m σ' H → σ'.length = σ.length → (∀ i, i ∉ tvars tg → σ'[i]? = σ[i]?) → Q σ' H) → t v σ H Q
def GsOk (F : Fx) (t : TGs) (tgs : List Tg) : Prop := ∀ (ω : Om) (H : Hp) (g : Ga) (m : M) (σ : L2.St) (ds : List D) (vs : List V) (g' : Ga) (Q : L2.St → Hp → Prop), SlRel F ω g m σ H → Reps F ω H ds vs → bindT.bindTs tgs ds g = some g' →
  (∀ σ', SlRel F ω g' m σ' H → σ'.length = σ.length → (∀ i, i ∉ tvars.tvarsL tgs → σ'[i]? = σ[i]?) → Q σ' H) → t vs σ H Q
theorem gok_nm {i : Nat} : GOk F (gName i) (.nm i) := by
  intro ω H g m σ d v g' Q S r e k
  simp only [bindT] at e
  split at e
  · cases e
    refine k _ (S.set r) (List.length_set ..) fun j hj => ?_
    rw [List.getElem?_set_ne]
    intro z
    exact hj (by simp [tvars, z])
  · cases e
theorem gsok_nil : GsOk F gNil [] := by
  intro ω H g m σ ds vs g' Q S r e k
  cases ds with
  | nil =>
    cases e
    have r : vs = [] := r
    exact ⟨r, k σ S rfl fun _ _ => rfl⟩
  | cons d ds => cases e
theorem gsok_cons {t : TG} {u : TGs} {tg : Tg} {tgs : List Tg} (h1 : GOk F t tg) (h2 : GsOk F u tgs) : GsOk F (gCons t u) (tg :: tgs) := by
  intro ω H g m σ ds vs g' Q S r e k
  cases ds with
  | nil => cases e
  | cons d ds =>
    obtain ⟨v, us, rfl, r1, r2⟩ := r
    simp only [bindT.bindTs] at e
    cases e1 : bindT tg d g with
    | none => rw [e1] at e; cases e
    | some g1 =>
      rw [e1] at e
      refine ⟨v, us, rfl, h1 ω H g m σ d v g1 _ S r1 e1 fun σ1 S1 l1 k1 => h2 ω H g1 m σ1 ds us g' Q S1 r2 e fun σ2 S2 l2 k2 => k σ2 S2 (l2.trans l1) fun i hi => ?_⟩
      simp only [tvars.tvarsL, List.mem_append, not_or] at hi
      rw [k2 i hi.2, k1 i hi.1]
theorem gok_tup {u : TGs} {tgs : List Tg} {n : Nat} (hn : tgs.length = n) (h : GsOk F u tgs) : GOk F (gTup F.K n u) (.tup tgs) := by
  intro ω H g m σ d v g' Q S r e k
  cases d with
  | tuple ds =>
    obtain ⟨a, vs, rfl, h1, h3⟩ := r
    simp only [bindT] at e
    have hl : ∀ (ts : List Tg) (xs : List D) (g g' : Ga), bindT.bindTs ts xs g = some g' → ts.length = xs.length := by
      intro ts
      induction ts with
      | nil => intro xs g g' e; cases xs with
        | nil => rfl
        | cons x xs => cases e
      | cons t ts ih => intro xs g g' e; cases xs with
        | nil => cases e
        | cons x xs =>
          simp only [bindT.bindTs] at e
          cases e1 : bindT t x g with
          | none => rw [e1] at e; cases e
          | some g1 =>
            rw [e1] at e
            rw [List.length_cons, List.length_cons, ih xs g1 g' e]
    exact ⟨a, vs, rfl, h1.sq, by rw [h3.length, ← hl _ _ _ _ e, hn], h ω H g m σ ds vs g' Q S h3 e fun σ' S' l k' => k σ' S' l fun i hi => k' i (by simpa only [tvars] using hi)⟩
  | _ => simp [bindT] at e

/-! lists on the way -/
structure OwnD (F : Fx) (ω : Om) (m : M) (H : Hp) (a : Addr) (acc : List D) : Prop where
  inB : ω.B a
  ne : ∀ r f, LvC m r f → ω.ad r f ≠ a
  at_ : ∃ vs, H a = some (.lst vs) ∧ Reps F ω H acc vs
theorem OwnD.po {a : Addr} {acc : List D} (O : OwnD F ω m H a acc) (C : Cells F ω m H) (p : Po F wr ω m H ω' m' H') : OwnD F ω' m' H' a acc := by
  obtain ⟨vs, h1, h2⟩ := O.at_
  refine ⟨p.fr.pb _ _ h1 O.inB, fun r f h e => ?_, vs, p.fr.keep _ _ h1 (fun ⟨r, f, z1, _, z2⟩ => O.ne r f z1 z2) (fun ps z => by cases z), Reps.stays (p.stays C) _ _ h2⟩
  rcases p.aq r f h with ⟨z1, z2⟩ | z
  · exact O.ne r f z1 (z2.symm.trans e)
  · rw [e, h1] at z
    cases z
theorem Ub.mono {wr wr' : Wr} (h : ∀ q, wr' q = true → wr q = true) {b : Addr} : Ub ω m wr' b → Ub ω m wr b := fun ⟨r, f, a, b, c⟩ => ⟨r, f, a, h _ b, c⟩
theorem Po.mono {wr wr' : Wr} (h : ∀ q, wr' q = true → wr q = true) (p : Po F wr' ω m H ω' m' H') : Po F wr ω m H ω' m' H' :=
  ⟨p.le, p.ad, p.sl, ⟨fun b o e hu nt => p.fr.keep b o e (fun z => hu (z.mono h)) nt, p.fr.tab, p.fr.nb, p.fr.pb, p.fr.st⟩, p.aq, p.cells, p.tabs⟩
theorem lockW_le (wr : Wr) (p : Option Pl) : ∀ q, lockW wr p q = true → wr q = true := by
  intro q h
  cases p with
  | none => exact h
  | some p =>
    simp only [lockW, Bool.and_eq_true] at h
    exact h.1
/-- an item is added to a list that is younger than the start -/
theorem Po.app {a : Addr} {acc : List D} {vs : List V} {d : D} {y : V} (p : Po F wr ω m H ω' m' H') (h0 : H a = none) (O : OwnD F ω' m' H' a acc) (hv : H' a = some (.lst vs)) (hr : Reps F ω' H' acc vs) (r : Rep F ω' H' d y) :
    Po F wr ω m H ω' m' (upd H' a (.lst (vs ++ [y]))) ∧ OwnD F ω' m' (upd H' a (.lst (vs ++ [y]))) a (acc ++ [d]) := by
  have st : Stays F ω' ω' H' (upd H' a (.lst (vs ++ [y]))) := upd_stays O.inB
  have k : ∀ b o, H b = some o → upd H' a (.lst (vs ++ [y])) b = H' b := fun b o h => by rw [upd_ne (ne_of_none h h0)]
  refine ⟨⟨p.le, p.ad, p.sl, ⟨fun b o h hu nt => by rw [k b o h]; exact p.fr.keep b o h hu nt, fun b ps h => by rw [k b _ h]; exact p.fr.tab b ps h, p.fr.nb, p.fr.pb, fun b o h => by rw [k b o h]; exact p.fr.st b o h⟩, p.aq, p.cells.upd O.inB O.ne, p.tabs.upd hv⟩, O.inB, O.ne, vs ++ [y], upd_same, ?_⟩
  exact Reps.stays st _ _ (Reps.app hr ⟨y, [], rfl, r, rfl⟩)
theorem po_hold {A : Addr → Prop} (C : Cells F ω m H) (p : Po F wr ω m H ω' m' H') (hA : ∀ b, A b → ¬ Ub ω m wr b) : Hold F A ω H ω' H' := ⟨p.stays C, fun b hb o h nt => p.fr.keep b o h (hA b hb) nt⟩
theorem aok_ub {p : Option Pl} {b : Addr} (S : Stt F ω g m σ H) (h : AOk ω m g p b) : ¬ Ub ω m (lockW wr p) b := by
  rintro ⟨r, f, h1, h2, rfl⟩
  rcases h with h | ⟨q, d, rfl, h3, h4⟩
  · exact h (S.ce.inB r f h1)
  · cases q with
    | sl i => exact (S.sl.own i d h3).2.2.2 r f h1 h4
    | ce r' f' =>
      obtain ⟨e1, e2⟩ := S.ce.inj r f r' f' h1 h3 h4
      subst e1 e2
      simp [lockW] at h2
/-- what no exception leaves -/
abbrev Wx0 : WX := fun _ _ _ _ => False
abbrev evIs (W : Wd) (es : List Ex) : Wr → Ga → M → R Bool := fun wr g m => evI W es wr g m
abbrev LTs (F : Fx) (W : Wd) (es : List Ex) : TT := LG F Wx0 (fun _ _ (d : Bool) (b : Bool) => d = b) (evIs W es)
theorem pts_nil' : PTs X [] (LTs F W []) := by
  refine ⟨fun pins s σ H Q I h => pts_nil.run pins s σ H Q I ?_⟩
  obtain ⟨ω, g, m, wr, S, h⟩ := h
  simp only [evIs, evI] at h
  exact h.ok S.ce S.tb rfl
theorem pts_one' {e : Ex} {p : Expr} (he : PT X p (LT F Wx0 (evE W e))) : PTs X [p] (LTs F W [e]) := by
  refine ⟨fun pins s σ H Q I h => (pts_one he).run pins s σ H Q I ?_⟩
  obtain ⟨ω, g, m, wr, S, h⟩ := h
  refine LG.of (wr := wr) S ?_
  simp only [evIs, evI] at h
  show Fin F Wx0 wr σ RelB Q ω m H (asB (ev W e wr g m))
  cases hx : ev W e wr g m with
  | stuck => rw [hx] at h; exact h
  | exc c m' => rw [hx] at h; exact h
  | ok d m' =>
    rw [hx] at h
    cases d with
    | bool b =>
      intro ω' v H' p r
      rw [show v = b by cases r; rfl]
      cases b <;> exact h ω' _ H' p rfl
    | _ => exact h
/-- a turn's body -/
def coBody (W : Wd) (elt : Ex) (tg : Tg) (ifs : List Ex) (wr : Wr) (g : Ga) : D → M → R (Option D) := fun x m => R.nox (match bindT tg x (wipeG g (tvars tg)) with
  | none => .stuck
  | some g' => (evI W ifs wr g' m).bind fun b m' => if b then (ev W elt wr g' m').bind fun y m'' => .ok (some y) m'' else .ok none m')
end
end Ev
end
section
set_option linter.all false
set_option autoImplicit false
set_option maxRecDepth 100000
/-! Ev, part N: list comprehensions. -/
namespace Ev
open PySem PySem.Spec PyProof.Rows L2

section
variable {X : Cx} {F : Fx} {W : Wd} {Wx : WX} {pos : Pos}
theorem turns_cons (body : D → M → R (Option D)) (x : D) (xs acc : List D) (m : M) : turns body (x :: xs) acc m = (body x m).bind fun o m' => match o with
    | some y => if acc.length < sizeLine then turns body xs (acc ++ [y]) m' else .stuck
    | none => turns body xs acc m' := rfl
theorem drop_cons {α : Type} {xs : List α} {i : Nat} {x : α} (e : xs[i]? = some x) : xs.drop i = x :: xs.drop (i + 1) := by
  have hl := (List.getElem?_eq_some_iff.mp e).1
  have h2 := (List.getElem?_eq_some_iff.mp e).2
  rw [List.drop_eq_getElem_cons hl, h2]
/-- the reading of a list comprehension -/
theorem lc_read {elt : Ex} {tg : Tg} {src : Src} {ifs : List Ex} {t : TG} {vs : List Nat} {σ : L2.St} {H : Hp} {Q : VK} (ne : isB elt = false) (ht : GOk F t tg) (hvs : vs = tvars tg)
    (h : LF F Wx (evE W (.co .lc elt tg src ifs)) σ H Q) : tLc (LI F Wx W src) t (LTs F W ifs) (LE F Wx0 false (evE W elt)) vs σ H Q := by
  subst hvs
  obtain ⟨ω, g, m, wr, S, h⟩ := h
  refine LG.of (wr := wr) S ?_
  show Fin F Wx wr σ (RelI F) _ ω m H (evSx W src wr g m)
  have e0 : evE W (.co .lc elt tg src ifs) wr g m = (evS W src wr g m).bind fun r m1 => (turns (coBody W elt tg ifs (lockW wr r.2) g) r.1 [] m1).bind fun ys m' => .ok (.list ys) m' := by
    simp only [evE]
    rw [ev]
    exact if_neg (by rw [ne]; exact Bool.false_ne_true)
  rw [e0] at h
  simp only [evSx]
  cases hs : evS W src wr g m with
  | stuck => rw [hs] at h; exact h
  | exc c m' => rw [hs] at h; exact h
  | ok r m1 =>
    obtain ⟨xs, p⟩ := r
    rw [hs] at h
    simp only [R.bind_ok] at h ⊢
    intro ω1 J H1 p1 hr
    obtain ⟨A, hA, wk⟩ := hr
    have hA : ∀ b, A b → AOk ω1 m1 g p b ∧ ∃ o, H1 b = some o ∧ ∀ ps, o ≠ .tbl ps := hA
    have wk : Walk F A ω1 H1 J xs := wk
    intro L hL
    have S1 := S.po p1
    let wr' := lockW wr p
    let body := coBody W elt tg ifs wr' g
    have hU : ∀ b, A b → ¬ Ub ω1 m1 wr' b := fun b hb => aok_ub S1 (hA b hb).1
    refine ⟨fun i k H2 => k = xs.length - i ∧ i ≤ xs.length ∧ ∃ ω2 m2 acc, Po F wr' ω1 m1 H1 ω2 m2 H2 ∧ OwnD F ω2 m2 H2 L acc ∧ FinF F Wx wr σ Q ω m H ((turns body (xs.drop i) acc m2).bind fun ys m' => .ok (.list ys) m'), ?_, ?_⟩
    · refine ⟨xs.length, rfl, Nat.zero_le _, ω1.inn L, m1, [], Po.newO p1.cells p1.tabs hL, ⟨.inr rfl, fun r f hl e => lv_new p1 hL r f hl e, [], upd_same, rfl⟩, h⟩
    · rintro i k H2 ⟨rfl, hi, ω2, m2, acc, p2, O, hf⟩
      have hold : Hold F A ω1 H1 ω2 H2 := po_hold p1.cells p2 hU
      by_cases hlt : i < xs.length
      · refine .inr ⟨wk.go ω2 H2 i hold hlt, fun H' => (i + 1) ≤ xs.length ∧ ∃ ω2 m2 acc, Po F wr' ω1 m1 H1 ω2 m2 H' ∧ OwnD F ω2 m2 H' L acc ∧ FinF F Wx wr σ Q ω m H ((turns body (xs.drop (i + 1)) acc m2).bind fun ys m' => .ok (.list ys) m'), ?_, ?_⟩
        · rintro H' ⟨h1, h2⟩
          exact ⟨xs.length - (i + 1), by omega, rfl, h1, h2⟩
        · intro x H3 hy
          obtain ⟨d, ω3, e1, p3, r3⟩ := wk.yld wr' ω2 m2 H2 i x H3 hold p2.cells p2.tabs hlt hy
          have O3 := O.po p2.cells p3
          have p23 := p2.trans p1.cells p3
          rw [drop_cons e1, turns_cons] at hf
          have S3 : SlRel F ω3 (wipeG g (tvars tg)) m2 (L2.wipe σ (tvars tg)) H3 := (S1.sl.po p1.cells p23).wipe _
          cases hb : bindT tg d (wipeG g (tvars tg)) with
          | none =>
            simp only [body, coBody, hb] at hf
            exact hf.elim
          | some g' =>
            have hbody : body d m2 = R.nox ((evI W ifs wr' g' m2).bind fun b m' => if b then (ev W elt wr' g' m').bind fun y m'' => .ok (some y) m'' else .ok none m') := by
              simp only [body, coBody, hb]
            rw [hbody] at hf
            refine ht ω3 H3 _ m2 _ d x g' _ S3 r3 hb fun σ' S' hl' hk' => ⟨?_, ?_⟩
            · exact (wipe_eq hl' hk').trans wipe_wipe
            · have St3 : Stt F ω3 g' m2 σ' H3 := ⟨S', p23.cells, p23.tabs⟩
              refine LG.of (wr := wr') St3 ?_
              show Fin F Wx0 wr' σ' _ _ ω3 m2 H3 (evI W ifs wr' g' m2)
              cases ht2 : evI W ifs wr' g' m2 with
              | stuck => rw [ht2] at hf; exact hf.elim
              | exc c m' => rw [ht2] at hf; exact hf.elim
              | ok b m4 =>
                rw [ht2] at hf
                intro ω4 b' H4 p4 hb'
                subst hb'
                have O4 := O3.po p23.cells p4
                have p24 := p23.trans p1.cells p4
                simp only [R.bind_ok] at hf
                cases b with
                | false =>
                  simp only [Bool.false_eq_true, if_false, R.nox, R.bind_ok] at hf ⊢
                  exact ⟨hlt, ω4, m4, acc, p24, O4, hf⟩
                | true =>
                  simp only [if_true] at hf ⊢
                  refine LG.of (wr := wr') (St3.po p4) ?_
                  show Fin F Wx0 wr' σ' (VRel F false) _ ω4 m4 H4 (ev W elt wr' g' m4)
                  cases hx : ev W elt wr' g' m4 with
                  | stuck => rw [hx] at hf; exact hf.elim
                  | exc c m' => rw [hx] at hf; exact hf.elim
                  | ok y m5 =>
                    rw [hx] at hf
                    intro ω5 v H5 p5 r5
                    have O5 := O4.po p24.cells p5
                    have p25 := p24.trans p1.cells p5
                    simp only [R.bind_ok, R.nox] at hf
                    split at hf
                    · rename_i hz
                      obtain ⟨vs, hv1, hv2⟩ := O5.at_
                      obtain ⟨q1, q2⟩ := p25.app hL O5 hv1 hv2 r5.pure
                      exact ⟨vs, hv1, by rw [hv2.length]; exact hz, hlt, ω5, m5, acc ++ [y], q1, q2, hf⟩
                    · exact hf.elim
      · have hi2 : i = xs.length := by omega
        subst hi2
        refine .inl ⟨wk.stop ω2 H2 hold, ?_⟩
        rw [List.drop_length] at hf
        have hf : FinF F Wx wr σ Q ω m H (.ok (.list acc) m2) := hf
        have p12 : Po F wr ω m H ω2 m2 H2 := p1.trans S.ce (p2.mono (lockW_le wr p))
        refine hf ω2 L H2 p12 ?_ O.at_ O.inB O.ne
        cases e : H L with
        | none => rfl
        | some o =>
          obtain ⟨o', e2⟩ := p1.fr.st L o e
          rw [hL] at e2
          cases e2
theorem f_lc {elt iter tgE : Expr} {e : Ex} {tg : Tg} {src : Src} {ifs : List Expr} {is : List Ex} {scope : Scope} {own : List (Str × Nat)} {t : TG} (hc : X.calm = true) (hN : X.N.Nodup) (ne : isB e = false) (pf : plainE iter = true) (ok : BlkOk X.N X.env.scope scope own) (hvs : own.map (·.2) = tvars tg) (hi : PI X tgE iter (LI F Wx W src)) (hG : GOk F t tg)
    (hg : ∀ (s : Shared) (H : Hp) (C : Addr) (cl : List (Str × Addr)) (fp : List Addr), PG (X.blk s H scope (compEnvC scope cl C X.env) fp) tgE t) (ht : ∀ (s : Shared) (H : Hp) (C : Addr) (cl : List (Str × Addr)) (fp : List Addr), PTs (X.blk s H scope (compEnvC scope cl C X.env) fp) ifs (LTs F W is))
    (he : ∀ (s : Shared) (H : Hp) (C : Addr) (cl : List (Str × Addr)) (fp : List Addr), PE (X.blk s H scope (compEnvC scope cl C X.env) fp) elt (LE F Wx0 false (evE W e))) :
    PE X (.ListComp elt [⟨tgE, iter, ifs, 0⟩] scope pos) (LF F Wx (evE W (.co .lc e tg src is))) :=
  PE_imp (pe_lc hc hN hi ok hg ht he (plain_fold pf _)) fun σ H Q h => lc_read ne hG hvs h
end
end Ev
end
section
set_option linter.all false
set_option autoImplicit false
set_option maxRecDepth 100000
/-! Ev, part O: statements, their meaning and their readings. -/
namespace Ev
open PySem PySem.Spec PyProof.Rows L2

/-- how a statement ends -/
inductive RS where
  | nx (g : Ga) (m : M)
  | rt (d : D) (m : M)
  | exc (c : Nat) (g : Ga) (m : M)
  | stuck
def RS.of {α : Type} (x : R α) (g : Ga) (k : α → M → RS) : RS := match x with
  | .ok a m => k a m
  | .exc c m => .exc c g m
  | .stuck => .stuck
@[simp] theorem RS.of_ok {α : Type} (a : α) (m : M) (g : Ga) (k : α → M → RS) : RS.of (.ok a m) g k = k a m := rfl
@[simp] theorem RS.of_exc {α : Type} (c : Nat) (m : M) (g : Ga) (k : α → M → RS) : RS.of (.exc c m : R α) g k = .exc c g m := rfl
@[simp] theorem RS.of_stuck {α : Type} (g : Ga) (k : α → M → RS) : RS.of (.stuck : R α) g k = .stuck := rfl
def RS.then (x : RS) (k : Ga → M → RS) : RS := match x with
  | .nx g m => k g m
  | .rt d m => .rt d m
  | .exc c g m => .exc c g m
  | .stuck => .stuck
def asgn (i : Nat) (own : Bool) (d : D) (g : Ga) (m : M) : RS := if i < g.length then .nx (g.set i (some (own, d))) m else .stuck
def asgL : List (Nat × Bool) → List D → Ga → M → RS
  | [], [], g, m => .nx g m
  | (i, b) :: is, d :: ds, g, m => if i < g.length then asgL is ds (g.set i (some (b, d))) m else .stuck
  | _, _, _, _ => .stuck
def putF (fs : List (Str × Bool × D)) (f : Str) (d : D) : List (Str × Bool × D) := match fs with
  | [] => [(f, false, d)]
  | p :: r => if p.1 = f then (f, false, d) :: r else p :: putF r f d
def setN (xs : List D) (k : D) (d : D) : Option (List D) := match k with
  | .int i => (ixN xs.length i).map fun j => xs.set j d
  | _ => none
def getN (xs : List D) (k : D) : Option D := match k with
  | .int i => atI xs i
  | _ => none
/-- op= on ints -/
def semAug : BOp → D → D → Option D
  | .add, .int i, .int j => some (.int (i + j))
  | .sub, .int i, .int j => some (.int (i - j))
  | _, _, _ => none
/-- the turns of a loop -/
def forL (tg : Tg) (body : Ga → M → RS) : List D → Ga → M → RS
  | [], g, m => .nx g m
  | x :: xs, g, m => match bindT tg x g with
    | none => .stuck
    | some g' => (body g' m).then (forL tg body xs)
def whlL (t : Ga → M → R D) (body : Ga → M → RS) : Nat → Ga → M → RS
  | 0, _, _ => .stuck
  | n + 1, g, m => RS.of (t g m) g fun d m1 => match d with
    | .bool true => (body g m1).then (whlL t body n)
    | .bool false => .nx g m1
    | _ => .stuck
/-- each raises what c catches: the memory behind them -/
def badsR (W : Wd) (c : Nat) : List Ex → Wr → Ga → M → Option M
  | [], _, _, m => some m
  | e :: es, wr, g, m => match ev W e wr g m with
    | .exc k m' => if W.sub k c = true then badsR W c es wr g m' else none
    | _ => none
mutual
def exec (W : Wd) : St → Wr → Ga → M → RS
  | .asg i e, wr, g, m => if isB e then .stuck else RS.of (ev W e wr g m) g fun d m1 => asgn i false d g m1
  | .asgO i e, wr, g, m => RS.of (ev W e wr g m) g fun d m1 => asgn i true d g m1
  | .unp t e, wr, g, m => if isB e then .stuck else RS.of (ev W e wr g m) g fun d m1 => match bindT t d g with
    | some g' => .nx g' m1
    | none => .stuck
  | .par is es, wr, g, m => RS.of (evL W es wr g m) g fun ds m1 => asgL is ds g m1
  | .seti (.sl i) k e, wr, g, m => if isB e || isB k then .stuck else match g[i]? with
    | some (some (true, .list xs)) => RS.of (ev W e wr g m) g fun d m1 => RS.of (ev W k wr g m1) g fun kd m2 => (match setN xs kd d with
      | some xs' => .nx (g.set i (some (true, .list xs'))) m2
      | none => .stuck)
    | _ => .stuck
  | .seti (.cl o) k e, wr, g, m => if isB e || isB o || isB k then .stuck else RS.of (ev W e wr g m) g fun d m1 => RS.of (ev W o wr g m1) g fun od m2 => RS.of (ev W k wr g m2) g fun kd m3 => match asCell od with
    | some r => (match m3[r]? with
      | some (.lst xs) => (match setN xs kd d with
        | some xs' => if wr (.ce r "") then .nx g (m3.set r (.lst xs')) else .stuck
        | none => .stuck)
      | _ => .stuck)
    | none => .stuck
  | .setf o f e, wr, g, m => if isB e || isB o then .stuck else RS.of (ev W e wr g m) g fun d m1 => RS.of (ev W o wr g m1) g fun od m2 => match asCell od with
    | some r => (match m2[r]? with
      | some (.ins c fs) => if W.has c f && wr (.ce r "") && decide (fs.length < 1000) then .nx g (m2.set r (.ins c (putF fs f d))) else .stuck
      | _ => .stuck)
    | none => .stuck
  | .augn i o e, wr, g, m => if isB e then .stuck else match g[i]? with
    | some (some (false, x)) => RS.of (ev W e wr g m) g fun d m1 => (match semAug o x d with
      | some v => .nx (g.set i (some (false, v))) m1
      | none => .stuck)
    | _ => .stuck
  | .augf _ _ _ _, _, _, _ => .stuck
  | .augi (.sl i) k o e, wr, g, m => if isB e || isB k then .stuck else match g[i]? with
    | some (some (true, .list xs)) => RS.of (ev W k wr g m) g fun kd m1 => (match getN xs kd with
      | some x => RS.of (ev W e wr g m1) g fun d m2 => (match semAug o x d with
        | some v => (match setN xs kd v with
          | some xs' => .nx (g.set i (some (true, .list xs'))) m2
          | none => .stuck)
        | none => .stuck)
      | none => .stuck)
    | _ => .stuck
  | .augi _ _ _ _, _, _, _ => .stuck
  | .app (.sl i) e, wr, g, m => if isB e then .stuck else match g[i]? with
    | some (some (true, .list xs)) => RS.of (ev W e wr g m) g fun d m1 => if xs.length < sizeLine then .nx (g.set i (some (true, .list (xs ++ [d])))) m1 else .stuck
    | _ => .stuck
  | .app _ _, _, _, _ => .stuck
  | .del _ _, _, _, _ => .stuck
  | .upd _ _, _, _, _ => .stuck
  | .lk _ _, _, _, _ => .stuck
  | .exp e, wr, g, m => if isB e then .stuck else RS.of (ev W e wr g m) g fun _ m1 => .nx g m1
  | .ifs t a b, wr, g, m => RS.of (ev W t wr g m) g fun d m1 => match d with
    | .bool true => execL W a wr g m1
    | .bool false => execL W b wr g m1
    | _ => .stuck
  | .for tg src body, wr, g, m => RS.of (evS W src wr g m) g fun r m1 => match r.2 with
    | some (.sl _) => .stuck
    | p => forL tg (fun g m => execL W body (lockW wr p) g m) r.1 g m1
  | .whl t body, wr, g, m => whlL (fun g m => ev W t wr g m) (fun g m => execL W body wr g m) W.fuel g m
  | .ret e, wr, g, m => if isB e then .stuck else RS.of (ev W e wr g m) g fun d m1 => .rt d m1
  | .retn, _, _, m => .rt .none m
  | .rai c, _, g, m => .exc c g m
  | .pass, _, g, m => .nx g m
  | .bads i _ es c, wr, g, m => (match badsR W c es wr (g.set i none) m with
    | some m2 => .nx (g.set i none) m2
    | none => .stuck)
  | .frz i, _, g, m => match g[i]? with
    | some (some (true, d)) => .nx (g.set i (some (false, d))) m
    | some (some (false, _)) => .nx g m
    | _ => .stuck
def execL (W : Wd) : List St → Wr → Ga → M → RS
  | [], _, g, m => .nx g m
  | s :: r, wr, g, m => (exec W s wr g m).then fun g' m' => execL W r wr g' m'
end
/-- own slots' addresses -/
def Vg (ω : Om) (g : Ga) : Addr → Prop := fun b => ∃ i d, g[i]? = some (some (true, d)) ∧ ω.sl i = b
structure PoV (F : Fx) (wr : Wr) (V : Addr → Prop) (ω : Om) (m : M) (H : Hp) (ω' : Om) (m' : M) (H' : Hp) (V' : Addr → Prop) : Prop where
  le : ω.n ≤ ω'.n
  ad : ∀ r, r < ω.n → ω'.ad r "" = ω.ad r ""
  keep : ∀ b o, H b = some o → ¬ Ub ω m wr b → ¬ V b → (∀ ps, o ≠ .tbl ps) → H' b = some o
  tab : ∀ b ps, H b = some (.tbl ps) → ∃ more, H' b = some (.tbl (ps ++ more))
  nb : ∀ b o, H b = some o → ¬ ω.B b → ¬ ω'.B b
  pb : ∀ b o, H b = some o → ω.B b → ¬ V b → ω'.B b
  st : ∀ b o, H b = some o → ∃ o', H' b = some o'
  aq : ∀ r f, LvC m' r f → (LvC m r f ∧ ω'.ad r f = ω.ad r f) ∨ H (ω'.ad r f) = none
  vq : ∀ b, V' b → V b ∨ H b = none
  cells : Cells F ω' m' H'
  tabs : TabInv F H'
section
variable {F : Fx} {wr : Wr} {ω ω' ω₁ ω₂ : Om} {m m' m₁ m₂ : M} {H H' H₁ H₂ : Hp} {V V' V₁ V₂ : Addr → Prop}
theorem PoV.refl (C : Cells F ω m H) (T : TabInv F H) : PoV F wr V ω m H ω m H V :=
  ⟨Nat.le_refl _, fun _ _ => rfl, fun _ _ h _ _ _ => h, fun _ ps h => ⟨#[], by rw [h]; simp⟩, fun _ _ _ h => h, fun _ _ _ h _ => h, fun _ o h => ⟨o, h⟩, fun _ _ h => .inl ⟨h, rfl⟩, fun _ h => .inl h, C, T⟩
theorem PoV.of (p : Po F wr ω m H ω' m' H') (hV : ∀ b, V' b → V b) : PoV F wr V ω m H ω' m' H' V' :=
  ⟨p.le, p.ad, fun b o h hu _ nt => p.fr.keep b o h hu nt, p.fr.tab, p.fr.nb, fun b o h hb _ => p.fr.pb b o h hb, p.fr.st, p.aq, fun b h => .inl (hV b h), p.cells, p.tabs⟩
theorem PoV.trans (p : PoV F wr V ω m H ω₁ m₁ H₁ V₁) (q : PoV F wr V₁ ω₁ m₁ H₁ ω₂ m₂ H₂ V₂) : PoV F wr V ω m H ω₂ m₂ H₂ V₂ := by
  have nu : ∀ b o, H b = some o → ¬ Ub ω m wr b → ¬ Ub ω₁ m₁ wr b := fun b o h hu => by
    rintro ⟨r, f, h1, h2, rfl⟩
    rcases p.aq r f h1 with ⟨z1, z2⟩ | z
    · exact hu ⟨r, f, z1, h2, z2.symm⟩
    · rw [h] at z
      cases z
  have nv : ∀ b o, H b = some o → ¬ V b → ¬ V₁ b := fun b o h hv z => by
    rcases p.vq b z with z | z
    · exact hv z
    · rw [h] at z
      cases z
  refine ⟨Nat.le_trans p.le q.le, fun r h => (q.ad r (Nat.lt_of_lt_of_le h p.le)).trans (p.ad r h), fun b o h hu hv nt => q.keep b o (p.keep b o h hu hv nt) (nu b o h hu) (nv b o h hv) nt, fun b ps h => ?_, fun b o h hb => ?_, fun b o h hb hv => ?_, fun b o h => ?_, fun r f h => ?_, fun b h => ?_, q.cells, q.tabs⟩
  · obtain ⟨m1, e1⟩ := p.tab b ps h
    obtain ⟨m2, e2⟩ := q.tab b _ e1
    exact ⟨m1 ++ m2, by rw [e2, Array.append_assoc]⟩
  · obtain ⟨o1, e1⟩ := p.st b o h
    exact q.nb b o1 e1 (p.nb b o h hb)
  · obtain ⟨o1, e1⟩ := p.st b o h
    exact q.pb b o1 e1 (p.pb b o h hb hv) (nv b o h hv)
  · obtain ⟨o1, e1⟩ := p.st b o h
    exact q.st b o1 e1
  · rcases q.aq r f h with ⟨h1, e1⟩ | h1
    · rcases p.aq r f h1 with ⟨h2, e2⟩ | h2
      · exact .inl ⟨h2, e1.trans e2⟩
      · exact .inr (by rw [e1]; exact h2)
    · refine .inr ?_
      cases e : H (ω₂.ad r f) with
      | none => rfl
      | some o =>
        obtain ⟨o1, e1⟩ := p.st _ o e
        rw [h1] at e1
        cases e1
  · rcases q.vq b h with z | z
    · exact p.vq b z
    · refine .inr ?_
      cases e : H b with
      | none => rfl
      | some o =>
        obtain ⟨o1, e1⟩ := p.st _ o e
        rw [z] at e1
        cases e1
theorem PoV.stays (C : Cells F ω m H) (hV : ∀ b, V b → ω.B b) (p : PoV F wr V ω m H ω' m' H' V') : Stays F ω ω' H H' :=
  ⟨p.le, p.ad, fun b o h hb ht => .inl (p.keep b o h (fun z => hb (C.ub z)) (fun z => hb (hV b z)) ht), fun b o h hb => p.nb b o h hb⟩
theorem SlRel.vb {g : Ga} {σ : L2.St} (S : SlRel F ω g m σ H) : ∀ b, Vg ω g b → ω.B b := by
  rintro b ⟨i, d, e, rfl⟩
  exact (S.own i d e).2.2.1
/-- readings of statements -/
def FinS (F : Fx) (Wx : WX) (wr : Wr) (Dn : Ends) (V : Addr → Prop) (ω : Om) (m : M) (H : Hp) : RS → Prop
  | .stuck => False
  | .nx g' m' => ∀ ω' σ' H', PoV F wr V ω m H ω' m' H' (Vg ω' g') → Stt F ω' g' m' σ' H' → Dn.nx σ' H'
  | .rt d m' => ∀ ω' v H', PoV F wr V ω m H ω' m' H' (fun _ => False) → Rep F ω' H' d v → Dn.rt v H'
  | .exc c g' m' => ∀ ω' σ' H', PoV F wr V ω m H ω' m' H' (Vg ω' g') → Stt F ω' g' m' σ' H' → Wx (.ref (F.xa c)) none σ' H'
def LS (F : Fx) (Wx : WX) (f : Wr → Ga → M → RS) : TS := fun Dn σ H => ∃ ω g m wr, Stt F ω g m σ H ∧ FinS F Wx wr Dn (Vg ω g) ω m H (f wr g m)
variable {Wx : WX} {Dn : Ends} {g : Ga} {σ : L2.St}
theorem LS.of {f : Wr → Ga → M → RS} (S : Stt F ω g m σ H) (h : FinS F Wx wr Dn (Vg ω g) ω m H (f wr g m)) : LS F Wx f Dn σ H := ⟨ω, g, m, wr, S, h⟩
theorem FinS.shift (p : PoV F wr V ω m H ω₁ m₁ H₁ V₁) : ∀ {r : RS}, FinS F Wx wr Dn V ω m H r → FinS F Wx wr Dn V₁ ω₁ m₁ H₁ r
  | .stuck, h => h
  | .nx g' m', h => fun ω' σ' H' q S => h ω' σ' H' (p.trans q) S
  | .rt d m', h => fun ω' v H' q r => h ω' v H' (p.trans q) r
  | .exc c g' m', h => fun ω' σ' H' q S => h ω' σ' H' (p.trans q) S
theorem Vg.po (p : Po F wr ω m H ω' m' H') : Vg ω' g = Vg ω g := by
  funext b
  unfold Vg
  rw [p.sl]
theorem FinS.of_bind {α β : Type} {rel : Om → Hp → α → β → Prop} {x : R α} {k : α → M → RS} (S : Stt F ω g m σ H) (h : FinS F Wx wr Dn (Vg ω g) ω m H (RS.of x g k)) :
    Fin F Wx wr σ rel (fun v H1 => ∃ ω₁ d m₁, x = .ok d m₁ ∧ Po F wr ω m H ω₁ m₁ H1 ∧ rel ω₁ H1 d v ∧ Stt F ω₁ g m₁ σ H1 ∧ FinS F Wx wr Dn (Vg ω₁ g) ω₁ m₁ H1 (k d m₁)) ω m H x := by
  cases x with
  | stuck => exact h
  | exc c m' =>
    intro ω' H' p
    have h : FinS F Wx wr Dn (Vg ω g) ω m H (.exc c g m') := h
    exact h ω' σ H' (PoV.of p (fun b hb => by rw [Vg.po p] at hb; exact hb)) (S.po p)
  | ok d m' =>
    intro ω' v H' p r
    have e := Vg.po (g := g) p
    refine ⟨ω', d, m', rfl, p, r, S.po p, ?_⟩
    exact FinS.shift (PoV.of p (fun b hb => by rw [e] at hb; exact hb)) h
theorem FinS.nx {g' : Ga} {σ' : L2.St} (h : FinS F Wx wr Dn V ω m H (.nx g' m)) (S : Stt F ω g' m σ' H) (hv : ∀ b, Vg ω g' b → V b) : Dn.nx σ' H :=
  h ω σ' H (PoV.of (Po.refl S.ce S.tb) hv) S
theorem FinS.then {x : RS} {k : Ga → M → RS} (h : FinS F Wx wr Dn V ω m H (x.then k)) :
    FinS F Wx wr { Dn with nx := fun σ1 H1 => ∃ ω₁ g₁ m₁, x = .nx g₁ m₁ ∧ PoV F wr V ω m H ω₁ m₁ H1 (Vg ω₁ g₁) ∧ Stt F ω₁ g₁ m₁ σ1 H1 ∧ FinS F Wx wr Dn (Vg ω₁ g₁) ω₁ m₁ H1 (k g₁ m₁) } V ω m H x := by
  cases x with
  | stuck => exact h
  | exc c g' m' => exact h
  | rt d m' => exact h
  | nx g' m' => exact fun ω' σ' H' p S => ⟨ω', g', m', rfl, p, S, FinS.shift p h⟩
theorem LS.seq {W : Wd} {s : St} {r : List St} (h : LS F Wx (fun wr g m => execL W (s :: r) wr g m) Dn σ H) : LS F Wx (fun wr g m => exec W s wr g m) { Dn with nx := fun σ H => LS F Wx (fun wr g m => execL W r wr g m) Dn σ H } σ H := by
  obtain ⟨ω, g, m, wr, S, h⟩ := h
  simp only [execL] at h
  refine LS.of (wr := wr) S ?_
  have h := FinS.then h
  cases e : exec W s wr g m with
  | stuck => rw [e] at h; exact h
  | exc c g' m' => rw [e] at h; exact h
  | rt d m' => rw [e] at h; exact h
  | nx g' m' =>
    rw [e] at h
    intro ω' σ' H' p S'
    obtain ⟨ω₁, g₁, m₁, e1, p1, S1, h1⟩ := h ω' σ' H' p S'
    cases e1
    exact LS.of S1 h1
theorem LS.congr {f f' : Wr → Ga → M → RS} (e : ∀ wr g m, f wr g m = f' wr g m) (h : LS F Wx f Dn σ H) : LS F Wx f' Dn σ H := by
  obtain ⟨ω, g, m, wr, S, h⟩ := h
  rw [e] at h
  exact LS.of S h
end
abbrev exS (W : Wd) (s : St) : Wr → Ga → M → RS := fun wr g m => exec W s wr g m
abbrev exL (W : Wd) (s : List St) : Wr → Ga → M → RS := fun wr g m => execL W s wr g m
section
variable {X : Cx} {F : Fx} {W : Wd} {Wx : WX} {pos : Pos}
theorem ss_nil : PSs X [] (LS F Wx (exL W [])) := by
  refine PSs_imp pss_nil fun Dn σ H h => ?_
  obtain ⟨ω, g, m, wr, S, h⟩ := h
  simp only [execL] at h
  exact h.nx S fun b z => z
theorem ss_cons {p : Stmt} {ps : List Stmt} {s : St} {r : List St} (h1 : PS X p (LS F Wx (exS W s))) (h2 : PSs X ps (LS F Wx (exL W r))) : PSs X (p :: ps) (LS F Wx (exL W (s :: r))) :=
  PSs_imp (pss_cons h1 h2) fun Dn σ H h => LS.seq h
theorem ss_one {p : Stmt} {s : St} (h1 : PS X p (LS F Wx (exS W s))) : PSs X [p] (LS F Wx (exL W [s])) := by
  refine PSs_imp (pss_one h1) fun Dn σ H h => ?_
  refine LS.congr (fun wr g m => ?_) h
  simp only [execL, exS]
  cases exec W s wr g m <;> rfl
theorem s_pass : PS X (.Pass pos) (LS F Wx (exS W .pass)) := by
  refine PS_imp ps_pass fun Dn σ H h => ?_
  obtain ⟨ω, g, m, wr, S, h⟩ := h
  simp only [exec] at h
  exact h.nx S fun b z => z
theorem s_doc {x : Str} {j : Nat} {p q : Pos} : PS X (.Expr (.Constant (.str x) j p) q) (LS F Wx (exS W .pass)) := by
  refine PS_imp ps_doc fun Dn σ H h => ?_
  obtain ⟨ω, g, m, wr, S, h⟩ := h
  simp only [exec] at h
  exact h.nx S fun b z => z
theorem vg_set_f {ω : Om} {g : Ga} {i : Nat} {d : D} : ∀ b, Vg ω (g.set i (some (false, d))) b → Vg ω g b := by
  rintro b ⟨j, e, h, rfl⟩
  by_cases hj : i = j
  · subst hj
    have hl : i < g.length := by
      have := (List.getElem?_eq_some_iff.mp h).1
      simpa using this
    rw [List.getElem?_set_self hl] at h
    cases h
  · rw [List.getElem?_set_ne hj] at h
    exact ⟨j, e, h, rfl⟩
theorem Stt.set {ω : Om} {g : Ga} {m : M} {σ : L2.St} {H : Hp} {i : Nat} {d : D} {v : V} (S : Stt F ω g m σ H) (r : Rep F ω H d v) : Stt F ω (g.set i (some (false, d))) m (σ.set i (some v)) H := ⟨S.sl.set r, S.ce, S.tb⟩
def swapOk : Expr → Bool
  | .ListComp .. => false
  | .SetComp .. => false
  | .DictComp .. => false
  | _ => true
theorem swap_ok {e : Expr} (h : swapOk e = true) (t : Option Expr) (l : Nat) (env : Env) : swapsWith e t l env = pure false := by cases e <;> first | rfl | (simp [swapOk] at h)
theorem s_asg {i : Nat} {x : Str} {e : Ex} {p : Expr} {pos' : Pos} (hN : X.N.Nodup) (hi : X.N[i]? = some x) (hx : Loc X.env.scope x) (hf : X.fn x = true ∨ X.env.scope.names.lookup x = some .local) (hs : swapOk p = true) (ne : isB e = false) (he : PE X p (LE F Wx false (evE W e))) :
    PS X (.Assign [.Name x pos'] p pos) (LS F Wx (exS W (.asg i e))) := by
  refine PS_imp (ps_set hN hi hx he (swap_ok hs _ _ _) hf) fun Dn σ H h => ?_
  obtain ⟨ω, g, m, wr, S, h⟩ := h
  simp only [exec, ne, Bool.false_eq_true, if_false] at h
  refine LG.of S (Fin.mono (fun v H1 hx => ?_) (FinS.of_bind (rel := VRel F false) S h))
  obtain ⟨ω1, d, m1, e1, p1, r1, S1, h1⟩ := hx
  unfold asgn at h1
  split at h1
  · exact h1.nx (S1.set r1.pure) vg_set_f
  · exact h1.elim
end
end Ev
end
section
set_option linter.all false
set_option autoImplicit false
set_option maxRecDepth 100000
/-! Ev, part P: statements, one by one. -/
namespace Ev
open PySem PySem.Spec PyProof.Rows L2

section
variable {F : Fx} {wr : Wr} {ω ω' ω₁ ω₂ : Om} {m m' m₁ m₂ : M} {H H' H₁ H₂ : Hp} {V V' V₁ V₂ : Addr → Prop} {Wx : WX} {Dn : Ends} {g : Ga} {σ : L2.St}
theorem PoV.mono {wr wr' : Wr} (h : ∀ q, wr' q = true → wr q = true) (p : PoV F wr' V ω m H ω' m' H' V') : PoV F wr V ω m H ω' m' H' V' :=
  ⟨p.le, p.ad, fun b o e hu hv nt => p.keep b o e (fun z => hu (z.mono h)) hv nt, p.tab, p.nb, p.pb, p.st, p.aq, p.vq, p.cells, p.tabs⟩
theorem FinS.weak {wr wr' : Wr} (h : ∀ q, wr' q = true → wr q = true) : ∀ {r : RS}, FinS F Wx wr Dn V ω m H r → FinS F Wx wr' Dn V ω m H r
  | .stuck, z => z
  | .nx g' m', z => fun ω' σ' H' q S => z ω' σ' H' (q.mono h) S
  | .rt d m', z => fun ω' v H' q r => z ω' v H' (q.mono h) r
  | .exc c g' m', z => fun ω' σ' H' q S => z ω' σ' H' (q.mono h) S
theorem get_set_self {α : Type} {l : List α} {i : Nat} {a b : α} (h : (l.set i a)[i]? = some b) : b = a ∧ i < l.length := by
  have hl : i < l.length := by
    have := (List.getElem?_eq_some_iff.mp h).1
    simpa using this
  rw [List.getElem?_set_self hl] at h
  exact ⟨(Option.some.inj h).symm, hl⟩
/-- the own list of a slot is changed -/
theorem own_upd {i : Nat} {xs xs' : List D} {vs vs' : List L2.V} (S : Stt F ω g m σ H) (e : g[i]? = some (some (true, .list xs))) (hv : H (ω.sl i) = some (.lst vs)) (r : Reps F ω H xs' vs') :
    PoV F wr (Vg ω g) ω m H ω m (upd H (ω.sl i) (.lst vs')) (Vg ω (g.set i (some (true, .list xs')))) ∧ Stt F ω (g.set i (some (true, .list xs'))) m σ (upd H (ω.sl i) (.lst vs')) := by
  obtain ⟨e1, _, hB, hne⟩ := S.sl.own i _ e
  have st : Stays F ω ω H (upd H (ω.sl i) (.lst vs')) := upd_stays hB
  have hi : i < g.length := (List.getElem?_eq_some_iff.mp e).1
  have C' : Cells F ω m (upd H (ω.sl i) (.lst vs')) := S.ce.upd hB hne
  have T' : TabInv F (upd H (ω.sl i) (.lst vs')) := S.tb.upd hv
  have vq : ∀ b, Vg ω (g.set i (some (true, .list xs'))) b → Vg ω g b := by
    rintro b ⟨j, d, h, rfl⟩
    by_cases hj : i = j
    · subst hj
      exact ⟨i, _, e, rfl⟩
    · rw [List.getElem?_set_ne hj] at h
      exact ⟨j, d, h, rfl⟩
  refine ⟨⟨Nat.le_refl _, fun _ _ => rfl, fun b o h hu hv' nt => ?_, fun b ps h => ⟨#[], ?_⟩, fun _ _ _ h => h, fun _ _ _ h _ => h, fun b o h => ?_, fun r f h => .inl ⟨h, rfl⟩, fun b h => .inl (vq b h), C', T'⟩, ⟨by rw [List.length_set]; exact S.sl.len, fun j d h => ?_, fun j d h => ?_, fun j d k d' h1 h2 h3 => ?_⟩, C', T'⟩
  · rw [upd_ne fun z => hv' ⟨i, _, e, z.symm⟩]
    exact h
  · rw [upd_ne (ne_of h hv (fun z => by cases z)), h]
    simp
  · by_cases hb : b = ω.sl i
    · exact ⟨_, by rw [hb]; exact upd_same⟩
    · exact ⟨o, by rw [upd_ne hb]; exact h⟩
  · by_cases hj : i = j
    · subst hj
      obtain ⟨z, _⟩ := get_set_self h
      cases z
    · rw [List.getElem?_set_ne hj] at h
      obtain ⟨v, h1, h2⟩ := S.sl.val j d h
      exact ⟨v, h1, Rep.stays st _ _ h2⟩
  · by_cases hj : i = j
    · subst hj
      obtain ⟨z, _⟩ := get_set_self h
      cases z
      exact ⟨e1, ⟨vs', upd_same, Reps.stays st _ _ r⟩, hB, hne⟩
    · rw [List.getElem?_set_ne hj] at h
      obtain ⟨h1, h2, h3, h4⟩ := S.sl.own j d h
      exact ⟨h1, Cont.keep st (fun o q _ => by rw [upd_ne fun z => hj (S.sl.inj i _ j d e h z.symm)]; exact q) h2, h3, h4⟩
  · have un : ∀ {j : Nat} {d : D}, (g.set i (some (true, .list xs')))[j]? = some (some (true, d)) → ∃ d', g[j]? = some (some (true, d')) := fun {j d} h => by
      by_cases hj : i = j
      · subst hj
        exact ⟨_, e⟩
      · rw [List.getElem?_set_ne hj] at h
        exact ⟨_, h⟩
    obtain ⟨a, ha⟩ := un h1
    obtain ⟨b, hb⟩ := un h2
    exact S.sl.inj j a k b ha hb h3
/-- a slot's own thing is nobody's any more -/
theorem frz_sl {i : Nat} {ds : List D} (S : Stt F ω g m σ H) (e : g[i]? = some (some (true, .list ds))) :
    PoV F wr (Vg ω g) ω m H (ω.out (ω.sl i)) m H (Vg (ω.out (ω.sl i)) (g.set i (some (false, .list ds)))) ∧ Stt F (ω.out (ω.sl i)) (g.set i (some (false, .list ds))) m σ H := by
  obtain ⟨e1, hc, hB, hne⟩ := S.sl.own i _ e
  have C' : Cells F (ω.out (ω.sl i)) m H := S.ce.out hne
  refine ⟨⟨Nat.le_refl _, fun _ _ => rfl, fun b o h _ _ _ => h, fun b ps h => ⟨#[], by rw [h]; simp⟩, fun _ _ _ h z => h z.1, fun b _ _ h hv => ⟨h, fun z => hv ⟨i, _, e, z.symm⟩⟩, fun b o h => ⟨o, h⟩, fun r f h => .inl ⟨h, rfl⟩, fun b h => .inl (vg_set_f b h), C', S.tb⟩, ⟨by rw [List.length_set]; exact S.sl.len, fun j f h => ?_, fun j f h => ?_, fun j a k b h1 h2 h3 => ?_⟩, C', S.tb⟩
  · by_cases hj : i = j
    · subst hj
      obtain ⟨z, _⟩ := get_set_self h
      cases z
      exact ⟨_, e1, Rep.freeze hc⟩
    · rw [List.getElem?_set_ne hj] at h
      obtain ⟨v, h1, h2⟩ := S.sl.val j f h
      exact ⟨v, h1, Rep.stays stays_out _ _ h2⟩
  · by_cases hj : i = j
    · subst hj
      obtain ⟨z, _⟩ := get_set_self h
      cases z
    · rw [List.getElem?_set_ne hj] at h
      obtain ⟨h1, h2, h3, h4⟩ := S.sl.own j f h
      exact ⟨h1, Cont.keep stays_out (fun o q _ => q) h2, ⟨h3, fun z => hj (S.sl.inj j f i _ h e z).symm⟩, h4⟩
  · have un : ∀ {j : Nat} {f : D}, (g.set i (some (false, .list ds)))[j]? = some (some (true, f)) → g[j]? = some (some (true, f)) := fun {j f} h => by
      by_cases hj : i = j
      · subst hj
        obtain ⟨z, _⟩ := get_set_self h
        cases z
      · rw [List.getElem?_set_ne hj] at h
        exact h
    exact S.sl.inj j a k b (un h1) (un h2) h3
/-- the same of a dict, which is locked -/
theorem frz_slD {i : Nat} {kvs : List (D × D)} {vs : List (Key × L2.V)} {od : Obj} (S : Stt F ω g m σ H) (e : g[i]? = some (some (true, .dict kvs))) (hv0 : H (ω.sl i) = some (.dK vs)) (hr0 : RepP F ω H kvs vs) :
    PoV F wr (Vg ω g) ω m H (ω.out (ω.sl i)) m (upd H (ω.sl i) (.frz od (.dK vs))) (Vg (ω.out (ω.sl i)) (g.set i (some (false, .dict kvs)))) ∧ Stt F (ω.out (ω.sl i)) (g.set i (some (false, .dict kvs))) m σ (upd H (ω.sl i) (.frz od (.dK vs))) := by
  obtain ⟨e1, hc, hB, hne⟩ := S.sl.own i _ e
  have C' : Cells F (ω.out (ω.sl i)) m (upd H (ω.sl i) (.frz od (.dK vs))) := (S.ce.upd hB hne).out hne
  have T' : TabInv F (upd H (ω.sl i) (.frz od (.dK vs))) := S.tb.updD hv0
  have st : Stays F ω ω H (upd H (ω.sl i) (.frz od (.dK vs))) := upd_stays hB
  refine ⟨⟨Nat.le_refl _, fun _ _ => rfl, fun b o h _ hv _ => ?_, fun b ps h => ⟨#[], ?_⟩, fun _ _ _ h z => h z.1, fun b _ _ h hv => ⟨h, fun z => hv ⟨i, _, e, z.symm⟩⟩, fun b o h => ?_, fun r f h => .inl ⟨h, rfl⟩, fun b h => .inl (vg_set_f b h), C', T'⟩, ⟨by rw [List.length_set]; exact S.sl.len, fun j f h => ?_, fun j f h => ?_, fun j a k b h1 h2 h3 => ?_⟩, C', T'⟩
  · rw [upd_ne fun z => hv ⟨i, _, e, z.symm⟩]
    exact h
  · rw [upd_ne (ne_of h hv0 (fun z => by cases z)), h]
    simp
  · by_cases hb : b = ω.sl i
    · exact ⟨_, by rw [hb]; exact upd_same⟩
    · exact ⟨o, by rw [upd_ne hb]; exact h⟩
  · by_cases hj : i = j
    · subst hj
      obtain ⟨z, _⟩ := get_set_self h
      cases z
      exact ⟨_, e1, Rep.lock hB hr0⟩
    · rw [List.getElem?_set_ne hj] at h
      obtain ⟨v, h1, h2⟩ := S.sl.val j f h
      exact ⟨v, h1, Rep.stays (stays_out (H := upd H (ω.sl i) (.frz od (.dK vs)))) _ _ (Rep.stays st _ _ h2)⟩
  · by_cases hj : i = j
    · subst hj
      obtain ⟨z, _⟩ := get_set_self h
      cases z
    · rw [List.getElem?_set_ne hj] at h
      obtain ⟨h1, h2, h3, h4⟩ := S.sl.own j f h
      have hn : ω.sl j ≠ ω.sl i := fun z => hj (S.sl.inj j f i _ h e z).symm
      exact ⟨h1, Cont.keep stays_out (fun o q _ => q) (Cont.keep st (fun o q _ => by show upd H (ω.sl i) _ (ω.sl j) = _; rw [upd_ne hn]; exact q) h2), ⟨h3, hn⟩, h4⟩
  · have un : ∀ {j : Nat} {f : D}, (g.set i (some (false, (.dict kvs : D))))[j]? = some (some (true, f)) → g[j]? = some (some (true, f)) := fun {j f} h => by
      by_cases hj : i = j
      · subst hj
        obtain ⟨z, _⟩ := get_set_self h
        cases z
      · rw [List.getElem?_set_ne hj] at h
        exact h
    exact S.sl.inj j a k b (un h1) (un h2) h3
def Om.sls (ω : Om) (i : Nat) (a : Addr) : Om := { ω with sl := fun j => if j = i then a else ω.sl j }
theorem stays_sls {i : Nat} {a : Addr} : Stays F ω (ω.sls i a) H H := ⟨Nat.le_refl _, fun _ _ => rfl, fun b o h _ _ => .inl h, fun b o _ hb z => hb z⟩
theorem Cells.sls {i : Nat} {a : Addr} (C : Cells F ω m H) : Cells F (ω.sls i a) m H :=
  C.stays stays_sls rfl rfl (fun _ _ _ h => h) (fun _ _ h _ => h)
/-- a new thing is a slot's own -/
theorem own_new {i : Nat} {a : Addr} {d : D} (S : Stt F ω g m σ H) (p : Po F wr ω m H ω' m' H') (h0 : H a = none) (hc : ContAt F ω' H' a d) (hB : ω'.B a) (hne : ∀ r f, LvC m' r f → ω'.ad r f ≠ a) (hi : i < g.length) :
    PoV F wr (Vg ω g) ω m H (ω'.sls i a) m' H' (Vg (ω'.sls i a) (g.set i (some (true, d)))) ∧ Stt F (ω'.sls i a) (g.set i (some (true, d))) m' (σ.set i (some (.ref a))) H' := by
  have S1 := S.po p
  have C' : Cells F (ω'.sls i a) m' H' := p.cells.sls
  have sli : (ω'.sls i a).sl i = a := by show (if i = i then a else _) = a; rw [if_pos rfl]
  have slj : ∀ j, i ≠ j → (ω'.sls i a).sl j = ω'.sl j := fun j hj => by show (if j = i then a else _) = _; rw [if_neg fun z => hj z.symm]
  have old : ∀ {j : Nat} {f : D}, g[j]? = some (some (true, f)) → ω'.sl j ≠ a := fun {j f} h z => by
    obtain ⟨_, h2, _, _⟩ := S.sl.own j f h
    obtain ⟨o, h5, _⟩ := Cont.tracked h2
    rw [← p.sl, z, h0] at h5
    cases h5
  refine ⟨⟨p.le, p.ad, fun b o h hu _ nt => p.fr.keep b o h hu nt, p.fr.tab, p.fr.nb, fun b o h hb _ => p.fr.pb b o h hb, p.fr.st, p.aq, ?_, C', p.tabs⟩, ⟨by rw [List.length_set, List.length_set]; exact S.sl.len, fun j f h => ?_, fun j f h => ?_, fun j b k c h1 h2 h3 => ?_⟩, C', p.tabs⟩
  · rintro b ⟨j, f, h, rfl⟩
    by_cases hj : i = j
    · subst hj
      rw [sli]
      exact .inr h0
    · rw [List.getElem?_set_ne hj] at h
      rw [slj j hj, p.sl]
      exact .inl ⟨j, f, h, rfl⟩
  · by_cases hj : i = j
    · subst hj
      obtain ⟨z, _⟩ := get_set_self h
      cases z
    · rw [List.getElem?_set_ne hj] at h
      obtain ⟨v, h1, h2⟩ := S1.sl.val j f h
      exact ⟨v, by rw [List.getElem?_set_ne hj]; exact h1, Rep.stays stays_sls _ _ h2⟩
  · by_cases hj : i = j
    · subst hj
      obtain ⟨z, _⟩ := get_set_self h
      cases z
      rw [sli]
      exact ⟨List.getElem?_set_self (by rw [← S.sl.len]; exact hi), Cont.keep stays_sls (fun o q _ => q) hc, hB, hne⟩
    · rw [List.getElem?_set_ne hj] at h
      obtain ⟨h1, h2, h3, h4⟩ := S1.sl.own j f h
      rw [slj j hj]
      exact ⟨by rw [List.getElem?_set_ne hj]; exact h1, Cont.keep stays_sls (fun o q _ => q) h2, h3, h4⟩
  · by_cases hj : i = j
    · by_cases hk : i = k
      · rw [← hj, ← hk]
      · rw [List.getElem?_set_ne hk] at h2
        rw [slj k hk, ← hj, sli] at h3
        exact absurd h3.symm (old h2)
    · rw [List.getElem?_set_ne hj] at h1
      by_cases hk : i = k
      · rw [slj j hj, ← hk, sli] at h3
        exact absurd h3 (old h1)
      · rw [List.getElem?_set_ne hk] at h2
        rw [slj j hj, slj k hk] at h3
        exact S1.sl.inj j b k c h1 h2 h3
end
section
variable {X : Cx} {F : Fx} {W : Wd} {Wx : WX} {pos : Pos}
theorem pss_lockD {t : TS} {ps : List Stmt} (hp : PSs X ps t) : PSs X ps (fun D σ H => t D σ H ∨ ∃ d u, H d = some u ∧ Mut (some u) ∧ ∀ od, t D σ (upd H d (.frz od u))) := by
  refine ⟨fun pins s σ H D I h => ?_⟩
  rcases h with h | ⟨d, u, hd, mu, q⟩
  · exact hp.run pins s σ H D I h
  · obtain ⟨od, I2⟩ := I.lock hd mu
    exact hp.run pins s σ _ D I2 (q od)
theorem ss_frz {i : Nat} {ps : List Stmt} {r : List St} (h : PSs X ps (LS F Wx (exL W r))) : PSs X ps (LS F Wx (exL W (.frz i :: r))) := by
  refine PSs_imp (pss_lockD h) fun Dn σ H h => ?_
  obtain ⟨ω, g, m, wr, S, h⟩ := h
  simp only [exL, execL, exec] at h
  split at h
  · rename_i d e
    obtain ⟨_, hc, _, _⟩ := S.sl.own i _ e
    cases d with
    | list ds =>
      obtain ⟨p, S'⟩ := frz_sl (wr := wr) S e
      exact .inl (LS.of S' (FinS.shift p h))
    | dict kvs =>
      obtain ⟨vs, hv, hr⟩ := hc
      refine .inr ⟨_, _, hv, trivial, fun od => ?_⟩
      obtain ⟨p, S'⟩ := frz_slD (wr := wr) (od := od) S e hv hr
      exact LS.of S' (FinS.shift p h)
    | none => exact hc.elim
    | bool _ => exact hc.elim
    | int _ => exact hc.elim
    | str _ => exact hc.elim
    | tuple _ => exact hc.elim
  · exact .inl (LS.of S h)
  · exact h.elim
theorem setO_core {i : Nat} {e : Ex} {σ : L2.St} {H : Hp} {Dn : Ends} (h : LS F Wx (exS W (.asgO i e)) Dn σ H) : LF F Wx (evE W e) σ H fun v H1 => Dn.nx (σ.set i (some v)) H1 := by
  obtain ⟨ω, g, m, wr, S, h⟩ := h
  refine ⟨ω, g, m, wr, S, ?_⟩
  simp only [exec] at h
  show FinF F Wx wr σ _ ω m H (ev W e wr g m)
  cases hx : ev W e wr g m with
  | stuck => rw [hx] at h; exact h
  | exc c m' =>
    rw [hx] at h
    intro ω' H' p
    have h : FinS F Wx wr Dn (Vg ω g) ω m H (.exc c g m') := h
    exact h ω' σ H' (PoV.of p (fun b hb => by rw [Vg.po p] at hb; exact hb)) (S.po p)
  | ok d m' =>
    rw [hx] at h
    intro ω' a H' p h0 hc hB hne
    simp only [RS.of_ok, asgn] at h
    split at h
    · rename_i hi
      obtain ⟨q1, q2⟩ := own_new S p h0 hc hB hne hi
      exact h (ω'.sls i a) _ H' q1 q2
    · exact h.elim
theorem s_asgO {i : Nat} {x : Str} {e : Ex} {p : Expr} {pos' : Pos} (hN : X.N.Nodup) (hi : X.N[i]? = some x) (hx : Loc X.env.scope x) (hf : X.fn x = true ∨ X.env.scope.names.lookup x = some .local) (hs : swapOk p = true) (he : PE X p (LF F Wx (evE W e))) :
    PS X (.Assign [.Name x pos'] p pos) (LS F Wx (exS W (.asgO i e))) :=
  PS_imp (ps_set hN hi hx he (swap_ok hs _ _ _) hf) fun Dn σ H h => setO_core h
theorem vg_bind : ∀ (tg : Tg) (d : D) (g g' : Ga), bindT tg d g = some g' → ∀ (ω : Om) b, Vg ω g' b → Vg ω g b
  | .nm i, d, g, g', e => by
    intro ω b hb
    simp only [bindT] at e
    split at e
    · cases e
      exact vg_set_f b hb
    · cases e
  | .tup ts, .tuple ds, g, g', e => by
    simp only [bindT] at e
    exact vg_binds ts ds g g' e
  | .tup ts, .none, g, g', e => by simp [bindT] at e
  | .tup ts, .bool _, g, g', e => by simp [bindT] at e
  | .tup ts, .int _, g, g', e => by simp [bindT] at e
  | .tup ts, .str _, g, g', e => by simp [bindT] at e
  | .tup ts, .list _, g, g', e => by simp [bindT] at e
  | .tup ts, .dict _, g, g', e => by simp [bindT] at e
where vg_binds : ∀ (ts : List Tg) (ds : List D) (g g' : Ga), bindT.bindTs ts ds g = some g' → ∀ (ω : Om) b, Vg ω g' b → Vg ω g b
  | [], [], g, g', e => by
    intro ω b hb
    cases e
    exact hb
  | [], _ :: _, g, g', e => by cases e
  | _ :: _, [], g, g', e => by cases e
  | t :: ts, d :: ds, g, g', e => by
    intro ω b hb
    simp only [bindT.bindTs] at e
    cases e1 : bindT t d g with
    | none => rw [e1] at e; cases e
    | some g1 =>
      rw [e1] at e
      exact vg_bind t d g g1 e1 ω b (vg_binds ts ds g1 g' e ω b hb)
theorem s_unp {e : Ex} {t : Tg} {u : TG} {tgE p : Expr} (hs : swapOk p = true) (hw : swappedStores [tgE] p X.env = pure none) (h1 : (assignEach [tgE] X.env).map (·.2) = [assign tgE X.env]) (ne : isB e = false) (he : PE X p (LE F Wx false (evE W e))) (hg : PG X tgE u) (hG : GOk F u t) :
    PS X (.Assign [tgE] p pos) (LS F Wx (exS W (.unp t e))) := by
  refine PS_imp (ps_asg he hg (swap_ok hs _ _ _) hw h1) fun Dn σ H h => ?_
  obtain ⟨ω, g, m, wr, S, h⟩ := h
  simp only [exec, ne, Bool.false_eq_true, if_false] at h
  refine LG.of S (Fin.mono (fun v H1 hx => ?_) (FinS.of_bind (rel := VRel F false) S h))
  obtain ⟨ω1, d, m1, e1, p1, r1, S1, h1⟩ := hx
  cases hb : bindT t d g with
  | none => simp only [hb] at h1; exact h1.elim
  | some g' =>
    simp only [hb] at h1
    exact hG ω1 H1 g m1 σ d v g' _ S1.sl r1.pure hb fun σ' S' _ _ => h1.nx ⟨S', S1.ce, S1.tb⟩ (vg_bind t d g g' hb ω1)
/-- an item's value: plain, or new and somebody's own -/
def tO (F : Fx) (Wx : WX) (W : Wd) (b : Bool) (e : Ex) : TE := match b with
  | true => LF F Wx (evE W e)
  | false => LE F Wx false (evE W e)
def VO (F : Fx) (ω : Om) (m : M) (H H0 : Hp) (b : Bool) (d : D) (v : L2.V) : Prop := match b with
  | false => Rep F ω H d v
  | true => ∃ a, v = .ref a ∧ H0 a = none ∧ ContAt F ω H a d ∧ ω.B a ∧ ∀ r f, LvC m r f → ω.ad r f ≠ a
section
variable {wr : Wr} {ω ω' ω₁ ω₀ : Om} {m m' m₁ m₀ : M} {H H' H₁ H₀ : Hp} {g : Ga} {σ : L2.St} {Dn : Ends} {V₀ : Addr → Prop}
theorem VO.po {b : Bool} {d : D} {v : L2.V} (C : Cells F ω m H) (p : Po F wr ω m H ω' m' H') (h : VO F ω m H H₀ b d v) : VO F ω' m' H' H₀ b d v := by
  cases b with
  | false => exact Rep.stays (p.stays C) _ _ h
  | true =>
    obtain ⟨a, rfl, h0, hc, hB, hne⟩ := h
    obtain ⟨o, h5, _⟩ := Cont.tracked hc
    refine ⟨a, rfl, h0, Cont.keep (p.stays C) (fun o q nt => p.fr.keep _ o q (fun ⟨r, f, z1, _, z2⟩ => hne r f z1 z2) nt) hc, p.fr.pb _ _ h5 hB, fun r f z e2 => ?_⟩
    rcases p.aq r f z with ⟨z1, z2⟩ | z1
    · exact hne r f z1 (z2.symm.trans e2)
    · rw [e2, h5] at z1
      cases z1
theorem none_back (p : Po F wr ω₀ m₀ H₀ ω m H) {a : Addr} (h : H a = none) : H₀ a = none := by
  cases e : H₀ a with
  | none => rfl
  | some o =>
    obtain ⟨o', e2⟩ := p.fr.st a o e
    rw [h] at e2
    cases e2
theorem of_O {b : Bool} {e : Ex} {k : D → M → RS} (C0 : Cells F ω₀ m₀ H₀) (hV : ∀ b, Vg ω g b → V₀ b) (p0 : Po F wr ω₀ m₀ H₀ ω m H) (S : Stt F ω g m σ H) (h : FinS F Wx wr Dn V₀ ω₀ m₀ H₀ (RS.of (ev W e wr g m) g k)) :
    tO F Wx W b e σ H fun v H1 => ∃ ω1 d m1, Po F wr ω m H ω1 m1 H1 ∧ VO F ω1 m1 H1 H b d v ∧ Stt F ω1 g m1 σ H1 ∧ FinS F Wx wr Dn V₀ ω₀ m₀ H₀ (k d m1) := by
  have exc : ∀ c m', ev W e wr g m = .exc c m' → ∀ ω' H', Po F wr ω m H ω' m' H' → Wx (.ref (F.xa c)) none σ H' := fun c m' hx ω' H' p => by
    rw [hx] at h
    have h : FinS F Wx wr Dn V₀ ω₀ m₀ H₀ (.exc c g m') := h
    exact h ω' σ H' (PoV.of (p0.trans C0 p) (fun b hb => hV b (by rw [Vg.po p] at hb; exact hb))) (S.po p)
  cases b with
  | false =>
    refine LG.of (wr := wr) S ?_
    show Fin F Wx wr σ (VRel F false) _ ω m H (ev W e wr g m)
    cases hx : ev W e wr g m with
    | stuck => rw [hx] at h; exact h
    | exc c m' => exact exc c m' hx
    | ok d m' =>
      rw [hx] at h
      exact fun ω' v H' p r => ⟨ω', d, m', p, r.pure, S.po p, h⟩
  | true =>
    refine ⟨ω, g, m, wr, S, ?_⟩
    show FinF F Wx wr σ _ ω m H (ev W e wr g m)
    cases hx : ev W e wr g m with
    | stuck => rw [hx] at h; exact h
    | exc c m' => exact exc c m' hx
    | ok d m' =>
      rw [hx] at h
      exact fun ω' a H' p h0 hc hB hne => ⟨ω', d, m', p, ⟨a, rfl, h0, hc, hB, hne⟩, S.po p, h⟩
/-- a slot is filled -/
theorem put_O {i : Nat} {b : Bool} {d : D} {v : L2.V} (p : PoV F wr V₀ ω₀ m₀ H₀ ω m H (Vg ω g)) (S : Stt F ω g m σ H) (r : VO F ω m H H₀ b d v) (hi : i < g.length) (hs : ∀ a, v = .ref a → b = true → ∀ j f, g[j]? = some (some (true, f)) → ω.sl j ≠ a) :
    ∃ ω', (b = false → ω' = ω) ∧ (∀ a, v = .ref a → b = true → ω' = ω.sls i a) ∧ PoV F wr V₀ ω₀ m₀ H₀ ω' m H (Vg ω' (g.set i (some (b, d)))) ∧ Stt F ω' (g.set i (some (b, d))) m (σ.set i (some v)) H := by
  cases b with
  | false =>
    exact ⟨ω, fun _ => rfl, (fun _ _ z => by cases z), ⟨p.le, p.ad, p.keep, p.tab, p.nb, p.pb, p.st, p.aq, fun c hc => p.vq c (vg_set_f c hc), p.cells, p.tabs⟩, S.set r⟩
  | true =>
    obtain ⟨a, rfl, h0, hc, hB, hne⟩ := r
    have sli : (ω.sls i a).sl i = a := by show (if i = i then a else _) = a; rw [if_pos rfl]
    have slj : ∀ j, i ≠ j → (ω.sls i a).sl j = ω.sl j := fun j hj => by show (if j = i then a else _) = _; rw [if_neg fun z => hj z.symm]
    have old : ∀ {j : Nat} {f : D}, g[j]? = some (some (true, f)) → ω.sl j ≠ a := fun {j f} h => hs a rfl rfl j f h
    have C' : Cells F (ω.sls i a) m H := S.ce.sls
    refine ⟨ω.sls i a, (fun z => by cases z), (fun b e _ => by cases e; rfl), ⟨p.le, p.ad, p.keep, p.tab, p.nb, p.pb, p.st, p.aq, ?_, C', p.tabs⟩, ⟨by rw [List.length_set, List.length_set]; exact S.sl.len, fun j f h => ?_, fun j f h => ?_, fun j b k c h1 h2 h3 => ?_⟩, C', S.tb⟩
    · rintro b ⟨j, f, h, rfl⟩
      by_cases hj : i = j
      · subst hj
        rw [sli]
        exact .inr h0
      · rw [List.getElem?_set_ne hj] at h
        rw [slj j hj]
        exact p.vq _ ⟨j, f, h, rfl⟩
    · by_cases hj : i = j
      · subst hj
        obtain ⟨z, _⟩ := get_set_self h
        cases z
      · rw [List.getElem?_set_ne hj] at h
        obtain ⟨v, h1, h2⟩ := S.sl.val j f h
        exact ⟨v, by rw [List.getElem?_set_ne hj]; exact h1, Rep.stays stays_sls _ _ h2⟩
    · by_cases hj : i = j
      · subst hj
        obtain ⟨z, _⟩ := get_set_self h
        cases z
        rw [sli]
        exact ⟨List.getElem?_set_self (by rw [← S.sl.len]; exact hi), Cont.keep stays_sls (fun o q _ => q) hc, hB, hne⟩
      · rw [List.getElem?_set_ne hj] at h
        obtain ⟨h1, h2, h3, h4⟩ := S.sl.own j f h
        rw [slj j hj]
        exact ⟨by rw [List.getElem?_set_ne hj]; exact h1, Cont.keep stays_sls (fun o q _ => q) h2, h3, h4⟩
    · by_cases hj : i = j
      · by_cases hk : i = k
        · rw [← hj, ← hk]
        · rw [List.getElem?_set_ne hk] at h2
          rw [slj k hk, ← hj, sli] at h3
          exact absurd h3.symm (old h2)
      · rw [List.getElem?_set_ne hj] at h1
        by_cases hk : i = k
        · rw [slj j hj, ← hk, sli] at h3
          exact absurd h3 (old h1)
        · rw [List.getElem?_set_ne hk] at h2
          rw [slj j hj, slj k hk] at h3
          exact S.sl.inj j b k c h1 h2 h3
/-- an own slot is older than what is new -/
theorem old_sl {a : Addr} (S0 : SlRel F ω₀ g m₀ σ H₀) (h0 : H₀ a = none) (hsl : ω.sl = ω₀.sl) : ∀ j f, g[j]? = some (some (true, f)) → ω.sl j ≠ a := fun j f h z => by
  obtain ⟨_, h2, _, _⟩ := S0.own j f h
  obtain ⟨o, h5, _⟩ := Cont.tracked h2
  rw [← hsl, z, h0] at h5
  cases h5
end
theorem VO.sls {ω : Om} {m : M} {H H₀ : Hp} {b : Bool} {d : D} {v : L2.V} {i : Nat} {a : Addr} (h : VO F ω m H H₀ b d v) : VO F (ω.sls i a) m H H₀ b d v := by
  cases b with
  | false => exact Rep.stays stays_sls _ _ h
  | true =>
    obtain ⟨c, e, h0, hc, hB, hne⟩ := h
    exact ⟨c, e, h0, Cont.keep stays_sls (fun o q _ => q) hc, hB, hne⟩
theorem VO.put {ω ω' : Om} {m : M} {H H₀ : Hp} {b b' : Bool} {d d' : D} {v v' : L2.V} {i : Nat} (h : VO F ω m H H₀ b d v) (h' : VO F ω m H H₀ b' d' v') (e1 : b' = false → ω' = ω) (e2 : ∀ a, v' = .ref a → b' = true → ω' = ω.sls i a) : VO F ω' m H H₀ b d v := by
  cases b' with
  | false => rw [e1 rfl]; exact h
  | true =>
    obtain ⟨c, e, _⟩ := h'
    rw [e2 c e rfl]
    exact h.sls
theorem tO_mono {b : Bool} {e : Ex} {σ : L2.St} {H : Hp} {Q Q' : VK} (h : tO F Wx W b e σ H Q) (k : ∀ v H, Q v H → Q' v H) : tO F Wx W b e σ H Q' := by
  cases b with
  | false =>
    obtain ⟨ω, g, m, wr, S, h⟩ := h
    exact ⟨ω, g, m, wr, S, Fin.mono k h⟩
  | true =>
    obtain ⟨ω, g, m, wr, S, h⟩ := h
    refine ⟨ω, g, m, wr, S, ?_⟩
    cases hx : evE W e wr g m with
    | stuck => rw [hx] at h; exact h
    | exc c m' => rw [hx] at h; exact h
    | ok d m' => rw [hx] at h; exact fun ω' a H' p h0 hc hB hne => k _ _ (h ω' a H' p h0 hc hB hne)
theorem VO.base {wr : Wr} {ω ω₀ ω₁ : Om} {m m₀ m₁ : M} {H H₀ H₁ : Hp} {b : Bool} {d : D} {v : L2.V} (p : Po F wr ω₀ m₀ H₀ ω m H) (h : VO F ω₁ m₁ H₁ H b d v) : VO F ω₁ m₁ H₁ H₀ b d v := by
  cases b with
  | false => exact h
  | true =>
    obtain ⟨a, e, h0, r⟩ := h
    exact ⟨a, e, none_back p h0, r⟩
/-- what is to be stored -/
structure It3 where
  i : Nat
  b : Bool
  d : D
  v : L2.V
def putS (σ : L2.St) : List It3 → L2.St
  | [] => σ
  | x :: xs => putS (σ.set x.i (some x.v)) xs
/-- new things are apart from those ahead -/
def Aps : List It3 → Prop
  | [] => True
  | x :: xs => (∀ y ∈ xs, x.b = true → y.b = true → ∀ a, x.v = .ref a → y.v ≠ .ref a) ∧ Aps xs
theorem put_all {wr : Wr} {ω₀ : Om} {m₀ m : M} {H₀ H : Hp} {Dn : Ends} {V₀ : Addr → Prop} : ∀ (xs : List It3) (ω : Om) (g : Ga) (σ : L2.St), PoV F wr V₀ ω₀ m₀ H₀ ω m H (Vg ω g) → Stt F ω g m σ H → (∀ x ∈ xs, VO F ω m H H₀ x.b x.d x.v) → Aps xs → (∀ x ∈ xs, ∀ a, x.v = .ref a → x.b = true → ∀ j f, g[j]? = some (some (true, f)) → ω.sl j ≠ a) →
    FinS F Wx wr Dn V₀ ω₀ m₀ H₀ (asgL (xs.map fun x => (x.i, x.b)) (xs.map (·.d)) g m) → Dn.nx (putS σ xs) H
  | [], ω, g, σ, p, S, _, _, _, h => h ω σ H p S
  | x :: xs, ω, g, σ, p, S, hv, ha, hs, h => by
    simp only [List.map_cons, asgL] at h
    split at h
    · rename_i hi
      have hx := hv x List.mem_cons_self
      obtain ⟨ω', e1, e2, p', S'⟩ := put_O p S hx hi (hs x List.mem_cons_self)
      refine put_all xs ω' _ _ p' S' (fun y hy => VO.put (hv y (List.mem_cons_of_mem _ hy)) hx e1 e2) ha.2 (fun y hy a ea eb j f hj => ?_) h
      by_cases hij : x.i = j
      · subst hij
        obtain ⟨z, _⟩ := get_set_self hj
        cases hb : x.b with
        | false => rw [hb] at z; cases z
        | true =>
          rw [hb] at hx
          obtain ⟨c, ec, _⟩ := hx
          rw [e2 c ec hb]
          show (if x.i = x.i then c else _) ≠ a
          rw [if_pos rfl]
          exact fun z => ha.1 y hy hb eb c ec (by rw [ea, z])
      · rw [List.getElem?_set_ne hij] at hj
        have q := hs y (List.mem_cons_of_mem _ hy) a ea eb j f hj
        cases hb : x.b with
        | false => rw [e1 hb]; exact q
        | true =>
          rw [hb] at hx
          obtain ⟨c, ec, _⟩ := hx
          rw [e2 c ec hb]
          show (if j = x.i then c else _) ≠ a
          rw [if_neg fun z => hij z.symm]
          exact q
    · exact h.elim
theorem apart_new {ω ω₁ : Om} {m m₁ : M} {H H₁ H₀ : Hp} {b b' : Bool} {d d' : D} {v v' : L2.V} (hv : VO F ω₁ m₁ H₁ H₀ b d v) (hn : VO F ω m H H₁ b' d' v') : b = true → b' = true → ∀ a, v = .ref a → v' ≠ .ref a := fun h1 h2 a e z => by
  subst h1 h2
  obtain ⟨c, e1, _, hc, _⟩ := hv
  obtain ⟨c', e2, h0, _⟩ := hn
  rw [e] at e1
  cases e1
  rw [z] at e2
  cases e2
  obtain ⟨o, h5, _⟩ := Cont.tracked hc
  rw [h0] at h5
  cases h5
theorem vo_none {ω : Om} {m : M} {H H₀ : Hp} {b : Bool} {d : D} {v : L2.V} (h : VO F ω m H H₀ b d v) (hb : b = true) {a : Addr} (e : v = .ref a) : H₀ a = none := by
  subst hb
  obtain ⟨c, e1, h0, _⟩ := h
  rw [e] at e1
  cases e1
  exact h0
theorem s_par2 {i j : Nat} {bi bj : Bool} {x y : Str} {a b : Expr} {ea eb : Ex} {px py pt : Pos} {kt k2 pt2} (hc : X.calm = true) (hN : X.N.Nodup) (hi : X.N[i]? = some x) (hj : X.N[j]? = some y) (hij : i ≠ j)
    (hx : X.env.scope.names.lookup x = some .local) (hy : X.env.scope.names.lookup y = some .local) (na : isB ea = false) (nb : isB eb = false) (pa : plainE a = true) (pb : plainE b = true) (ha : PE X a (tO F Wx W bi ea)) (hb : PE X b (tO F Wx W bj eb))
    (hw : swappedStores [.Tuple [.Name x px, .Name y py] kt pt] (.Tuple [a, b] k2 pt2) X.env = pure (some [x, y])) :
    PS X (.Assign [.Tuple [.Name x px, .Name y py] kt pt] (.Tuple [a, b] k2 pt2) pos) (LS F Wx (exS W (.par [(i, bi), (j, bj)] [ea, eb]))) := by
  refine PS_imp (ps_par hc hN hi hj hij hx hy (pa_cons ha (pa_cons hb pa_nil (plain_star pb _ _)) (plain_star pa _ _)) hw) fun Dn σ H h => ?_
  obtain ⟨ω, g, m, wr, S, h⟩ := h
  have e0 : exec W (.par [(i, bi), (j, bj)] [ea, eb]) wr g m = RS.of (ev W ea wr g m) g fun d1 m1 => RS.of (ev W eb wr g m1) g fun d2 m2 => asgL [(i, bi), (j, bj)] [d1, d2] g m2 := by
    simp only [exec, evL, na, nb, Bool.false_eq_true, if_false]
    cases ev W ea wr g m with
    | ok d m1 =>
      simp only [R.bind_ok, RS.of_ok]
      cases ev W eb wr g m1 <;> rfl
    | _ => rfl
  rw [show exS W (.par [(i, bi), (j, bj)] [ea, eb]) wr g m = exec W (.par [(i, bi), (j, bj)] [ea, eb]) wr g m from rfl, e0] at h
  have r0 := Po.refl (wr := wr) S.ce S.tb
  refine tO_mono (of_O S.ce (fun b z => z) r0 S h) fun v1 H1 ⟨ω1, d1, m1, p1, q1, S1, h1⟩ => ?_
  refine tO_mono (of_O S.ce (fun b z => by rw [Vg.po p1] at z; exact z) p1 S1 h1) fun v2 H2 ⟨ω2, d2, m2, p2, q2, S2, h2⟩ => ?_
  have p12 := p1.trans S.ce p2
  refine ⟨v1, v2, rfl, put_all [⟨i, bi, d1, v1⟩, ⟨j, bj, d2, v2⟩] ω2 g σ (PoV.of p12 fun b z => by rw [Vg.po p12] at z; exact z) S2 (fun x hx => ?_) ⟨fun y hy => ?_, (fun y hy => by cases hy), trivial⟩ (fun x hx a e hb => ?_) h2⟩
  · simp only [List.mem_cons, List.not_mem_nil, or_false] at hx
    rcases hx with rfl | rfl
    · exact q1.po S1.ce p2
    · exact q2.base p1
  · simp only [List.mem_cons, List.not_mem_nil, or_false] at hy
    subst hy
    exact apart_new q1 q2
  · simp only [List.mem_cons, List.not_mem_nil, or_false] at hx
    rcases hx with rfl | rfl
    · exact old_sl S.sl (vo_none q1 hb e) p12.sl
    · exact old_sl S.sl (vo_none (q2.base p1) hb e) p12.sl
theorem s_par3 {i j l : Nat} {bi bj bl : Bool} {x y z : Str} {a b c : Expr} {ea eb ec : Ex} {px py pz pt : Pos} {kt k2 pt2} (hc : X.calm = true) (hN : X.N.Nodup) (hi : X.N[i]? = some x) (hj : X.N[j]? = some y) (hl : X.N[l]? = some z) (hij : i ≠ j) (hil : i ≠ l) (hjl : j ≠ l)
    (hx : X.env.scope.names.lookup x = some .local) (hy : X.env.scope.names.lookup y = some .local) (hz : X.env.scope.names.lookup z = some .local) (na : isB ea = false) (nb : isB eb = false) (nc : isB ec = false) (pa : plainE a = true) (pb : plainE b = true) (pc : plainE c = true) (ha : PE X a (tO F Wx W bi ea)) (hb : PE X b (tO F Wx W bj eb)) (hcc : PE X c (tO F Wx W bl ec))
    (hw : swappedStores [.Tuple [.Name x px, .Name y py, .Name z pz] kt pt] (.Tuple [a, b, c] k2 pt2) X.env = pure (some [x, y, z])) :
    PS X (.Assign [.Tuple [.Name x px, .Name y py, .Name z pz] kt pt] (.Tuple [a, b, c] k2 pt2) pos) (LS F Wx (exS W (.par [(i, bi), (j, bj), (l, bl)] [ea, eb, ec]))) := by
  refine PS_imp (ps_par3 hc hN hi hj hl hij hil hjl hx hy hz (pa_cons ha (pa_cons hb (pa_cons hcc pa_nil (plain_star pc _ _)) (plain_star pb _ _)) (plain_star pa _ _)) hw) fun Dn σ H h => ?_
  obtain ⟨ω, g, m, wr, S, h⟩ := h
  have e0 : exec W (.par [(i, bi), (j, bj), (l, bl)] [ea, eb, ec]) wr g m = RS.of (ev W ea wr g m) g fun d1 m1 => RS.of (ev W eb wr g m1) g fun d2 m2 => RS.of (ev W ec wr g m2) g fun d3 m3 => asgL [(i, bi), (j, bj), (l, bl)] [d1, d2, d3] g m3 := by
    simp only [exec, evL, na, nb, nc, Bool.false_eq_true, if_false]
    cases ev W ea wr g m with
    | ok d m1 =>
      simp only [R.bind_ok, RS.of_ok]
      cases ev W eb wr g m1 with
      | ok d2 m2 =>
        simp only [R.bind_ok, RS.of_ok]
        cases ev W ec wr g m2 <;> rfl
      | _ => rfl
    | _ => rfl
  rw [show exS W (.par [(i, bi), (j, bj), (l, bl)] [ea, eb, ec]) wr g m = exec W (.par [(i, bi), (j, bj), (l, bl)] [ea, eb, ec]) wr g m from rfl, e0] at h
  have r0 := Po.refl (wr := wr) S.ce S.tb
  refine tO_mono (of_O S.ce (fun b z => z) r0 S h) fun v1 H1 ⟨ω1, d1, m1, p1, q1, S1, h1⟩ => ?_
  refine tO_mono (of_O S.ce (fun b z => by rw [Vg.po p1] at z; exact z) p1 S1 h1) fun v2 H2 ⟨ω2, d2, m2, p2, q2, S2, h2⟩ => ?_
  have p12 := p1.trans S.ce p2
  refine tO_mono (of_O S.ce (fun b z => by rw [Vg.po p12] at z; exact z) p12 S2 h2) fun v3 H3 ⟨ω3, d3, m3, p3, q3, S3, h3⟩ => ?_
  have p13 := p12.trans S.ce p3
  have q1' := q1.po S1.ce p2
  refine ⟨v1, v2, v3, rfl, put_all [⟨i, bi, d1, v1⟩, ⟨j, bj, d2, v2⟩, ⟨l, bl, d3, v3⟩] ω3 g σ (PoV.of p13 fun b z => by rw [Vg.po p13] at z; exact z) S3 (fun x hx => ?_) ⟨fun y hy => ?_, fun y hy => ?_, (fun y hy => by cases hy), trivial⟩ (fun x hx a e hb => ?_) h3⟩
  · simp only [List.mem_cons, List.not_mem_nil, or_false] at hx
    rcases hx with rfl | rfl | rfl
    · exact q1'.po S2.ce p3
    · exact (q2.po S2.ce p3).base p1
    · exact q3.base p12
  · simp only [List.mem_cons, List.not_mem_nil, or_false] at hy
    rcases hy with rfl | rfl
    · exact apart_new q1 q2
    · exact apart_new q1' q3
  · simp only [List.mem_cons, List.not_mem_nil, or_false] at hy
    subst hy
    exact apart_new q2 q3
  · simp only [List.mem_cons, List.not_mem_nil, or_false] at hx
    rcases hx with rfl | rfl | rfl
    · exact old_sl S.sl (vo_none q1 hb e) p13.sl
    · exact old_sl S.sl (vo_none (q2.base p1) hb e) p13.sl
    · exact old_sl S.sl (vo_none (q3.base p12) hb e) p13.sl
theorem s_exp {e : Ex} {p : Expr} (hs : swapOk p = true) (ne : isB e = false) (he : PE X p (LE F Wx false (evE W e))) : PS X (.Expr p pos) (LS F Wx (exS W (.exp e))) := by
  refine PS_imp (ps_expr he (swap_ok hs _ _ _)) fun Dn σ H h => ?_
  obtain ⟨ω, g, m, wr, S, h⟩ := h
  simp only [exec, ne, Bool.false_eq_true, if_false] at h
  refine LG.of S (Fin.mono (fun v H1 hx => ?_) (FinS.of_bind (rel := VRel F false) S h))
  obtain ⟨ω1, d, m1, e1, p1, r1, S1, h1⟩ := hx
  exact h1.nx S1 fun b z => z
theorem s_ret {e : Ex} {p : Expr} (ne : isB e = false) (he : PE X p (LE F Wx false (evE W e))) : PS X (.Return (some p) pos) (LS F Wx (exS W (.ret e))) := by
  refine PS_imp (ps_ret he) fun Dn σ H h => ?_
  obtain ⟨ω, g, m, wr, S, h⟩ := h
  simp only [exec, ne, Bool.false_eq_true, if_false] at h
  refine LG.of S (Fin.mono (fun v H1 hx => ?_) (FinS.of_bind (rel := VRel F false) S h))
  obtain ⟨ω1, d, m1, e1, p1, r1, S1, h1⟩ := hx
  exact h1 ω1 v H1 (PoV.of (Po.refl S1.ce S1.tb) fun b z => z.elim) r1.pure
theorem s_retn : PS X (.Return none pos) (LS F Wx (exS W .retn)) := by
  refine PS_imp ps_retN fun Dn σ H h => ?_
  obtain ⟨ω, g, m, wr, S, h⟩ := h
  simp only [exec] at h
  exact h ω .non H (PoV.of (Po.refl S.ce S.tb) fun b z => z.elim) rfl
theorem s_ifs {t : Ex} {a b : List St} {c : Expr} {pa pb : List Stmt} (ht : PT X c (LT F Wx (evE W t))) (ha : PSs X pa (LS F Wx (exL W a))) (hb : PSs X pb (LS F Wx (exL W b))) : PS X (.If c pa pb pos) (LS F Wx (exS W (.ifs t a b))) := by
  refine PS_imp (ps_if ht ha hb) fun Dn σ H h => ?_
  obtain ⟨ω, g, m, wr, S, h⟩ := h
  simp only [exec] at h
  refine LG.of (wr := wr) S ?_
  show Fin F Wx wr σ RelB _ ω m H (asB (ev W t wr g m))
  have hh := FinS.of_bind (rel := fun _ _ (_ : D) (_ : V) => True) S h
  cases hx : ev W t wr g m with
  | stuck => rw [hx] at h; exact h
  | exc c m' => rw [hx] at hh; exact hh
  | ok d m' =>
    rw [hx] at hh
    cases d with
    | bool k =>
      intro ω' v H' p r
      rw [show v = k by cases r; rfl]
      obtain ⟨ω1, d, m1, e1, p1, r1, S1, h1⟩ := hh ω' (.non) H' p trivial
      cases e1
      cases k with
      | true => exact iteT (LS.of S1 h1)
      | false => exact iteF (LS.of S1 h1)
    | _ => rw [hx] at h; exact h
theorem s_rai {c : Nat} {x msg : Str} {j : Nat} {C : Addr} {bmB : List Value} {B newId initId : String} {p p2 q : Pos} (hc : X.calm = true) (tk : Takes X Wx) (hC : F.xa c = C) (EF : ExcBaseFacts B newId initId bmB) (hq : PySem.W.excIn X.K C bmB newId = true) (gC : X.mg x = some (.ref C)) (kC : PySem.W.keepIn X.K (.ref C) = true) (r : Raises X (.ref C)) (hg : Gl X x)
    (hdb : (x == ("__debug__" : Str)) = false) : PS X (.Raise (some (.Call (.Name x p) [.Constant (.str msg) j p2] [] q)) none pos) (LS F Wx (exS W (.rai c))) := by
  refine PS_imp (ps_raise hc tk (pmk_own EF hq gC kC r hg hdb)) fun Dn σ H h => ?_
  obtain ⟨ω, g, m, wr, S, h⟩ := h
  simp only [exec] at h
  have z := h ω σ H (PoV.of (Po.refl S.ce S.tb) fun b z => z) S
  rw [hC] at z
  exact z
end
end Ev
end
section
set_option linter.all false
set_option autoImplicit false
set_option maxRecDepth 100000
/-! Ev, part Q: stores into lists, loops. -/
namespace Ev
open PySem PySem.Spec PyProof.Rows L2

section
variable {X : Cx} {F : Fx} {W : Wd} {Wx : WX} {pos : Pos}
theorem get_list : PGet X (rIxL X.K) := by
  intro pins s σ H x y v u Q I rx ry h
  obtain ⟨p, xs, i, z, rfl, rfl, hq, he, q⟩ := h
  cases rx
  obtain ⟨t, rfl⟩ := ry
  obtain ⟨its, r, pl, hz⟩ := I.list hq
  obtain ⟨j, h1, h2, h3, h4, h5⟩ := atI_get he
  obtain ⟨w, ew, rw'⟩ := r.get h2
  have hl := r.length
  have hn := line63
  have fin : EP X pins σ Q w s := ⟨z, H, I, rw', q⟩
  by_cases h0 : 0 ≤ i
  · have hj : i.toNat = j := by
      rw [seqIndex_of h0 h5] at h1
      exact Option.some.inj h1
    exact getItem_listL pl.isList h0 (by omega) (by rw [hj]; exact ew) fin
  · have hj : (i + (its.toArray.size : Int)).toNat = j := by
      rw [seqIndex_neg (by omega) h4] at h1
      rw [List.size_toArray, ← hl]
      exact Option.some.inj h1
    exact wpAny_getItem_list_neg pl.isList (by omega) (by rw [List.size_toArray] <;> omega) (by omega) (by rw [hj]; simpa using ew) fin
theorem setN_sound {ω : Om} {H : Hp} {xs xs' : List D} {vs : List V} {k d : D} {kv v : V} (r : Reps F ω H xs vs) (rk : Rep F ω H k kv) (rd : Rep F ω H d v) (e : setN xs k d = some xs') :
    ∃ i j, kv = .int i ∧ ixN vs.length i = some j ∧ Reps F ω H xs' (vs.set j v) := by
  unfold setN at e
  split at e
  · rename_i i
    rw [← r.length] at e
    cases hj : ixN vs.length i with
    | none => rw [hj] at e; cases e
    | some j =>
      rw [hj] at e
      cases e
      exact ⟨i, j, rk, hj, Reps.set j r rd⟩
  · cases e
theorem getN_sound {ω : Om} {H : Hp} {xs : List D} {vs : List V} {k d : D} {kv : V} (r : Reps F ω H xs vs) (rk : Rep F ω H k kv) (e : getN xs k = some d) :
    ∃ i v, kv = .int i ∧ atI vs i = some v ∧ Rep F ω H d v := by
  unfold getN at e
  split at e
  · rename_i i
    obtain ⟨v, h1, h2⟩ := r.atI e
    exact ⟨i, v, rk, h1, h2⟩
  · cases e
theorem sole_ok {e t : Expr} (h : swapOk e = true) (l : Nat) (env : Env) : swapsWithSole [t] e l env = pure false := swap_ok h _ _ _
abbrev subAssign (X : Cx) (o pk : Expr) (ps' : Pos) : Prop := ∀ v, assign (.Subscript o pk ps') X.env v = (do
      let ov ← holding [v] (eval o X.env)
      let iv ← holding [v, ov] (eval pk X.env)
      standAt ps'
      holding [v, ov, iv] (setItem ov iv v)
      release [v, ov, iv] [])
/-- x[k] = e, x a slot's own -/
theorem s_setiS {i : Nat} {x : Str} {k e : Ex} {pk p : Expr} {px ps' : Pos} (hN : X.N[i]? = some x) (hv : Vis X.env.scope x) (hd : (x == ("__debug__" : Str)) = false) (hcd : (x == ("__classdict__" : Str)) = false) (hs : swapOk p = true)
    (ha : subAssign X (.Name x px) pk ps')
    (ne : isB e = false) (nk : isB k = false) (he : PE X p (LE F Wx false (evE W e))) (hk : PE X pk (LE F Wx false (evE W k))) :
    PS X (.Assign [.Subscript (.Name x px) pk ps'] p pos) (LS F Wx (exS W (.seti (.sl i) k e))) := by
  refine PS_imp (ps_asg he (pg_sub (pe_var hN hv hd hcd) hk set_list ha) (sole_ok hs _ _) rfl rfl) fun Dn σ H h => ?_
  obtain ⟨ω, g, m, wr, S, h⟩ := h
  simp only [exec, ne, nk, Bool.or_self, Bool.false_eq_true, if_false] at h
  split at h
  · rename_i ls eg
    refine LG.of S (Fin.mono (fun v H1 hx => ?_) (FinS.of_bind (rel := VRel F false) S h))
    obtain ⟨ω1, d, m1, e1, p1, r1, S1, h1⟩ := hx
    refine ⟨_, (S1.sl.own i _ eg).1, ?_⟩
    refine LG.of S1 (Fin.mono (fun kv H2 hx => ?_) (FinS.of_bind (rel := VRel F false) S1 h1))
    obtain ⟨ω2, dk, m2, e2, p2, r2, S2, h2⟩ := hx
    cases hset : setN ls dk d with
    | none => simp only [hset] at h2; exact h2.elim
    | some xs' =>
      simp only [hset] at h2
      obtain ⟨_, ⟨vs, hv1, hv2⟩, _, _⟩ := S2.sl.own i _ eg
      obtain ⟨ii, j, rfl, hj, r3⟩ := setN_sound hv2 r2.pure (Rep.stays (p2.stays S1.ce) _ _ r1.pure) hset
      refine ⟨ω2.sl i, vs, ii, j, ?_, rfl, hv1, hj, ?_⟩
      · rw [p2.sl]
      · obtain ⟨q1, q2⟩ := own_upd (wr := wr) S2 eg hv1 r3
        exact h2 ω2 σ _ q1 q2
  · exact h.elim
def pyA : BOp → Operator := pyB
theorem ip_int {o : BOp} (h : o = .add ∨ o = .sub) : ∃ f : Int → Int → Int, PIp X (pyB o) (ipI f) ∧ ∀ x d v, semAug o x d = some v → ∃ i j, x = .int i ∧ d = .int j ∧ v = .int (f i j) := by
  rcases h with rfl | rfl
  · refine ⟨_, ip_add, fun x d v e => ?_⟩
    cases x <;> cases d <;> simp [semAug] at e
    exact ⟨_, _, rfl, rfl, e.symm⟩
  · refine ⟨_, ip_sub, fun x d v e => ?_⟩
    cases x <;> cases d <;> simp [semAug] at e
    exact ⟨_, _, rfl, rfl, e.symm⟩
/-- x op= e -/
theorem s_augn {i : Nat} {x : Str} {o : BOp} {e : Ex} {p : Expr} {px : Pos} (ho : o = .add ∨ o = .sub) (hN : X.N.Nodup) (hi : X.N[i]? = some x) (hx : Loc X.env.scope x) (hf : X.fn x = true ∨ X.env.scope.names.lookup x = some .local) (ne : isB e = false) (he : PE X p (LE F Wx false (evE W e))) :
    PS X (.AugAssign (.Name x px) (pyB o) p pos) (LS F Wx (exS W (.augn i o e))) := by
  obtain ⟨f, hip, hsem⟩ := ip_int (X := X) ho
  refine PS_imp (ps_aug hN hi hx he hip hf) fun Dn σ H h => ?_
  obtain ⟨ω, g, m, wr, S, h⟩ := h
  simp only [exec, ne, Bool.false_eq_true, if_false] at h
  split at h
  · rename_i x eg
    obtain ⟨v, e1, r0⟩ := S.sl.val i x eg
    refine ⟨v, e1, ?_⟩
    refine LG.of S (Fin.mono (fun u H1 hx => ?_) (FinS.of_bind (rel := VRel F false) S h))
    obtain ⟨ω1, d, m1, e2, p1, r1, S1, h1⟩ := hx
    cases hs : semAug o x d with
    | none => simp only [hs] at h1; exact h1.elim
    | some w =>
      simp only [hs] at h1
      obtain ⟨a, b, rfl, rfl, rfl⟩ := hsem _ _ _ hs
      have r0 : v = .int a := r0
      have r1 : u = .int b := r1.pure
      exact ⟨a, b, r0, r1, h1.nx (S1.set rfl) vg_set_f⟩
  · exact h.elim
/-- x[k] op= e -/
theorem s_augiS {i : Nat} {x : Str} {o : BOp} {k e : Ex} {pk p : Expr} {px ps' : Pos} (ho : o = .add ∨ o = .sub) (hN : X.N[i]? = some x) (hv : Vis X.env.scope x) (hd : (x == ("__debug__" : Str)) = false) (hcd : (x == ("__classdict__" : Str)) = false)
    (ha : ∀ ov iv new, augStore pk ov iv new = (do holding [new, ov, iv] (setItem ov iv new); release [new, ov, iv] []; pure .next))
    (ne : isB e = false) (nk : isB k = false) (he : PE X p (LE F Wx false (evE W e))) (hk : PE X pk (LE F Wx false (evE W k))) :
    PS X (.AugAssign (.Subscript (.Name x px) pk ps') (pyB o) p pos) (LS F Wx (exS W (.augi (.sl i) k o e))) := by
  obtain ⟨f, hip, hsem⟩ := ip_int (X := X) ho
  refine PS_imp (ps_augS (pe_var hN hv hd hcd) hk get_list he hip set_list ha) fun Dn σ H h => ?_
  obtain ⟨ω, g, m, wr, S, h⟩ := h
  simp only [exec, ne, nk, Bool.or_self, Bool.false_eq_true, if_false] at h
  split at h
  · rename_i ls eg
    refine ⟨_, (S.sl.own i _ eg).1, ?_⟩
    refine LG.of S (Fin.mono (fun kv H1 hx => ?_) (FinS.of_bind (rel := VRel F false) S h))
    obtain ⟨ω1, dk, m1, e1, p1, r1, S1, h1⟩ := hx
    cases hget : getN ls dk with
    | none => simp only [hget] at h1; exact h1.elim
    | some x0 =>
      simp only [hget] at h1
      obtain ⟨_, ⟨vs, hv1, hv2⟩, _, _⟩ := S1.sl.own i _ eg
      obtain ⟨ii, v0, rfl, hj, r0⟩ := getN_sound hv2 r1.pure hget
      refine ⟨_, vs, ii, v0, rfl, rfl, SqL.of (by rw [← p1.sl]; exact hv1), hj, ?_⟩
      refine LG.of S1 (Fin.mono (fun u H2 hx => ?_) (FinS.of_bind (rel := VRel F false) S1 h1))
      obtain ⟨ω2, d, m2, e2, p2, r2, S2, h2⟩ := hx
      cases hs : semAug o x0 d with
      | none => simp only [hs] at h2; exact h2.elim
      | some w =>
        simp only [hs] at h2
        cases hset : setN ls dk w with
        | none => simp only [hset] at h2; exact h2.elim
        | some xs' =>
          simp only [hset] at h2
          obtain ⟨a, b, rfl, rfl, rfl⟩ := hsem _ _ _ hs
          have r0 : v0 = .int a := r0
          have r2' : u = .int b := r2.pure
          refine ⟨a, b, r0, r2', ?_⟩
          obtain ⟨_, ⟨vs2, hv3, hv4⟩, _, _⟩ := S2.sl.own i _ eg
          obtain ⟨i2, j, ei, hj2, r3⟩ := setN_sound hv4 (Rep.stays (p2.stays S1.ce) _ _ r1.pure) (show Rep F ω2 H2 (.int (f a b)) (.int (f a b)) from rfl) hset
          cases ei
          refine ⟨ω2.sl i, vs2, ii, j, ?_, rfl, hv3, hj2, ?_⟩
          · rw [p2.sl, p1.sl]
          · obtain ⟨q1, q2⟩ := own_upd (wr := wr) S2 eg hv3 r3
            exact h2 ω2 σ _ q1 q2
  · exact h.elim
/-- a cell's list is changed -/
theorem cell_updG {wr : Wr} {ω : Om} {m : M} {H : Hp} {σ : L2.St} {g : Ga} {r : Nat} {c0 c1 : Cell} {w0 w1 : HO} (S : Stt F ω g m σ H) (e : m[r]? = some c0) (hw : wr (.ce r "") = true) (hv : H (ω.ad r "") = some w0) (n1 : ∀ ps, w0 ≠ .tbl ps) (n2 : ∀ φ, w0 ≠ .ext φ)
    (hat : CellAt F ω (upd H (ω.ad r "") w1) r c1) (hown : ∀ c fs f d, c1 = .ins c fs → fs.lookup f = some (true, d) → f ≠ "" → LvC m r f) (hnd : ∀ c fs, c1 = .ins c fs → (fs.map (·.1)).Nodup) :
    PoV F wr (Vg ω g) ω m H ω (m.set r c1) (upd H (ω.ad r "") w1) (Vg ω g) ∧ Stt F ω g (m.set r c1) σ (upd H (ω.ad r "") w1) := by
  have hr : r < m.length := (List.getElem?_eq_some_iff.mp e).1
  have lv0 : LvC m r "" := ⟨hr, .inl rfl⟩
  have hB : ω.B (ω.ad r "") := S.ce.inB r "" lv0
  have st : Stays F ω ω H (upd H (ω.ad r "") w1) := upd_stays hB
  have lv : ∀ r' f, LvC (m.set r c1) r' f → LvC m r' f := fun r' f h => by
    obtain ⟨h1, h2⟩ := h
    rw [List.length_set] at h1
    refine ⟨h1, ?_⟩
    rcases h2 with h2 | ⟨c, fs, d, h3, h4⟩
    · exact .inl h2
    · by_cases hj : r = r'
      · subst hj
        obtain ⟨z, _⟩ := get_set_self h3
        exact (hown c fs f d z.symm h4.1 h4.2).2
      · rw [List.getElem?_set_ne hj] at h3
        exact .inr ⟨c, fs, d, h3, h4⟩
  have C' : Cells F ω (m.set r c1) (upd H (ω.ad r "") w1) := by
    refine ⟨by rw [List.length_set]; exact S.ce.len, fun r' c h => ?_, fun a f b f' h1 h2 h3 => S.ce.inj a f b f' (lv _ _ h1) (lv _ _ h2) h3, fun a f h => S.ce.inB a f (lv _ _ h), fun a c fs h => ?_⟩
    · by_cases hj : r = r'
      · subst hj
        obtain ⟨z, _⟩ := get_set_self h
        subst z
        exact hat
      · rw [List.getElem?_set_ne hj] at h
        refine CellAt.stays st rfl (fun f hf o q _ => ?_) (S.ce.at_ r' c h)
        have l2 : LvC m r' f := by
          rcases hf with rfl | ⟨c', fs, d, rfl, hm⟩
          · exact ⟨(List.getElem?_eq_some_iff.mp h).1, .inl rfl⟩
          · obtain ⟨dx, us, _, h2⟩ := S.ce.at_ r' _ h
            exact lvC_own (S.ce.nd r' c' fs h) h hm (own_ne (c := 0) h2 hm)
        rw [upd_ne fun z => hj (S.ce.inj r' f r "" l2 lv0 z).1.symm]
        exact q
    · by_cases hj : r = a
      · subst hj
        obtain ⟨z, _⟩ := get_set_self h
        exact hnd c fs z.symm
      · rw [List.getElem?_set_ne hj] at h
        exact S.ce.nd a c fs h
  have T' : TabInv F (upd H (ω.ad r "") w1) := S.tb.updU hv n1 n2
  refine ⟨⟨Nat.le_refl _, fun _ _ => rfl, fun b o h hu _ nt => ?_, fun b ps h => ⟨#[], ?_⟩, fun _ _ _ h => h, fun _ _ _ h _ => h, fun b o h => ?_, fun r' f h => .inl ⟨lv _ _ h, rfl⟩, fun b h => .inl h, C', T'⟩, ⟨S.sl.len, fun j d h => ?_, fun j d h => ?_, S.sl.inj⟩, C', T'⟩
  · rw [upd_ne fun z => hu ⟨r, "", lv0, hw, z.symm⟩]
    exact h
  · rw [upd_ne (ne_of h hv (fun z => n1 _ z.symm)), h]
    simp
  · by_cases hb : b = ω.ad r ""
    · exact ⟨_, by rw [hb]; exact upd_same⟩
    · exact ⟨o, by rw [upd_ne hb]; exact h⟩
  · obtain ⟨v, h1, h2⟩ := S.sl.val j d h
    exact ⟨v, h1, Rep.stays st _ _ h2⟩
  · obtain ⟨h1, h2, h3, h4⟩ := S.sl.own j d h
    exact ⟨h1, Cont.keep st (fun o q _ => by rw [upd_ne fun z => h4 r "" lv0 z.symm]; exact q) h2, h3, fun r' f l => h4 r' f (lv _ _ l)⟩
theorem cell_upd {wr : Wr} {ω : Om} {m : M} {H : Hp} {σ : L2.St} {g : Ga} {r : Nat} {xs xs' : List D} {vs vs' : List V} (S : Stt F ω g m σ H) (e : m[r]? = some (.lst xs)) (hw : wr (.ce r "") = true) (hv : H (ω.ad r "") = some (.lst vs)) (rr : Reps F ω H xs' vs') :
    PoV F wr (Vg ω g) ω m H ω (m.set r (.lst xs')) (upd H (ω.ad r "") (.lst vs')) (Vg ω g) ∧ Stt F ω g (m.set r (.lst xs')) σ (upd H (ω.ad r "") (.lst vs')) := by
  have hB : ω.B (ω.ad r "") := S.ce.inB r "" ⟨(List.getElem?_eq_some_iff.mp e).1, .inl rfl⟩
  exact cell_updG S e hw hv (fun _ z => by cases z) (fun _ z => by cases z) ⟨vs', upd_same, Reps.stays (upd_stays hB) _ _ rr⟩ (fun _ _ _ _ z => by cases z) (fun _ _ z => by cases z)
/-- o[k] = e, o a cell's list -/
theorem s_setiC {k e eo : Ex} {po pk p : Expr} {ps' : Pos} (hs : swapOk p = true) (ha : subAssign X po pk ps')
    (ne : isB e = false) (no : isB eo = false) (nk : isB k = false) (he : PE X p (LE F Wx false (evE W e))) (ho : PE X po (LE F Wx false (evE W eo))) (hk : PE X pk (LE F Wx false (evE W k))) :
    PS X (.Assign [.Subscript po pk ps'] p pos) (LS F Wx (exS W (.seti (.cl eo) k e))) := by
  refine PS_imp (ps_asg he (pg_sub ho hk set_list ha) (sole_ok hs _ _) rfl rfl) fun Dn σ H h => ?_
  obtain ⟨ω, g, m, wr, S, h⟩ := h
  simp only [exec, ne, no, nk, Bool.or_self, Bool.false_eq_true, if_false] at h
  refine LG.of S (Fin.mono (fun v H1 hx => ?_) (FinS.of_bind (rel := VRel F false) S h))
  obtain ⟨ω1, d, m1, e1, p1, r1, S1, h1⟩ := hx
  refine LG.of S1 (Fin.mono (fun ov H2 hx => ?_) (FinS.of_bind (rel := VRel F false) S1 h1))
  obtain ⟨ω2, od, m2, e2, p2, r2, S2, h2⟩ := hx
  refine LG.of S2 (Fin.mono (fun kv H3 hx => ?_) (FinS.of_bind (rel := VRel F false) S2 h2))
  obtain ⟨ω3, kd, m3, e3, p3, r3, S3, h3⟩ := hx
  cases hc : asCell od with
  | none => simp only [hc] at h3; exact h3.elim
  | some r =>
    simp only [hc] at h3
    split at h3
    · rename_i xs hm
      cases hset : setN xs kd d with
      | none => simp only [hset] at h3; exact h3.elim
      | some xs' =>
        simp only [hset] at h3
        split at h3
        · rename_i hw
          have ro := Rep.stays (p3.stays S2.ce) _ _ r2.pure
          obtain ⟨hr, eo⟩ := VRel.cell hc (.inl ro : VRel F false ω3 H3 od ov)
          obtain ⟨vs, hv1, hv2⟩ := S3.ce.at_ r _ hm
          obtain ⟨ii, j, rfl, hj, rr⟩ := setN_sound hv2 r3.pure (Rep.stays (p3.stays S2.ce) _ _ (Rep.stays (p2.stays S1.ce) _ _ r1.pure)) hset
          obtain ⟨q1, q2⟩ := cell_upd S3 hm hw hv1 rr
          exact ⟨_, vs, ii, j, eo, rfl, hv1, hj, h3 ω3 σ _ q1 q2⟩
        · exact h3.elim
    · exact h3.elim
end
end Ev
end
section
set_option linter.all false
set_option autoImplicit false
set_option maxRecDepth 100000
/-! Ev, part R: loops. -/
namespace Ev
open PySem PySem.Spec PyProof.Rows L2

section
variable {X : Cx} {F : Fx} {W : Wd} {Wx : WX} {pos : Pos}
theorem aok_v {ω : Om} {m : M} {H : Hp} {σ : L2.St} {g : Ga} {p : Option Pl} {b : Addr} (S : Stt F ω g m σ H) (hp : ∀ i, p ≠ some (.sl i)) (h : AOk ω m g p b) : ¬ Vg ω g b := by
  rintro ⟨j, e, h1, h2⟩
  rcases h with h | ⟨q, d, rfl, h3, h4⟩
  · exact h (by rw [← h2]; exact (S.sl.own j e h1).2.2.1)
  · cases q with
    | sl i => exact hp i rfl
    | ce r f => exact (S.sl.own j e h1).2.2.2 r f h3 (by rw [h2]; exact h4.symm)
theorem pov_hold {wr : Wr} {V V' A : Addr → Prop} {ω ω' : Om} {m m' : M} {H H' : Hp} (C : Cells F ω m H) (hV : ∀ b, V b → ω.B b) (p : PoV F wr V ω m H ω' m' H' V') (hA : ∀ b, A b → ¬ Ub ω m wr b) (hA2 : ∀ b, A b → ¬ V b) : Hold F A ω H ω' H' :=
  ⟨p.stays C hV, fun b hb o h nt => p.keep b o h (hA b hb) (hA2 b hb) nt⟩
theorem s_for {tg : Tg} {src : Src} {body : List St} {tgE iter : Expr} {pb : List Stmt} {t : TG} (hp : PassesOwn (model X.prog X.w) X.A X.env X.xe) (hc : X.calm = true) (pf : plainE iter = true) (hi : PI X tgE iter (LI F Wx W src)) (hg : PG X tgE t) (hG : GOk F t tg)
    (hb : PSs X pb (LS F Wx (exL W body))) : PS X (.For tgE iter pb [] pos) (LS F Wx (exS W (.for tg src body))) := by
  refine PS_imp (ps_for hp hc hi hg hb (plain_fold pf _)) fun Dn σ H h => ?_
  obtain ⟨ω, g, m, wr, S, h⟩ := h
  simp only [exec] at h
  refine LG.of (wr := wr) S ?_
  show Fin F Wx wr σ (RelI F) _ ω m H (evSx W src wr g m)
  simp only [evSx]
  have hh := FinS.of_bind (rel := fun _ _ (_ : List D × Option Pl) (_ : Unit) => True) S h
  cases hs : evS W src wr g m with
  | stuck => rw [hs] at h; exact h
  | exc c m' => rw [hs] at hh; exact hh
  | ok r m1 =>
    obtain ⟨xs, p⟩ := r
    rw [hs] at hh
    simp only [R.bind_ok]
    intro ω1 J H1 p1 hr
    obtain ⟨A, hA, wk⟩ := hr
    have hA : ∀ b, A b → AOk ω1 m1 g p b ∧ ∃ o, H1 b = some o ∧ ∀ ps, o ≠ .tbl ps := hA
    have wk : Walk F A ω1 H1 J xs := wk
    have S1 := S.po p1
    rw [hs] at h
    simp only [RS.of_ok] at h
    have h1 := FinS.shift (PoV.of p1 (V := Vg ω g) (V' := Vg ω1 g) (fun b hb => by rw [Vg.po p1] at hb; exact hb)) h
    have hps : ∀ i, p ≠ some (.sl i) := fun i e => by
      rw [e] at h1
      exact h1.elim
    let wr' := lockW wr p
    have hwr : ∀ q, wr' q = true → wr q = true := lockW_le wr p
    have h1 : FinS F Wx wr' Dn (Vg ω1 g) ω1 m1 H1 (forL tg (fun g m => execL W body wr' g m) xs g m1) := by
      refine FinS.weak hwr ?_
      cases p with
      | none => exact h1
      | some q =>
        cases q with
        | sl i => exact absurd rfl (hps i)
        | ce r f => exact h1
    have hU : ∀ b, A b → ¬ Ub ω1 m1 wr' b := fun b hb => aok_ub S1 (hA b hb).1
    have hU2 : ∀ b, A b → ¬ Vg ω1 g b := fun b hb => aok_v S1 hps (hA b hb).1
    refine ⟨fun i k σ2 H2 => k = xs.length - i ∧ i ≤ xs.length ∧ ∃ ω2 g2 m2, PoV F wr' (Vg ω1 g) ω1 m1 H1 ω2 m2 H2 (Vg ω2 g2) ∧ Stt F ω2 g2 m2 σ2 H2 ∧ FinS F Wx wr' Dn (Vg ω2 g2) ω2 m2 H2 (forL tg (fun g m => execL W body wr' g m) (xs.drop i) g2 m2), ⟨xs.length, rfl, Nat.zero_le _, ω1, g, m1, PoV.refl S1.ce S1.tb, S1, h1⟩, ?_⟩
    rintro i k σ2 H2 ⟨rfl, hi, ω2, g2, m2, p2, S2, hf⟩
    have hold : Hold F A ω1 H1 ω2 H2 := pov_hold S1.ce S1.sl.vb p2 hU hU2
    by_cases hlt : i < xs.length
    · refine .inr ⟨wk.go ω2 H2 i hold hlt, fun σ3 H3 => (i + 1) ≤ xs.length ∧ ∃ ω2 g2 m2, PoV F wr' (Vg ω1 g) ω1 m1 H1 ω2 m2 H3 (Vg ω2 g2) ∧ Stt F ω2 g2 m2 σ3 H3 ∧ FinS F Wx wr' Dn (Vg ω2 g2) ω2 m2 H3 (forL tg (fun g m => execL W body wr' g m) (xs.drop (i + 1)) g2 m2), ?_, ?_⟩
      · rintro σ' H' ⟨h3, h4⟩
        exact ⟨xs.length - (i + 1), by omega, rfl, h3, h4⟩
      · intro x H3 hy
        obtain ⟨d, ω3, e1, p3, r3⟩ := wk.yld wr' ω2 m2 H2 i x H3 hold S2.ce S2.tb hlt hy
        have S3 := S2.po p3
        have hV3 : Vg ω3 g2 = Vg ω2 g2 := Vg.po p3
        have q3 : PoV F wr' (Vg ω2 g2) ω2 m2 H2 ω3 m2 H3 (Vg ω3 g2) := PoV.of p3 fun b hb => by rw [hV3] at hb; exact hb
        rw [drop_cons e1] at hf
        simp only [forL] at hf
        cases hbd : bindT tg d g2 with
        | none => simp only [hbd] at hf; exact hf.elim
        | some g' =>
          simp only [hbd] at hf
          refine hG ω3 H3 g2 m2 σ2 d x g' _ S3.sl r3 hbd fun σ' S' _ _ => ?_
          have St' : Stt F ω3 g' m2 σ' H3 := ⟨S', S3.ce, S3.tb⟩
          have q4 : PoV F wr' (Vg ω2 g2) ω2 m2 H2 ω3 m2 H3 (Vg ω3 g') := PoV.of p3 fun b hb => by
            have := vg_bind tg d g2 g' hbd ω3 b hb
            rw [hV3] at this
            exact this
          refine LS.of (wr := wr') St' ?_
          have hf := FinS.then (FinS.shift q4 hf)
          show FinS F Wx wr' _ _ ω3 m2 H3 (execL W body wr' g' m2)
          cases hx : execL W body wr' g' m2 with
          | stuck => rw [hx] at hf; exact hf
          | exc c g5 m5 => rw [hx] at hf; exact hf
          | rt d5 m5 => rw [hx] at hf; exact hf
          | nx g5 m5 =>
            rw [hx] at hf
            intro ω5 σ5 H5 p5 S5
            obtain ⟨ω6, g6, m6, e6, p6, S6, h6⟩ := hf ω5 σ5 H5 p5 S5
            cases e6
            exact ⟨hlt, ω6, _, _, (p2.trans q4).trans p6, S6, h6⟩
    · have hi2 : i = xs.length := by omega
      subst hi2
      refine .inl ⟨wk.stop ω2 H2 hold, ?_⟩
      rw [List.drop_length] at hf
      exact FinS.nx hf S2 fun b z => z
/-- while -/
theorem s_whl {t : Ex} {body : List St} {c : Expr} {pb : List Stmt} (hp : PassesOwn (model X.prog X.w) X.A X.env X.xe) (ht : PT X c (LT F Wx (evE W t))) (hb : PSs X pb (LS F Wx (exL W body))) : PS X (.While c pb [] pos) (LS F Wx (exS W (.whl t body))) := by
  refine PS_imp (ps_while hp ht hb) fun Dn σ H h => ?_
  obtain ⟨ω, g, m, wr, S, h⟩ := h
  simp only [exec] at h
  refine ⟨fun n σ2 H2 => ∃ ω2 g2 m2, Stt F ω2 g2 m2 σ2 H2 ∧ FinS F Wx wr Dn (Vg ω2 g2) ω2 m2 H2 (whlL (fun g m => ev W t wr g m) (fun g m => execL W body wr g m) n g2 m2), ⟨W.fuel, ω, g, m, S, h⟩, ?_⟩
  rintro n σ2 H2 ⟨ω2, g2, m2, S2, hf⟩
  cases n with
  | zero => exact hf.elim
  | succ n =>
    simp only [whlL] at hf
    refine LG.of (wr := wr) S2 ?_
    show Fin F Wx wr σ2 RelB _ ω2 m2 H2 (asB (ev W t wr g2 m2))
    have hh := FinS.of_bind (rel := fun _ _ (_ : D) (_ : V) => True) S2 hf
    cases hx : ev W t wr g2 m2 with
    | stuck => rw [hx] at hf; exact hf
    | exc c m' => rw [hx] at hh; exact hh
    | ok d m' =>
      rw [hx] at hf
      simp only [RS.of_ok] at hf
      cases d with
      | bool k =>
        intro ω' v H' p r
        rw [show v = k by cases r; rfl]
        have S3 := S2.po p
        have h3 := FinS.shift (PoV.of p (V := Vg ω2 g2) (V' := Vg ω' g2) (fun b hb => by rw [Vg.po p] at hb; exact hb)) hf
        cases k with
        | true =>
          refine iteT ⟨fun σ5 H5 => ∃ ω2 g2 m2, Stt F ω2 g2 m2 σ5 H5 ∧ FinS F Wx wr Dn (Vg ω2 g2) ω2 m2 H5 (whlL (fun g m => ev W t wr g m) (fun g m => execL W body wr g m) n g2 m2), fun σ' H' z => ⟨n, Nat.lt_succ_self _, z⟩, ?_⟩
          refine LS.of (wr := wr) S3 ?_
          have h4 := FinS.then h3
          show FinS F Wx wr _ _ ω' m' H' (execL W body wr g2 m')
          cases hx2 : execL W body wr g2 m' with
          | stuck => rw [hx2] at h4; exact h4
          | exc c g5 m5 => rw [hx2] at h4; exact h4
          | rt d5 m5 => rw [hx2] at h4; exact h4
          | nx g5 m5 =>
            rw [hx2] at h4
            intro ω5 σ5 H5 p5 S5
            obtain ⟨ω6, g6, m6, e6, p6, S6, h6⟩ := h4 ω5 σ5 H5 p5 S5
            cases e6
            exact ⟨ω6, _, _, S6, h6⟩
        | false => exact iteF (FinS.nx h3 S3 fun b z => z)
      | _ => exact hf.elim
end
end Ev
end
section
set_option linter.all false
set_option autoImplicit false
set_option maxRecDepth 100000
/-! Ev, part S: calls, defs. -/
namespace Ev
open PySem PySem.Spec PyProof.Rows L2

/-- a def's promise -/
def spOf (F : Fx) (n : Nat) (sem : Wr → List D → M → R D) : Sp := fun vs H Q E => vs.length = n ∧ ∃ ω m wr ds, Cells F ω m H ∧ TabInv F H ∧ Reps F ω H ds vs ∧
  Fin F (fun cls _ _ H' => E cls none H') wr [] (VRel F false) Q ω m H (sem wr ds m)
theorem Fin.sig {α β : Type} {F : Fx} {Wx Wx' : WX} {wr : Wr} {σ σ' : L2.St} {rel : Om → Hp → α → β → Prop} {Q : β → Hp → Prop} {ω : Om} {m : M} {H : Hp} (k : ∀ c H, Wx (.ref (F.xa c)) none σ H → Wx' (.ref (F.xa c)) none σ' H) : ∀ {r : R α}, Fin F Wx wr σ rel Q ω m H r → Fin F Wx' wr σ' rel Q ω m H r
  | .stuck, h => h
  | .ok d m', h => h
  | .exc c m', h => fun ω' H' p => k c H' (h ω' H' p)
section
variable {X : Cx} {F : Fx} {W : Wd} {Wx : WX} {pos : Pos}
theorem call_core {f n : Nat} {es : List Ex} {σ : L2.St} {H : Hp} {Q : VK} (hn : es.length = n) (h : LE F Wx false (evE W (.call f es)) σ H Q) : LA F Wx (evLs W es) σ H fun vs H1 => spOf F n (W.call f) vs H1 Q (WE Wx σ) := by
  obtain ⟨ω, g, m, wr, S, h⟩ := h
  simp only [evE, ev] at h
  refine LG.of S (Fin.mono (fun vs H1 hx => ?_) (Fin.bind (rel := Reps F) S.ce h))
  obtain ⟨ω1, ds, m1, e1, p1, r1, h1⟩ := hx
  exact ⟨by rw [r1.length, evL_len _ _ _ _ _ e1, hn], ω1, m1, wr, ds, p1.cells, p1.tabs, r1, Fin.sig (fun _ _ z => z) h1⟩
theorem s_call {f n k : Nat} {fa : Addr} {fd : FuncData} {ps : List Str} {x : Str} {e : Ex} {es : List Ex} {p : Expr} {pes : List Expr} {np : Pos} (hn : (e :: es).length = n) (FK : FnOk X.prog X.w X.K X.mg X.base (L2.CX X.prog X.w) k fa fd ps (spOf F n (W.call f))) (hr : Room k X.A) (hg : Gl X x) (hm : X.mg x = some (.ref fa)) (hk : PySem.W.keepIn X.K (.ref fa) = true) (hb : Binds X.K fd ps []) (tk : Takes X Wx)
    (ha : PA X (p :: pes) (LA F Wx (evLs W (e :: es)))) (hdb : (x == ("__debug__" : Str)) = false) (pp : (p :: pes).all plainE = true) :
    PE X (.Call (.Name x np) (p :: pes) [] pos) (LE F Wx false (evE W (.call f (e :: es)))) := by
  rw [List.all_cons, Bool.and_eq_true] at pp
  exact PE_imp (pe_callS FK hr hg hm hk hb (passAt tk) ha hdb (plain_star pp.1 _ _) (plain_any _ _ pp.2)) fun σ H Q h => call_core hn h
theorem s_call0 {f k : Nat} {fa : Addr} {fd : FuncData} {x : Str} {np : Pos} (FK : FnOk X.prog X.w X.K X.mg X.base (L2.CX X.prog X.w) k fa fd [] (spOf F 0 (W.call f))) (hr : Room k X.A) (hg : Gl X x) (hm : X.mg x = some (.ref fa)) (hk : PySem.W.keepIn X.K (.ref fa) = true) (hb : Binds X.K fd [] []) (tk : Takes X Wx)
    (hdb : (x == ("__debug__" : Str)) = false) : PE X (.Call (.Name x np) [] [] pos) (LE F Wx false (evE W (.call f []))) := by
  refine ⟨fun pins s σ H Q I h => ?_⟩
  have h := call_core (n := 0) rfl h
  obtain ⟨ω, g, m, wr, S, h⟩ := h
  simp only [evLs, evL] at h
  have h0 := h ω [] H (Po.refl S.ce S.tb) rfl
  refine wpAny_Call_Name_kw (ld_glob I hg hm ?_ hdb)
  exact PySem.W.callWith_K0 I.kIn hk (run_fnS (us := []) (E := WE Wx) FK hr hb (passAt tk σ) I .nil h0)

/-! ### defs -/
def ga0 (n : Nat) (ds : List D) : Ga := ds.map (fun d => some (false, d)) ++ List.replicate (n - ds.length) none
def semFn (W : Wd) (body : List St) (n : Nat) : Wr → List D → M → R D := fun wr ds m => match execL W body wr (ga0 n ds) m with
  | .nx _ m' => .ok .none m'
  | .rt d m' => .ok d m'
  | .exc c _ m' => .exc c m'
  | .stuck => .stuck
theorem ga0_get {n : Nat} {ds : List D} {i : Nat} {b : Bool} {d : D} (h : (ga0 n ds)[i]? = some (some (b, d))) : b = false ∧ ds[i]? = some d := by
  unfold ga0 at h
  by_cases hi : i < ds.length
  · rw [List.getElem?_append_left (by simpa using hi), List.getElem?_map] at h
    cases e : ds[i]? with
    | none => rw [e] at h; cases h
    | some x =>
      rw [e] at h
      cases h
      exact ⟨rfl, rfl⟩
  · rw [List.getElem?_append_right (by simpa using Nat.le_of_not_lt hi)] at h
    rw [List.getElem?_replicate] at h
    split at h <;> cases h
theorem ga0_sl {N : List Str} {ds : List D} {vs : List V} {ω : Om} {m : M} {H : Hp} (r : Reps F ω H ds vs) (hl : ds.length ≤ N.length) : SlRel F ω (ga0 N.length ds) m (L2.start N vs) H := by
  have no : ∀ {i : Nat} {d : D}, ¬ (ga0 N.length ds)[i]? = some (some (true, d)) := fun h => by
    obtain ⟨z, _⟩ := ga0_get h
    cases z
  refine ⟨?_, fun i d h => ?_, fun i d h => absurd h no, fun i d j e h => absurd h no⟩
  · simp only [ga0, L2.start, List.length_append, List.length_map, List.length_replicate, r.length]
  · obtain ⟨_, e⟩ := ga0_get h
    obtain ⟨v, e2, r2⟩ := r.get e
    refine ⟨v, ?_, r2⟩
    have hi := (List.getElem?_eq_some_iff.mp e2).1
    unfold L2.start
    rw [List.getElem?_append_left (by simpa using hi), List.getElem?_map, e2]
    rfl
def Om.slw (ω : Om) (s : Nat → Addr) : Om := { ω with sl := s }
theorem stays_slw {ω : Om} {H : Hp} {s : Nat → Addr} : Stays F ω (ω.slw s) H H := ⟨Nat.le_refl _, fun _ _ => rfl, fun b o h _ _ => .inl h, fun b o _ hb z => hb z⟩
theorem Po.ofV {wr : Wr} {V V' : Addr → Prop} {ω ω' : Om} {m m' : M} {H H' : Hp} (hV : ∀ b, ¬ V b) (p : PoV F wr V ω m H ω' m' H' V') : Po F wr ω m H (ω'.slw ω.sl) m' H' :=
  ⟨p.le, p.ad, rfl, ⟨fun b o h hu nt => p.keep b o h hu (hV b) nt, p.tab, p.nb, fun b o h hb => p.pb b o h hb (hV b), p.st⟩, p.aq, p.cells.stays stays_slw rfl rfl (fun _ _ _ h => h) (fun _ _ h _ => h), p.tabs⟩
/-- a def's body keeps the promise -/
theorem body_core {body : List St} {N : List Str} {n : Nat} {vs : List V} {H : Hp} {Q : VK} {E : XK} (hn : n ≤ N.length) (h : spOf F n (semFn W body N.length) vs H Q E) :
    LS F (fun cls d _ H' => E cls d H') (exL W body) { nx := fun _ H' => Q .non H', rt := Q } (L2.start N vs) H := by
  obtain ⟨hl, ω, m, wr, ds, C, T, r, h⟩ := h
  have S : Stt F ω (ga0 N.length ds) m (L2.start N vs) H := ⟨ga0_sl r (by rw [← r.length, hl]; exact hn), C, T⟩
  have hV : ∀ b, ¬ Vg ω (ga0 N.length ds) b := by
    rintro b ⟨i, d, e, _⟩
    obtain ⟨z, _⟩ := ga0_get e
    cases z
  refine LS.of (wr := wr) S ?_
  show FinS F _ wr _ _ ω m H (execL W body wr (ga0 N.length ds) m)
  unfold semFn at h
  cases hx : execL W body wr (ga0 N.length ds) m with
  | stuck => simp only [hx] at h; exact h
  | nx g' m' =>
    simp only [hx] at h
    exact fun ω' σ' H' p S' => h _ .non H' (Po.ofV hV p) (.inl rfl)
  | rt d m' =>
    simp only [hx] at h
    exact fun ω' v H' p r => h _ v H' (Po.ofV hV p) (.inl (Rep.stays stays_slw _ _ r))
  | exc c g' m' =>
    simp only [hx] at h
    exact fun ω' σ' H' p S' => h _ H' (Po.ofV hV p)
end
end Ev
end
section
set_option linter.all false
set_option autoImplicit false
set_option maxRecDepth 100000
/-! Ev, part T: built-in functions. -/
namespace Ev
open PySem PySem.Spec PyProof.Rows L2

theorem preSum_getD (ns : List Int) : ∀ j, preSum (fun i => ns.getD i 0) j = (ns.take j).sum
  | 0 => by simp [preSum]
  | j + 1 => by
    rw [preSum, preSum_getD ns j]
    by_cases h : j < ns.length
    · rw [List.take_add_one, List.getElem?_eq_getElem h, List.sum_append]
      simp [List.getD_eq_getElem?_getD, List.getElem?_eq_getElem h]
    · have h2 : ns.length ≤ j := by omega
      rw [List.take_of_length_le h2, List.take_of_length_le (Nat.le_succ_of_le h2)]
      simp [List.getD_eq_getElem?_getD, List.getElem?_eq_none h2]
section
variable {X : Cx} {F : Fx} {W : Wd} {Wx : WX} {pos : Pos}
def rSumT (K : PySem.W.Frag) : List V → Hp → VK → Prop := fun vs H Q => ∃ (a : Addr) (ns : List Int), vs = [V.ref a] ∧ SqT K H a (ns.map V.int) ∧ Q (.int ns.sum) H
theorem cr_sumT (hc : X.calm = true) : CallR X (.builtin "sum") (rSumT X.K) := by
  intro pins s σ H vs us Q I r h
  obtain ⟨a, ns, rfl, hs, q⟩ := h
  obtain ⟨its, rv, ht, _⟩ := I.tuple hs
  rw [Vals.ref1 r]
  have hl : its.length = ns.length := by rw [← rv.length, List.length_map]
  refine call_sum_walkAnyS (PySem.W.iter_tupleW (A := X.A.in1) (I.ok.hd hc) (show s.heap.IsTuple a its.toArray from ht) fun s₂ e Wk st hfp hw hk => ?_)
  refine ⟨_, _, _, _, _, _, _, fun i => ns.getD i 0, rfl, Wk, st, hfp, fun i v hv => ?_, fun s' t' hm => ?_⟩
  · have hv : its.toArray[i]? = some v := hv
    rw [List.getElem?_toArray] at hv
    have hi : i < ns.length := by rw [← hl]; exact (List.getElem?_eq_some_iff.mp hv).1
    obtain ⟨u, hu, ru⟩ := rv.get (i := i) (x := .int ns[i]) (by rw [List.getElem?_map, List.getElem?_eq_getElem hi]; rfl)
    rw [hv] at hu
    cases hu
    obtain ⟨t, rfl⟩ := ru
    exact ⟨t, by simp [List.getD_eq_getElem?_getD, List.getElem?_eq_getElem hi]⟩
  · obtain ⟨h', tk, rfl, hold⟩ := PySem.W.moved_old e rfl hm
    refine ⟨.int ns.sum, H, I.kept hold, ⟨t', ?_⟩, q⟩
    rw [preSum_getD, List.take_of_length_le (by simp [hl])]
/-- a built-in's rule says what semBi says -/
def BiOk (X : Cx) (F : Fx) (b : Bi) (n : Nat) (r : List V → Hp → VK → Prop) : Prop := ∀ (wr : Wr) (ω : Om) (m : M) (H : Hp) (vs : List V) (ds : List D) (d : D) (Q : VK), ds.length = n → Cells F ω m H → TabInv F H →
  (Reps F ω H ds vs ∨ ∃ dx x, ds = [dx] ∧ vs = [x] ∧ VRel F true ω H dx x) → semBi b ds = some d → (∀ ω' v H', Po F wr ω m H ω' m H' → Rep F ω' H' d v → Q v H') → r vs H Q
theorem bi1_core {b : Bi} {r : List V → Hp → VK → Prop} {e : Ex} {σ : L2.St} {H : Hp} {Q : VK} (hb : BiOk X F b 1 r) (h : LE F Wx false (evE W (.bi b [e])) σ H Q) : LE F Wx (isB e) (evE W e) σ H fun x H1 => r [x] H1 Q := by
  obtain ⟨ω, g, m, wr, S, h⟩ := h
  simp only [evE, ev] at h
  refine LG.of S (Fin.mono (fun x H1 hx => ?_) (Fin.bind (rel := VRel F (isB e)) S.ce h))
  obtain ⟨ω1, dx, m1, e1, p1, r1, h1⟩ := hx
  obtain ⟨d, e2, q⟩ := h1.of
  have r2 : VRel F true ω1 H1 dx x := by
    rcases r1 with r1 | ⟨_, r1⟩
    · exact .inl r1
    · exact .inr ⟨rfl, r1⟩
  exact hb wr ω1 m1 H1 [x] [dx] d Q rfl p1.cells p1.tabs (.inr ⟨dx, x, rfl, rfl, r2⟩) e2 fun ω' v H' p r => q ω' v H' p (.inl r)
theorem bi2_core {b : Bi} {r : List V → Hp → VK → Prop} {e e2 : Ex} {es : List Ex} {σ : L2.St} {H : Hp} {Q : VK} (hb : BiOk X F b (e :: e2 :: es).length r) (h : LE F Wx false (evE W (.bi b (e :: e2 :: es))) σ H Q) : LA F Wx (evLs W (e :: e2 :: es)) σ H fun vs H1 => r vs H1 Q := by
  obtain ⟨ω, g, m, wr, S, h⟩ := h
  have e0 : evE W (.bi b (e :: e2 :: es)) wr g m = (evLs W (e :: e2 :: es) wr g m).bind fun xs m1 => R.of (semBi b xs) m1 := by simp only [evE, ev, evLs]
  rw [e0] at h
  refine LG.of S (Fin.mono (fun x H1 hx => ?_) (Fin.bind (rel := Reps F) S.ce h))
  obtain ⟨ω1, ds, m1, e1, p1, r1, h1⟩ := hx
  obtain ⟨d, e3, q⟩ := h1.of
  exact hb wr ω1 m1 H1 x ds d Q (evL_len _ _ _ _ _ e1) p1.cells p1.tabs (.inl r1) e3 fun ω' v H' p r => q ω' v H' p (.inl r)
/-- one argument -/
theorem bi_val {ω : Om} {H : Hp} {vs : List V} {ds : List D} (h : Reps F ω H ds vs ∨ ∃ dx x, ds = [dx] ∧ vs = [x] ∧ VRel F true ω H dx x) {dx : D} (e : ds = [dx]) : ∃ x, vs = [x] ∧ VRel F true ω H dx x := by
  subst e
  rcases h with ⟨v, r, rfl, h1, h2⟩ | ⟨dy, x, e1, rfl, h⟩
  · have h2 : r = [] := h2
    subst h2
    exact ⟨v, rfl, .inl h1⟩
  · cases e1
    exact ⟨x, rfl, h⟩
theorem Reps.intsV {ω : Om} {H : Hp} : ∀ {xs : List D} {ns : List Int} {vs : List V}, intsOf xs = some ns → Reps F ω H xs vs → vs = ns.map V.int
  | [], ns, vs, e, h => by
    cases e
    exact h
  | d :: ds, ns, vs, e, h => by
    obtain ⟨v, r, rfl, h1, h2⟩ := h
    cases d with
    | int i =>
      simp only [intsOf] at e
      cases e2 : intsOf ds with
      | none => rw [e2] at e; cases e
      | some ms =>
        rw [e2] at e
        cases e
        have h1 : v = .int i := h1
        rw [h1, Reps.intsV e2 h2]
        rfl
    | _ => simp [intsOf] at e
theorem max_fold : ∀ (r : List Int) (n m : Int), m ∈ n :: r → (∀ y ∈ n :: r, y ≤ m) → m = r.foldl dMax n
  | [], n, m, h1, h2 => by simpa using h1
  | y :: r, n, m, h1, h2 => by
    rw [List.foldl_cons]
    refine max_fold r (dMax n y) m ?_ ?_
    · have hn := h2 n (by simp)
      have hy := h2 y (by simp)
      rcases List.mem_cons.mp h1 with rfl | h1
      · refine List.mem_cons.mpr (.inl ?_)
        unfold dMax
        split <;> omega
      · rcases List.mem_cons.mp h1 with rfl | h1
        · refine List.mem_cons.mpr (.inl ?_)
          unfold dMax
          split <;> omega
        · exact List.mem_cons_of_mem _ h1
    · intro z hz
      rcases List.mem_cons.mp hz with rfl | hz
      · unfold dMax
        split
        · exact h2 y (by simp)
        · exact h2 n (by simp)
      · exact h2 z (by simp [hz])
/-- len of a dict, locked or not -/
def rLenD : List V → Hp → VK → Prop := fun xs H Q => ∃ a kvs, xs = [V.ref a] ∧ Rd H a (.dK kvs) ∧ Q (.int kvs.length) H
theorem call_lenR : CallR X (.builtin "len") (fun xs H Q => (∃ x n, xs = [x] ∧ LenV X.K x H n ∧ Q (.int n) H) ∨ rLenD xs H Q) := by
  intro pins s σ H xs us Q I r h
  rcases h with h | ⟨a, kvs, rfl, ha, q⟩
  · exact call_len pins s σ H xs us Q I r h
  · obtain ⟨u, rfl, ru⟩ := vals1 r
    cases ru
    exact d_len I ha fun t s' I' => ⟨.int kvs.length, H, I', ⟨t, rfl⟩, q⟩
theorem VRel.dict {bor : Bool} {ω : Om} {H : Hp} {kvs : List (D × D)} {v : V} (h : VRel F bor ω H (.dict kvs) v) (hp : pureD (.dict kvs) = true) : ∃ a vs, v = .ref a ∧ Rd H a (.dK vs) ∧ RepP F ω H kvs vs := by
  unfold pureD at hp
  simp only [Bool.and_eq_true, Option.isNone_iff_eq_none] at hp
  rcases h with (⟨r', h1, _⟩ | ⟨a, ns, h1, _⟩ | ⟨a, vs, rfl, ⟨o, h1⟩, h2, h3⟩) | ⟨_, a, rfl, ⟨vs, h1, h3⟩⟩
  · rw [hp.1] at h1
    cases h1
  · rw [h1] at hp
    have z : asScr (scrD ns) = some (ns.map .int) := rfl
    rw [z] at hp
    exact absurd hp.2 (by simp)
  · exact ⟨a, vs, rfl, .inr ⟨o, h1⟩, h3⟩
  · exact ⟨a, vs, rfl, h1, h3⟩
theorem bi_len (hK : X.K = F.K) : BiOk X F .len 1 (fun xs H Q => (∃ x n, xs = [x] ∧ LenV X.K x H n ∧ Q (.int n) H) ∨ rLenD xs H Q) := by
  intro wr ω m H vs ds d Q hl C T h e q
  have q0 : ∀ {v : V}, Rep F ω H d v → Q v H := fun r => q ω _ H (Po.refl C T) r
  unfold semBi at e
  split at e <;> first | contradiction | (try cases e)
  · obtain ⟨x, rfl, hx⟩ := bi_val h rfl
    obtain ⟨a, vs, rfl, h1, h2⟩ := hx.list
    exact .inl ⟨_, _, rfl, .inl ⟨vs, SqL.of h1, h2.length.symm⟩, q0 rfl⟩
  · obtain ⟨x, rfl, hx⟩ := bi_val h rfl
    obtain ⟨a, vs, rfl, h1, h2⟩ := hx.tup
    exact .inl ⟨_, _, rfl, .inr ⟨vs, by rw [hK]; exact h1.sq, h2.length.symm⟩, q0 rfl⟩
  · split at e
    · cases e
      rename_i hz
      obtain ⟨x, rfl, hx⟩ := bi_val h rfl
      rw [hx.str]
      exact .inl ⟨_, _, rfl, ⟨hz, rfl⟩, q0 rfl⟩
    · cases e
  · split at e
    · rename_i hp
      cases e
      obtain ⟨x, rfl, hx⟩ := bi_val h rfl
      obtain ⟨a, vs, rfl, h1, h2⟩ := hx.dict hp
      exact .inr ⟨a, vs, rfl, h1, q0 (by rw [h2.length]; rfl)⟩
    · cases e
theorem bi_abs : BiOk X F .abs 1 (fun xs H Q => ∃ i, xs = [.int i] ∧ Q (.int (if i < 0 then -i else i)) H) := by
  intro wr ω m H vs ds d Q hl C T h e q
  have q0 : ∀ {v : V}, Rep F ω H d v → Q v H := fun r => q ω _ H (Po.refl C T) r
  unfold semBi at e
  split at e <;> first | contradiction | (try cases e)
  obtain ⟨x, rfl, hx⟩ := bi_val h rfl
  exact ⟨_, by rw [hx.int], q0 rfl⟩
theorem bi_int : BiOk X F .int 1 (fun xs H Q => (∃ i, xs = [.int i] ∧ Q (.int i) H) ∨ ∃ k, xs = [.bl k] ∧ Q (.int (if k then 1 else 0)) H) := by
  intro wr ω m H vs ds d Q hl C T h e q
  have q0 : ∀ {v : V}, Rep F ω H d v → Q v H := fun r => q ω _ H (Po.refl C T) r
  unfold semBi at e
  split at e <;> first | contradiction | (try cases e)
  · obtain ⟨x, rfl, hx⟩ := bi_val h rfl
    exact .inl ⟨_, by rw [hx.int], q0 rfl⟩
  · obtain ⟨x, rfl, hx⟩ := bi_val h rfl
    exact .inr ⟨_, by rw [hx.bool], q0 rfl⟩
theorem two_ints {ω : Om} {H : Hp} {vs : List V} {i j : Int} (h : Reps F ω H [.int i, .int j] vs ∨ ∃ dx x, ([.int i, .int j] : List D) = [dx] ∧ vs = [x] ∧ VRel F true ω H dx x) : vs = [.int i, .int j] := by
  rcases h with h | ⟨_, _, e, _⟩
  · exact ints2 h
  · cases e
theorem bi_max2 : BiOk X F .max2 2 (fun xs H Q => ∃ i j, xs = [.int i, .int j] ∧ Q (.int (if j > i then j else i)) H) := by
  intro wr ω m H vs ds d Q hl C T h e q
  unfold semBi at e
  split at e <;> first | contradiction | (try cases e)
  exact ⟨_, _, two_ints h, q ω _ H (Po.refl C T) rfl⟩
theorem bi_min2 : BiOk X F .min2 2 (fun xs H Q => ∃ i j, xs = [.int i, .int j] ∧ Q (.int (if j < i then j else i)) H) := by
  intro wr ω m H vs ds d Q hl C T h e q
  unfold semBi at e
  split at e <;> first | contradiction | (try cases e)
  exact ⟨_, _, two_ints h, q ω _ H (Po.refl C T) rfl⟩
theorem bi_max1 (hK : X.K = F.K) : BiOk X F .max1 1 (rMax X.K) := by
  intro wr ω m H vs ds d Q hl C T h e q
  unfold semBi at e
  split at e <;> first | contradiction | (try cases e)
  rename_i xs _
  cases hx : intsOf xs with
  | none => rw [hx] at e; cases e
  | some ns =>
    rw [hx] at e
    cases ns with
    | nil => cases e
    | cons n r =>
      cases e
      obtain ⟨x, rfl, hv⟩ := bi_val h rfl
      obtain ⟨a, us, rfl, h1, h2⟩ := hv.list
      rw [Reps.intsV hx h2] at h1
      refine ⟨a, n :: r, rfl, SqL.of h1, by simp, fun k hk1 hk2 => ?_⟩
      rw [max_fold r n k hk1 hk2]
      exact q ω _ H (Po.refl C T) rfl
theorem bi_sum (hK : X.K = F.K) : BiOk X F .sum1 1 (fun vs H Q => rSum X.K vs H Q ∨ rSumT X.K vs H Q) := by
  intro wr ω m H vs ds d Q hl C T h e q
  unfold semBi at e
  split at e <;> first | contradiction | (try cases e)
  · rename_i xs _
    cases hx : intsOf xs with
    | none => rw [hx] at e; cases e
    | some ns =>
      rw [hx] at e
      cases e
      obtain ⟨x, rfl, hv⟩ := bi_val h rfl
      obtain ⟨a, us, rfl, h1, h2⟩ := hv.list
      rw [Reps.intsV hx h2] at h1
      exact .inl ⟨a, ns, rfl, SqL.of h1, q ω _ H (Po.refl C T) rfl⟩
  · rename_i xs _
    cases hx : intsOf xs with
    | none => rw [hx] at e; cases e
    | some ns =>
      rw [hx] at e
      cases e
      obtain ⟨x, rfl, hv⟩ := bi_val h rfl
      obtain ⟨a, us, rfl, h1, h2⟩ := hv.tup
      rw [Reps.intsV hx h2] at h1
      exact .inr ⟨a, ns, rfl, by rw [hK]; exact h1.sq, q ω _ H (Po.refl C T) rfl⟩
theorem bi_tuple (hK : X.K = F.K) : BiOk X F .tuple 1 (fun xs H Q => ∃ p ys, xs = [.ref p] ∧ ((SqL X.K H p ys ∧ ∀ l, H l = none → Q (.ref l) (upd H l (.tup ys))) ∨ (SqT X.K H p ys ∧ Q (.ref p) H))) := by
  intro wr ω m H vs ds d Q hl C T h e q
  unfold semBi at e
  split at e <;> first | contradiction | (try cases e)
  · obtain ⟨x, rfl, hv⟩ := bi_val h rfl
    obtain ⟨a, us, rfl, h1, h2⟩ := hv.list
    refine ⟨a, us, rfl, .inl ⟨SqL.of h1, fun l hl => ?_⟩⟩
    have p := Po.new (wr := wr) (o := .tup us) C T hl
    exact q _ _ _ p ⟨l, us, rfl, .inl ⟨upd_same, fun z => z.2 rfl⟩, Reps.stays (p.stays C) _ _ h2⟩
  · obtain ⟨x, rfl, hv⟩ := bi_val h rfl
    obtain ⟨a, us, rfl, h1, h2⟩ := hv.tup
    exact ⟨a, us, rfl, .inr ⟨by rw [hK]; exact h1.sq, q ω _ H (Po.refl C T) ⟨a, us, rfl, h1, h2⟩⟩⟩
theorem bi_list (hK : X.K = F.K) : BiOk X F .list 1 (fun xs H Q => ∃ p ys, xs = [.ref p] ∧ (SqL X.K H p ys ∨ SqT X.K H p ys) ∧ ∀ l, H l = none → Q (.ref l) (upd H l (.lst ys))) := by
  intro wr ω m H vs ds d Q hl C T h e q
  unfold semBi at e
  split at e <;> first | contradiction | (try cases e)
  · obtain ⟨x, rfl, hv⟩ := bi_val h rfl
    obtain ⟨a, us, rfl, h1, h2⟩ := hv.list
    refine ⟨a, us, rfl, .inl (SqL.of h1), fun l hl => ?_⟩
    have p := Po.new (wr := wr) (o := .lst us) C T hl
    exact q _ _ _ p ⟨l, us, rfl, upd_same, fun z => z.2 rfl, Reps.stays (p.stays C) _ _ h2⟩
  · obtain ⟨x, rfl, hv⟩ := bi_val h rfl
    obtain ⟨a, us, rfl, h1, h2⟩ := hv.tup
    refine ⟨a, us, rfl, .inr (by rw [hK]; exact h1.sq), fun l hl => ?_⟩
    have p := Po.new (wr := wr) (o := .lst us) C T hl
    exact q _ _ _ p ⟨l, us, rfl, upd_same, fun z => z.2 rfl, Reps.stays (p.stays C) _ _ h2⟩
end
end Ev
end
section
set_option linter.all false
set_option autoImplicit false
set_option maxRecDepth 100000
/-! Ev, part TB: instances, methods, append. -/
namespace Ev
open PySem PySem.Spec PyProof.Rows L2

section
variable {X : Cx} {F : Fx} {W : Wd} {Wx : WX} {pos : Pos}
/-- not super() -/
def nobase : Expr → Bool
  | .Call (.Name _ _) [] [] _ => false
  | _ => true
theorem nobase_ok {e : Expr} (h : nobase e = true) (f : Str) (env : Env) (whole : Sem Value) : attributeBase e f env whole = whole := by
  unfold attributeBase
  split
  · simp [nobase] at h
  · rfl
theorem clsAt_some {m : M} {x : D} {c : Nat} {fs : List (Str × Bool × D)} (h : clsAt m x = some (c, fs)) : ∃ r, asCell x = some r ∧ m[r]? = some (.ins c fs) := by
  unfold clsAt at h
  cases e : asCell x with
  | none => rw [e] at h; cases h
  | some r =>
    rw [e] at h
    simp only [Option.bind_some] at h
    split at h
    · rename_i e2
      cases h
      exact ⟨r, rfl, e2⟩
    · cases h
theorem fv_look {ω : Om} {H : Hp} {r : Nat} {fs : List (Str × Bool × D)} {vs : List (Str × V)} {f : Str} {d : D} (h : Paired (FvRel F ω H r) fs vs) : fs.lookup f = some (false, d) → ∃ v, vs.lookup f = some v ∧ Rep F ω H d v := by
  induction h with
  | nil => intro e; cases e
  | cons a b ih =>
    rename_i p q ps qs
    obtain ⟨n, own, d'⟩ := p
    obtain ⟨n', v⟩ := q
    obtain ⟨e1, e2⟩ := a
    have e1 : n = n' := e1
    subst e1
    intro e
    rw [List.lookup_cons] at e ⊢
    cases hn : f == n with
    | true =>
      rw [hn] at e
      cases e
      exact ⟨v, rfl, e2⟩
    | false =>
      rw [hn] at e
      exact ih e
theorem fv_none {ω : Om} {H : Hp} {r : Nat} {fs : List (Str × Bool × D)} {vs : List (Str × V)} {f : Str} (h : Paired (FvRel F ω H r) fs vs) : fs.lookup f = none → vs.lookup f = none := by
  induction h with
  | nil => intro e; rfl
  | cons a b ih =>
    rename_i p q ps qs
    obtain ⟨n, own, d'⟩ := p
    obtain ⟨n', v⟩ := q
    have e1 : n = n' := a.1
    subst e1
    intro e
    rw [List.lookup_cons] at e ⊢
    cases hn : f == n with
    | true => rw [hn] at e; cases e
    | false => rw [hn] at e; exact ih e
theorem fv_len {ω : Om} {H : Hp} {r : Nat} {fs : List (Str × Bool × D)} {vs : List (Str × V)} (h : Paired (FvRel F ω H r) fs vs) : vs.length = fs.length := by
  induction h with
  | nil => rfl
  | cons a b ih => simp [ih]
/-- o.f -/
theorem s_fld {e : Ex} {p : Expr} {f : Str} (ne : isB e = false) (nbs : nobase p = true) (hcl : ∀ c, W.has c f = true → Cls X.K (F.ca c) ∧ NoAttr X.K (F.ca c) f) (he : PE X p (LE F Wx false (evE W e))) : PE X (.Attribute p f pos) (LE F Wx false (evE W (.fld e f))) := by
  refine PE_imp (pe_fld he (nobase_ok nbs _ _ _)) fun σ H Q h => ?_
  have h := LG.congr (f' := fun wr g m => (evE W e wr g m).bind fun x m1 => match clsAt m1 x with
    | some (c, fs) => if W.has c f then (match fs.lookup f with
      | some (false, d) => .ok d m1
      | _ => .stuck) else .stuck
    | none => .stuck) (fun wr g m => by
      simp only [evE]
      rw [ev]
      exact if_neg (by rw [ne]; exact Bool.false_ne_true)) h
  obtain ⟨ω, g, m, wr, S, h⟩ := h
  refine LG.of S (Fin.mono (fun x H1 hx => ?_) (Fin.bind (rel := VRel F false) S.ce h))
  obtain ⟨ω1, dx, m1, e1, p1, r1, h1⟩ := hx
  cases hc : clsAt m1 dx with
  | none => simp only [hc] at h1; exact h1.elim
  | some q =>
    obtain ⟨c, fs⟩ := q
    simp only [hc] at h1
    split at h1
    · rename_i hh
      split at h1
      · rename_i d hl
        obtain ⟨r, q1, q2⟩ := clsAt_some hc
        obtain ⟨hr, rfl⟩ := VRel.cell q1 r1
        obtain ⟨dx, vs, q3, q4⟩ := p1.cells.at_ _ _ q2
        obtain ⟨v, q5, q6⟩ := fv_look q4 hl
        obtain ⟨k1, k2⟩ := hcl c hh
        exact ⟨_, _, _, _, v, rfl, q3, k1, k2, q5, h1.ok p1.cells p1.tabs (.inl q6)⟩
      · exact h1.elim
    · exact h1.elim

/-! ### methods -/
def tMethS (C : Addr) (m : Str) (sp : Sp) (Wx : WX) (ta : TE) (t : TA) : TE := fun σ H Q => ta σ H fun x H1 => ∃ a dx fs, x = .ref a ∧ H1 a = some (.ins C dx fs) ∧ fs.lookup m = none ∧ t σ H1 fun vs H2 => sp (.ref a :: vs) H2 Q (WE Wx σ)
theorem mcall_tree {o : Expr} {m : Str} {apos pos : Pos} {env : Env} {ps : List Expr} (nbs : nobase o = true) (pp : ps.all plainE = true) (hl : ps.length < 30) (hline : (apos.endLine == pos.line) = true) :
    eval (.Call (.Attribute o m apos) ps [] pos) env = (do
      let ov ← eval o env
      standAt apos.atName
      let (f, first) ← holding [ov] (getMethod ov m (plainOf o env))
      callWith pos f first (backTo pos (starEach ps env)) (backToKw pos (keywordEach [] env))) := by
  rw [arm_eval_Call, nobase_ok nbs]
  have hf : methodCallForm (ps.length + ([] : List Keyword).length) (backTo pos (starEach ps env)) (backToKw pos (keywordEach [] env)) = true := by
    have ha := plain_any pos env pp
    unfold methodCallForm
    simp only [List.length_nil, Nat.add_zero]
    rw [List.any_eq_false] at ha
    have h1 : ((backTo pos (starEach ps env)).all fun x => !x.1) = true := by
      rw [List.all_eq_true]
      intro x hx
      simpa using ha x hx
    have h2 : (backToKw pos (keywordEach [] env)) = [] := rfl
    simp only [h2]
    first
      | (simp [h1]; omega)
      | simp [h1, hl]
  have e : ∀ ov : Value, methodCall o m apos pos env ov (ps.length + ([] : List Keyword).length) (backTo pos (starEach ps env)) (backToKw pos (keywordEach [] env)) = (do
      let (f, first) ← holding [ov] (getMethod ov m (plainOf o env))
      callWith pos f first (backTo pos (starEach ps env)) (backToKw pos (keywordEach [] env))) := fun ov => mcall_line hf hline
  simp only [e]
theorem pe_methS' {k : Nat} {C f : Addr} {fd : FuncData} {ps : List Str} {sp : Sp} {o e : Expr} {m : Str} {es : List Expr} {ta : TE} {t : TA} {apos : Pos} (he : PE X o ta) (c : Cls X.K C) (hm : Meth X.K C m f) (FK : FnOk X.prog X.w X.K X.mg X.base (L2.CX X.prog X.w) k f fd ps sp) (hr : Room k X.A) (hb : Binds X.K fd ps []) (tk : Takes X Wx) (ha : PA X (e :: es) t)
    (nbs : nobase o = true) (pp : (e :: es).all plainE = true) (hl : (e :: es).length < 30) (hline : (apos.endLine == pos.line) = true) :
    PE X (.Call (.Attribute o m apos) (e :: es) [] pos) (tMethS C m sp Wx ta t) := by
  refine ⟨fun pins s σ H Q I h => ?_⟩
  refine PySem.W.methodCall_KW (pl := plainOf o X.env) (thn (he.run pins s σ H _ I h) fun u s1 ⟨x, H1, I1, rx, a, dx, fs, ex, ea, l, q⟩ => ?_) (mcall_tree nbs pp hl hline)
  subst ex
  obtain rfl : u = Value.ref a := rx
  refine getmeth_ok I1 ea c hm l ?_
  rw [List.all_cons, Bool.and_eq_true] at pp
  refine PySem.W.callWith_K (first := [.ref a]) (h₀ := X.base) I.ok.mod.kin hm.kp (thn (ha.run pos pins s1 σ H1 _ I1 q) fun us s2 ⟨vs, H2, I2, r, q2⟩ => ⟨I2.kIn, ?_⟩) (plain_star pp.1 _ _) (plain_any _ _ pp.2)
  exact run_fnS (E := WE Wx) (us := .ref a :: us) (vs := .ref a :: vs) FK hr hb (passAt tk σ) I2 (.cons rfl r) q2
theorem pe_methS0 {k : Nat} {C f : Addr} {fd : FuncData} {ps : List Str} {sp : Sp} {o : Expr} {m : Str} {ta : TE} {apos : Pos} (he : PE X o ta) (c : Cls X.K C) (hm : Meth X.K C m f) (FK : FnOk X.prog X.w X.K X.mg X.base (L2.CX X.prog X.w) k f fd ps sp) (hr : Room k X.A) (hb : Binds X.K fd ps []) (tk : Takes X Wx)
    (nbs : nobase o = true) (hline : (apos.endLine == pos.line) = true) :
    PE X (.Call (.Attribute o m apos) [] [] pos) (fun σ H Q => ta σ H fun x H1 => ∃ a dx fs, x = .ref a ∧ H1 a = some (.ins C dx fs) ∧ fs.lookup m = none ∧ sp [.ref a] H1 Q (WE Wx σ)) := by
  refine ⟨fun pins s σ H Q I h => ?_⟩
  refine PySem.W.methodCall_KW (pl := plainOf o X.env) (thn (he.run pins s σ H _ I h) fun u s1 ⟨x, H1, I1, rx, a, dx, fs, ex, ea, l, q⟩ => ?_) (mcall_tree nbs rfl (by decide) hline)
  subst ex
  obtain rfl : u = Value.ref a := rx
  refine getmeth_ok I1 ea c hm l ?_
  exact PySem.W.callWith_K0 (first := [.ref a]) I1.kIn hm.kp (run_fnS (E := WE Wx) (us := [.ref a]) (vs := [.ref a]) FK hr hb (passAt tk σ) I1 (.cons rfl .nil) q)
/-- what a call of a method means -/
theorem met_core {f n : Nat} {o : Ex} {es : List Ex} {σ : L2.St} {H : Hp} {Q : VK} (no : isB o = false) (hn : es.length + 1 = n) (h : LE F Wx false (evE W (.met f o es)) σ H Q) :
    LE F Wx false (evE W o) σ H fun x H1 => ∃ a dx fs, x = .ref a ∧ H1 a = some (.ins (F.ca (W.cls f)) dx fs) ∧ fs.lookup (W.nam f) = none ∧ LA F Wx (evLs W es) σ H1 fun vs H2 => spOf F n (W.call f) (.ref a :: vs) H2 Q (WE Wx σ) := by
  have h := LG.congr (f' := fun wr g m => (evE W o wr g m).bind fun x m1 => match clsAt m1 x with
    | some (c, fs) => if c = W.cls f ∧ fs.lookup (W.nam f) = none then (evL W es wr g m1).bind fun xs m2 => W.call f wr (x :: xs) m2 else .stuck
    | none => .stuck) (fun wr g m => by
      simp only [evE]
      rw [ev]
      exact if_neg (by rw [no]; exact Bool.false_ne_true)) h
  obtain ⟨ω, g, m, wr, S, h⟩ := h
  refine LG.of S (Fin.mono (fun x H1 hx => ?_) (Fin.bind (rel := VRel F false) S.ce h))
  obtain ⟨ω1, dx, m1, e1, p1, r1, h1⟩ := hx
  cases hc : clsAt m1 dx with
  | none => simp only [hc] at h1; exact h1.elim
  | some q =>
    obtain ⟨c, fs⟩ := q
    simp only [hc] at h1
    split at h1
    · rename_i hh
      obtain ⟨r, q1, q2⟩ := clsAt_some hc
      have rx := r1.pure
      obtain ⟨hr, rfl⟩ := VRel.cell q1 r1
      obtain ⟨ddx, vs, q3, q4⟩ := p1.cells.at_ _ _ q2
      have S1 := S.po p1
      refine ⟨_, ddx, vs, rfl, by rw [← hh.1]; exact q3, fv_none q4 hh.2, ?_⟩
      refine LG.of S1 (Fin.mono (fun us H2 hx => ?_) (Fin.bind (rel := Reps F) S1.ce h1))
      obtain ⟨ω2, ds, m2, e2, p2, r2, h2⟩ := hx
      refine ⟨by simp only [List.length_cons]; rw [r2.length, evL_len _ _ _ _ _ e2, hn], ω2, m2, wr, dx :: ds, p2.cells, p2.tabs, ⟨_, us, rfl, Rep.stays (p2.stays S1.ce) _ _ rx, r2⟩, Fin.sig (fun _ _ z => z) h2⟩
    · exact h1.elim
theorem s_met {f n k : Nat} {fa : Addr} {fd : FuncData} {ps : List Str} {m : Str} {o : Ex} {es : List Ex} {po : Expr} {pes : List Expr} {apos : Pos} (no : isB o = false) (hn : es.length + 1 = n) (hnm : W.nam f = m) (c : Cls X.K (F.ca (W.cls f))) (hm : Meth X.K (F.ca (W.cls f)) m fa) (FK : FnOk X.prog X.w X.K X.mg X.base (L2.CX X.prog X.w) k fa fd ps (spOf F n (W.call f))) (hr : Room k X.A) (hb : Binds X.K fd ps []) (tk : Takes X Wx)
    (ho : PE X po (LE F Wx false (evE W o))) (ha : PA X pes (LA F Wx (evLs W es))) (hp : es.length = pes.length) (nbs : nobase po = true) (pp : pes.all plainE = true) (hl : pes.length < 30) (hline : (apos.endLine == pos.line) = true) :
    PE X (.Call (.Attribute po m apos) pes [] pos) (LE F Wx false (evE W (.met f o es))) := by
  subst hnm
  cases pes with
  | cons p pes => exact PE_imp (pe_methS' ho c hm FK hr hb tk ha nbs pp hl hline) fun σ H Q h => met_core no hn h
  | nil =>
    have e : es = [] := List.length_eq_zero_iff.mp hp
    subst e
    refine PE_imp (pe_methS0 ho c hm FK hr hb tk nbs hline) fun σ H Q h => ?_
    obtain ⟨ω, g, mm, wr, S, h⟩ := met_core no hn h
    refine LG.of S (Fin.mono (fun x H1 hx => ?_) h)
    obtain ⟨a, dx, fs, e1, e2, e3, h1⟩ := hx
    obtain ⟨ω1, g1, m1, wr1, S1, h1⟩ := h1
    simp only [evLs, evL] at h1
    exact ⟨a, dx, fs, e1, e2, e3, h1 ω1 [] H1 (Po.refl S1.ce S1.tb) rfl⟩

/-! ### C(..) -/
theorem run_makeS {k : Nat} {C f : Addr} {fd : FuncData} {ps : List Str} {sp : Sp} {E : L2.St → XK} {pins : List (Addr × Obj)} {σ : L2.St} {H : Hp} {s : Shared} {Q : VK} {us : List Value} {vs : List V} (Mm : Mk X.K C f) (FK : FnOk X.prog X.w X.K X.mg X.base (L2.CX X.prog X.w) k f fd ps sp) (hr : Room (k + 1) X.A) (hb : Binds X.K fd ps [])
    (hx : PassesAt (L2.CX X.prog X.w) X σ (E σ)) (I : Inv X pins σ H s) (r : Vals vs us)
    (h : ∀ x dx, H x = none → H dx = none → dx ≠ x → sp (.ref x :: vs) (upd (upd H dx (.own x)) x (.ins C dx [])) (fun v H2 => v = .non ∧ Q (.ref x) H2) (E σ)) :
    wpAny (model X.prog X.w) X.A (call (.ref C) us) (EP X pins σ Q) X.xe s := by
  have hq := h (s.heap.objs.size + 1) s.heap.objs.size (I.hok.fresh (Nat.le_succ _)) (I.hok.fresh (Nat.le_refl _)) (Nat.ne_of_lt (Nat.lt_succ_self _))
  have I2 := Inv.made (C := C) I
  have r2 : Vals (V.ref (s.heap.objs.size + 1) :: vs) (Value.ref (s.heap.objs.size + 1) :: us) := .cons rfl r
  have hl : (Value.ref (s.heap.objs.size + 1) :: us ++ []).length = ps.length := by
    have e := r2.length
    rw [FK.len _ _ _ _ hq] at e
    rw [List.append_nil]
    exact e.symm
  have hbb := hb { s with heap := (s.heap.push PySem.W.emptyDict).push (PySem.W.instObj C s.heap.objs.size) } (Value.ref (s.heap.objs.size + 1) :: us) I2.kIn hl
  rw [List.append_nil] at hbb
  refine wpAny_call (make_map (f := f) I.kIn Mm.makes Mm.init (beq_iff_eq.mp Mm.fn) (codeAny_mono (FK.run _ X.stack _ _ ⟨Value.ref (s.heap.objs.size + 1) :: us, []⟩ (Value.ref (s.heap.objs.size + 1) :: us) _ _ (E σ) (hr.make C us [])
    (I2.env0.make C us []) hbb r2 hq) fun r s' hq' => ?_))
  cases r with
  | error e => exact hx pins _ _ e s' I2 hq'
  | ok fl =>
    cases fl with
    | ret u =>
      obtain ⟨v, H', I3, rv, ev, q3⟩ := I2.after hq'
      subst ev
      exact ⟨rv, ⟨V.ref (s.heap.objs.size + 1), H', I3, rfl, q3⟩⟩
    | next => exact False.elim hq'
    | brk => exact False.elim hq'
    | cont => exact False.elim hq'
def mkRq (F : Fx) (W : Wd) (Wx : WX) (c n : Nat) (σ : L2.St) (Q : VK) : List V → Hp → Prop := fun vs H1 => ∀ x dx, H1 x = none → H1 dx = none → dx ≠ x →
  spOf F n (W.call (W.ini c)) (.ref x :: vs) (upd (upd H1 dx (.own x)) x (.ins (F.ca c) dx [])) (fun v H2 => v = .non ∧ Q (.ref x) H2) (WE Wx σ)
theorem new_core {c n : Nat} {es : List Ex} {σ : L2.St} {H : Hp} {Q : VK} (hn : es.length + 1 = n) (h : LE F Wx false (evE W (.new c es)) σ H Q) : LA F Wx (evLs W es) σ H (mkRq F W Wx c n σ Q) := by
  obtain ⟨ω, g, m, wr, S, h⟩ := h
  simp only [evE, ev] at h
  refine LG.of S (Fin.mono (fun vs H1 hx => ?_) (Fin.bind (rel := Reps F) S.ce h))
  obtain ⟨ω1, ds, m1, e1, p1, r1, h1⟩ := hx
  intro x dx hx hdx hne
  have q1 : Po F wr ω1 m1 H1 (ω1.out dx) m1 (upd H1 dx (.own x)) := Po.new p1.cells p1.tabs hdx
  have hx2 : upd H1 dx (.own x) x = none := by rw [upd_ne (Ne.symm hne)]; exact hx
  have q2 : Po F wr (ω1.out dx) m1 (upd H1 dx (.own x)) ((ω1.out dx).cell x) (m1 ++ [.ins c []]) (upd (upd H1 dx (.own x)) x (.ins (F.ca c) dx [])) := by
    refine Po.cellG q1.cells q1.tabs hx2 ⟨dx, [], ?_, .nil⟩ (fun c' fs f d e z => by cases e; cases z) (fun c' fs e => by cases e; exact List.nodup_nil)
    show upd (upd H1 dx (.own x)) x _ (if (ω1.out dx).n = (ω1.out dx).n then x else _) = _
    rw [if_pos rfl, upd_same]
  have q12 := q1.trans p1.cells q2
  have hcell : Rep F ((ω1.out dx).cell x) (upd (upd H1 dx (.own x)) x (.ins (F.ca c) dx [])) (cellD m1.length) (.ref x) := by
    have e : (.ref x : V) = .ref (((ω1.out dx).cell x).ad m1.length "") := by
      show (.ref x : V) = .ref (if m1.length = (ω1.out dx).n then x else _)
      rw [if_pos q1.cells.len]
    rw [e]
    exact rep_cell (by rw [p1.cells.len]; exact Nat.lt_succ_self _)
  refine ⟨by simp only [List.length_cons]; rw [r1.length, evL_len _ _ _ _ _ e1, hn], _, m1 ++ [.ins c []], wr, cellD m1.length :: ds, q12.cells, q12.tabs, ⟨_, vs, rfl, hcell, Reps.stays (q12.stays p1.cells) _ _ r1⟩, ?_⟩
  have h2 := Fin.shift p1.cells q12 h1
  have h3 := Fin.bind (rel := VRel F false) q12.cells h2
  refine Fin.mono (fun v H2 hv => ?_) (Fin.sig (fun _ _ z => z) h3)
  obtain ⟨ω3, dv, m3, e3, p3, r3, h4⟩ := hv
  cases dv with
  | none => exact ⟨r3.pure, h4.ok p3.cells p3.tabs (.inl (Rep.stays (p3.stays q12.cells) _ _ hcell))⟩
  | _ => exact h4.elim
theorem s_new {c n k : Nat} {fa : Addr} {fd : FuncData} {ps : List Str} {x : Str} {es : List Ex} {pes : List Expr} {np : Pos} (hn : es.length + 1 = n) (Mm : Mk X.K (F.ca c) fa) (FK : FnOk X.prog X.w X.K X.mg X.base (L2.CX X.prog X.w) k fa fd ps (spOf F n (W.call (W.ini c)))) (hr : Room (k + 1) X.A) (hg : Gl X x) (hm : X.mg x = some (.ref (F.ca c))) (hb : Binds X.K fd ps []) (tk : Takes X Wx)
    (ha : PA X pes (LA F Wx (evLs W es))) (hp : es.length = pes.length) (hdb : (x == ("__debug__" : Str)) = false) (pp : pes.all plainE = true) : PE X (.Call (.Name x np) pes [] pos) (LE F Wx false (evE W (.new c es))) := by
  refine ⟨fun pins s σ H Q I h => ?_⟩
  have h := new_core hn h
  cases pes with
  | cons p pes =>
    rw [List.all_cons, Bool.and_eq_true] at pp
    refine wpAny_Call_Name_kw (ld_glob I hg hm ?_ hdb)
    refine PySem.W.callWith_K (h₀ := X.base) I.ok.mod.kin Mm.kp (thn (ha.run pos pins s σ H _ I h) fun us s1 ⟨vs, H1, I1, r, q⟩ => ⟨I1.kIn, ?_⟩) (plain_star pp.1 _ _) (plain_any _ _ pp.2)
    exact run_makeS (E := WE Wx) Mm FK hr hb (passAt tk σ) I1 r q
  | nil =>
    have e : es = [] := List.length_eq_zero_iff.mp hp
    subst e
    obtain ⟨ω, g, m, wr, S, h⟩ := h
    simp only [evLs, evL] at h
    have h0 := h ω [] H (Po.refl S.ce S.tb) rfl
    refine wpAny_Call_Name_kw (ld_glob I hg hm ?_ hdb)
    exact PySem.W.callWith_K0 I.kIn Mm.kp (run_makeS (us := []) (E := WE Wx) Mm FK hr hb (passAt tk σ) I .nil h0)

/-! ### o.f = e -/
theorem putF_look {fs : List (Str × Bool × D)} {f g : Str} {d e : D} (h : (putF fs f d).lookup g = some (true, e)) : fs.lookup g = some (true, e) := by
  induction fs with
  | nil =>
    rw [putF, List.lookup_cons] at h
    split at h <;> cases h
  | cons p r ih =>
    rw [putF] at h
    split at h
    · rename_i e1
      rw [List.lookup_cons] at h ⊢
      rw [e1]
      cases hg : g == f with
      | true => rw [hg] at h; cases h
      | false => rw [hg] at h; exact h
    · rw [List.lookup_cons] at h ⊢
      cases hg : g == p.1 with
      | true => rw [hg] at h; exact h
      | false => rw [hg] at h; exact ih h
theorem putF_keys {fs : List (Str × Bool × D)} {f : Str} {d : D} : ∀ k, k ∈ (putF fs f d).map (·.1) → k = f ∨ k ∈ fs.map (·.1) := by
  induction fs with
  | nil =>
    intro k h
    simp [putF] at h
    exact .inl h
  | cons p r ih =>
    intro k h
    rw [putF] at h
    split at h
    · rename_i e1
      rw [List.map_cons, List.mem_cons] at h
      rcases h with h | h
      · exact .inl h
      · exact .inr (by rw [List.map_cons]; exact List.mem_cons_of_mem _ h)
    · rw [List.map_cons, List.mem_cons] at h
      rcases h with h | h
      · exact .inr (by rw [List.map_cons]; exact List.mem_cons.mpr (.inl h))
      · rcases ih k h with z | z
        · exact .inl z
        · exact .inr (by rw [List.map_cons]; exact List.mem_cons_of_mem _ z)
theorem putF_nd {fs : List (Str × Bool × D)} {f : Str} {d : D} (h : (fs.map (·.1)).Nodup) : ((putF fs f d).map (·.1)).Nodup := by
  induction fs with
  | nil => simp [putF]
  | cons p r ih =>
    rw [putF]
    rw [List.map_cons, List.nodup_cons] at h
    split
    · rename_i e1
      rw [List.map_cons, List.nodup_cons]
      exact ⟨by rw [← e1]; exact h.1, h.2⟩
    · rename_i e1
      rw [List.map_cons, List.nodup_cons]
      refine ⟨fun z => ?_, ih h.2⟩
      rcases putF_keys _ z with z | z
      · exact e1 z
      · exact h.1 z
theorem putF_paired {ω : Om} {H : Hp} {r : Nat} {fs : List (Str × Bool × D)} {vs : List (Str × V)} {f : Str} {d : D} {v : V} (h : Paired (FvRel F ω H r) fs vs) (rd : Rep F ω H d v) : Paired (FvRel F ω H r) (putF fs f d) (L2.putF f v vs) := by
  induction h with
  | nil => exact .cons ⟨rfl, rd⟩ .nil
  | cons a b ih =>
    rename_i p q ps qs
    obtain ⟨n, own, d'⟩ := p
    obtain ⟨n', v'⟩ := q
    have e1 : n = n' := a.1
    subst e1
    rw [putF, L2.putF]
    by_cases hn : n = f
    · subst hn
      rw [if_pos rfl]
      first
        | (rw [if_pos rfl]; exact .cons ⟨rfl, rd⟩ b)
        | (simp; exact .cons ⟨rfl, rd⟩ b)
    · rw [if_neg hn]
      first
        | (rw [if_neg hn]; exact .cons a ih)
        | (rw [if_neg (Ne.symm hn)]; exact .cons a ih)
        | (simp [hn]; exact .cons a ih)
theorem s_setf {o e : Ex} {po p : Expr} {f : Str} {ps' : Pos} (hs : swapOk p = true) (hcl : ∀ c, W.has c f = true → Cls X.K (F.ca c) ∧ NoAttr X.K (F.ca c) f)
    (ne : isB e = false) (no : isB o = false) (he : PE X p (LE F Wx false (evE W e))) (ho : PE X po (LE F Wx false (evE W o))) :
    PS X (.Assign [.Attribute po f ps'] p pos) (LS F Wx (exS W (.setf o f e))) := by
  refine PS_imp (ps_fld ho he (swap_ok hs _ _ _)) fun Dn σ H h => ?_
  obtain ⟨ω, g, m, wr, S, h⟩ := h
  simp only [exec, ne, no, Bool.or_self, Bool.false_eq_true, if_false] at h
  refine LG.of S (Fin.mono (fun v H1 hx => ?_) (FinS.of_bind (rel := VRel F false) S h))
  obtain ⟨ω1, d, m1, e1, p1, r1, S1, h1⟩ := hx
  refine LG.of S1 (Fin.mono (fun ov H2 hx => ?_) (FinS.of_bind (rel := VRel F false) S1 h1))
  obtain ⟨ω2, od, m2, e2, p2, r2, S2, h2⟩ := hx
  cases hc : asCell od with
  | none => simp only [hc] at h2; exact h2.elim
  | some r =>
    simp only [hc] at h2
    split at h2
    · rename_i c fs hm
      split at h2
      · rename_i hh
        simp only [Bool.and_eq_true, decide_eq_true_eq] at hh
        obtain ⟨⟨hh, hw⟩, hl⟩ := hh
        obtain ⟨hr, eo⟩ := VRel.cell hc r2
        obtain ⟨dx, vs, q3, q4⟩ := S2.ce.at_ _ _ hm
        obtain ⟨k1, k2⟩ := hcl c hh
        have rd := Rep.stays (p2.stays S1.ce) _ _ r1.pure
        have lv0 : LvC m2 r "" := ⟨(List.getElem?_eq_some_iff.mp hm).1, .inl rfl⟩
        have hB : ω2.B (ω2.ad r "") := S2.ce.inB r "" lv0
        have st : Stays F ω2 ω2 H2 (upd H2 (ω2.ad r "") (.ins (F.ca c) dx (L2.putF f v vs))) := upd_stays hB
        have lvo : ∀ f' d', (putF fs f d).lookup f' = some (true, d') → f' ≠ "" → LvC m2 r f' := fun f' d' e hf => ⟨lv0.1, .inr ⟨c, fs, d', hm, putF_look e, hf⟩⟩
        have hat : CellAt F ω2 (upd H2 (ω2.ad r "") (.ins (F.ca c) dx (L2.putF f v vs))) r (.ins c (putF fs f d)) := by
          refine ⟨dx, L2.putF f v vs, upd_same, ?_⟩
          have pr := putF_paired (f := f) q4 rd
          have nd := putF_nd (f := f) (d := d) (S2.ce.nd r c fs hm)
          have all : ∀ (l : List (Str × Bool × D)) (us : List (Str × V)), (∀ q ∈ l, q ∈ putF fs f d) → Paired (FvRel F ω2 H2 r) l us → Paired (FvRel F ω2 (upd H2 (ω2.ad r "") (.ins (F.ca c) dx (L2.putF f v vs))) r) l us := by
            intro l
            induction l with
            | nil => intro us _ q; cases q; exact .nil
            | cons q l ih =>
              intro us hs hq
              cases hq with
              | cons a b =>
                refine .cons ?_ (ih _ (fun z hz => hs z (List.mem_cons_of_mem _ hz)) b)
                obtain ⟨f', own, d'⟩ := q
                obtain ⟨e, a⟩ := a
                refine ⟨e, ?_⟩
                cases own with
                | false => exact Rep.stays st _ _ a
                | true =>
                  obtain ⟨a0, a1, a2⟩ := a
                  refine ⟨a0, a1, Cont.keep st (fun o q _ => ?_) a2⟩
                  have l2 := lvo f' d' (lookup_of_mem nd (hs _ List.mem_cons_self)) a0
                  rw [upd_ne fun z => a0 (S2.ce.inj r f' r "" l2 lv0 z).2]
                  exact q
          exact all _ _ (fun _ z => z) pr
        obtain ⟨q5, q6⟩ := cell_updG (wr := wr) (c1 := .ins c (putF fs f d)) S2 hm hw q3 (fun _ z => by cases z) (fun _ z => by cases z) hat (fun c' fs' f' d' e z hf => by cases e; exact lvo f' d' z hf) (fun c' fs' e => by cases e; exact putF_nd (S2.ce.nd r c fs hm))
        exact ⟨_, _, dx, vs, eo, q3, k1, k2, by rw [fv_len q4]; exact hl, h2 ω2 σ _ q5 q6⟩
      · exact h2.elim
    · exact h2.elim
end
end Ev
end
section
set_option linter.all false
set_option autoImplicit false
set_option maxRecDepth 100000
/-! Ev, part TC: append, index, count, sorted, tuple(range ..), list(range ..). -/
namespace Ev
open PySem PySem.Spec PyProof.Rows L2

section
variable {X : Cx} {F : Fx} {W : Wd} {Wx : WX} {pos : Pos}
/-- x.append(e), x a slot's own -/
theorem s_appS {i : Nat} {x : Str} {e : Ex} {p : Expr} {px apos cpos : Pos} (hN : X.N[i]? = some x) (hv : Vis X.env.scope x) (hd : (x == ("__debug__" : Str)) = false) (hcd : (x == ("__classdict__" : Str)) = false)
    (ne : isB e = false) (pp : plainE p = true) (hline : (apos.endLine == cpos.line) = true) (he : PE X p (LE F Wx false (evE W e))) :
    PS X (.Expr (.Call (.Attribute (.Name x px) "append" apos) [p] [] cpos) pos) (LS F Wx (exS W (.app (.sl i) e))) := by
  have hs := plain_star pp [] X.env
  have hfew : ((backTo cpos (starEach [p] X.env)).all (fun x => !x.1) && (backToKw cpos (keywordEach [] X.env)).all (fun x => x.1.isSome)
      && decide ([p].length + ([] : List Keyword).length + (if ([] : List Keyword).isEmpty then 0 else 1) < 30)) = true := by
    rw [hs]
    rfl
  refine PS_imp (ps_expr (pe_bm PySem.F.plainAttrs_list PySem.F.slot_list_append PySem.F.type_list_append mt_append (pe_var hN hv hd hcd) (pa_cons he pa_nil hs) rfl hfew hline hs rfl) (by first | rfl | exact swap_ok rfl _ _ _)) fun Dn σ H h => ?_
  obtain ⟨ω, g, m, wr, S, h⟩ := h
  simp only [exec, ne, Bool.false_eq_true, if_false] at h
  split at h
  · rename_i xs eg
    obtain ⟨e1, ⟨vs0, hv0, _⟩, _, _⟩ := S.sl.own i _ eg
    refine ⟨_, e1, .inl ⟨rfl, vs0, .inl (.inl hv0)⟩, ?_⟩
    refine LG.of S (Fin.mono (fun v H1 hx => ?_) (FinS.of_bind (rel := VRel F false) S h))
    obtain ⟨ω1, d, m1, e2, p1, r1, S1, h1⟩ := hx
    split at h1
    · rename_i hl
      obtain ⟨e3, ⟨vs, hv1, hv2⟩, _, _⟩ := S1.sl.own i _ eg
      obtain ⟨q1, q2⟩ := own_upd (wr := wr) S1 eg hv1 (Reps.app hv2 (Reps.cons r1.pure (show Reps F ω1 H1 [] [] from rfl)))
      exact ⟨_, vs, v, by rw [← p1.sl], rfl, hv1, by rw [hv2.length]; exact hl, h1 ω1 σ _ q1 q2⟩
    · exact h1.elim
  · exact h.elim

/-! ### xs.index(y), xs.count(y) -/
def rCountD (K : PySem.W.Frag) : V → List V → Hp → VK → Prop := fun x xs H Q => ∃ (a : Addr) (y : V) (d : PyData) (ds : List PyData), x = V.ref a ∧ xs = [y] ∧ Dp K H (V.ref a) (.list ds) ∧ Dp K H y d ∧
  SeqAt.shaped (.list ds) = true ∧ SeqAt.shaped d = true ∧ Q (.int ((ds.filter fun z => PyData.eqv z d).length : Nat)) H
theorem mt_countD (hu : X.A.units + 65 < cLine) : MtR X "list.count" (rCountD X.K) := by
  intro pins s σ H x xs v us Q I rx rxs h
  obtain ⟨a, y, d, ds, rfl, rfl, hl, hy, sl, sd, q⟩ := h
  cases rx
  cases rxs with
  | cons ry rt =>
    rename_i uy ut
    cases rt
    obtain ⟨bs, r1⟩ := Dp.reads I d y uy hy ry
    have hxs : PyData.canLayAll0 ds = true := SeqAt.canLay_of_shaped sl
    have hroom : X.A.units + 1 + min (PyData.depthAll ds) d.depth < cLine := room_in_shaped sd hu
    cases hl with
    | lst hs ha =>
      obtain ⟨its, rv, ⟨⟨cls, dd, data, sls⟩, n, ho, hc, hdn, hdt⟩, hlen⟩ := I.list hs
      simp only at hc hdt
      subst hc hdt
      obtain ⟨as, h4⟩ := Dp.readsAll I ds _ its ha rv
      have hmap : its.map (SeqAt.readOf s.heap) = ds := SeqAt.readsAll_map ds its as hxs h4
      refine call_meets PySem.F.slot_list_count ⟨_, ho, rfl⟩ PySem.F.entry_list_count (PySem.F.args_list_count_2 _ _)
        (SeqAt.list_countAt a its.toArray n dd sls uy (fun u => PyData.eqv (SeqAt.readOf s.heap u) d)) ⟨ho, SeqAt.items_eqAt (vs := its.toArray) (show ReadsAll s.heap its.toArray.toList ds as from h4) r1 hxs (SeqAt.canLay_of_shaped sd) hroom, ?_⟩
      refine ⟨.int _, H, I.tok _, ⟨_, rfl⟩, ?_⟩
      have e : (its.toArray.toList.countP fun u => PyData.eqv (SeqAt.readOf s.heap u) d) = (ds.filter fun z => PyData.eqv z d).length := by
        rw [← hmap, List.countP_eq_length_filter, List.filter_map, List.length_map]
        rfl
      rw [e]
      exact q
/-- a list's method, one argument -/
theorem mth_core {n : Mn} {o e : Ex} {σ : L2.St} {H : Hp} {Q : VK} {r : V → List V → Hp → VK → Prop} {T : String}
    (hty : ∀ (ω : Om) (H : Hp) (x : V) (dx : D), VRel F (isB o) ω H dx x → mthOk n dx = true → tyV X.K T x H)
    (hr : ∀ (ω ω₂ : Om) (H : Hp) (x y : V) (dx dy d : D) (Q : VK), VRel F (isB o) ω H dx x → Rep F ω₂ H dy y → semMth n dx [dy] = some d → (∀ v, Rep F ω H d v → Q v H) → r x [y] H Q)
    (h : LE F Wx false (evE W (.mth n o [e])) σ H Q) : tBM X.K T r (LE F Wx (isB o) (evE W o)) (LA F Wx (evLs W [e])) σ H Q := by
  obtain ⟨ω, g, m, wr, S, h⟩ := h
  have h : Fin F Wx wr σ (VRel F false) Q ω m H (ev W (.mth n o [e]) wr g m) := h
  rw [ev] at h
  refine LG.of S (Fin.mono (fun x H1 hx => ?_) (Fin.bind (rel := VRel F (isB o)) S.ce h))
  obtain ⟨ω1, dx, m1, e1, p1, r1, h1⟩ := hx
  have S1 := S.po p1
  split at h1
  · rename_i hm
    refine ⟨hty ω1 H1 x dx r1 hm, ?_⟩
    have one : ∀ {ω2 : Om} {ys : List D} {vs : List V} {H2 : Hp}, ys.length = 1 → Reps F ω2 H2 ys vs → ∃ dy y, ys = [dy] ∧ vs = [y] ∧ Rep F ω2 H2 dy y := fun {ω2 ys vs H2} hl r => by
      match ys, hl with
      | [dy], _ =>
        obtain ⟨y, r', e0, r1, r2⟩ := r
        have r2 : r' = [] := r2
        subst r2
        exact ⟨dy, y, rfl, e0, r1⟩
    unfold withL at h1
    cases hb : isB o with
    | false =>
      rw [hb] at h1
      simp only [Bool.false_eq_true, if_false] at h1
      refine LG.of S1 (Fin.mono (fun vs H2 hx => ?_) (Fin.bind (rel := Reps F) S1.ce h1))
      obtain ⟨ω2, ys, m2, e2, p2, r2, h2⟩ := hx
      obtain ⟨dy, y, rfl, rfl, ry⟩ := one (evL_len _ _ _ _ _ e2) r2
      obtain ⟨d, e3, q⟩ := h2.of
      exact hr ω2 ω2 H2 x y dx dy d Q (r1.po S1.ce p2 (fun z => by rw [hb] at z; cases z)) ry e3 fun v rv => q ω2 v H2 (Po.refl p2.cells p2.tabs) (.inl rv)
    | true =>
      rw [hb] at h1
      simp only [if_true] at h1
      refine LG.of (wr := wr0) S1 ?_
      show Fin F Wx wr0 σ (Reps F) _ ω1 m1 H1 (evL W [e] wr0 g m1)
      cases he : evL W [e] wr0 g m1 with
      | stuck => rw [he] at h1; exact h1
      | exc c m' =>
        rw [he] at h1
        exact fun ω' H' p => h1 _ H' (Po.drop S1.ce p)
      | ok ys m2 =>
        rw [he] at h1
        intro ω2 vs H2 p2 r2
        obtain ⟨dy, y, rfl, rfl, ry⟩ := one (evL_len _ _ _ _ _ he) r2
        have d2 : Po F wr ω1 m1 H1 { ω1 with B := ω2.B } m1 H2 := Po.drop S1.ce p2
        have d0 : Po F wr0 ω1 m1 H1 { ω1 with B := ω2.B } m1 H2 := Po.drop S1.ce p2
        obtain ⟨d, e3, q⟩ := h1.of
        exact hr _ ω2 H2 x y dx dy d Q (r1.po S1.ce d0 (fun _ => rfl)) ry e3 fun v rv => q _ v H2 d2 (.inl rv)
  · exact h1.elim
theorem mthL_ty {n : Mn} {bor : Bool} (hn : n = .count ∨ n = .index) {ω : Om} {H : Hp} {x : V} {dx : D} (r : VRel F bor ω H dx x) (h : mthOk n dx = true) : tyV X.K "list" x H := by
  have key : ∃ xs, dx = .list xs := by
    rcases hn with rfl | rfl <;> (cases dx <;> first | exact ⟨_, rfl⟩ | (simp [mthOk] at h))
  obtain ⟨xs, rfl⟩ := key
  obtain ⟨a, vs, rfl, h1, _⟩ := r.list
  exact .inl ⟨rfl, vs, SqL.of h1⟩
theorem bm_few {p : Expr} {cpos : Pos} {env : Env} (pp : plainE p = true) : ((backTo cpos (starEach [p] env)).all (fun x => !x.1) && (backToKw cpos (keywordEach [] env)).all (fun x => x.1.isSome)
      && decide ([p].length + ([] : List Keyword).length + (if ([] : List Keyword).isEmpty then 0 else 1) < 30)) = true := by
  rw [plain_star pp]
  rfl
theorem s_count {o e : Ex} {po p : Expr} {apos : Pos} {k : Nat} (hK : X.K = F.K) (hr : Room k X.A) (ne : isB e = false) (nbs : nobase po = true) (pp : plainE p = true) (hline : (apos.endLine == pos.line) = true) (ho : PE X po (LE F Wx (isB o) (evE W o))) (he : PE X p (LE F Wx false (evE W e))) :
    PE X (.Call (.Attribute po "count" apos) [p] [] pos) (LE F Wx false (evE W (.mth .count o [e]))) := by
  have hu : X.A.units + 65 < cLine := by have := hr.un; omega
  refine PE_imp (pe_bm PySem.F.plainAttrs_list PySem.F.slot_list_count PySem.F.type_list_count (mt_countD hu) ho (s_cons ne pp he s_nil') (nobase_ok nbs _ _ _) (bm_few pp) hline (plain_star pp _ _) rfl) fun σ H Q h => ?_
  refine mth_core (fun ω H x dx r h => mthL_ty (.inl rfl) r h) (fun ω ω₂ H x y dx dy d Q rx ry e q => ?_) h
  cases dx <;> first | (simp [semMth] at e; done) | skip
  rename_i xs
  simp only [semMth] at e
  split at e
  · rename_i hs
    cases e
    rw [Bool.and_eq_true] at hs
    obtain ⟨a, vs, rfl, _⟩ := rx.list
    rw [hK]
    exact ⟨a, y, dy, xs, rfl, rfl, rx.dp hs.2, Rep.dp dy y ry (SeqAt.canLay_of_shaped hs.1), hs.2, hs.1, q _ rfl⟩
  · cases e
theorem s_index {o e : Ex} {po p : Expr} {apos : Pos} {k : Nat} (hK : X.K = F.K) (hr : Room k X.A) (ne : isB e = false) (nbs : nobase po = true) (pp : plainE p = true) (hline : (apos.endLine == pos.line) = true) (ho : PE X po (LE F Wx (isB o) (evE W o))) (he : PE X p (LE F Wx false (evE W e))) :
    PE X (.Call (.Attribute po "index" apos) [p] [] pos) (LE F Wx false (evE W (.mth .index o [e]))) := by
  have hu : X.A.units + 65 < cLine := by have := hr.un; omega
  refine PE_imp (pe_bm PySem.F.plainAttrs_list PySem.F.slot_list_index PySem.F.type_list_index (mt_indexD hu) ho (s_cons ne pp he s_nil') (nobase_ok nbs _ _ _) (bm_few pp) hline (plain_star pp _ _) rfl) fun σ H Q h => ?_
  refine mth_core (fun ω H x dx r h => mthL_ty (.inr rfl) r h) (fun ω ω₂ H x y dx dy d Q rx ry e q => ?_) h
  cases dx <;> first | (simp [semMth] at e; done) | skip
  rename_i xs
  simp only [semMth] at e
  split at e
  · rename_i hs
    rw [Bool.and_eq_true] at hs
    cases hf : xs.findIdx? fun x => PyData.eqv x dy with
    | none => rw [hf] at e; cases e
    | some i =>
      rw [hf] at e
      cases e
      obtain ⟨hi, h1, h2⟩ := List.findIdx?_eq_some_iff_getElem.mp hf
      obtain ⟨a, vs, rfl, _⟩ := rx.list
      rw [hK]
      refine ⟨a, y, dy, xs, i, xs[i], rfl, rfl, rx.dp hs.2, Rep.dp dy y ry (SeqAt.canLay_of_shaped hs.1), hs.2, hs.1, List.getElem?_eq_getElem hi, h1, fun m z' hm hz => ?_, q _ rfl⟩
      have hl : m < xs.length := Nat.lt_trans hm hi
      rw [List.getElem?_eq_getElem hl] at hz
      cases hz
      have := h2 m hm
      simpa using this
  · cases e

/-! ### sorted(xs) -/
def rSortV (K : PySem.W.Frag) : List V → Hp → VK → Prop := fun xs H Q => ∃ (a : Addr) (vs : List V) (ds : List D), xs = [V.ref a] ∧ SqL K H a vs ∧ DpAll K H vs ds ∧ PySem.W.AllAlike ds ∧ PySem.W.Sortable ds ∧ (∀ d ∈ ds, d.depth ≤ 60) ∧
  ∀ l us, (∃ ps : List (V × D), ps.map (·.1) = vs ∧ ps.map (·.2) = ds ∧ us = ps.mergeSort (fun p q => PySem.W.dataLe false id p.2 q.2)) → H l = none → Q (.ref l) (upd H l (.lst (us.map (·.1))))
theorem dpAll_reads {pins : List (Addr × Obj)} {σ : L2.St} {H : Hp} {s : Shared} (I : Inv X pins σ H s) : ∀ {vs : List V} {ds : List D} {its : List Value}, DpAll X.K H vs ds → Vals vs its → ∃ ps : List (V × D), ps.map (·.1) = vs ∧ ps.map (·.2) = ds ∧ ps.length = its.length ∧
    PySem.W.EachIs (fun v (b : V × D) => RelV b.1 v ∧ ∃ as, Reads s.heap v b.2 as) its ps
  | [], _, its, h, r => by
    cases h
    cases r
    exact ⟨[], rfl, rfl, rfl, .nil⟩
  | v :: vs, _, its, h, r => by
    cases h with
    | cons h1 h2 =>
      cases r with
      | cons r1 r2 =>
        obtain ⟨ps, e1, e2, e3, e4⟩ := dpAll_reads I h2 r2
        rename_i d ds u us
        exact ⟨(v, d) :: ps, by simp [e1], by simp [e2], by simp [e3], .cons ⟨r1, Dp.reads I _ _ _ h1 r1⟩ e4⟩
theorem eachIs_vals : ∀ {its : List Value} {ps : List (V × D)} {P : Value → V × D → Prop}, PySem.W.EachIs (fun v (b : V × D) => RelV b.1 v ∧ P v b) its ps → Vals (ps.map (·.1)) its
  | _, _, _, .nil => .nil
  | _, _, _, .cons h t => .cons h.1 (eachIs_vals t)
theorem cr_sortedV {k : Nat} (hr : Room k X.A) : CallR X (.builtin "sorted") (rSortV X.K) := by
  intro pins s σ H vs us Q I r h
  obtain ⟨a, xs, ds, rfl, hs, hd, hal, hso, hdp, q⟩ := h
  obtain ⟨its, rv, hl, hz⟩ := I.list hs
  obtain ⟨u, rfl, ru⟩ := vals1 r
  obtain rfl : u = Value.ref a := ru
  obtain ⟨ps, e1, e2, e3, e4⟩ := dpAll_reads I hd rv
  have un := hr.un
  refine PySem.W.sorted_data (enc := fun b : V × D => b.2) (R := fun v (b : V × D) => RelV b.1 v ∧ ∃ as, Reads s.heap v b.2 as) (bs := ps) hl.isList e4 (e4.mono fun _ _ z => z.2) (by show PySem.W.AllAlike (ps.map (·.2)); rw [e2]; exact hal) (by show PySem.W.Sortable (ps.map (·.2)); rw [e2]; exact hso) ?_ (fun b hb => ?_) fun out ho eo => ?_
  · rw [e3, ← rv.length]
    exact hz
  · have := hdp b.2 (by rw [← e2]; exact List.mem_map.mpr ⟨b, hb, rfl⟩)
    show X.A.units + 2 + b.2.depth < cLine
    omega
  · have hv := eachIs_vals eo
    obtain ⟨e', he⟩ := PyProof.Rows.sortedAll_at s.heap its out.toArray
    have hlen : (List.map (·.1) (ps.mergeSort (fun p q => PySem.W.dataLe false id p.2 q.2))).length ≤ sizeLine := by
      rw [List.length_map, List.length_mergeSort, e3, ← rv.length]
      exact hz
    refine ⟨.ref (s.heap.objs.size + 1), upd H (s.heap.objs.size + 1) (.lst (List.map (·.1) (ps.mergeSort (fun p q => PySem.W.dataLe false id p.2 q.2)))), I.laid (t' := s.toks) (fun b o e => PyProof.Rows.sortedAll_old e) (Nat.le_succ _) ⟨hlen, out, e', hv, he⟩, rfl, q _ _ ⟨ps, e1, e2, rfl⟩ (I.hok.fresh (Nat.le_succ _))⟩
theorem Reps.prs {ω : Om} {H : Hp} : ∀ {ps : List (V × D)}, Reps F ω H (ps.map (·.2)) (ps.map (·.1)) ↔ ∀ p ∈ ps, Rep F ω H p.2 p.1
  | [] => ⟨fun _ _ hp => (by cases hp), fun _ => rfl⟩
  | q :: ps => by
    constructor
    · intro h p hp
      obtain ⟨v, r, e, h1, h2⟩ := h
      rw [List.map_cons] at e
      cases e
      rcases List.mem_cons.mp hp with rfl | hp
      · exact h1
      · exact Reps.prs.mp h2 p hp
    · intro h
      exact ⟨q.1, ps.map (·.1), rfl, h q List.mem_cons_self, Reps.prs.mpr fun p hp => h p (List.mem_cons_of_mem _ hp)⟩
theorem sortable_ok {ds : List D} (h : sortable ds = true) : PySem.W.AllAlike ds ∧ PySem.W.Sortable ds ∧ ∀ d ∈ ds, d.depth ≤ 60 := by
  unfold sortable at h
  simp only [Bool.and_eq_true, Bool.or_eq_true, List.all_eq_true, decide_eq_true_eq] at h
  obtain ⟨⟨h1, h2⟩, h3⟩ := h
  refine ⟨fun d hd d' hd' => h1 d hd d' hd', ?_, h2⟩
  rcases h3 with h3 | h3
  · refine .inl fun d hd => ?_
    have := h3 d hd
    cases d <;> first | (simp at this; done) | skip
    rename_i xs
    cases xs <;> first | (simp at this; done) | exact ⟨_, _, rfl⟩
  · refine .inr fun d hd => ?_
    have := h3 d hd
    cases d <;> first | (simp at this; done) | exact ⟨fun z => (by cases z), fun xs z => by cases z⟩
mutual
/-- data that are alike have no dicts -/
theorem Rep.dpA {ω : Om} {H : Hp} : ∀ (d : D) (v : V), Rep F ω H d v → PySem.W.alike d d = true → Dp F.K H v d
  | .none, _, h, _ => by
    have h : _ = _ := h
    subst h
    exact .non
  | .bool _, _, h, _ => by
    have h : _ = _ := h
    subst h
    exact .bl _
  | .int _, _, h, _ => by
    have h : _ = _ := h
    subst h
    exact .int _
  | .str _, _, h, _ => by
    have h : _ = _ := h
    subst h
    exact .str _
  | .list ds, _, h, c => by
    obtain ⟨a, vs, rfl, h1, h2, h3⟩ := h
    rw [PySem.W.alike] at c
    exact .lst (SqL.of h1) (Reps.dpA ds vs h3 c)
  | .tuple ds, _, h, c => by
    obtain ⟨a, vs, rfl, h1, h3⟩ := h
    rw [PySem.W.alike] at c
    exact .tup h1.sq (Reps.dpA ds vs h3 c)
  | .dict _, _, _, c => by simp [PySem.W.alike] at c
theorem Reps.dpA {ω : Om} {H : Hp} : ∀ (ds : List D) (vs : List V), Reps F ω H ds vs → PySem.W.alikeAll ds ds = true → DpAll F.K H vs ds
  | [], _, h, _ => by
    have h : _ = [] := h
    subst h
    exact .nil
  | d :: ds, _, h, c => by
    obtain ⟨v, r, rfl, h1, h2⟩ := h
    rw [PySem.W.alikeAll, Bool.and_eq_true] at c
    exact .cons (Rep.dpA d v h1 c.1) (Reps.dpA ds r h2 c.2)
end
theorem allAlike_self : ∀ {ds : List D}, PySem.W.AllAlike ds → PySem.W.alikeAll ds ds = true
  | [], _ => by simp [PySem.W.alikeAll]
  | d :: ds, h => by
    rw [PySem.W.alikeAll, Bool.and_eq_true]
    exact ⟨h d List.mem_cons_self d List.mem_cons_self, allAlike_self fun a ha b hb => h a (List.mem_cons_of_mem _ ha) b (List.mem_cons_of_mem _ hb)⟩
theorem msort_map (ps : List (V × D)) : (ps.mergeSort (fun p q => PySem.W.dataLe false id p.2 q.2)).map (·.2) = (ps.map (·.2)).mergeSort dLe :=
  List.map_mergeSort fun _ _ _ _ => rfl
/-- what sorted gives stands for what mergeSort gives -/
theorem sort_rep {ω : Om} {H : Hp} {ds : List D} {vs : List V} {us ps : List (V × D)} (r : Reps F ω H ds vs) (e1 : ps.map (·.1) = vs) (e2 : ps.map (·.2) = ds) (e3 : us = ps.mergeSort (fun p q => PySem.W.dataLe false id p.2 q.2)) : Reps F ω H (ds.mergeSort dLe) (us.map (·.1)) := by
  subst e1 e2 e3
  rw [← msort_map]
  exact Reps.prs.mpr fun p hp => Reps.prs.mp r p (List.mem_mergeSort.mp hp)
theorem bi_sorted (hK : X.K = F.K) : BiOk X F .sorted 1 (rSortV X.K) := by
  intro wr ω m H vs ds d Q hl C T h e q
  unfold semBi at e
  split at e <;> first | contradiction | (try cases e)
  split at e
  · rename_i xs _ hs
    cases e
    obtain ⟨x, rfl, hx⟩ := bi_val h rfl
    obtain ⟨a, vs, rfl, h1, h2⟩ := hx.list
    obtain ⟨s1, s2, s3⟩ := sortable_ok hs
    rw [hK]
    refine ⟨a, vs, xs, rfl, SqL.of h1, Reps.dpA _ _ h2 (allAlike_self s1), s1, s2, s3, fun l us ⟨ps, e1, e2, e3⟩ hl => ?_⟩
    have p := Po.new (wr := wr) (o := .lst (us.map (·.1))) C T hl
    exact q _ _ _ p ⟨l, _, rfl, upd_same, fun z => z.2 rfl, Reps.stays (p.stays C) _ _ (sort_rep h2 e1 e2 e3)⟩
  · cases e

/-! ### tuple(range(..)), list(range(..)) -/
theorem rgV_reps {ω : Om} {H : Hp} {lo : Int} : ∀ n : Nat, Reps F ω H ((List.range n).map fun (k : Nat) => .int (lo + (k : Int))) ((List.range n).map fun i => V.int (lo + (i : Nat)))
  | n => by
    induction (List.range n) with
    | nil => rfl
    | cons a l ih => exact ⟨_, _, rfl, rfl, ih⟩
theorem rngOf_cases {r ys : List D} (h : rngOf r = some ys) : (∃ j : Int, r = [.int j] ∧ (-(2 ^ 62) ≤ j ∧ j < 2 ^ 62) ∧ ys = (List.range j.toNat).map fun (k : Nat) => .int (0 + (k : Int))) ∨
    ∃ i j : Int, r = [.int i, .int j] ∧ (-(2 ^ 62) ≤ i ∧ i < 2 ^ 62 ∧ -(2 ^ 62) ≤ j ∧ j < 2 ^ 62) ∧ ys = (List.range (j - i).toNat).map fun (k : Nat) => .int (i + (k : Int)) := by
  unfold rngOf at h
  split at h
  · rename_i j
    split at h
    · rename_i hj
      cases h
      exact .inl ⟨j, rfl, hj, rfl⟩
    · cases h
  · rename_i i j
    split at h
    · rename_i hj
      cases h
      exact .inr ⟨i, j, rfl, hj, rfl⟩
    · cases h
  · cases h
theorem rg_core {es : List Ex} {b : Bi} {σ : L2.St} {H : Hp} {Q : VK} (h : LE F Wx false (evE W (.bs b (.rng es))) σ H Q) :
    LA F Wx (evLs W es) σ H fun vs H1 => ∃ (a c : Int), (vs = [.int c] ∧ a = 0 ∨ vs = [.int a, .int c]) ∧ RgOk a c ∧ ∃ ω1 m1 wr d, Cells F ω1 m1 H1 ∧ TabInv F H1 ∧ semBi b [.list ((List.range (c - a).toNat).map fun (k : Nat) => .int (a + (k : Int)))] = some d ∧
      ∀ ω' v H', Po F wr ω1 m1 H1 ω' m1 H' → Rep F ω' H' d v → Q v H' := by
  have h := LG.congr (f' := fun wr g m => (evLs W es wr g m).bind fun xs m1 => match rngOf xs with
      | some ys => if ys.length ≤ 16777216 then R.of (semBi b [.list ys]) m1 else .stuck
      | none => .stuck) (fun wr g m => by
    simp only [evE, evLs]
    rw [ev, evS]
    cases evL W es wr g m with
    | stuck => rfl
    | exc c m => rfl
    | ok r m1 =>
      simp only [R.bind_ok]
      cases rngOf r <;> rfl) h
  obtain ⟨ω, g, m, wr, S, h⟩ := h
  refine LG.of S (Fin.mono (fun vs H1 hx => ?_) (Fin.bind (rel := Reps F) S.ce h))
  obtain ⟨ω1, r, m1, e1, p1, r1, h1⟩ := hx
  cases hr : rngOf r with
  | none => simp only [hr] at h1; exact h1.elim
  | some ys =>
    simp only [hr] at h1
    split at h1
    · rename_i hl
      obtain ⟨d, e2, q⟩ := h1.of
      rcases rngOf_cases hr with ⟨j, rfl, hj, rfl⟩ | ⟨i, j, rfl, hj, rfl⟩
      · rw [List.length_map, List.length_range] at hl
        refine ⟨0, j, .inl ⟨ints1 r1, rfl⟩, ⟨by decide, by decide, hj.1, hj.2, by rw [Int.sub_zero]; exact hl⟩, ω1, m1, wr, d, p1.cells, p1.tabs, by rw [Int.sub_zero]; exact e2, fun ω' v H' p r => q ω' v H' p (.inl r)⟩
      · rw [List.length_map, List.length_range] at hl
        exact ⟨i, j, .inr (ints2 r1), ⟨hj.1, hj.2.1, hj.2.2.1, hj.2.2.2, hl⟩, ω1, m1, wr, d, p1.cells, p1.tabs, e2, fun ω' v H' p r => q ω' v H' p (.inl r)⟩
    · exact h1.elim
/-- range(a), range(a, b) as an argument -/
def tRgL (t : TA) : L2.St → Hp → (Int → Int → Hp → Prop) → Prop := fun σ H Q => t σ H fun vs H1 => ∃ a c, (vs = [.int c] ∧ a = 0 ∨ vs = [.int a, .int c]) ∧ Q a c H1
theorem prg_L {ps : List Expr} {p : Expr} {t : TA} {np pos : Pos} (hg : Gl X "range") (hm : X.mg "range" = none) (pp : (p :: ps).all plainE = true) (ha : PA X (p :: ps) t) : PRg X (.Call (.Name "range" np) (p :: ps) [] pos) (tRgL t) := by
  intro pins s σ H Q I h
  rw [List.all_cons, Bool.and_eq_true] at pp
  refine Call_ (ld_blt I hg hm boot_range (PyProof.Rows.callWith_type1 (thn (ha.run pos pins s σ H _ I h) fun us s1 ⟨vs, H1, I1, r1, q1⟩ => ?_) (plain_star pp.1 ps X.env) (plain_any pos X.env pp.2)))
  obtain ⟨a, c, e, q⟩ := q1
  rcases e with ⟨rfl, rfl⟩ | rfl
  · cases r1 with
    | cons r rr =>
      cases rr
      obtain ⟨t, rfl⟩ := r
      exact call_range_1 ⟨_, 0, c, _, _, _, H1, rfl, IsRange.new _ _ _ _ _ _ _, I1.kept fun b u e => Heap.get?_push_of_some _ e, q⟩
  · cases r1 with
    | cons r rr =>
      cases rr with
      | cons r' rr =>
        cases rr
        obtain ⟨t, rfl⟩ := r
        obtain ⟨t', rfl⟩ := r'
        exact call_range_2 ⟨_, a, c, _, _, _, H1, rfl, IsRange.new _ _ _ _ _ _ _, I1.kept fun b u e => Heap.get?_push_of_some _ e, q⟩
theorem s_tupRg {es : List Ex} {p : Expr} {ps : List Expr} {np np2 pos2 : Pos} (hc : X.calm = true) (hg : Gl X "tuple") (hm : X.mg "tuple" = none) (hg2 : Gl X "range") (hm2 : X.mg "range" = none) (pp : (p :: ps).all plainE = true) (ha : PA X (p :: ps) (LA F Wx (evLs W es))) :
    PE X (.Call (.Name "tuple" np) [.Call (.Name "range" np2) (p :: ps) [] pos2] [] pos) (LE F Wx false (evE W (.bs .tuple (.rng es)))) := by
  refine PE_imp (pe_tupRg hc hg hm (prg_L hg2 hm2 pp ha) (plain_star rfl _ _)) fun σ H Q h => ?_
  obtain ⟨ω, g, m, wr, S, h⟩ := rg_core h
  refine LG.of S (Fin.mono (fun vs H1 hx => ?_) h)
  obtain ⟨a, c, e1, ok, ω1, m1, wr1, d, C1, T1, e2, q⟩ := hx
  simp only [semBi] at e2
  cases e2
  refine ⟨a, c, e1, ok, fun l hl => ?_⟩
  have p := Po.new (wr := wr1) (o := .tup (rgV a c)) C1 T1 hl
  exact q _ _ _ p ⟨l, _, rfl, .inl ⟨upd_same, fun z => z.2 rfl⟩, rgV_reps _⟩
theorem s_listRg {es : List Ex} {p : Expr} {ps : List Expr} {np np2 pos2 : Pos} (hc : X.calm = true) (hg : Gl X "list") (hm : X.mg "list" = none) (hg2 : Gl X "range") (hm2 : X.mg "range" = none) (pp : (p :: ps).all plainE = true) (ha : PA X (p :: ps) (LA F Wx (evLs W es))) :
    PE X (.Call (.Name "list" np) [.Call (.Name "range" np2) (p :: ps) [] pos2] [] pos) (LE F Wx false (evE W (.bs .list (.rng es)))) := by
  refine PE_imp (pe_listRg hc hg hm (prg_L hg2 hm2 pp ha) (plain_star rfl _ _)) fun σ H Q h => ?_
  obtain ⟨ω, g, m, wr, S, h⟩ := rg_core h
  refine LG.of S (Fin.mono (fun vs H1 hx => ?_) h)
  obtain ⟨a, c, e1, ok, ω1, m1, wr1, d, C1, T1, e2, q⟩ := hx
  simp only [semBi] at e2
  cases e2
  refine ⟨a, c, e1, ok, fun l hl => ?_⟩
  have p := Po.new (wr := wr1) (o := .lst (rgV a c)) C1 T1 hl
  exact q _ _ _ p ⟨l, _, rfl, upd_same, fun z => z.2 rfl, rgV_reps _⟩
end
end Ev
end
section
set_option linter.all false
set_option autoImplicit false
set_option maxRecDepth 100000
/-! Ev, part TD: dicts that are made. -/
namespace Ev
open PySem PySem.Spec PyProof.Rows L2

section
variable {X : Cx} {F : Fx} {W : Wd} {Wx : WX} {pos : Pos}
theorem key_eq {d e : D} {k j : Key} (h1 : keyRel d k) (h2 : keyRel e j) : PyData.eqv d e = decide (k = j) := by
  cases d <;> first | exact h1.elim | skip
  all_goals cases e <;> first | exact h2.elim | skip
  all_goals
    have h1 : k = _ := h1
    have h2 : j = _ := h2
    subst h1 h2
    simp [PyData.eqv]
  all_goals first | rfl | skip
theorem isKey_rel {d : D} (h : isKey d = true) {ω : Om} {H : Hp} {v : V} (r : Rep F ω H d v) : ∃ k, keyRel d k ∧ v = kV k := by
  cases d <;> first | (simp [isKey] at h; done) | skip
  · exact ⟨.inl _, rfl, r⟩
  · exact ⟨.inr _, rfl, r⟩
theorem RepP.any {ω : Om} {H : Hp} {k : D} {k' : Key} (hk : keyRel k k') : ∀ {kvs : List (D × D)} {vs : List (Key × V)}, RepP F ω H kvs vs → (kvs.any fun p => PyData.eqv p.1 k) = (vs.any fun p => decide (p.1 = k'))
  | [], _, h => by
    have h : _ = [] := h
    rw [h]
    rfl
  | (a, d) :: ds, _, h => by
    obtain ⟨k2, v, r, rfl, h0, h1, h2⟩ := h
    rw [List.any_cons, List.any_cons, RepP.any hk h2]
    congr 1
    exact key_eq h0 hk
theorem RepP.app {ω : Om} {H : Hp} : ∀ {xs ys : List (D × D)} {us vs : List (Key × V)}, RepP F ω H xs us → RepP F ω H ys vs → RepP F ω H (xs ++ ys) (us ++ vs)
  | [], _, _, _, h, k => by
    have h : _ = [] := h
    rw [h]
    exact k
  | (a, d) :: ds, _, _, _, h, k => by
    obtain ⟨k2, v, r, rfl, h0, h1, h2⟩ := h
    exact ⟨k2, v, _, rfl, h0, h1, RepP.app h2 k⟩
theorem RepP.put {ω : Om} {H : Hp} {k d : D} {k' : Key} {v : V} (hk : keyRel k k') (rd : Rep F ω H d v) {kvs : List (D × D)} {vs : List (Key × V)} (h : RepP F ω H kvs vs) : RepP F ω H (putD kvs k d) (putK vs k' v) := by
  unfold putD putK
  rw [← RepP.any hk h]
  split
  · induction kvs generalizing vs with
    | nil =>
      have h : _ = [] := h
      rw [h]
      rfl
    | cons p ds ih =>
      obtain ⟨a, d2⟩ := p
      obtain ⟨k2, v2, r, rfl, h0, h1, h2⟩ := h
      rw [List.map_cons, List.map_cons]
      have e := key_eq h0 hk
      have ih2 : RepP F ω H (ds.map fun p => if PyData.eqv p.1 k = true then (p.1, d) else p) (r.map fun p => if p.1 = k' then (p.1, v) else p) := by
        clear ih
        rename_i hany
        clear hany
        induction ds generalizing r with
        | nil =>
          have h2 : r = [] := h2
          rw [h2]
          rfl
        | cons p ds ih =>
          obtain ⟨a3, d3⟩ := p
          obtain ⟨k3, v3, r3, rfl, g0, g1, g2⟩ := h2
          rw [List.map_cons, List.map_cons]
          have e3 := key_eq g0 hk
          by_cases hh : k3 = k'
          · rw [if_pos (by rw [e3]; exact decide_eq_true hh), if_pos hh]
            exact ⟨k3, v, _, rfl, g0, rd, ih _ g2⟩
          · rw [if_neg (by rw [e3]; simpa using hh), if_neg hh]
            exact ⟨k3, v3, _, rfl, g0, g1, ih _ g2⟩
      by_cases hh : k2 = k'
      · rw [if_pos (by rw [e]; exact decide_eq_true hh), if_pos hh]
        exact ⟨k2, v, _, rfl, h0, rd, ih2⟩
      · rw [if_neg (by rw [e]; simpa using hh), if_neg hh]
        exact ⟨k2, v2, _, rfl, h0, h1, ih2⟩
  · exact RepP.app h ⟨k', v, [], rfl, hk, rd, rfl⟩
theorem mkD_app : ∀ (xs ys : List D) (acc : List (D × D)), mkD (xs ++ ys) acc = (mkD xs acc).bind fun a => mkD ys a
  | [], ys, acc => rfl
  | x :: xs, ys, acc => by
    cases x <;> first | rfl | skip
    rename_i l
    match l with
    | [] => rfl
    | [_] => rfl
    | [k, v] =>
      rw [List.cons_append, mkD, mkD]
      split
      · exact mkD_app xs ys _
      · rfl
    | _ :: _ :: _ :: _ => rfl
theorem mkD_one {k v : D} {acc r : List (D × D)} (h : mkD [.tuple [k, v]] acc = some r) : isKey k = true ∧ r = putD acc k v := by
  rw [mkD] at h
  split at h
  · rename_i hk
    rw [mkD] at h
    exact ⟨hk, (Option.some.inj h).symm⟩
  · cases h

/-! ### {k: v for ..} -/
structure OwnK (F : Fx) (ω : Om) (m : M) (H : Hp) (a : Addr) (kvs : List (D × D)) : Prop where
  inB : ω.B a
  ne : ∀ r f, LvC m r f → ω.ad r f ≠ a
  at_ : ∃ vs, H a = some (.dK vs) ∧ RepP F ω H kvs vs
theorem OwnK.po {wr : Wr} {ω ω' : Om} {m m' : M} {H H' : Hp} {a : Addr} {kvs : List (D × D)} (O : OwnK F ω m H a kvs) (C : Cells F ω m H) (p : Po F wr ω m H ω' m' H') : OwnK F ω' m' H' a kvs := by
  obtain ⟨vs, h1, h2⟩ := O.at_
  refine ⟨p.fr.pb _ _ h1 O.inB, fun r f h e => ?_, vs, p.fr.keep _ _ h1 (fun ⟨r, f, z1, _, z2⟩ => O.ne r f z1 z2) (fun ps z => by cases z), RepP.stays (p.stays C) _ _ h2⟩
  rcases p.aq r f h with ⟨z1, z2⟩ | z
  · exact O.ne r f z1 (z2.symm.trans e)
  · rw [e, h1] at z
    cases z
theorem Po.putK {wr : Wr} {ω ω' : Om} {m m' : M} {H H' : Hp} {a : Addr} {kvs : List (D × D)} {vs : List (Key × V)} {k d : D} {k' : Key} {y : V} (p : Po F wr ω m H ω' m' H') (h0 : H a = none) (O : OwnK F ω' m' H' a kvs) (hv : H' a = some (.dK vs)) (hr : RepP F ω' H' kvs vs) (hk : keyRel k k') (r : Rep F ω' H' d y) :
    Po F wr ω m H ω' m' (upd H' a (.dK (L2.putK vs k' y))) ∧ OwnK F ω' m' (upd H' a (.dK (L2.putK vs k' y))) a (putD kvs k d) := by
  have st : Stays F ω' ω' H' (upd H' a (.dK (L2.putK vs k' y))) := upd_stays O.inB
  have kk : ∀ b o, H b = some o → upd H' a (.dK (L2.putK vs k' y)) b = H' b := fun b o h => by rw [upd_ne (ne_of_none h h0)]
  refine ⟨⟨p.le, p.ad, p.sl, ⟨fun b o h hu nt => by rw [kk b o h]; exact p.fr.keep b o h hu nt, fun b ps h => by rw [kk b _ h]; exact p.fr.tab b ps h, p.fr.nb, p.fr.pb, fun b o h => by rw [kk b o h]; exact p.fr.st b o h⟩, p.aq, p.cells.upd O.inB O.ne, p.tabs.updD hv⟩, O.inB, O.ne, _, upd_same, ?_⟩
  exact RepP.stays st _ _ (RepP.put hk r hr)
def dcBody (W : Wd) (k v : Ex) (tg : Tg) (ifs : List Ex) (wr : Wr) (g : Ga) : D → M → R (Option D) := fun x m => R.nox (match bindT tg x (wipeG g (tvars tg)) with
  | none => .stuck
  | some g' => (evI W ifs wr g' m).bind fun b m' => if b then (ev W k wr g' m').bind fun kd m2 => (ev W v wr g' m2).bind fun vd m3 => .ok (some (.tuple [kd, vd])) m3 else .ok none m')
theorem dc_pre {W : Wd} {wr' : Wr} {k v : Ex} {tg : Tg} {ifs : List Ex} {wr : Wr} {g : Ga} {σ : L2.St} {Q : VK} {ω : Om} {m : M} {H : Hp} {xs acc : List D} {m2 : M}
    (h : FinF F Wx wr σ Q ω m H ((turns (dcBody W k v tg ifs wr' g) xs acc m2).bind fun ys m' => R.of ((mkD ys []).map .dict) m')) : ∃ kvs, mkD acc [] = some kvs := by
  cases ht : turns (dcBody W k v tg ifs wr' g) xs acc m2 with
  | stuck => rw [ht] at h; exact h.elim
  | exc c m' =>
    exact absurd ht (turns_noxD (fun x m c m' => nox_excD) _ _ _ _ _)
  | ok ys m' =>
    rw [ht, R.bind_ok] at h
    obtain ⟨zs, rfl⟩ := turns_accD ht
    rw [mkD_app] at h
    cases e : mkD acc [] with
    | none => rw [e] at h; exact h.elim
    | some kvs => exact ⟨kvs, rfl⟩
where
  turns_accD {body : D → M → R (Option D)} : ∀ {xs acc : List D} {m m' : M} {ys : List D}, turns body xs acc m = .ok ys m' → ∃ zs, ys = acc ++ zs
  | [], acc, m, m', ys, h => by
    simp only [turns] at h
    cases h
    exact ⟨[], by simp⟩
  | x :: xs, acc, m, m', ys, h => by
    rw [turns] at h
    cases hb : body x m with
    | stuck => rw [hb] at h; cases h
    | exc c m1 => rw [hb] at h; cases h
    | ok o m1 =>
      rw [hb, R.bind_ok] at h
      cases o with
      | none => exact turns_accD h
      | some y =>
        simp only at h
        split at h
        · obtain ⟨zs, e⟩ := turns_accD h
          exact ⟨y :: zs, by rw [e]; simp⟩
        · cases h
  nox_excD {α : Type} {r : R α} {c : Nat} {m' : M} : R.nox r ≠ .exc c m' := by cases r <;> (intro z; cases z)
  turns_noxD {body : D → M → R (Option D)} (hb : ∀ x m c m', body x m ≠ .exc c m') : ∀ (xs acc : List D) (m : M) (c : Nat) (m' : M), turns body xs acc m ≠ .exc c m'
  | [], acc, m, c, m', h => by cases h
  | x :: xs, acc, m, c, m', h => by
    rw [turns] at h
    cases hx : body x m with
    | stuck => rw [hx] at h; cases h
    | exc c m1 => exact hb _ _ _ _ hx
    | ok o m1 =>
      rw [hx, R.bind_ok] at h
      cases o with
      | none => exact turns_noxD hb _ _ _ _ _ h
      | some y =>
        simp only at h
        split at h
        · exact turns_noxD hb _ _ _ _ _ h
        · cases h
theorem dc_read {k v : Ex} {tg : Tg} {src : Src} {ifs : List Ex} {t : TG} {vs : List Nat} {σ : L2.St} {H : Hp} {Q : VK} (nk : isB k = false) (nv : isB v = false) (ht : GOk F t tg) (hvs : vs = tvars tg)
    (h : LF F Wx (evE W (.dco k v tg src ifs)) σ H Q) : tDc (LI F Wx W src) t (LTs F W ifs) (LE F Wx0 false (evE W k)) (LE F Wx0 false (evE W v)) vs σ H Q := by
  subst hvs
  obtain ⟨ω, g, m, wr, S, h⟩ := h
  refine LG.of (wr := wr) S ?_
  show Fin F Wx wr σ (RelI F) _ ω m H (evSx W src wr g m)
  have e0 : evE W (.dco k v tg src ifs) wr g m = (evS W src wr g m).bind fun r m1 => (turns (dcBody W k v tg ifs (lockW wr r.2) g) r.1 [] m1).bind fun ys m' => R.of ((mkD ys []).map .dict) m' := by
    simp only [evE]
    rw [ev]
    exact if_neg (by rw [nk, nv]; exact Bool.false_ne_true)
  rw [e0] at h
  simp only [evSx]
  cases hs : evS W src wr g m with
  | stuck => rw [hs] at h; exact h
  | exc c m' => rw [hs] at h; exact h
  | ok r m1 =>
    obtain ⟨xs, p⟩ := r
    rw [hs] at h
    simp only [R.bind_ok] at h ⊢
    intro ω1 J H1 p1 hr
    obtain ⟨A, hA, wk⟩ := hr
    have hA : ∀ b, A b → AOk ω1 m1 g p b ∧ ∃ o, H1 b = some o ∧ ∀ ps, o ≠ .tbl ps := hA
    have wk : Walk F A ω1 H1 J xs := wk
    intro L hL
    have S1 := S.po p1
    let wr' := lockW wr p
    let body := dcBody W k v tg ifs wr' g
    have hU : ∀ b, A b → ¬ Ub ω1 m1 wr' b := fun b hb => aok_ub S1 (hA b hb).1
    refine ⟨fun i n H2 => n = xs.length - i ∧ i ≤ xs.length ∧ ∃ ω2 m2 acc kvs, acc.length ≤ sizeLine ∧ mkD acc [] = some kvs ∧ Po F wr' ω1 m1 H1 ω2 m2 H2 ∧ OwnK F ω2 m2 H2 L kvs ∧ kvs.length ≤ acc.length ∧ FinF F Wx wr σ Q ω m H ((turns body (xs.drop i) acc m2).bind fun ys m' => R.of ((mkD ys []).map .dict) m'), ?_, ?_⟩
    · refine ⟨xs.length, rfl, Nat.zero_le _, ω1.inn L, m1, [], [], Nat.zero_le _, rfl, Po.newO p1.cells p1.tabs hL, ⟨.inr rfl, fun r f hl e => lv_new p1 hL r f hl e, [], upd_same, rfl⟩, Nat.le_refl _, h⟩
    · rintro i n H2 ⟨rfl, hi, ω2, m2, acc, kvs, hz, hmk, p2, O, hkl, hf⟩
      have hold : Hold F A ω1 H1 ω2 H2 := po_hold p1.cells p2 hU
      by_cases hlt : i < xs.length
      · refine .inr ⟨wk.go ω2 H2 i hold hlt, fun H' => (i + 1) ≤ xs.length ∧ ∃ ω2 m2 acc kvs, acc.length ≤ sizeLine ∧ mkD acc [] = some kvs ∧ Po F wr' ω1 m1 H1 ω2 m2 H' ∧ OwnK F ω2 m2 H' L kvs ∧ kvs.length ≤ acc.length ∧ FinF F Wx wr σ Q ω m H ((turns body (xs.drop (i + 1)) acc m2).bind fun ys m' => R.of ((mkD ys []).map .dict) m'), ?_, ?_⟩
        · rintro H' ⟨h1, h2⟩
          exact ⟨xs.length - (i + 1), by omega, rfl, h1, h2⟩
        · intro x H3 hy
          obtain ⟨d, ω3, e1, p3, r3⟩ := wk.yld wr' ω2 m2 H2 i x H3 hold p2.cells p2.tabs hlt hy
          have O3 := O.po p2.cells p3
          have p23 := p2.trans p1.cells p3
          rw [drop_cons e1, turns_cons] at hf
          have S3 : SlRel F ω3 (wipeG g (tvars tg)) m2 (L2.wipe σ (tvars tg)) H3 := (S1.sl.po p1.cells p23).wipe _
          cases hb : bindT tg d (wipeG g (tvars tg)) with
          | none =>
            simp only [body, dcBody, hb] at hf
            exact hf.elim
          | some g' =>
            have hbody : body d m2 = R.nox ((evI W ifs wr' g' m2).bind fun b m' => if b then (ev W k wr' g' m').bind fun kd m2 => (ev W v wr' g' m2).bind fun vd m3 => .ok (some (.tuple [kd, vd])) m3 else .ok none m') := by
              simp only [body, dcBody, hb]
            rw [hbody] at hf
            refine ht ω3 H3 _ m2 _ d x g' _ S3 r3 hb fun σ' S' hl' hk' => ⟨?_, ?_⟩
            · exact (wipe_eq hl' hk').trans wipe_wipe
            · have St3 : Stt F ω3 g' m2 σ' H3 := ⟨S', p23.cells, p23.tabs⟩
              refine LG.of (wr := wr') St3 ?_
              show Fin F Wx0 wr' σ' _ _ ω3 m2 H3 (evI W ifs wr' g' m2)
              cases ht2 : evI W ifs wr' g' m2 with
              | stuck => rw [ht2] at hf; exact hf.elim
              | exc c m' => rw [ht2] at hf; exact hf.elim
              | ok b m4 =>
                rw [ht2] at hf
                intro ω4 b' H4 p4 hb'
                subst hb'
                have O4 := O3.po p23.cells p4
                have p24 := p23.trans p1.cells p4
                simp only [R.bind_ok] at hf
                cases b with
                | false =>
                  simp only [Bool.false_eq_true, if_false, R.nox, R.bind_ok] at hf ⊢
                  exact ⟨hlt, ω4, m4, acc, kvs, hz, hmk, p24, O4, hkl, hf⟩
                | true =>
                  simp only [if_true] at hf ⊢
                  have St4 := St3.po p4
                  refine LG.of (wr := wr') St4 ?_
                  show Fin F Wx0 wr' σ' (VRel F false) _ ω4 m4 H4 (ev W k wr' g' m4)
                  cases hx : ev W k wr' g' m4 with
                  | stuck => rw [hx] at hf; exact hf.elim
                  | exc c m' => rw [hx] at hf; exact hf.elim
                  | ok kd m5 =>
                    rw [hx] at hf
                    intro ω5 kv H5 p5 r5
                    have O5 := O4.po p24.cells p5
                    have p25 := p24.trans p1.cells p5
                    simp only [R.bind_ok] at hf
                    refine LG.of (wr := wr') (St4.po p5) ?_
                    show Fin F Wx0 wr' σ' (VRel F false) _ ω5 m5 H5 (ev W v wr' g' m5)
                    cases hx2 : ev W v wr' g' m5 with
                    | stuck => rw [hx2] at hf; exact hf.elim
                    | exc c m' => rw [hx2] at hf; exact hf.elim
                    | ok vd m6 =>
                      rw [hx2] at hf
                      intro ω6 vv H6 p6 r6
                      have O6 := O5.po p25.cells p6
                      have p26 := p25.trans p1.cells p6
                      simp only [R.bind_ok, R.nox] at hf
                      split at hf
                      · rename_i hz2
                        have hf2 := hf
                        obtain ⟨kvs2, hm2⟩ := dc_pre hf2
                        rw [mkD_app, hmk] at hm2
                        obtain ⟨hk, rfl⟩ := mkD_one hm2
                        obtain ⟨k', hk1, hk2⟩ := isKey_rel hk (Rep.stays (p6.stays p25.cells) _ _ r5.pure)
                        obtain ⟨vs, hv1, hv2⟩ := O6.at_
                        obtain ⟨q1, q2⟩ := p26.putK hL O6 hv1 hv2 hk1 r6.pure
                        have hlv : vs.length = kvs.length := hv2.length
                        refine ⟨vs, k', hk2, hv1, by rw [hlv]; exact Nat.lt_of_le_of_lt hkl hz2, hlt, ω6, m6, acc ++ [.tuple [kd, vd]], _, by rw [List.length_append, List.length_singleton]; exact hz2, ?_, q1, q2, ?_, hf⟩
                        · rw [mkD_app, hmk]
                          exact hm2
                        · rw [List.length_append, List.length_singleton]
                          unfold putD
                          split
                          · rw [List.length_map]; omega
                          · rw [List.length_append, List.length_singleton]; omega
                      · exact hf.elim
      · have hi2 : i = xs.length := by omega
        subst hi2
        refine .inl ⟨wk.stop ω2 H2 hold, ?_⟩
        rw [List.drop_length] at hf
        have hf : FinF F Wx wr σ Q ω m H (R.of ((mkD acc []).map .dict) m2) := hf
        rw [hmk] at hf
        have p12 : Po F wr ω m H ω2 m2 H2 := p1.trans S.ce (p2.mono (lockW_le wr p))
        refine hf ω2 L H2 p12 ?_ O.at_ O.inB O.ne
        cases e : H L with
        | none => rfl
        | some o =>
          obtain ⟨o', e2⟩ := p1.fr.st L o e
          rw [hL] at e2
          cases e2
theorem f_dc {kE vE iter tgE : Expr} {k v : Ex} {tg : Tg} {src : Src} {ifs : List Expr} {is : List Ex} {scope : Scope} {own : List (Str × Nat)} {t : TG} (hc : X.calm = true) (hN : X.N.Nodup) (nk : isB k = false) (nv : isB v = false) (pf : plainE iter = true) (ok : BlkOk X.N X.env.scope scope own) (hvs : own.map (·.2) = tvars tg) (hi : PI X tgE iter (LI F Wx W src)) (hG : GOk F t tg)
    (hg : ∀ (s : Shared) (H : Hp) (C : Addr) (cl : List (Str × Addr)) (fp : List Addr), PG (X.blk s H scope (compEnvC scope cl C X.env) fp) tgE t) (ht : ∀ (s : Shared) (H : Hp) (C : Addr) (cl : List (Str × Addr)) (fp : List Addr), PTs (X.blk s H scope (compEnvC scope cl C X.env) fp) ifs (LTs F W is))
    (hk : ∀ (s : Shared) (H : Hp) (C : Addr) (cl : List (Str × Addr)) (fp : List Addr), PE (X.blk s H scope (compEnvC scope cl C X.env) fp) kE (LE F Wx0 false (evE W k)))
    (he : ∀ (s : Shared) (H : Hp) (C : Addr) (cl : List (Str × Addr)) (fp : List Addr), PE (X.blk s H scope (compEnvC scope cl C X.env) fp) vE (LE F Wx0 false (evE W v))) :
    PE X (.DictComp kE vE [⟨tgE, iter, ifs, 0⟩] scope pos) (LF F Wx (evE W (.dco k v tg src is))) :=
  PE_imp (pe_dc hc hN hi ok hg ht hk he (plain_fold pf _)) fun σ H Q h => dc_read nk nv hG hvs h
end
end Ev
end
section
set_option linter.all false
set_option autoImplicit false
set_option maxRecDepth 100000
/-! Ev, part TE: sorted(..) of what is collected, of a dict; dict(list). -/
namespace Ev
open PySem PySem.Spec PyProof.Rows L2

section
variable {X : Cx} {F : Fx} {W : Wd} {Wx : WX} {pos : Pos}
/-- behind the collecting -/
theorem sort_tail {k : Nat} {A : Around} (hr : Room k A) {pins : List (Addr × Obj)} {σ : L2.St} {H : Hp} {s : Shared} (I : Inv X pins σ H s) {acc : List Value} {ys : List V} {ds : List D} (hv : Vals ys acc) (hl : ys.length ≤ sizeLine) (hd : DpAll X.K H ys ds)
    (hal : PySem.W.AllAlike ds) (hso : PySem.W.Sortable ds) (hdp : ∀ d ∈ ds, d.depth ≤ 60) {Q : VK} {E : Value → Shared → Prop}
    (q : ∀ l us, (∃ ps : List (V × D), ps.map (·.1) = ys ∧ ps.map (·.2) = ds ∧ us = ps.mergeSort (fun p q => PySem.W.dataLe false id p.2 q.2)) → H l = none → Q (.ref l) (upd H l (.lst (us.map (·.1))))) :
    wpAny (model X.prog X.w) A.in1 (do
      let l ← newList acc
      let _ ← holding [l] (call (.builtin "list.sort") [l])
      ret l) (fun f s' => ∃ v, f = .done (.ret v) ∧ EP X pins σ Q v s') E s := by
  obtain ⟨ps, e1, e2, e3, e4⟩ := dpAll_reads I hd hv
  have hz : acc.length ≤ sizeLine := by rw [← hv.length]; exact hl
  refine wpAny_bind (wpAny_newList ?_ hz)
  have hoL : (s.heap.push (seqObj "list" acc.toArray 0)).get? s.heap.objs.size = some (seqObj "list" acc.toArray 0) := Heap.get?_push_size _ rfl
  show wpAny _ _ _ _ _ { s with heap := s.heap.push (seqObj "list" acc.toArray 0) }
  have un := hr.un
  have er' : PySem.W.EachIs (fun v (b : V × D) => ∃ as, Reads (PySem.W.sortingHeap (s.heap.push (seqObj "list" acc.toArray 0)) s.heap.objs.size acc) v b.2 as) acc ps := e4.mono fun _ _ ⟨_, as, r⟩ => ⟨as, PyProof.Rows.Reads.keeps (fun b o e => PySem.W.sortingHeap_old (Nat.ne_of_lt (Heap.lt_size e)) (Heap.get?_push_of_some _ e)) r⟩
  have hal2 : PySem.W.AllAlike (ps.map fun b : V × D => b.2) := by show PySem.W.AllAlike (ps.map (·.2)); rw [e2]; exact hal
  have hso2 : PySem.W.Sortable (ps.map fun b : V × D => b.2) := by show PySem.W.Sortable (ps.map (·.2)); rw [e2]; exact hso
  refine wpAny_bind (wpAny_holding (wpAny_call_entry PyProof.Rows.slot_list_sort ⟨_, hoL, rfl⟩ PyProof.Rows.entry_list_sort
    (PySem.W.list_sort_vals (s := { s with heap := s.heap.push (seqObj "list" acc.toArray 0) }) (κ := PySem.W.dataKind (PySem.W.sortingHeap (s.heap.push (seqObj "list" acc.toArray 0)) s.heap.objs.size acc) (ps.map fun b : V × D => b.2)) hoL
      (PySem.W.SortsAt.data (s := { s with heap := PySem.W.sortingHeap (s.heap.push (seqObj "list" acc.toArray 0)) s.heap.objs.size acc }) (PySem.W.each_map (R := fun v d => ∃ as, Reads (PySem.W.sortingHeap (s.heap.push (seqObj "list" acc.toArray 0)) s.heap.objs.size acc) v d as) (fun b : V × D => b.2) er') hal2 hso2
        (PySem.W.bound_map (enc := fun b : V × D => b.2) fun b hb => ?_)) hz ⟨.none, rfl, ?_⟩) (PyProof.Rows.args_list_sort _)))
  · have := hdp b.2 (by rw [← e2]; exact List.mem_map.mpr ⟨b, hb, rfl⟩)
    show A.units + 1 + 1 + b.2.depth < cLine
    omega
  · have eo := PySem.W.sortVals_data (enc := fun b : V × D => b.2) false e4 er' hal2
    have hv2 := eachIs_vals eo
    generalize PySem.W.sortVals (PySem.W.dataKind (PySem.W.sortingHeap (s.heap.push (seqObj "list" acc.toArray 0)) s.heap.objs.size acc) (ps.map fun b : V × D => b.2)) false acc acc = out at hv2 ⊢
    obtain ⟨e', he'⟩ := PyProof.Rows.sortedHeap_at (vs := acc) (out := out.toArray) hoL
    have hlen : (List.map (·.1) (ps.mergeSort (fun p q => PySem.W.dataLe false id p.2 q.2))).length ≤ sizeLine := by
      rw [List.length_map, List.length_mergeSort, e3]
      exact hz
    refine wpAny_pure ⟨_, rfl, .ref s.heap.objs.size, upd H s.heap.objs.size (.lst (List.map (·.1) (ps.mergeSort (fun p q => PySem.W.dataLe false id p.2 q.2)))), I.laid (t' := s.toks) (fun b u e => ?_) (Nat.le_refl _)
      (show ObjOk X.prog X.w _ _ _ (.lst _) from ⟨hlen, out, e', hv2, he'⟩), rfl, q _ _ ⟨ps, e1, e2, rfl⟩ (I.hok.fresh (Nat.le_refl _))⟩
    have hb : b < s.heap.objs.size := Heap.lt_size e
    rw [PyProof.Rows.sortedHeap_old (Nat.ne_of_lt hb) (by rw [size_push']; exact Nat.lt_succ_of_lt hb)]
    exact Heap.get?_push_of_some _ e
theorem vals_keys : ∀ {vs : List (Key × Value)} {acc : List Value}, acc.length = vs.length → (∀ (j : Nat) (v : Value), acc[j]? = some v → ∃ k x, vs[j]? = some (k, x) ∧ keyIs k v = true) → Vals (vs.map fun p => kV p.1) acc := fun hl h => keys_at hl h
/-- sorted(d) -/
def rSortK (K : PySem.W.Frag) : List V → Hp → VK → Prop := fun xs H Q => ∃ (a : Addr) (kvs : List (Key × V)) (ds : List D), xs = [V.ref a] ∧ Rd H a (.dK kvs) ∧ DpAll K H (kvs.map fun kv => kV kv.1) ds ∧ PySem.W.AllAlike ds ∧ PySem.W.Sortable ds ∧ (∀ d ∈ ds, d.depth ≤ 60) ∧
  ∀ l us, (∃ ps : List (V × D), ps.map (·.1) = (kvs.map fun kv => kV kv.1) ∧ ps.map (·.2) = ds ∧ us = ps.mergeSort (fun p q => PySem.W.dataLe false id p.2 q.2)) → H l = none → Q (.ref l) (upd H l (.lst (us.map (·.1))))
theorem cr_sortedK {k : Nat} (hr : Room k X.A) (hcalm : X.calm = true) : CallR X (.builtin "sorted") (rSortK X.K) := by
  intro pins s σ H xs us Q I r h
  obtain ⟨a, kvs, ds, rfl, hd, hD, hal, hso, hdp, q⟩ := h
  obtain ⟨u, rfl, ru⟩ := vals1 r
  obtain rfl : u = Value.ref a := ru
  obtain ⟨z, lo, vs, rel, dd⟩ := dk_rd I.hok hd
  obtain ⟨ep, hat⟩ := dd.dictAt
  have ek : (kvs.map fun kv => kV kv.1) = vs.map fun p => kV p.1 := by
    have e := congrArg (List.map kV) rel.keys
    rw [List.map_map, List.map_map] at e
    exact e
  refine Calls.call_function_entry PyProof.Rows.kind_sorted PyProof.Rows.plain_sorted PyProof.Rows.entry_sorted (PyProof.Rows.args_sorted1 _) ?_
  unfold Builtin.«sorted»
  refine wpAny_bind (m := checkCount "sorted" 1 1 _) (wpAny_pure ?_)
  refine wpAny_bind (PySem.W.kdu_collect (A := X.A.in1) (PySem.W.kdl_dict (knd := mixKind X.prog X.w) (kvs := vs) (ep := ep) lo) (I.ok.hd hcalm) hat (by rw [← rel.length]; exact z) fun h' tk acc hk hacc => ?_)
  have hv : Vals (kvs.map fun kv => kV kv.1) acc.toList := by
    rw [ek]
    exact keys_at (by rw [Array.length_toList]; exact hacc.1) fun j v e => hacc.2 j v (by rw [← Array.getElem?_toList]; exact e)
  have I1 : Inv X pins σ H { s with heap := h', toks := tk } := I.kept hk
  exact sort_tail hr I1 hv (by rw [List.length_map]; exact z) hD hal hso hdp q
theorem RepP.keys {ω : Om} {H : Hp} : ∀ {kvs : List (D × D)} {vs : List (Key × V)}, RepP F ω H kvs vs → Reps F ω H (kvs.map (·.1)) (vs.map fun kv => kV kv.1)
  | [], _, h => by
    have h : _ = [] := h
    rw [h]
    rfl
  | (a, d) :: ds, _, h => by
    obtain ⟨k2, v, r, rfl, h0, h1, h2⟩ := h
    exact ⟨_, _, rfl, keyRep h0, RepP.keys h2⟩
def rSortE (K : PySem.W.Frag) : List V → Hp → VK → Prop := fun xs H Q => rSortV K xs H Q ∨ rSortK K xs H Q
/-- sorted(e), e a list or a dict -/
theorem sortE_core (hK : X.K = F.K) {e : Ex} {σ : L2.St} {H : Hp} {Q : VK} (h : LE F Wx false (evE W (.bs .sorted (.seq (.e e)))) σ H Q) (hnt : ∀ wr g m xs m', ev W e wr g m ≠ .ok (.tuple xs) m') : LE F Wx false (evE W e) σ H fun x H1 => rSortE X.K [x] H1 Q := by
  obtain ⟨ω, g, m, wr, S, h⟩ := h
  have h : Fin F Wx wr σ (VRel F false) Q ω m H (ev W (.bs .sorted (.seq (.e e))) wr g m) := h
  rw [ev, evS, evB] at h
  split at h
  · exact h.elim
  · refine LG.of (wr := wr) S ?_
    show Fin F Wx wr σ (VRel F false) _ ω m H (ev W e wr g m)
    cases he : ev W e wr g m with
    | stuck => rw [he] at h; exact h
    | exc c m' => rw [he] at h; exact h
    | ok d m1 =>
      rw [he] at h
      simp only [R.bind_ok] at h
      intro ω1 x H1 p1 r1
      have C1 := p1.cells
      cases hi : itemsOf d with
      | none => rw [hi] at h; exact h.elim
      | some xs =>
        rw [hi] at h
        simp only [Option.map_some, R.of_some, R.bind_ok] at h
        split at h
        · simp only [semBi] at h
          split at h
          · rename_i hs
            obtain ⟨s1, s2, s3⟩ := sortable_ok hs
            rw [hK]
            have fin : ∀ (ω2 : Om) (v : V) (H2 : Hp), Po F wr ω1 m1 H1 ω2 m1 H2 → Rep F ω2 H2 (.list (xs.mergeSort dLe)) v → Q v H2 := fun ω2 v H2 p r => h ω2 v H2 (p1.trans S.ce p) (.inl r)
            rcases itemsOf_cases hi with e1 | ⟨kvs, rfl, hp, rfl⟩
            · cases d with
              | list ds =>
                cases e1
                obtain ⟨a, vs, rfl, h1, h2, h3⟩ := r1.pure
                refine .inl ⟨a, vs, _, rfl, SqL.of h1, Reps.dpA _ _ h3 (allAlike_self s1), s1, s2, s3, fun l us ⟨ps, q1, q2, q3⟩ hl => ?_⟩
                have p := Po.new (wr := wr) (o := .lst (us.map (·.1))) C1 p1.tabs hl
                exact fin _ _ _ p ⟨l, _, rfl, upd_same, fun z => z.2 rfl, Reps.stays (p.stays C1) _ _ (sort_rep h3 q1 q2 q3)⟩
              | tuple ds => exact absurd he (hnt _ _ _ _ _)
              | none => cases e1
              | bool _ => cases e1
              | int _ => cases e1
              | str _ => cases e1
              | dict _ => cases e1
            · obtain ⟨a, vs, rfl, h1, h2⟩ := r1.dict hp
              have hk := RepP.keys h2
              refine .inr ⟨a, vs, _, rfl, h1, Reps.dpA _ _ hk (allAlike_self s1), s1, s2, s3, fun l us ⟨ps, q1, q2, q3⟩ hl => ?_⟩
              have p := Po.new (wr := wr) (o := .lst (us.map (·.1))) C1 p1.tabs hl
              exact fin _ _ _ p ⟨l, _, rfl, upd_same, fun z => z.2 rfl, Reps.stays (p.stays C1) _ _ (sort_rep hk q1 q2 q3)⟩
          · exact h.elim
        · exact h.elim

/-! ### dict(list of pairs) -/
theorem mkD_tuples {ω : Om} {H : Hp} : ∀ {xs : List D} {vs : List V} {acc r : List (D × D)} {us : List (Key × V)}, mkD xs acc = some r → Reps F ω H xs vs → RepP F ω H acc us → ∃ (ps : List Addr) (kvs : List (Key × V)), vs = ps.map V.ref ∧ Paired (fun p kv => SqT F.K H p [kV kv.1, kv.2]) ps kvs ∧ RepP F ω H r (mergeK us kvs)
  | [], vs, acc, r, us, e, h, ha => by
    rw [mkD] at e
    cases e
    have h : vs = [] := h
    subst h
    exact ⟨[], [], rfl, .nil, ha⟩
  | x :: xs, vs, acc, r, us, e, h, ha => by
    obtain ⟨v, vr, rfl, h1, h2⟩ := h
    cases x <;> first | (simp [mkD] at e; done) | skip
    rename_i l
    match l, h1, e with
    | [k, d], h1, e =>
      rw [mkD] at e
      split at e
      · rename_i hk
        obtain ⟨a, tv, rfl, ht, hr⟩ := h1
        obtain ⟨kv, t2, rfl, r1, hr2⟩ := hr
        obtain ⟨dv, t3, rfl, r2, hr3⟩ := hr2
        have hr3 : t3 = [] := hr3
        subst hr3
        obtain ⟨k', hk1, rfl⟩ := isKey_rel hk r1
        obtain ⟨ps, kvs, e1, e2, e3⟩ := mkD_tuples e h2 (RepP.put hk1 r2 ha)
        exact ⟨a :: ps, (k', dv) :: kvs, by rw [e1]; rfl, .cons ht.sq e2, e3⟩
      · cases e
    | [], _, e => simp [mkD] at e
    | [_], _, e => simp [mkD] at e
    | _ :: _ :: _ :: _, _, e => simp [mkD] at e
theorem dictP_core (hK : X.K = F.K) {e : Ex} {σ : L2.St} {H : Hp} {Q : VK} (h : LF F Wx (evE W (.bi .dict [e])) σ H Q) (hl : ∀ wr g m d m', ev W e wr g m = .ok d m' → ∃ xs, d = .list xs) (ne : isB e = false) : LE F Wx false (evE W e) σ H fun x H1 => ∃ (a : Addr) (ps : List Addr) (kvs : List (Key × V)), [x] = [.ref a] ∧ SqL X.K H1 a (ps.map V.ref) ∧ Paired (fun p kv => SqT X.K H1 p [kV kv.1, kv.2]) ps kvs ∧
    ∀ p, H1 p = none → Q (.ref p) (upd H1 p (.dK (mergeK [] kvs))) := by
  obtain ⟨ω, g, m, wr, S, h⟩ := h
  have h : FinF F Wx wr σ Q ω m H (ev W (.bi .dict [e]) wr g m) := h
  rw [ev] at h
  refine LG.of (wr := wr) S ?_
  show Fin F Wx wr σ (VRel F false) _ ω m H (ev W e wr g m)
  cases he : ev W e wr g m with
  | stuck => rw [he] at h; exact h
  | exc c m' => rw [he] at h; exact h
  | ok d m1 =>
    rw [he] at h
    simp only [R.bind_ok] at h
    intro ω1 x H1 p1 r1
    obtain ⟨xs, rfl⟩ := hl _ _ _ _ _ he
    obtain ⟨a, vs, rfl, h1, h2, h3⟩ := r1.pure
    simp only [semBi] at h
    cases hm : mkD xs [] with
    | none => rw [hm] at h; exact h.elim
    | some r =>
      rw [hm] at h
      obtain ⟨ps, kvs, rfl, e2, e3⟩ := mkD_tuples (us := []) hm h3 rfl
      rw [hK]
      refine ⟨a, ps, kvs, rfl, SqL.of h1, e2, fun p hp => ?_⟩
      have q := Po.newO (wr := wr) (o := .dK (mergeK [] kvs)) p1.cells p1.tabs hp
      refine h (ω1.inn p) p _ (p1.trans S.ce q) ?_ ⟨_, upd_same, RepP.stays (q.stays p1.cells) _ _ e3⟩ (.inr rfl) (fun r f hl e => lv_new p1 hp r f hl e)
      cases e : H p with
      | none => rfl
      | some o =>
        obtain ⟨o', e2⟩ := p1.fr.st p o e
        rw [hp] at e2
        cases e2
end
end Ev
end
section
set_option linter.all false
set_option autoImplicit false
set_option maxRecDepth 100000
/-! Ev, part TF: an instance == a text. -/
namespace Ev
open PySem PySem.Spec PyProof.Rows L2

section
open PySem.SeqAt
variable {M : Model} {prog : Program} {w : World} {A : Around} {E : Value → Shared → Prop} {s : Shared} {K : PySem.W.Frag} {x C dx : Addr} {ox : Obj} {od : Option Obj} {z : Str} {t : Tok}
theorem isSame_str {R : Bool → Shared → Prop} (h : R false s) : wpAny M A (isSame (.ref x) (.str z t)) R E s := wpAny_of_eq (rfl : isSame (.ref x) (.str z t) = pure false) h
theorem entry_str {Q : PySem.Fin → Shared → Prop} (hq : Q (.done (.ret .notImplemented)) s) : wpAny M A (Builtin.«object.__eq__» ⟨[.ref x, .str z t], []⟩) Q E s := by
  unfold Builtin.«object.__eq__»
  repeat (first | with_reducible refine isSame_str ?_ | wp_step)
  exact hq
theorem call_objEqS {Q : Value → Shared → Prop} (X : K.In s.heap) (I : PySem.W.InstAt s.heap x ox C od) (hm : PySem.W.mroIn K C (.type "object") = some true) (hq : Q .notImplemented s) :
    wpAny (model prog w) A (call (.builtin "object.__eq__") [.ref x, .str z t]) Q E s :=
  wpAny_call (codeAny_call_builtin PySem.F.cmp_object.eq.plain PySem.F.cmpEntry_eq (PySem.W.check_slot PySem.F.cmpKind_eq PySem.F.cmpSplit_eq (I.type.andThen (PySem.W.looks_mroIn X hm)) (PySem.F.cmpArgs_eq _ _) (entry_str hq)))
theorem str_eq_declines_ins : Meets (Builtin.«str.__eq__» ⟨[.str z t, .ref x], []⟩) (fun _ R s => s.heap.get? x = some (PySem.W.instObj C dx) ∧ R (.ok (.ret .notImplemented)) s) :=
  .of_wp fun prog w A R s h => by obtain ⟨hp, g, d, tk, os⟩ := s; obtain ⟨hl, h⟩ := h; wp_walk using wpAny_loadPart' hl, wpAny_load hl; exact ⟨_, rfl, h⟩
theorem sub_str : PySem.W.subIn K (.type "str") (.ref C) = some false := by
  have e : fastBuiltinMro "str" = some [.type "str", .type "object"] := by decide +kernel
  show (fastBuiltinMro "str").map (·.contains (.ref C)) = some false
  rw [e]
  first
    | rfl
    | simp
theorem rc_str (hu : A.units < cLine) (X : K.In s.heap) (I : PySem.W.InstAt s.heap x (PySem.W.instObj C dx) C od) (hm : PySem.W.mroIn K C (.type "object") = some true) (hs : PySem.W.findIn K (.ref C) "__eq__" = some (some (.builtin "object.__eq__"))) :
    RcAt A s (.ref x) (.str z t) false := fun prog w E Q h => by
  have one : wpAny (model prog w) A (tryCompare (.ref x) "__eq__" (.str z t)) (fun r s' => r = none ∧ s' = s) E s := by
    unfold tryCompare
    exact wpAny_bind (HN.ifBound_objEq X I hs (call_objEqS X I hm (wpAny_pure ⟨rfl, rfl⟩)))
  have two : wpAny (model prog w) A (tryCompare (.str z t) "__eq__" (.ref x)) (fun r s' => r = none ∧ s' = s) E s :=
    wpAny_tryCompare_declines (typeIs_str s z t) PySem.F.slot_str_eq_refl (call_meets PySem.F.slot_str_eq_refl (typeIs_str s z t) PySem.F.entry_str_eq (PySem.F.args_str_eq_2 _ _) str_eq_declines_ins ⟨I.at_, rfl, rfl, rfl⟩)
  simp only [richCompare, cmpInfo_Eq, oneThing_ref]
  refine wpAny_holding (wpAny_bind (wpAny_cRoomFor hu ?_))
  refine wpAny_bind (I.type.here ?_)
  refine wpAny_bind (wpAny_typeOf (typeIs_str s z t) ?_)
  split
  · refine wpAny_bind ((PySem.W.looks_subIn X sub_str).here ?_)
    simp only [Bool.false_eq_true, if_false, Bool.not_false, if_true]
    refine wpAny_bind (m := tryCompare (.ref x) _ (.str z t)) (wpAny_mono one (fun r s1 z => ?_) fun _ _ e => e)
    obtain ⟨z1, z2⟩ := z
    subst z1
    subst z2
    refine wpAny_bind (m := tryCompare (.str _ t) _ (.ref x)) (wpAny_mono two (fun r s2 z => ?_) fun _ _ e => e)
    obtain ⟨z1, z2⟩ := z
    subst z1
    subst z2
    exact wpAny_bind (wpAny_rule (wpAny_bind (wpAny_of_eq (rfl : isSame (.ref x) (.str _ t) = pure false) (wpAny_pure h))))
  · rename_i q
    exact absurd (by simp) q
end
/-- what of a class is asked: its == is object's -/
def EqObj (K : PySem.W.Frag) (C : Addr) : Prop := PySem.W.mroIn K C (.type "object") = some true ∧ PySem.W.findIn K (.ref C) "__eq__" = some (some (.builtin "object.__eq__"))
section
variable {X : Cx} {F : Fx} {W : Wd} {Wx : WX} {pos : Pos}
def rEqI (K : PySem.W.Frag) : R2 := fun x y H Q => ∃ a C dx fs z, x = .ref a ∧ H a = some (.ins C dx fs) ∧ y = .str z ∧ EqObj K C ∧ Q (.bl false) H
theorem op_eqI (hu : X.A.units < cLine) : OpR X (compareOp .Eq) (rEqI X.K) := by
  intro pins s σ H x y v u Q I rx ry h
  obtain ⟨a, C, dx, fs, z, rfl, ha, rfl, ⟨hm, hs⟩, q⟩ := h
  cases rx
  obtain ⟨t, rfl⟩ := ry
  obtain ⟨mA, O, _⟩ := ins_get I.hok ha
  obtain ⟨od, J, _⟩ := O.look
  show wpAny _ X.A (richCompare .Eq _ _) _ _ _
  exact rc_str hu I.kIn J hm hs X.prog X.w X.xe _ ⟨.bl false, H, I, rfl, q⟩
theorem eqs_core (hK : X.K = F.K) (hob : ∀ c, W.obj c = true → EqObj X.K (F.ca c)) {e : Ex} {z : Str} {σ : L2.St} {H : Hp} {Q : VK} (ne : isB e = false) (h : LE F Wx false (evE W (.eqs e z)) σ H Q) : LE F Wx false (evE W e) σ H fun x H1 => (rCmp .eq X.K x (.str z) H1 Q ∨ rEqI X.K x (.str z) H1 Q) := by
  have h := LG.congr (f' := fun wr g m => (evE W e wr g m).bind fun x m1 => match clsAt m1 x with
    | some (c, _) => if W.obj c then .ok (.bool false) m1 else .stuck
    | none => R.of ((semCmp .eq x (.str z)).map .bool) m1) (fun wr g m => by
      simp only [evE]
      rw [ev]
      exact if_neg (by rw [ne]; exact Bool.false_ne_true)) h
  obtain ⟨ω, g, m, wr, S, h⟩ := h
  refine LG.of S (Fin.mono (fun x H1 hx => ?_) (Fin.bind (rel := VRel F false) S.ce h))
  obtain ⟨ω1, dx, m1, e1, p1, r1, h1⟩ := hx
  cases hc : clsAt m1 dx with
  | some q =>
    obtain ⟨c, fs⟩ := q
    simp only [hc] at h1
    split at h1
    · rename_i ho
      obtain ⟨r, q1, q2⟩ := clsAt_some hc
      obtain ⟨hr, rfl⟩ := VRel.cell q1 r1
      obtain ⟨dx, vs, q3, q4⟩ := p1.cells.at_ _ _ q2
      exact .inr ⟨_, _, _, _, z, rfl, q3, rfl, hob c ho, h1.ok p1.cells p1.tabs (.inl rfl)⟩
    · exact h1.elim
  | none =>
    simp only [hc] at h1
    exact .inl (cmp_fin .eq hK p1.cells p1.tabs r1 (.inl rfl : VRel F false ω1 H1 (.str z) (.str z)) h1)
theorem or_eqI {n : Nat} (hr : Room n X.A) : OpR X (compareOp .Eq) (fun x y H Q => rCmp .eq X.K x y H Q ∨ rEqI X.K x y H Q) := OpR_or (or_cmp .eq hr) (op_eqI hr.units0)
theorem s_eqs {n : Nat} (hK : X.K = F.K) (hr : Room n X.A) (hob : ∀ c, W.obj c = true → EqObj X.K (F.ca c)) {e : Ex} {z : Str} {p : Expr} {j : Nat} {cp : Pos} (ne : isB e = false) (he : PE X p (LE F Wx false (evE W e))) : PE X (.Compare p [.Eq] [.Constant (.str z) j cp] pos) (LE F Wx false (evE W (.eqs e z))) :=
  PE_imp (pe_cmpR (or_eqI hr) he pe_str (plain_beh rfl _)) fun σ H Q h => eqs_core hK hob ne h
theorem t_eqs {n : Nat} (hK : X.K = F.K) (hr : Room n X.A) (hob : ∀ c, W.obj c = true → EqObj X.K (F.ca c)) {e : Ex} {z : Str} {p : Expr} {j : Nat} {cp : Pos} (ne : isB e = false) (he : PE X p (LE F Wx false (evE W e))) : PT X (.Compare p [.Eq] [.Constant (.str z) j cp] pos) (LT F Wx (evE W (.eqs e z))) :=
  PT_imp (pt_cmpR (or_eqI hr) he pe_str (plain_beh rfl _)) fun σ H Q h => eqs_core hK hob ne (LT_le h)
end
end Ev
end
section
set_option linter.all false
set_option autoImplicit false
set_option maxRecDepth 100000
set_option maxHeartbeats 1000000
/-! Ev, part GA: the context of a generator expression's block, and how it begins. -/
namespace Ev
open PySem PySem.Spec PyProof.Rows L2

/-- its context: woken under Ag by X's def, made at s -/
def gnCx (X : Cx) (Ag : Around) (s : Shared) (H : Hp) (cenv : Env) (fp : List Addr) (pn : List (Addr × Obj)) : Cx :=
  { X with A := Ag, s_0 := s, H_0 := H, env := cenv, outer := X.stack, stack := cenv :: X.stack, ex := fp, fn := fun _ => false, pn := pn, xe := fun _ _ => False }
/-- its names -/
structure GnOk (N : List Str) (sc scope : Scope) (own : List (Str × Nat)) : Prop extends BlkOk N sc scope own where
  co : scope.isCoroutine = false
  nocell : ∀ y ∈ scope.names, y.2 ≠ .cell
  dot : scope.names.lookup (".0" : Str) = some NameKind.local
def gnC (N : List Str) (sc scope : Scope) (own : List (Str × Nat)) : Bool :=
  blkC N sc scope own && !scope.isCoroutine && (scope.names.all fun y => !decide (y.2 = .cell)) && decide (scope.names.lookup (".0" : Str) = some NameKind.local)
theorem gnOk_by {N : List Str} {sc scope : Scope} {own : List (Str × Nat)} (h : gnC N sc scope own = true) : GnOk N sc scope own := by
  unfold gnC at h
  simp only [Bool.and_eq_true, Bool.not_eq_true', List.all_eq_true, decide_eq_true_eq, decide_eq_false_iff_not] at h
  obtain ⟨⟨⟨h1, h2⟩, h3⟩, h4⟩ := h
  exact ⟨blkOk_by h1, h2, h3, h4⟩
section
variable {X : Cx} {pins : List (Addr × Obj)} {σ : L2.St} {H : Hp} {s : Shared}
theorem gn_start {Ag : Around} {scope : Scope} {own : List (Str × Nat)} {fp : List Addr} {code : Value} {bi : Addr} {h' : Heap} {mm : Str → Option Value} {g' : Array GenState} {t' : Nat} {d' : Drawn} (I : Inv X pins σ H s) (ok : GnOk X.N X.env.scope scope own) (hN : X.N.Nodup) (hbi : bi = builtinsNs)
    (hfp : ∀ b ∈ fp, FpOk X pins H b ∧ b < s.heap.objs.size) (hd : Ag.handled = none) (hfr : Ag.frames = some (genEnv scope (cloFrom X.env.cells scope.names []) s.heap.objs.size code bi X.env :: X.stack))
    (hns : h'.Ns s.heap.objs.size mm) (kp : ∀ b o, s.heap.get? b = some o → h'.get? b = some o) (hg : AllBare g') :
    Inv (gnCx X Ag s H (genEnv scope (cloFrom X.env.cells scope.names []) s.heap.objs.size code bi X.env) fp []) [] (L2.wipe σ (own.map (·.2))) H { s with heap := h', gens := g', drawn := d', toks := t' } := by
  have hfree : ∀ y ∈ scope.names, y.2 = .free → ∃ c, X.env.cells.lookup y.1 = some c := fun y hy e => by
    rcases ok.free y hy e with k | k
    · exact I.ok.has _ (.inl k)
    · exact I.ok.has _ (.inr k)
  have cm : ∀ {y c}, (cloFrom X.env.cells scope.names []).lookup y = some c → X.env.cells.lookup y = some c := fun {y c} e => by
    rcases cloFrom_mem (PySem.mem_of_lookup e) with z | ⟨z1, z2⟩
    · cases z
    · obtain ⟨c', hc⟩ := hfree _ z1 rfl
      rw [hc] at z2
      rw [z2]
      exact hc
  have look : ∀ {y}, scope.names.lookup y = some .free → ∃ c, (cloFrom X.env.cells scope.names []).lookup y = some c := fun {y} hl => mem_lookup (cloFrom_has (cells := X.env.cells) (acc := []) (PySem.mem_of_lookup hl))
  have noC : ∀ {y}, scope.names.lookup y ≠ some .cell := fun {y} e => ok.nocell _ (PySem.mem_of_lookup e) rfl
  refine ⟨⟨I.ok.mod, ok.kind, I.ok.glob, hbi, Nat.le_refl _, fun y z c e1 e2 => I.ok.inj y z c (cm e1) (cm e2), fun y hy => ?_, fun y c z _ => ?_, fun _ => hd, hfr, .inr ⟨rfl, rfl⟩, fun b hb => ⟨?_, fun y c e z => ?_⟩, I.bs, Nat.le_trans I.ok.bsz I.sz, fun b o e hb => ?_, fun b hb z => ?_, I.stack, I.stkFree⟩,
    rfl, hg, Un.kept kp, ⟨_, hns, fun i y v e1 e2 e3 => ?_⟩, fun y c e => ?_, I.hok.fresh (Nat.le_refl _), fun y c e => I.freeC y c (cm e), fun q hq => ?_, I.hok.kept kp, by rw [wipe_length]; exact I.len⟩
  · have hy : scope.names.lookup y = some .cell ∨ scope.names.lookup y = some .free := hy
    rcases hy with hy | hy
    · exact absurd hy noC
    · exact look hy
  · have z : false = true := z
    cases z
  · exact Nat.ne_of_lt (hfp b hb).2
  · exact (hfp b hb).1.2.2.2.2.1 y c (cm e) z
  · rcases (hfp b hb).1.2.2.2.1 with z | z
    · exact I.ok.noex b o e z
    · exact absurd (Nat.lt_of_lt_of_le (Heap.lt_size e) (Nat.le_trans I.ok.bsz z)) (Nat.lt_irrefl _)
  · rcases List.mem_cons.mp (I.stkSub b z) with z | z
    · exact (hfp b hb).1.2.1 z
    · exact (hfp b hb).1.2.2.1 z
  · obtain ⟨e2, hne⟩ := wipe_some e2
    have e3 : Vis scope y := e3
    rcases e3 with k | k | k
    · rcases ok.own _ (PySem.mem_of_lookup k) (.inl rfl) with e' | e'
      · obtain ⟨p, hp, hpy⟩ := List.mem_map.mp e'
        have e4 := ok.ix p hp
        have : p.1 = y := hpy
        rw [this] at e4
        exact absurd (List.mem_map.mpr ⟨p, hp, nodup_ix hN e4 e1⟩) hne
      · exact absurd (List.mem_of_getElem? e1) e'
    · exact absurd k noC
    · obtain ⟨m, hn, hl⟩ := I.loc
      have hvis : Vis X.env.scope y := (ok.free _ (PySem.mem_of_lookup k) rfl).elim (fun k => .inr (.inl k)) (fun k => .inr (.inr k))
      obtain ⟨w', r, q⟩ := hl i y v e1 e2 hvis
      obtain ⟨c2, h2⟩ := look k
      refine ⟨w', r, .inr ⟨.inr k, c2, h2, ?_⟩⟩
      have c1 := cm h2
      rcases q with ⟨k', _⟩ | ⟨_, c3, e', z⟩
      · have k' : X.env.scope.names.lookup y = some .local := k'
        rcases ok.free _ (PySem.mem_of_lookup k) rfl with k2 | k2 <;> rw [show X.env.scope.names.lookup y = _ from k2] at k' <;> cases k'
      · rw [c1] at e'
        cases e'
        exact z.keeps kp
  · obtain ⟨w', z⟩ := I.cell y c (cm e)
    exact ⟨w', z.keeps kp⟩
  · exact absurd (show q ∈ ([] : List (Addr × Obj)) ++ [] from hq) (by simp)
/-- under another around -/
theorem Inv.gnA {Ag Ag' : Around} {s0 : Shared} {H0 : Hp} {cenv : Env} {fp : List Addr} {pn pl : List (Addr × Obj)} (I : Inv (gnCx X Ag s0 H0 cenv fp pn) pl σ H s) (hd : Ag'.handled = none) (hfr : Ag'.frames = some (cenv :: X.stack)) : Inv (gnCx X Ag' s0 H0 cenv fp pn) pl σ H s :=
  ⟨⟨I.ok.mod, I.ok.kind, I.ok.glob, I.ok.blt, I.ok.above, I.ok.inj, I.ok.has, I.ok.cab, fun _ => hd, hfr, I.ok.stk, I.ok.exf, I.ok.bs, I.ok.bsz, I.ok.noex, I.ok.exfs, I.ok.funs, I.ok.frf⟩, I.os, I.bare, I.base, I.loc, I.cell, I.free, I.freeC, I.pin, I.hok, I.len⟩
theorem over_comp {A : Around} {elt : Expr} {gens : List Comprehension} {sc : Scope} {pos : Pos} {it acc : Value} {env : Env} : A.over (.compLoop (.GeneratorExp elt gens sc pos) 0 it acc env) [] = A.deeper env := by
  obtain ⟨hd, d, fr, gs, u⟩ := A
  first
    | rfl
    | (cases fr <;> cases gs <;> rfl)
theorem over_start {A : Around} {elt : Expr} {gens : List Comprehension} {sc : Scope} {pos : Pos} {it acc : Value} {env : Env} : A.over (.compStart (.GeneratorExp elt gens sc pos) 0 it acc env) [] = A.deeper env := by
  obtain ⟨hd, d, fr, gs, u⟩ := A
  first
    | rfl
    | (cases fr <;> cases gs <;> rfl)
end
end Ev
end
section
set_option linter.all false
set_option autoImplicit false
set_option maxRecDepth 100000
set_option maxHeartbeats 1000000
/-! Ev, part GB: the turns of a generator expression's block. -/
namespace Ev
open PySem PySem.Spec PyProof.Rows L2

/-- where a generator expression stands: made at s0 under X, its iterator's objects at fp, itself in pn -/
structure GnW where
  X : Cx
  s0 : Shared
  H1 : Hp
  cenv : Env
  fp : List Addr
  pn : List (Addr × Obj)
  σ : L2.St
  tn : Nat → Heap → Prop
abbrev GnW.cx (G : GnW) (Ag : Around) : Cx := gnCx G.X Ag G.s0 G.H1 G.cenv G.fp G.pn
/-- what belongs to whom calls it -/
def Priv (G : GnW) (pl : List (Addr × Obj)) : Prop := ∀ p ∈ pl, G.s0.heap.objs.size ≤ p.1 ∧ (∀ q ∈ G.pn, q.1 ≠ p.1) ∧ ∀ v, p.2.data ≠ .cell v
structure GRest (G : GnW) (pl : List (Addr × Obj)) (i : Nat) (H : Hp) (s : Shared) : Prop where
  inv : ∀ Ag : Around, Ag.handled = none → Ag.frames = some (G.cenv :: G.X.stack) → Inv (G.cx Ag) pl G.σ H s
  tn : G.tn i s.heap
  nf : ∀ b ∈ G.fp, H b = none
  pv : Priv G pl
/-- it slept: whom it belongs to has changed its own things alone -/
structure Slp (pl pl' : List (Addr × Obj)) (s s' : Shared) : Prop where
  os : s'.os = s.os
  bare : AllBare s'.gens
  same : pl'.map (·.1) = pl.map (·.1)
  keep : ∀ b o, b ∉ pl.map (·.1) → s.heap.get? b = some o → s'.heap.get? b = some o
  at_ : ∀ p ∈ pl', s'.heap.get? p.1 = some p.2 ∧ ∀ v, p.2.data ≠ .cell v
theorem sh_eta' (s s' : Shared) (h : s'.os = s.os) : ({ s with heap := s'.heap, gens := s'.gens, drawn := s'.drawn, toks := s'.toks } : Shared) = s' := by
  cases s'
  cases h
  rfl
section
variable {G : GnW} {pl pl' : List (Addr × Obj)} {i : Nat} {H : Hp} {s s' : Shared}
theorem GRest.slp (R : GRest G pl i H s) (z : Slp pl pl' s s') (hfp : ∀ b ∈ G.fp, b < G.s0.heap.objs.size) (tk : ∀ i h h', G.tn i h → (∀ b ∈ G.fp, ∀ o, h.get? b = some o → h'.get? b = some o) → G.tn i h') : GRest G pl' i H s' := by
  have mem : ∀ {b}, b ∈ pl.map (·.1) → ∃ o, (b, o) ∈ pl := fun {b} h => by
    obtain ⟨p, hp, rfl⟩ := List.mem_map.mp h
    exact ⟨p.2, hp⟩
  have pv' : Priv G pl' := fun p hp => by
    have hm : p.1 ∈ pl.map (·.1) := by rw [← z.same]; exact List.mem_map.mpr ⟨p, hp, rfl⟩
    obtain ⟨o, ho⟩ := mem hm
    obtain ⟨h1, h2, _⟩ := R.pv _ ho
    exact ⟨h1, h2, (z.at_ p hp).2⟩
  refine ⟨fun Ag hd hfr => ?_, ?_, R.nf, pv'⟩
  · have I := R.inv Ag hd hfr
    have I0 : Inv (G.cx Ag) [] G.σ H s := I.pins_of fun p hp => absurd hp (by simp)
    have nH : ∀ b ∈ pl.map (·.1), H b = none ∧ b ≠ G.cenv.locals := fun b hb => by
      obtain ⟨o, ho⟩ := mem hb
      obtain ⟨_, h2, h3, _, _⟩ := I.pin (b, o) (List.mem_append_right _ ho)
      exact ⟨h2, h3⟩
    have notP : ∀ b u, H b = some u → b ∉ pl.map (·.1) := fun b u e hb => by rw [(nH b hb).1] at e; cases e
    have hL : ∀ m, s.heap.Ns G.cenv.locals m → s'.heap.Ns G.cenv.locals m := fun m ⟨o, es, ep, ho, r⟩ => ⟨o, es, ep, z.keep _ o (fun hb => (nH _ hb).2 rfl) ho, r⟩
    have J := I0.step (g' := s'.gens) (t' := s'.toks) (d' := s'.drawn) (h' := s'.heap) (H' := H) (ch := pl.map (·.1)) (fun b hb => by
        obtain ⟨o, ho⟩ := mem hb
        obtain ⟨h1, h2, h3⟩ := R.pv _ ho
        obtain ⟨e1, e2, e3, e4, e5⟩ := I.pin (b, o) (List.mem_append_right _ ho)
        refine ⟨.inr h1, e3, fun x c hc hcb => ?_, fun p hp => ?_⟩
        · obtain ⟨v, oc, hoc, hdc⟩ := I.cell x c hc
          rw [hcb, e1] at hoc
          cases hoc
          exact e5 _ hdc
        · have hp : p ∈ G.pn ++ [] := hp
          rw [List.append_nil] at hp
          exact h2 p hp)
      (fun b o _ _ hc e _ => z.keep b o hc e) (fun b o _ _ hc e _ => ⟨o.slots, z.keep b o hc e⟩) (fun _ _ _ _ n => n) (fun b o hc e => ⟨o, z.keep b o hc e⟩) (fun _ _ e => e) (fun _ _ _ e => e) (fun b ps e => ⟨#[], by rw [e]; simp⟩) hL
      (fun b u e => (I.hok b u e).stay (fun c v hc q => z.keep c v (by
          rcases hc with w | w
          · rw [w]; exact notP b u e
          · exact notP c _ w) q) (fun _ q => q) fun _ _ q => q) z.bare
    rw [sh_eta' s s' z.os] at J
    refine J.pins_of fun p hp => ?_
    have hm : p.1 ∈ pl.map (·.1) := by rw [← z.same]; exact List.mem_map.mpr ⟨p, hp, rfl⟩
    obtain ⟨o, ho⟩ := mem hm
    obtain ⟨e1, e2, e3, e4, e5⟩ := I.pin (p.1, o) (List.mem_append_right _ ho)
    exact ⟨(z.at_ p hp).1, e2, e3, e4, (z.at_ p hp).2⟩
  · refine tk _ _ _ R.tn fun b hb o e => z.keep b o (fun hm => ?_) e
    obtain ⟨o', ho⟩ := mem hm
    exact Nat.lt_irrefl _ (Nat.lt_of_lt_of_le (hfp b hb) (R.pv _ ho).1)
end
/-- what is read of the turns: ys handed out so far -/
structure GnR where
  J : It
  len : Nat
  Acc : List V → List (Addr × Obj) → Prop
  P : List V → Nat → Hp → Prop
  Yd : List V → V → Nat → Hp → Prop
  Fi : List V → Hp → Prop
def GnEnd (G : GnW) (r : GnR) : Nat → Shared → Shared → Prop := fun _ s₀ s1 => ∃ (ys : List V) (H : Hp) (pl : List (Addr × Obj)), (∀ p ∈ pl, s₀.heap.get? p.1 = some p.2) ∧ r.Acc ys pl ∧ Priv G pl ∧ (∀ Ag : Around, Ag.handled = none → Ag.frames = some (G.cenv :: G.X.stack) → Inv (G.cx Ag) pl G.σ H s1) ∧ r.Fi ys H
def REx (G : GnW) (r : GnR) : GenEnd := fun n s₀ res s1 => ((res = .ok (.ret .none) ∨ res = .ok .next) ∧ GnEnd G r n s₀ s1) ∨ ∃ e, res = .error e ∧ False
def YEx (G : GnW) (r : GnR) : Protocol := fun n s₀ v s1 kap => ∃ ys y i H pl, (∀ p ∈ pl, s₀.heap.get? p.1 = some p.2) ∧ i < r.len ∧ RelV y v ∧ r.Acc ys pl ∧ GRest G pl (i + 1) H s1 ∧ r.Yd ys y i H ∧ (r.P (ys ++ [y]) (i + 1) H → ∀ pl' s'', r.Acc (ys ++ [y]) pl' → Slp pl pl' s1 s'' → kap (.send .none) s'')
/-- the reading of a turn -/
def GnT (X : Cx) (r : GnR) (g : TG) (tt : TT) (te : TE) (σ : L2.St) (vs : List Nat) : Prop :=
  (∀ ys H, r.P ys r.len H → r.J.stop r.len H ∧ r.Fi ys H) ∧
  ∀ ys i H, i < r.len → r.P ys i H → r.J.go i H ∧ ∀ x H', r.J.yld i H x H' → g x σ H' fun σ2 H2 => L2.wipe σ2 vs = σ ∧ tt σ2 H2 fun b H3 => if b = true then te σ2 H3 fun y H4 => r.Yd ys y i H4 else r.P ys (i + 1) H3
theorem wipe_weak {σ σ2 : L2.St} {vs : List Nat} (h : L2.wipe σ2 vs = σ) : σ.length = σ2.length ∧ ∀ (i : Nat) v, σ[i]? = some (some v) → σ2[i]? = some (some v) := by
  subst h
  exact ⟨wipe_length _ _, fun i v e => (wipe_some e).1⟩
theorem seg_gn {G : GnW} {r : GnR} {elt tgE iter : Expr} {ifs : List Expr} {scope : Scope} {pos : Pos} {it : Addr} {g : TG} {tt : TT} {te : TE} {vs : List Nat} {k : Nat} {Aw : Around}
    (T : Turn G.X.prog G.X.w G.X.K tgE r.J G.fp it G.tn) (hc : G.X.calm = true) (hco : G.cenv.scope.isCoroutine = false) (hfp : ∀ b ∈ G.fp, b < G.s0.heap.objs.size) (hpn : ∀ q ∈ G.pn, G.s0.heap.objs.size ≤ q.1)
    (hd : Aw.handled = none) (hfr : Aw.frames = some G.X.stack) (hr : Room k (Aw.deeper G.cenv))
    (hg : ∀ Ag, Ag.handled = none → Room k Ag → PG (G.cx Ag) tgE g) (ht : ∀ Ag, Ag.handled = none → Room k Ag → PTs (G.cx Ag) ifs tt) (he : ∀ Ag, Ag.handled = none → Room k Ag → PE (G.cx Ag) elt te) (rd : GnT G.X r g tt te G.σ vs) :
    ∀ (k i n : Nat) (ys : List V) (H : Hp) (pl : List (Addr × Obj)) (s₀ s : Shared), r.len - i = k → i ≤ r.len → k ≤ n → (∀ p ∈ pl, s₀.heap.get? p.1 = some p.2) → r.Acc ys pl → GRest G pl i H s → r.P ys i H →
      Seg (model G.X.prog G.X.w) Aw (REx G r) (YEx G r) n s₀ (.compLoop (.GeneratorExp elt [⟨tgE, iter, ifs, 0⟩] scope pos) 0 (.ref it) .none G.cenv)
        ((model G.X.prog G.X.w).den (.compLoop (.GeneratorExp elt [⟨tgE, iter, ifs, 0⟩] scope pos) 0 (.ref it) .none G.cenv)) [] s := by
  have hd' : (Aw.deeper G.cenv).handled = none := hd
  have hfr' : (Aw.deeper G.cenv).frames = some (G.cenv :: G.X.stack) := Around.frames_deeper hfr
  have fpok : ∀ {pl : List (Addr × Obj)} {i : Nat} {H : Hp} {s : Shared}, GRest G pl i H s → ∀ {H' : Hp} {s' : Shared}, Inv (G.cx (Aw.deeper G.cenv)) pl G.σ H' s' → (∀ b ∈ G.fp, H' b = none) → ∀ b ∈ G.fp, FpOk (G.cx (Aw.deeper G.cenv)) pl H' b := fun {pl i H s} R {H' s'} I hn b hb => by
    refine ⟨hn b hb, (I.ok.exf b hb).1, I.ok.exfs b hb, .inl hb, fun x c e => (I.ok.exf b hb).2 x c e, fun p hp => ?_⟩
    have hlt := hfp b hb
    rcases List.mem_append.mp hp with z | z
    · exact fun e => Nat.lt_irrefl _ (Nat.lt_of_lt_of_le (by rw [← e] at hlt; exact hlt) (hpn p z))
    · exact fun e => Nat.lt_irrefl _ (Nat.lt_of_lt_of_le (by rw [← e] at hlt; exact hlt) (R.pv p z).1)
  intro kk
  induction kk with
  | zero =>
    intro i n ys H pl s₀ s hk hi hkn hs0 hacc R hP
    have hin : i = r.len := by omega
    subst hin
    obtain ⟨stop, fin⟩ := rd.1 ys H hP
    show Seg _ Aw _ _ _ s₀ _ ((compTurn (.GeneratorExp elt [⟨tgE, iter, ifs, 0⟩] scope pos) 0 (.ref it) .none G.cenv).onRaise (leaving G.cenv)) [] s
    rw [compTurn_gen, Sem.onRaise_eq_wrap]
    refine seg_bind_wrap (wpAny_standAt ?_)
    refine seg_bind_wrap ?_
    rw [over_comp]
    have I := R.inv _ hd' hfr'
    refine thnF (T.done (G.cx (Aw.deeper G.cenv)) rfl rfl rfl hc r.len pl s G.σ H (fun _ _ => False) I (fpok R I R.nf) R.tn stop) fun u s1 ⟨hu, I1⟩ => ?_
    subst hu
    exact seg_end (.ok .next) (.inl ⟨.inr rfl, ys, H, pl, hs0, hacc, R.pv, fun Ag d1 d2 => Inv.gnA I1 d1 d2, fin⟩)
  | succ kk ih =>
    intro i n ys H pl s₀ s hk hi hkn hs0 hacc R hP
    have hlt : i < r.len := by omega
    obtain ⟨go, step⟩ := rd.2 ys i H hlt hP
    show Seg _ Aw _ _ _ s₀ _ ((compTurn (.GeneratorExp elt [⟨tgE, iter, ifs, 0⟩] scope pos) 0 (.ref it) .none G.cenv).onRaise (leaving G.cenv)) [] s
    rw [compTurn_gen, Sem.onRaise_eq_wrap]
    refine seg_bind_wrap (wpAny_standAt ?_)
    refine seg_bind_wrap ?_
    rw [over_comp]
    have I := R.inv _ hd' hfr'
    refine thnF (T.item (G.cx (Aw.deeper G.cenv)) rfl rfl rfl hc i pl s G.σ H (fun _ _ => False) I (fpok R I R.nf) R.tn go) fun u s1 ⟨v, hu, h1⟩ => ?_
    subst hu
    refine seg_bind_wrap ?_
    rw [over_comp]
    refine thnF h1 fun _ s2 ⟨x, H2, I2, r2, y2, t2, n2⟩ => ?_
    have I2' := I2.pinned (fpok R I2 n2) (T.obj _ _ t2)
    refine seg_bind_wrap ?_
    rw [over_comp]
    refine thnF ((hg _ hd' hr).run _ s2 G.σ H2 x v _ I2' r2 (step x H2 y2)) fun _ s3 ⟨σ3, H3, I3, hw3, q3⟩ => ?_
    refine seg_bind_wrap ?_
    rw [over_comp]
    refine thnF ((ht _ hd' hr).run _ s3 σ3 H3 _ I3 q3) fun b s4 ⟨H4, I4, q4⟩ => ?_
    obtain ⟨w1, w2⟩ := wipe_weak hw3
    -- at rest behind the turn
    have rest : ∀ {s' : Shared} {H' : Hp}, Inv (G.cx (Aw.deeper G.cenv)) (pl ++ pinsAt G.fp s2.heap) σ3 H' s' → GRest G pl (i + 1) H' s' := fun {s' H'} I' => by
      have pin' : ∀ b ∈ G.fp, ∀ o, s2.heap.get? b = some o → s'.heap.get? b = some o ∧ H' b = none := fun b hb o e =>
        let z := I'.pin (b, o) (List.mem_append_right _ (List.mem_append_right _ (mem_pinsAt hb e)))
        ⟨z.1, z.2.1⟩
      refine ⟨fun Ag d1 d2 => Inv.gnA (I'.unpinned.weak w1 w2) d1 d2, T.keep _ _ _ t2 fun b hb o e => (pin' b hb o e).1, fun b hb => ?_, R.pv⟩
      obtain ⟨o, e, _⟩ := T.obj _ _ t2 b hb
      exact (pin' b hb o e).2
    cases b with
    | false =>
      simp only [Bool.false_eq_true, if_false] at q4 ⊢
      exact seg_again rfl (ih (i + 1) n ys H4 pl s₀ s4 (by omega) hlt (by omega) hs0 hacc (rest I4) q4)
    | true =>
      simp only [if_true] at q4 ⊢
      obtain ⟨n, rfl⟩ : ∃ m, n = m + 1 := ⟨n - 1, by omega⟩
      have hy : ∀ v, yieldOut G.cenv v = yieldValue v := fun v => by simp only [yieldOut, hco, Bool.false_eq_true, if_false]
      simp only [hy]
      rw [Sem.bind_eq_wrap', Sem.bind_eq_wrap', Sem.wrap_wrap, Sem.wrap_wrap]
      refine seg_wrap ?_
      rw [over_comp]
      refine thnF ((he _ hd' hr).run _ s4 σ3 H4 _ I4 q4) fun yv s5 ⟨y, H5, I5, r5, q5⟩ => ?_
      refine seg_at (seg_yield rfl rfl rfl ⟨ys, y, i, H5, pl, hs0, hlt, r5, hacc, rest I5, q5, fun hP' pl' s'' hacc' z => ?_⟩)
      exact seg_again rfl (ih (i + 1) n (ys ++ [y]) H5 pl' s'' s'' (by omega) hlt (by omega) (fun p hp => (z.at_ p hp).1) hacc' ((rest I5).slp z hfp T.keep) hP')
end Ev
end
section
set_option linter.all false
set_option autoImplicit false
set_option maxRecDepth 100000
set_option maxHeartbeats 1000000
/-! Ev, part GC: a generator expression is asked for its next. -/
namespace Ev
open PySem PySem.Spec PyProof.Rows L2

theorem seg_gnStart {G : GnW} {r : GnR} {elt tgE iter : Expr} {ifs : List Expr} {scope : Scope} {pos : Pos} {it : Addr} {Aw : Around} {n : Nat} {s₀ s : Shared}
    (T : Turn G.X.prog G.X.w G.X.K tgE r.J G.fp it G.tn) (ht : G.tn 0 s.heap)
    (loop : Seg (model G.X.prog G.X.w) Aw (REx G r) (YEx G r) n s₀ (.compLoop (.GeneratorExp elt [⟨tgE, iter, ifs, 0⟩] scope pos) 0 (.ref it) .none G.cenv)
        ((model G.X.prog G.X.w).den (.compLoop (.GeneratorExp elt [⟨tgE, iter, ifs, 0⟩] scope pos) 0 (.ref it) .none G.cenv)) [] s) :
    Seg (model G.X.prog G.X.w) Aw (REx G r) (YEx G r) n s₀ (.compStart (.GeneratorExp elt [⟨tgE, iter, ifs, 0⟩] scope pos) 0 (.ref it) .none G.cenv)
        ((model G.X.prog G.X.w).den (.compStart (.GeneratorExp elt [⟨tgE, iter, ifs, 0⟩] scope pos) 0 (.ref it) .none G.cenv)) [] s := by
  show Seg _ Aw _ _ _ s₀ _ ((compStart (.GeneratorExp elt [⟨tgE, iter, ifs, 0⟩] scope pos) 0 (.ref it) .none G.cenv).onRaise (leaving G.cenv)) [] s
  unfold compStart
  rw [Sem.onRaise_eq_wrap]
  show Seg _ Aw _ _ _ s₀ _ ((ask >>= _).wrap _ _ _ _) [] s
  refine seg_bind_wrap (wpAny_askSetting ?_)
  split
  · exact seg_again rfl loop
  · refine seg_bind_wrap (wpAny_rule ?_)
    show Seg _ Aw _ _ _ s₀ _ ((standAt iter.pos >>= _).wrap _ _ _ _) [] s
    exact seg_bind_wrap (wpAny_standAt (seg_bind_wrap (T.self _ 0 s _ _ ht (seg_again rfl loop))))
/-- it may be asked: n at most are left -/
structure GnAt (G : GnW) (r : GnR) (A : Around) (a : Addr) (g n : Nat) (s : Shared) : Prop where
  gen : s.heap.IsGen a g
  lim : s.heap.NoLimit
  go : ∃ gs, s.gens[g]? = some gs ∧ gs.Goes (model G.X.prog G.X.w) A.in1 (REx G r) (YEx G r) n (.send .none) (s.setGen g .running)
structure GnOb (G : GnW) (a : Addr) (g : Nat) : Prop where
  ob : ∃ go, (a, go) ∈ G.pn ∧ ∀ h : Heap, h.get? a = some go → h.IsGen a g
theorem gn_next {G : GnW} {r : GnR} {A : Around} {a : Addr} {g n : Nat} {s : Shared} {Q : Option Value → Shared → Prop} {E : Value → Shared → Prop} (hh : A.handled = none) (hroom : A.depth < recursionLimit) (ob : GnOb G a g) (hfp : ∀ b ∈ G.fp, b < G.s0.heap.objs.size)
    (tk : ∀ i h h', G.tn i h → (∀ b ∈ G.fp, ∀ o, h.get? b = some o → h'.get? b = some o) → G.tn i h') (hA : ∃ Ag : Around, Ag.handled = none ∧ Ag.frames = some (G.cenv :: G.X.stack)) (S : GnAt G r A a g n s)
    (hY : ∀ v s1 ys y i H pl, (∀ p ∈ pl, s.heap.get? p.1 = some p.2) → i < r.len → RelV y v → r.Acc ys pl → GRest G pl (i + 1) H s1 → r.Yd ys y i H →
      (r.P (ys ++ [y]) (i + 1) H → ∀ pl' s2, s2.gens = s1.gens → r.Acc (ys ++ [y]) pl' → Slp pl pl' s1 s2 → ∃ m, n = m + 1 ∧ GnAt G r A a g m s2) → Q (some v) s1)
    (hF : ∀ s1 ys H pl, (∀ p ∈ pl, s.heap.get? p.1 = some p.2) → r.Acc ys pl → Priv G pl → (∀ Ag : Around, Ag.handled = none → Ag.frames = some (G.cenv :: G.X.stack) → Inv (G.cx Ag) pl G.σ H s1) → r.Fi ys H → Q none s1) :
    wpAny (model G.X.prog G.X.w) A (pyNext (.ref a)) Q E s := by
  obtain ⟨gs, hgs, hgo⟩ := S.go
  obtain ⟨go, hgo1, hgo2⟩ := ob.ob
  have hgl : g < s.gens.size := (Array.getElem?_eq_some_iff.mp hgs).1
  have reb : ∀ {pl : List (Addr × Obj)} {H : Hp} {s1 : Shared} {x : GenState} {h' : Heap}, x.bare = true → (∀ b o, s1.heap.get? b = some o → h'.get? b = some o) → (∀ Ag : Around, Ag.handled = none → Ag.frames = some (G.cenv :: G.X.stack) → Inv (G.cx Ag) pl G.σ H s1) →
      ∀ Ag : Around, Ag.handled = none → Ag.frames = some (G.cenv :: G.X.stack) → Inv (G.cx Ag) pl G.σ H { s1.setGen g x with heap := h' } := fun {pl H s1 x h'} hx hk hI Ag d1 d2 => by
    have I := hI Ag d1 d2
    have J := I.call (ch := []) (g' := (s1.setGen g x).gens) (d' := (s1.setGen g x).drawn) (t' := (s1.setGen g x).toks) (Un.kept hk) (I.hok.kept hk) (allBare_setGen I.bare hx) (fun b hb => by simp at hb)
    exact J
  refine GenW.wpAny_gsz (n := g + 1) hgl (next_genG hh S.lim hroom S.gen hgs (F := GnEnd G r) (Er := fun _ _ => False) hgo
    (fun v s₁ gs' hb hv => ?_) (fun s₁ hp h' hk => ?_) fun e s₁ he => he.elim)
  · obtain ⟨ys, y, i, H, pl, h0, h1, h2, h3, R, h5, h6⟩ := hv
    have R' : GRest G pl (i + 1) H (s₁.setGen g gs') := ⟨fun Ag d1 d2 => reb (h' := s₁.heap) hb (fun _ _ e => e) R.inv Ag d1 d2, R.tn, R.nf, R.pv⟩
    intro hsz
    refine hY v _ ys y i H pl h0 h1 h2 h3 R' h5 fun hP pl' s2 hg2 hacc z => ?_
    obtain ⟨Ag, d1, d2⟩ := hA
    have R2 := R'.slp z hfp tk
    have I2 := R2.inv Ag d1 d2
    have hgs' : s2.gens[g]? = some gs' := by
      rw [hg2]
      refine setGen_at ?_
      have q : (s₁.setGen g gs').gens.size = s₁.gens.size := GenW.setGen_size _ _ _
      have hsz' : g + 1 ≤ (s₁.setGen g gs').gens.size := hsz
      omega
    have fin : Slp pl pl' s₁ (s2.setGen g .running) := ⟨z.os, allBare_setGen z.bare rfl, z.same, z.keep, z.at_⟩
    have h6 := h6 hP pl' (s2.setGen g .running) hacc fin
    cases n with
    | zero => exact h6.elim
    | succ m => exact ⟨m, rfl, hgo2 _ (I2.pin (a, go) (List.mem_append_left _ hgo1)).1, I2.nolimit, gs', hgs', h6⟩
  · obtain ⟨ys, H, pl, h0, h3, pv, hI, h5⟩ := hp
    intro _
    exact hF _ ys H pl h0 h3 pv (reb rfl hk hI) h5
end Ev
end
section
set_option linter.all false
set_option autoImplicit false
set_option maxRecDepth 100000
set_option maxHeartbeats 1000000
/-! Ev, part GD: sum of a generator expression. -/
namespace Ev
open PySem PySem.Spec PyProof.Rows L2

def vInt : V → Int
  | .int i => i
  | _ => 0
def sumV (ys : List V) : Int := (ys.map vInt).sum
theorem sumV_snoc (ys : List V) (z : Int) : sumV (ys ++ [.int z]) = sumV ys + z := by simp [sumV, vInt, List.sum_append]
def sumO (i : Int) (t : Tok) (c : Nat) : Obj := { cls := .type "list", dict := none, data := .seq #[.int i t] c, slots := #[] }
theorem sumO_inj {i j : Int} {t u : Tok} {c d : Nat} (h : sumO i t c = sumO j u d) : i = j := by
  unfold sumO at h
  simp at h
  exact h.1.1
def sumAcc (S : Addr) (ys : List V) (pl : List (Addr × Obj)) : Prop := ∃ t c, pl = [(S, sumO (sumV ys) t c)]
section
variable {G : GnW} {r : GnR} {S a : Addr} {g : Nat}
theorem sum_gn {A : Around} {R : Result → Shared → Prop} (hh : A.handled = none) (hroom : A.depth < recursionLimit) (ob : GnOb G a g) (hfp : ∀ b ∈ G.fp, b < G.s0.heap.objs.size)
    (tk : ∀ i h h', G.tn i h → (∀ b ∈ G.fp, ∀ o, h.get? b = some o → h'.get? b = some o) → G.tn i h') (hA : ∃ Ag : Around, Ag.handled = none ∧ Ag.frames = some (G.cenv :: G.X.stack)) (hacc : r.Acc = sumAcc S)
    (hYd : ∀ ys y i H, r.Yd ys y i H → ∃ z, y = .int z ∧ r.P (ys ++ [y]) (i + 1) H)
    (hR : ∀ s' ys t' H pl, Priv G pl → (∀ Ag : Around, Ag.handled = none → Ag.frames = some (G.cenv :: G.X.stack) → Inv (G.cx Ag) pl G.σ H s') → r.Fi ys H → R (.ok (.ret (.int (sumV ys) t'))) s') :
    ∀ (n : Nat) (i0 : Int) (s : Shared) (tA : Tok) (c : Nat) (st : Int), (st = 0 ∨ st = 2) → GnAt G r A.in1 a g n s → s.heap.get? S = some (sumO i0 tA c) →
      codeAny (model G.X.prog G.X.w) A (.builtin "sum.loop" ⟨[.ref a, .ref S, rawInt st, rawInt 0], []⟩) R s := by
  have main : ∀ (n : Nat), (∀ m, n = m + 1 → ∀ (i0 : Int) (s : Shared) (tA : Tok) (c : Nat) (st : Int), (st = 0 ∨ st = 2) → GnAt G r A.in1 a g m s → s.heap.get? S = some (sumO i0 tA c) → codeAny (model G.X.prog G.X.w) A (.builtin "sum.loop" ⟨[.ref a, .ref S, rawInt st, rawInt 0], []⟩) R s) →
      ∀ (i0 : Int) (s : Shared) (tA : Tok) (c : Nat) (st : Int), (st = 0 ∨ st = 2) → GnAt G r A.in1 a g n s → s.heap.get? S = some (sumO i0 tA c) → codeAny (model G.X.prog G.X.w) A (.builtin "sum.loop" ⟨[.ref a, .ref S, rawInt st, rawInt 0], []⟩) R s := by
    intro n ih i0 s tA c st hst2 hat hS
    refine codeAny_builtin F.entry_sum_loop ?_
    rw [Around.under_plainId F.plain_sum_loop _]
    show wpAny _ A.in1 (seqItems? (.ref S) >>= _) _ _ s
    refine wpAny_bind (wpAny_seqItems hS rfl ?_)
    show wpAny _ A.in1 (tryCatch (pyNext (.ref a)) _ >>= _) _ _ s
    refine wpAny_bind (wpAny_tryCatch (gn_next (A := A.in1) hh hroom ob hfp tk hA hat (fun v s1 ys y i H pl h0 hlt rv hac rest yd hk => ?_) (fun s1 ys H pl h0 hac pv hI fi => ?_)))
    · rw [hacc] at hac
      obtain ⟨t0, c0, rfl⟩ := hac
      have e0 := h0 _ (List.mem_singleton.mpr rfl)
      have e1 : some (sumO (sumV ys) t0 c0) = some (sumO i0 tA c) := e0.symm.trans hS
      have e2 := sumO_inj (Option.some.inj e1)
      obtain ⟨z, rfl, hP⟩ := hYd _ _ _ _ yd
      obtain ⟨t, rfl⟩ : ∃ t, v = .int z t := rv
      obtain ⟨Ag, d1, d2⟩ := hA
      have hS' : s1.heap.get? S = some (sumO (sumV ys) t0 c0) := ((rest.inv Ag d1 d2).pin (S, _) (List.mem_append_right _ (List.mem_singleton.mpr rfl))).1
      have bare1 : AllBare s1.gens := (rest.inv Ag d1 d2).bare
      have fin : ∀ (h2 : Heap) (tk2 : Nat) (t2 : Tok) (c2 : Nat) (st2 : Int), (st2 = 0 ∨ st2 = 2) → (∀ b o, b ≠ S → s1.heap.get? b = some o → h2.get? b = some o) → h2.get? S = some (sumO (i0 + z) t2 c2) →
          codeAny (model G.X.prog G.X.w) A (.builtin "sum.loop" ⟨[.ref a, .ref S, rawInt st2, rawInt 0], []⟩) R { s1 with heap := h2, toks := tk2 } := fun h2 tk2 t2 c2 st2 hst hk2 hS2 => by
        have hs2 : sumV (ys ++ [.int z]) = i0 + z := by rw [sumV_snoc, e2]
        obtain ⟨m, hm, hat2⟩ := hk hP [(S, sumO (i0 + z) t2 c2)] { s1 with heap := h2, toks := tk2 } rfl (by rw [hacc]; exact ⟨t2, c2, by rw [hs2]⟩)
          ⟨rfl, bare1, rfl, fun b o hb e => hk2 b o (fun hbS => hb (by simp [hbS])) e, fun p hp => by rw [List.mem_singleton.mp hp]; exact ⟨hS2, fun v q => by cases q⟩⟩
        exact ih m hm (i0 + z) _ t2 c2 st2 hst hat2 hS2
      rw [e2] at hS'
      have other : ∀ {h : Heap} {f : Obj → Obj} {b : Addr} {o : Obj}, b ≠ S → h.get? b = some o → (h.update S f).get? b = some o := fun hb e => (Heap.get?_update_other _ _ (Ne.symm hb)).trans e
      rcases hst2 with rfl | rfl
      · show wpAny _ A.in1 (if (_ : Bool) = true then (mkInt (i0 + z) >>= _) else _) _ _ _
        split
        · refine wpAny_bind (wpAny_mkInt ?_)
          show wpAny _ A.in1 (updateSeq S (fun _ => #[.int (i0 + z) s1.toks]) >>= _) _ _ _
          exact wpAny_bind (wpAny_updateSeq hS' rfl (wpAny_pure ⟨plainId_quiet F.plain_sum_loop _, fin _ _ s1.toks _ 0 (.inl rfl) (fun b o hb e => other hb e) (Heap.get?_update_self _ hS' rfl)⟩))
        · refine wpAny_bind (wpAny_rule (wpAny_bind (wpAny_attempt (wpAny_holding (wpAny_add_int ?_)))))
          show wpAny _ A.in1 (updateSeq S (fun _ => #[.int (i0 + z) s1.toks]) >>= _) _ _ _
          refine wpAny_bind (wpAny_updateSeq hS' rfl ?_)
          have hS₂ := Heap.get?_update_self (Obj.mapSeq fun _ => #[Value.int (i0 + z) s1.toks]) hS' rfl
          refine wpAny_bind (wpAny_letGo (wpAny_bind (wpAny_updateSeq hS₂ rfl ?_)))
          exact wpAny_pure ⟨plainId_quiet F.plain_sum_loop _, fin _ _ s1.toks _ 2 (.inr rfl) (fun b o hb e => other hb (other hb e)) (Heap.get?_update_self _ hS₂ rfl)⟩
      · show wpAny _ A.in1 ((holding [Value.int z t] (binaryOp .Add (.int i0 tA) (.int z t))).attempt >>= _) _ _ _
        refine wpAny_bind (wpAny_attempt (wpAny_holding (wpAny_add_int ?_)))
        show wpAny _ A.in1 (updateSeq S (fun _ => #[.int (i0 + z) s1.toks]) >>= _) _ _ _
        refine wpAny_bind (wpAny_updateSeq hS' rfl ?_)
        have hS₂ := Heap.get?_update_self (Obj.mapSeq fun _ => #[Value.int (i0 + z) s1.toks]) hS' rfl
        refine wpAny_bind (wpAny_letGo (wpAny_bind (wpAny_updateSeq hS₂ rfl ?_)))
        exact wpAny_pure ⟨plainId_quiet F.plain_sum_loop _, fin _ _ s1.toks _ 2 (.inr rfl) (fun b o hb e => other hb (other hb e)) (Heap.get?_update_self _ hS₂ rfl)⟩
    · rw [hacc] at hac
      obtain ⟨t0, c0, rfl⟩ := hac
      have e0 := h0 _ (List.mem_singleton.mpr rfl)
      have e1 : some (sumO (sumV ys) t0 c0) = some (sumO i0 tA c) := e0.symm.trans hS
      have e2 := sumO_inj (Option.some.inj e1)
      refine wpAny_pure ?_
      rw [← e2]
      exact hR s1 ys tA H _ pv hI fi
  intro n
  induction n with
  | zero => exact main 0 fun m e => by cases e
  | succ m ih => exact main (m + 1) fun m' e => by cases e; exact ih
end
end Ev
end
section
set_option linter.all false
set_option autoImplicit false
set_option maxRecDepth 100000
set_option maxHeartbeats 1000000
/-! Ev, part GE: a generator expression is made. -/
namespace Ev
open PySem PySem.Spec PyProof.Rows L2

/-- the table at P may have grown -/
def TabX (P : Addr) (H H' : Hp) : Prop := GxR.Tabbed P H H' ∧ ∃ ps more : Array Value, H P = some (.tbl ps) ∧ H' P = some (.tbl (ps ++ more))
structure GnMade (X : Cx) (pins : List (Addr × Obj)) (σ : L2.St) (H1 : Hp) (scope : Scope) (tgE elt iter : Expr) (ifs : List Expr) (pos : Pos) (J : It) (a : Addr) (s5 : Shared) : Prop where
  ex : ∃ (s4 : Shared) (fp : List Addr) (tn : Nat → Heap → Prop) (it : Addr) (code : Value) (go : Obj) (mm : Str → Option Value) (g : Nat), Inv X pins σ H1 s4 ∧ s5.os = s4.os ∧ AllBare s5.gens ∧ (∀ b o, s4.heap.get? b = some o → s5.heap.get? b = some o) ∧ s4.heap.objs.size < a ∧ a < s5.heap.objs.size ∧ s5.heap.get? a = some go ∧
    (∀ h : Heap, h.get? a = some go → h.IsGen a g) ∧ (∀ v, go.data ≠ .cell v) ∧ s5.heap.Ns s4.heap.objs.size mm ∧ Turn X.prog X.w X.K tgE J fp it tn ∧ tn 0 s5.heap ∧ (∀ b ∈ fp, FpOk X pins H1 b ∧ b < s4.heap.objs.size) ∧
    s5.gens[g]? = some (.fresh (.compStart (.GeneratorExp elt [⟨tgE, iter, ifs, 0⟩] scope pos) 0 (.ref it) .none (genEnv scope (cloFrom X.env.cells scope.names []) s4.heap.objs.size code builtinsNs X.env)))
section
variable {X : Cx} {pins : List (Addr × Obj)} {σ : L2.St} {H : Hp} {s : Shared}
theorem gen_made {c P : Addr} {elt iter tgE : Expr} {ifs : List Expr} {gpos : Pos} {scope : Scope} {own : List (Str × Nat)} {wi : TI} {Q' : Value → Shared → Prop} {Rq : It → Hp → Prop}
    (hd : X.A.depth < recursionLimit) (TB : GxR.TabB X.base X.mg c P) (hcode : X.env.code = .ref c) (S : GnOk X.N X.env.scope scope own) (hi : PI X tgE iter wi)
    (hs : ∀ v, genFold iter X.env v = pure v) (I : Inv X pins σ H s) (h : wi σ H fun J H1 => GxR.TabG H1 P ∧ ∀ H2, TabX P H1 H2 → Rq J H2)
    (hQ : ∀ J H2 a s5, Rq J H2 → GnMade X pins σ H2 scope tgE elt iter ifs gpos J a s5 → Q' (.ref a) s5) :
    wpAny (model X.prog X.w) X.A (eval (.GeneratorExp elt [⟨tgE, iter, ifs, 0⟩] scope gpos) X.env) Q' X.xe s := by
  have hfree : ∀ y ∈ scope.names, y.2 = .free → ∃ c, X.env.cells.lookup y.1 = some c := fun y hy e => by
    rcases S.free y hy e with k | k
    · exact I.ok.has _ (.inl k)
    · exact I.ok.has _ (.inr k)
  refine wpAny_GeneratorExp_make S.co (closure_ok hfree) S.nocell S.dot S.kind hd (thn (hi.run pins s σ H _ I h) fun xv s1 hx => thn hx fun itv s2 h2 => ?_) hs
  obtain ⟨it, fp, tn, J, H1, e, I2, T, st2, f2, ⟨ps, hP, ht⟩, q⟩ := h2
  subst e
  have hPs : s2.heap.get? P = some { cls := .none, data := .fields ps } := I2.hok P _ hP
  have hPlt : P < s2.heap.objs.size := Heap.lt_size hPs
  have cd : PySem.W.CodeHd s2.heap c P := TB.code.keeps I2.bk
  have nP : ∀ b ∈ fp, b ≠ P := fun b hb z => by
    have := (f2 b hb).1
    rw [z, hP] at this
    cases this
  have cont : ∀ (code : Value) (s3 : Shared) (H2 : Hp), TabX P H1 H2 → Inv X pins σ H2 s3 → (∀ b o, b ≠ P → s2.heap.get? b = some o → s3.heap.get? b = some o) → s2.heap.objs.size ≤ s3.heap.objs.size →
      wpAny (model X.prog X.w) X.A (builtinsFor X.env.globals X.env.builtins) (fun bi s₄ => ∀ h', h'.Ns s₄.heap.objs.size (fun y => if y = ".0" then some (.ref it) else none) → Heap.SameBut s₄.heap.objs.size (s₄.heap.push { cls := .type "frame", data := .dict #[] }) h' →
          Q' (.ref h'.objs.size) { s₄ with
            gens := s₄.gens.push (.fresh (.compStart (.GeneratorExp elt [⟨tgE, iter, ifs, 0⟩] scope gpos) 0 (.ref it) .none (genEnv scope (cloFrom X.env.cells scope.names []) s₄.heap.objs.size code bi X.env))),
            toks := s₄.toks + 1 + 1 + 1,
            heap := h'.push { cls := .type "generator", data := .fields #[.int s₄.gens.size 0, .str "<genexpr>" (s₄.toks + 1), .str (X.env.qual ++ "<genexpr>") (s₄.toks + 1 + 1)] } }) X.xe s3 := by
    intro code s3 H2 hT I3 k23 hsz
    obtain ⟨bm, ob, e1, e2, e3, e4, e5, e6, e7, e8⟩ := TB.bm
    refine wpAny_builtinsFor (m := X.mg) (by rw [I3.ok.glob]; exact I3.mod.glob.keeps I3.bk) e1 e2 (I3.bk _ _ e5) e6 e7 e8 ?_
    intro h' hn' hs'
    have keep' : ∀ b o, s3.heap.get? b = some o → h'.get? b = some o := fun b o e => hs'.extBut b o (Nat.ne_of_lt (Heap.lt_size e)) (Heap.get?_push_of_some _ e)
    have hsz' : h'.objs.size = s3.heap.objs.size + 1 := by rw [hs'.1, Heap.size_push]
    have fp3 : ∀ b ∈ fp, FpOk X pins H2 b ∧ b < s3.heap.objs.size := fun b hb => by
      obtain ⟨o, eo, _⟩ := T.obj _ _ st2 b hb
      refine ⟨⟨?_, (f2 b hb).2⟩, Nat.lt_of_lt_of_le (Heap.lt_size eo) hsz⟩
      rw [hT.1.2 b (nP b hb)]
      exact (f2 b hb).1
    refine hQ J H2 _ _ (q H2 hT) ⟨s3, fp, tn, it, code, _, _, s3.gens.size, I3, rfl, AllBare.push I3.bare rfl, fun b o e => Heap.get?_push_of_some _ (keep' b o e), by omega, ?_, Heap.get?_push_size _ rfl, fun h e => ⟨_, _, _, e, rfl, rfl, rfl⟩, (fun v z => by cases z), hn'.push _, T, ?_, fp3, Array.getElem?_push_size ..⟩
    · show h'.objs.size < (h'.push _).objs.size
      rw [Heap.size_push]
      exact Nat.lt_succ_self _
    · exact T.keep _ _ _ st2 fun b hb o e => Heap.get?_push_of_some _ (keep' b o (k23 b o (nP b hb) e))
  refine ⟨I2.nolimit, ?_⟩
  cases hf : codeAmong gpos ps.toList with
  | none =>
    refine wpAny_genexprCodeX hcode (cd.code hPs ht) (cd.tab hPs) hf fun c' h' tk hx hge hlt hco' _ htab' _ => ?_
    obtain ⟨o1, vs, f1, tf, fl, tg, inF, tx, tt, op, _, _, _, _, _, _, _, _, _, htr, _⟩ := hco'
    have J3 := GxR.inv_tab (g' := s2.gens) (d' := s2.drawn) (t' := tk) (more := #[rawInt gpos.line, rawInt gpos.col, .ref c']) (h' := h') I2 hP (fun b o hb e => hx b o hb e) htab'.2 I2.bare
    exact cont _ { s2 with heap := h', toks := tk } _ ⟨⟨⟨_, upd_same, htr⟩, fun b hb => upd_ne hb⟩, ps, _, hP, upd_same⟩ J3 (fun b o hb e => hx b o hb e) (Nat.le_trans hge (Nat.le_of_lt hlt))
  | some cv =>
    refine wpAny_genexprCode_hit hcode (cd.code hPs ht) hf ?_
    exact cont cv s2 H1 ⟨⟨⟨ps, hP, ht⟩, fun _ _ => rfl⟩, ps, #[], hP, by rw [hP]; simp⟩ I2 (fun _ _ _ e => e) (Nat.le_refl _)
theorem Inv.gnP {Ag : Around} {s0 : Shared} {H0 : Hp} {cenv : Env} {fp : List Addr} {pn pl : List (Addr × Obj)} (I : Inv (gnCx X Ag s0 H0 cenv fp []) [] σ H s)
    (h : ∀ p ∈ pn ++ pl, s.heap.get? p.1 = some p.2 ∧ H p.1 = none ∧ p.1 ≠ cenv.locals ∧ p.1 ∉ frs X.stack ∧ ∀ v, p.2.data ≠ .cell v) : Inv (gnCx X Ag s0 H0 cenv fp pn) pl σ H s :=
  ⟨⟨I.ok.mod, I.ok.kind, I.ok.glob, I.ok.blt, I.ok.above, I.ok.inj, I.ok.has, I.ok.cab, I.ok.hd, I.ok.frames, I.ok.stk, I.ok.exf, I.ok.bs, I.ok.bsz, I.ok.noex, I.ok.exfs, I.ok.funs, I.ok.frf⟩, I.os, I.bare, I.base, I.loc, I.cell, I.free, I.freeC, h, I.hok, I.len⟩
/-- a made one may be asked, at a later state, by one with things of its own -/
theorem gn_at {elt iter tgE : Expr} {ifs : List Expr} {gpos : Pos} {scope : Scope} {own : List (Str × Nat)} {J : It} {a : Addr} {s5 s6 : Shared} {r : GnR} {A : Around} {k : Nat} {g : TG} {tt : TT} {te : TE} {pl : List (Addr × Obj)}
    (M : GnMade X pins σ H scope tgE elt iter ifs gpos J a s5) (S : GnOk X.N X.env.scope scope own) (hN : X.N.Nodup) (hc : X.calm = true) (hJ : r.J = J)
    (hd : A.handled = none) (hfr : A.frames = some X.stack) (hr : ∀ env, Room k (A.in1.deeper env)) (kp : ∀ b o, s5.heap.get? b = some o → s6.heap.get? b = some o) (hgs : s6.gens = s5.gens) (hos : s6.os = s5.os)
    (hpl : ∀ p ∈ pl, s5.heap.objs.size ≤ p.1 ∧ s6.heap.get? p.1 = some p.2 ∧ ∀ v, p.2.data ≠ .cell v) (hacc : r.Acc [] pl) (hP : r.P [] 0 H)
    (hg : ∀ (Ag : Around) (s0 : Shared) (H0 : Hp) (C : Addr) (code : Value) (fp : List Addr) (pn : List (Addr × Obj)), Ag.handled = none → Room k Ag → PG (gnCx X Ag s0 H0 (genEnv scope (cloFrom X.env.cells scope.names []) C code builtinsNs X.env) fp pn) tgE g)
    (ht : ∀ (Ag : Around) (s0 : Shared) (H0 : Hp) (C : Addr) (code : Value) (fp : List Addr) (pn : List (Addr × Obj)), Ag.handled = none → Room k Ag → PTs (gnCx X Ag s0 H0 (genEnv scope (cloFrom X.env.cells scope.names []) C code builtinsNs X.env) fp pn) ifs tt)
    (he : ∀ (Ag : Around) (s0 : Shared) (H0 : Hp) (C : Addr) (code : Value) (fp : List Addr) (pn : List (Addr × Obj)), Ag.handled = none → Room k Ag → PE (gnCx X Ag s0 H0 (genEnv scope (cloFrom X.env.cells scope.names []) C code builtinsNs X.env) fp pn) elt te)
    (rd : GnT X r g tt te (L2.wipe σ (own.map (·.2))) (own.map (·.2))) :
    ∃ (G : GnW) (gn : Nat), G.X = X ∧ G.s0.heap.objs.size ≤ s5.heap.objs.size ∧ GnOb G a gn ∧ (∀ b ∈ G.fp, b < G.s0.heap.objs.size) ∧ (∀ i h h', G.tn i h → (∀ b ∈ G.fp, ∀ o, h.get? b = some o → h'.get? b = some o) → G.tn i h') ∧ (∃ Ag : Around, Ag.handled = none ∧ Ag.frames = some (G.cenv :: G.X.stack)) ∧
      GnAt G r A a gn r.len s6 ∧ ∀ (Ag : Around) (pl : List (Addr × Obj)) (H' : Hp) (s' : Shared), Inv (G.cx Ag) pl G.σ H' s' → Inv X pins σ H' s' := by
  obtain ⟨s4, fp, tn, it, code, go, mm, gn, I4, os5, bare5, k45, ha1, ha2, hgo, hgo2, hgd, hns, T, st5, f4, hgen⟩ := M.ex
  have hszA : ∀ b, b < s4.heap.objs.size → b ≠ a := fun b hb => Nat.ne_of_lt (Nat.lt_trans hb ha1)
  have hd1 : A.in1.handled = none := hd
  have hfr1 : A.in1.frames = some X.stack := hfr
  have s45 : s4.heap.objs.size ≤ s5.heap.objs.size := Nat.le_of_lt (Nat.lt_trans ha1 ha2)
  have k46 : ∀ b o, s4.heap.get? b = some o → s6.heap.get? b = some o := fun b o e => kp b o (k45 b o e)
  have young : ∀ b, s4.heap.objs.size < b → H b = none ∧ b ∉ frs X.stack := fun b hb => by
    refine ⟨I4.hok.fresh (Nat.le_of_lt hb), fun hm => ?_⟩
    rcases List.mem_cons.mp (I4.stkSub b hm) with z | z
    · have := I4.lt
      rw [← z] at this
      exact Nat.lt_irrefl _ (Nat.lt_trans this hb)
    · exact I4.nofs (Nat.le_of_lt hb) z
  let cenv := genEnv scope (cloFrom X.env.cells scope.names []) s4.heap.objs.size code builtinsNs X.env
  let G : GnW := ⟨X, s4, H, cenv, fp, [(a, go)], L2.wipe σ (own.map (·.2)), tn⟩
  have big : ∀ p ∈ [(a, go)] ++ pl, s4.heap.objs.size < p.1 ∧ s6.heap.get? p.1 = some p.2 ∧ ∀ v, p.2.data ≠ .cell v := fun p hp => by
    rcases List.mem_append.mp hp with z | z
    · rw [List.mem_singleton.mp z]
      exact ⟨ha1, kp _ _ hgo, hgd⟩
    · obtain ⟨h1, h2, h3⟩ := hpl p z
      exact ⟨Nat.lt_of_lt_of_le (Nat.lt_trans ha1 ha2) h1, h2, h3⟩
  have inv6 : ∀ (x : Array GenState), AllBare x → ∀ Ag : Around, Ag.handled = none → Ag.frames = some (cenv :: X.stack) → Inv (G.cx Ag) pl G.σ H { s6 with gens := x } := fun x hx Ag d1 d2 => by
    have J6 := gn_start (Ag := Ag) (h' := s6.heap) (g' := x) (t' := s6.toks) (d' := s6.drawn) I4 S hN rfl f4 d1 d2 (hns.at' fun o e => kp _ _ e) k46 hx
    have e6 : ({ s4 with heap := s6.heap, gens := x, drawn := s6.drawn, toks := s6.toks } : Shared) = { s6 with gens := x } := by
      have ho : s6.os = s4.os := hos.trans os5
      cases s6
      cases ho
      rfl
    rw [e6] at J6
    refine Inv.gnP J6 fun p hp => ?_
    obtain ⟨h1, h2, h3⟩ := big p hp
    obtain ⟨y1, y2⟩ := young p.1 h1
    exact ⟨h2, y1, Nat.ne_of_gt h1, y2, h3⟩
  have pv : Priv G pl := fun p hp => by
    obtain ⟨h1, h2, h3⟩ := hpl p hp
    refine ⟨Nat.le_trans s45 h1, fun q hq => ?_, h3⟩
    have hq : q ∈ [(a, go)] := hq
    rw [List.mem_singleton.mp hq]
    exact Nat.ne_of_lt (Nat.lt_of_lt_of_le ha2 h1)
  have tk := T.keep
  have bare6 : AllBare s6.gens := by rw [hgs]; exact bare5
  refine ⟨G, gn, rfl, s45, ⟨go, List.mem_singleton.mpr rfl, hgo2⟩, fun b hb => (f4 b hb).2, tk, ⟨A.in1.deeper cenv, hd1, Around.frames_deeper hfr1⟩, ⟨hgo2 _ (kp _ _ hgo), ?_, .fresh _, by rw [hgs]; exact hgen, ⟨rfl, ?_⟩⟩, fun Ag pl H' s' I' => ?_⟩
  · exact (inv6 s6.gens bare6 (A.in1.deeper cenv) hd1 (Around.frames_deeper hfr1)).nolimit
  · subst hJ
    have rest : GRest G pl 0 H (s6.setGen gn .running) := ⟨inv6 (s6.setGen gn .running).gens (allBare_setGen (x := .running) bare6 rfl), tk _ _ _ st5 fun b _ o e => kp b o e, fun b hb => (f4 b hb).1.1, pv⟩
    refine seg_gnStart T rest.tn (seg_gn (k := k) T hc S.co (fun b hb => (f4 b hb).2) (fun q hq => ?_) hd1 hfr1 (hr _) (fun Ag d1 d2 => hg Ag _ _ _ _ _ _ d1 d2) (fun Ag d1 d2 => ht Ag _ _ _ _ _ _ d1 d2) (fun Ag d1 d2 => he Ag _ _ _ _ _ _ d1 d2) rd r.len 0 r.len [] H pl _ _ (Nat.sub_zero _) (Nat.zero_le _) (Nat.le_refl _) (fun p hp => (hpl p hp).2.1) hacc rest hP)
    have hq : q ∈ [(a, go)] := hq
    rw [List.mem_singleton.mp hq]
    exact Nat.le_of_lt ha1
  · exact I4.call' (ch := fp) I'.os I'.base I'.hok I'.bare fun b hb => ⟨(f4 b hb).1.2.2.2.1, (f4 b hb).1.2.1, (f4 b hb).1.2.2.2.2.1, (f4 b hb).1.2.2.2.2.2⟩
end
end Ev
end
section
set_option linter.all false
set_option autoImplicit false
set_option maxRecDepth 100000
set_option maxHeartbeats 1000000
/-! Ev, part GF: what takes a generator expression as its one argument. -/
namespace Ev
open PySem PySem.Spec PyProof.Rows L2

section
variable {X : Cx} {F : Fx} {W : Wd} {Wx : WX} {pos : Pos} {ω : Om} {m : M} {H H' : Hp} {wr : Wr}
theorem po_tab {P : Addr} (C : Cells F ω m H) (T : TabInv F H) (h : TabX P H H') (hP : P ∈ F.TG) (hL : ∀ p ∈ F.TL, p.1 ≠ P) : Po F wr ω m H ω m H' := by
  obtain ⟨⟨h1, h2⟩, ps, more, h3, h4⟩ := h
  have nt : ∀ b o, H b = some o → (∀ ps, o ≠ .tbl ps) → H' b = some o := fun b o e n => by
    rw [h2 b fun z => ?_]
    · exact e
    · rw [z, h3] at e
      cases e
      exact n _ rfl
  have st : Stays F ω ω H H' := ⟨Nat.le_refl _, fun _ _ => rfl, fun b o e _ n => .inl (nt b o e n), fun _ _ _ h => h⟩
  refine ⟨Nat.le_refl _, fun _ _ => rfl, rfl, ⟨fun b o e _ n => nt b o e n, fun b qs e => ?_, fun _ _ _ h => h, fun _ _ _ h => h, fun b o e => ?_⟩, fun _ _ h => .inl ⟨h, rfl⟩, ?_, fun Q hQ => ?_, fun p hp => ?_⟩
  · by_cases hb : b = P
    · subst hb
      rw [h3] at e
      cases e
      exact ⟨more, h4⟩
    · exact ⟨#[], by rw [h2 b hb, e]; simp⟩
  · by_cases hb : b = P
    · subst hb
      exact ⟨_, h4⟩
    · exact ⟨o, by rw [h2 b hb]; exact e⟩
  · exact ⟨C.len, fun r c e => CellAt.stays st rfl (fun f _ o e n => nt _ o e n) (C.at_ r c e), C.inj, C.inB, C.nd⟩
  · by_cases hb : Q = P
    · subst hb
      exact h1
    · obtain ⟨qs, e1, e2⟩ := T.1 Q hQ
      exact ⟨qs, by rw [h2 Q hb]; exact e1, e2⟩
  · obtain ⟨qs, e1, e2, e3⟩ := T.2 p hp
    refine ⟨qs, by rw [h2 _ (hL p hp)]; exact e1, e2, fun pos cv hc => ?_⟩
    obtain ⟨c, k1, k2⟩ := e3 pos cv hc
    exact ⟨c, k1, nt _ _ k2 fun ps z => by cases z⟩
/-- the turns of a generator expression by their values: what is handed out is one of Ok -/
theorem turns_acc {body : D → M → R (Option D)} : ∀ {xs acc : List D} {m m' : M} {ys : List D}, turns body xs acc m = .ok ys m' → ∃ zs, ys = acc ++ zs
  | [], acc, m, m', ys, h => by
    simp only [turns] at h
    cases h
    exact ⟨[], by simp⟩
  | x :: xs, acc, m, m', ys, h => by
    rw [turns] at h
    cases hb : body x m with
    | stuck => rw [hb] at h; cases h
    | exc c m1 => rw [hb] at h; cases h
    | ok o m1 =>
      rw [hb, R.bind_ok] at h
      cases o with
      | none => exact turns_acc h
      | some y =>
        simp only at h
        split at h
        · obtain ⟨zs, e⟩ := turns_acc h
          exact ⟨y :: zs, by rw [e]; simp⟩
        · cases h
theorem nox_exc {α : Type} {r : R α} {c : Nat} {m' : M} : R.nox r ≠ .exc c m' := by cases r <;> (intro z; cases z)
theorem turns_nox {body : D → M → R (Option D)} (hb : ∀ x m c m', body x m ≠ .exc c m') : ∀ (xs acc : List D) (m : M) (c : Nat) (m' : M), turns body xs acc m ≠ .exc c m'
  | [], acc, m, c, m', h => by cases h
  | x :: xs, acc, m, c, m', h => by
    rw [turns] at h
    cases hx : body x m with
    | stuck => rw [hx] at h; cases h
    | exc c m1 => exact hb _ _ _ _ hx
    | ok o m1 =>
      rw [hx, R.bind_ok] at h
      cases o with
      | none => exact turns_nox hb _ _ _ _ _ h
      | some y =>
        simp only at h
        split at h
        · exact turns_nox hb _ _ _ _ _ h
        · cases h
theorem intsOf_app : ∀ {xs ys : List D} {ns : List Int}, intsOf (xs ++ ys) = some ns → ∃ ks, intsOf xs = some ks
  | [], ys, ns, h => ⟨[], rfl⟩
  | d :: xs, ys, ns, h => by
    cases d with
    | int i =>
      simp only [List.cons_append, intsOf] at h ⊢
      cases e : intsOf (xs ++ ys) with
      | none => rw [e] at h; cases h
      | some ks =>
        obtain ⟨js, e2⟩ := intsOf_app e
        exact ⟨i :: js, by rw [e2]; rfl⟩
    | _ => simp [intsOf] at h
theorem intsOf_map : ∀ {xs : List D} {ns : List Int}, intsOf xs = some ns → xs = ns.map (fun i => (.int i : D))
  | [], ns, h => by cases h; rfl
  | d :: xs, ns, h => by
    cases d with
    | int i =>
      simp only [intsOf] at h
      cases e : intsOf xs with
      | none => rw [e] at h; cases h
      | some ks =>
        rw [e] at h
        cases h
        rw [intsOf_map e]
        rfl
    | _ => simp [intsOf] at h
theorem intsOf_ints : ∀ ns : List Int, intsOf (ns.map fun i => (.int i : D)) = some ns
  | [] => rfl
  | n :: ns => by simp [intsOf, intsOf_ints ns]
/-- what the consumer of a generator expression is to know -/
def SumRq (X : Cx) (t : TG) (tt : TT) (te : TE) (σ : L2.St) (vs : List Nat) (Q : VK) : It → Hp → Prop := fun J H => ∃ (len : Nat) (Pp : List V → Nat → Hp → Prop) (Fi : List V → Hp → Prop), Pp [] 0 H ∧
  (∀ A : List V → List (Addr × Obj) → Prop, GnT X ⟨J, len, A, Pp, fun ys y i H => (∃ z, y = .int z) ∧ Pp (ys ++ [y]) (i + 1) H, Fi⟩ t tt te (L2.wipe σ vs) vs) ∧ ∀ ys H, Fi ys H → Q (.int (sumV ys)) H
theorem sum_read {elt : Ex} {tg : Tg} {src : Src} {ifs : List Ex} {t : TG} {vs : List Nat} {σ : L2.St} {H : Hp} {Q : VK} {P : Addr} (ne : isB elt = false) (ht : GOk F t tg) (hvs : vs = tvars tg) (hP : P ∈ F.TG) (hTL : ∀ p ∈ F.TL, p.1 ≠ P)
    (h : LE F Wx false (evE W (.co .sum elt tg src ifs)) σ H Q) : LI F Wx W src σ H fun J H1 => GxR.TabG H1 P ∧ ∀ H2, TabX P H1 H2 → SumRq X t (LTs F W ifs) (LE F Wx0 false (evE W elt)) σ vs Q J H2 := by
  subst hvs
  obtain ⟨ω, g, m, wr, S, h⟩ := h
  refine LG.of (wr := wr) S ?_
  show Fin F Wx wr σ (RelI F) _ ω m H (evSx W src wr g m)
  have e0 : evE W (.co .sum elt tg src ifs) wr g m = (evS W src wr g m).bind fun r m1 => (turns (coBody W elt tg ifs (lockW wr r.2) g) r.1 [] m1).bind fun ys m' => R.of (endCo .sum ys) m' := by
    simp only [evE]
    rw [ev]
    exact if_neg (by rw [ne]; exact Bool.false_ne_true)
  rw [e0] at h
  simp only [evSx]
  cases hs : evS W src wr g m with
  | stuck => rw [hs] at h; exact h
  | exc c m' => rw [hs] at h; exact h
  | ok r m1 =>
    obtain ⟨xs, p⟩ := r
    rw [hs] at h
    simp only [R.bind_ok] at h ⊢
    intro ω1 J H1 p1 hr
    obtain ⟨A, hA, wk⟩ := hr
    have hA : ∀ b, A b → AOk ω1 m1 g p b ∧ ∃ o, H1 b = some o ∧ ∀ ps, o ≠ .tbl ps := hA
    have wk : Walk F A ω1 H1 J xs := wk
    refine ⟨p1.tabs.1 P hP, fun H1' hT => ?_⟩
    have S1 := S.po p1
    let wr' := lockW wr p
    let body := coBody W elt tg ifs wr' g
    have p0 : Po F wr' ω1 m1 H1 ω1 m1 H1' := po_tab p1.cells p1.tabs hT hP hTL
    have hU : ∀ b, A b → ¬ Ub ω1 m1 wr' b := fun b hb => aok_ub S1 (hA b hb).1
    refine ⟨xs.length, fun ys i H2 => i ≤ xs.length ∧ ∃ ω2 m2, ∃ ns : List Int, Po F wr' ω1 m1 H1 ω2 m2 H2 ∧ ys = ns.map V.int ∧ Fin F Wx wr σ (VRel F false) Q ω m H ((turns body (xs.drop i) (ns.map fun i => (.int i : D)) m2).bind fun ys m' => R.of (endCo .sum ys) m'),
      fun ys H2 => Q (.int (sumV ys)) H2, ⟨Nat.zero_le _, ω1, m1, [], p0, rfl, h⟩, fun Ac => ⟨?_, ?_⟩, fun ys H h => h⟩
    · rintro ys H2 ⟨hi, ω2, m2, ns, p2, rfl, hf⟩
      have hold : Hold F A ω1 H1 ω2 H2 := po_hold p1.cells p2 hU
      have hf : Fin F Wx wr σ (VRel F false) Q ω m H ((turns body (xs.drop xs.length) (ns.map fun i => (.int i : D)) m2).bind fun ys m' => R.of (endCo .sum ys) m') := hf
      refine ⟨wk.stop ω2 H2 hold, ?_⟩
      rw [List.drop_length] at hf
      have e1 : (turns body [] (ns.map fun i => (.int i : D)) m2).bind (fun ys m' => R.of (endCo .sum ys) m') = .ok (.int ns.sum) m2 := by
        simp only [turns, R.bind_ok, endCo, intsOf_ints]
        rfl
      rw [e1] at hf
      have p12 : Po F wr ω m H ω2 m2 H2 := p1.trans S.ce (p2.mono (lockW_le wr p))
      have q := hf ω2 (.int ns.sum) H2 p12 (.inl rfl)
      have e2 : sumV (ns.map V.int) = ns.sum := by
        unfold sumV
        rw [List.map_map]
        congr 1
        exact List.map_id _
      show Q (.int (sumV (ns.map V.int))) H2
      rw [e2]
      exact q
    · rintro ys i H2 hlt ⟨hi, ω2, m2, ns, p2, rfl, hf⟩
      have hlt : i < xs.length := hlt
      have hold : Hold F A ω1 H1 ω2 H2 := po_hold p1.cells p2 hU
      refine ⟨wk.go ω2 H2 i hold hlt, fun x H3 hy => ?_⟩
      obtain ⟨d, ω3, e1, p3, r3⟩ := wk.yld wr' ω2 m2 H2 i x H3 hold p2.cells p2.tabs hlt hy
      have p23 := p2.trans p1.cells p3
      rw [drop_cons e1, turns_cons] at hf
      have S3 : SlRel F ω3 (wipeG g (tvars tg)) m2 (L2.wipe σ (tvars tg)) H3 := (S1.sl.po p1.cells p23).wipe _
      cases hb : bindT tg d (wipeG g (tvars tg)) with
      | none =>
        simp only [body, coBody, hb] at hf
        exact hf.elim
      | some g' =>
        have hbody : body d m2 = R.nox ((evI W ifs wr' g' m2).bind fun b m' => if b then (ev W elt wr' g' m').bind fun y m'' => .ok (some y) m'' else .ok none m') := by
          simp only [body, coBody, hb]
        rw [hbody] at hf
        refine ht ω3 H3 _ m2 _ d x g' _ S3 r3 hb fun σ' S' hl' hk' => ⟨?_, ?_⟩
        · exact (wipe_eq hl' hk').trans wipe_wipe
        · have St3 : Stt F ω3 g' m2 σ' H3 := ⟨S', p23.cells, p23.tabs⟩
          refine LG.of (wr := wr') St3 ?_
          show Fin F Wx0 wr' σ' _ _ ω3 m2 H3 (evI W ifs wr' g' m2)
          cases ht2 : evI W ifs wr' g' m2 with
          | stuck => rw [ht2] at hf; exact hf.elim
          | exc c m' => rw [ht2] at hf; exact hf.elim
          | ok b m4 =>
            rw [ht2] at hf
            intro ω4 b' H4 p4 hb'
            subst hb'
            have p24 := p23.trans p1.cells p4
            simp only [R.bind_ok] at hf
            cases b with
            | false =>
              simp only [Bool.false_eq_true, if_false, R.nox, R.bind_ok] at hf ⊢
              exact ⟨hlt, ω4, m4, ns, p24, rfl, hf⟩
            | true =>
              simp only [if_true] at hf ⊢
              refine LG.of (wr := wr') (St3.po p4) ?_
              show Fin F Wx0 wr' σ' (VRel F false) _ ω4 m4 H4 (ev W elt wr' g' m4)
              cases hx : ev W elt wr' g' m4 with
              | stuck => rw [hx] at hf; exact hf.elim
              | exc c m' => rw [hx] at hf; exact hf.elim
              | ok y m5 =>
                rw [hx] at hf
                intro ω5 v H5 p5 r5
                have p25 := p24.trans p1.cells p5
                simp only [R.bind_ok, R.nox] at hf
                split at hf
                · rename_i hz
                  have hint : ∃ z, y = .int z := by
                    cases hu : turns body (xs.drop (i + 1)) (ns.map (fun i => (.int i : D)) ++ [y]) m5 with
                    | stuck => rw [hu] at hf; exact hf.elim
                    | exc c m' =>
                      exact absurd hu (turns_nox (fun x m c m' => nox_exc) _ _ _ _ _)
                    | ok zs m' =>
                      rw [hu, R.bind_ok] at hf
                      obtain ⟨us, e⟩ := turns_acc hu
                      simp only [endCo] at hf
                      cases ei : intsOf zs with
                      | none => rw [ei] at hf; exact hf.elim
                      | some ks =>
                        rw [e] at ei
                        obtain ⟨js, ej⟩ := intsOf_app ei
                        have := intsOf_map ej
                        have hm : y ∈ js.map (fun i => (.int i : D)) := by rw [← this]; simp
                        obtain ⟨z, _, rfl⟩ := List.mem_map.mp hm
                        exact ⟨z, rfl⟩
                  obtain ⟨z, rfl⟩ := hint
                  have ev : v = .int z := by
                    rcases r5 with r5 | ⟨z2, _⟩
                    · exact r5
                    · cases z2
                  subst ev
                  exact ⟨⟨z, rfl⟩, hlt, ω5, m5, ns ++ [z], p25, by simp, by simpa using hf⟩
                · exact hf.elim
/-- name(genexp), name a built-in -/
theorem gen_call {nm : Str} {np : Pos} {b : String} {c P : Addr} {elt iter tgE : Expr} {ifs : List Expr} {gpos : Pos} {scope : Scope} {own : List (Str × Nat)} {wi : TI} {Rq : It → Hp → Prop} {pins : List (Addr × Obj)} {σ : L2.St} {s : Shared} {Q' : Value → Shared → Prop}
    (hg : Gl X nm) (hm : X.mg nm = none) (hv : bootBuiltins nm = some (.builtin b)) (hn : nm ≠ "__name__") (hdb : (nm == ("__debug__" : Str)) = false)
    (hd : X.A.depth < recursionLimit) (TB : GxR.TabB X.base X.mg c P) (hcode : X.env.code = .ref c) (S : GnOk X.N X.env.scope scope own) (hi : PI X tgE iter wi)
    (hs : ∀ v, genFold iter X.env v = pure v) (I : Inv X pins σ H s) (h : wi σ H fun J H1 => GxR.TabG H1 P ∧ ∀ H2, TabX P H1 H2 → Rq J H2)
    (hC : ∀ J H2 a s5, Rq J H2 → GnMade X pins σ H2 scope tgE elt iter ifs gpos J a s5 → wpAny (model X.prog X.w) X.A (call (.builtin b) [.ref a]) Q' X.xe s5) :
    wpAny (model X.prog X.w) X.A (eval (.Call (.Name nm np) [.GeneratorExp elt [⟨tgE, iter, ifs, 0⟩] scope gpos] [] pos) X.env) Q' X.xe s := by
  have he : starEach [.GeneratorExp elt [⟨tgE, iter, ifs, 0⟩] scope gpos] X.env = (false, eval (.GeneratorExp elt [⟨tgE, iter, ifs, 0⟩] scope gpos) X.env) :: starEach [] X.env := rfl
  refine wpAny_Call_Name_kw (ld_blt I hg hm hv ?_ hn hdb)
  refine PyProof.Rows.callWith_builtin1 ?_ he (by rfl)
  rw [he]
  show wpAny _ _ (spliced ((false, eval (.GeneratorExp elt [⟨tgE, iter, ifs, 0⟩] scope gpos) X.env) :: backTo pos (starEach [] X.env))) _ _ s
  exact Calls.spliced_cons (gen_made hd TB hcode S hi hs I h fun J H2 a s5 hR hG => Calls.spliced_nil (hC J H2 a s5 hR hG))
end
end Ev
end
section
set_option linter.all false
set_option autoImplicit false
set_option maxRecDepth 100000
set_option maxHeartbeats 1000000
/-! Ev, part GG: sum of a generator expression, its reading. -/
namespace Ev
open PySem PySem.Spec PyProof.Rows L2

def plainG : Expr → Bool
  | .List .. => false
  | .Set .. => false
  | _ => true
theorem plain_gen {e : Expr} (h : plainG e = true) (env : Env) : ∀ x, genFold e env x = pure x := fun x => by cases e <;> first | rfl | (simp [plainG] at h)
theorem room_gn {k : Nat} {A : Around} (r : Room (k + 1) A) (env : Env) : Room k (A.in1.in1.deeper env) :=
  ⟨r.hd, by have := r.dp; show A.depth + 1 + 3 * k + 5 < _; omega, by have := r.un; show A.units + 1 + 1 + 3 + 16 * k + 200 < _; omega⟩
theorem room_deep {k : Nat} {A : Around} (r : Room k A) : A.depth < recursionLimit := by have := r.dp; omega
/-- the parts of a generator expression, read -/
structure GnParts (X : Cx) (k : Nat) (scope : Scope) (tgE elt : Expr) (ifs : List Expr) (g : TG) (tt : TT) (te : TE) : Prop where
  g : ∀ (Ag : Around) (s0 : Shared) (H0 : Hp) (C : Addr) (code : Value) (fp : List Addr) (pn : List (Addr × Obj)), Ag.handled = none → Room k Ag → PG (gnCx X Ag s0 H0 (genEnv scope (cloFrom X.env.cells scope.names []) C code builtinsNs X.env) fp pn) tgE g
  t : ∀ (Ag : Around) (s0 : Shared) (H0 : Hp) (C : Addr) (code : Value) (fp : List Addr) (pn : List (Addr × Obj)), Ag.handled = none → Room k Ag → PTs (gnCx X Ag s0 H0 (genEnv scope (cloFrom X.env.cells scope.names []) C code builtinsNs X.env) fp pn) ifs tt
  e : ∀ (Ag : Around) (s0 : Shared) (H0 : Hp) (C : Addr) (code : Value) (fp : List Addr) (pn : List (Addr × Obj)), Ag.handled = none → Room k Ag → PE (gnCx X Ag s0 H0 (genEnv scope (cloFrom X.env.cells scope.names []) C code builtinsNs X.env) fp pn) elt te
section
variable {X : Cx} {F : Fx} {W : Wd} {Wx : WX} {pos : Pos} {pins : List (Addr × Obj)} {σ : L2.St} {H : Hp}
theorem sum_call {k : Nat} {a : Addr} {s5 : Shared} {J : It} {elt iter tgE : Expr} {ifs : List Expr} {gpos : Pos} {scope : Scope} {own : List (Str × Nat)} {g : TG} {tt : TT} {te : TE} {Q : VK} (hr : Room (k + 1) X.A) (hfr : X.A.frames = some X.stack) (hc : X.calm = true) (hN : X.N.Nodup)
    (S : GnOk X.N X.env.scope scope own) (pr : GnParts X k scope tgE elt ifs g tt te) (M : GnMade X pins σ H scope tgE elt iter ifs gpos J a s5) (h : SumRq X g tt te σ (own.map (·.2)) Q J H) :
    wpAny (model X.prog X.w) X.A (call (.builtin "sum") [.ref a]) (EP X pins σ Q) X.xe s5 := by
  obtain ⟨len, Pp, Fi, h0, hT, hFi⟩ := h
  obtain ⟨s4, fp, tn, it, code, go, mm, gn, I4, os5, bare5, k45, ha1, ha2, hgo, hgo2, hgd, hns, T, st5, f4, hgen⟩ := M.ex
  refine call_function_tree F.kind_sum F.plain_sum F.entry_sum (F.args_sum1 _) ?_
  unfold Builtin.«sum»
  simp only [List.length_cons, List.length_nil]
  rw [if_neg (by decide)]
  refine wpAny_bind (wpAny_of_eq (show Builtin.Builtins.bindParams "sum" ["start"] 0 { } = pure [none] from rfl) ?_)
  refine wpAny_bind (wpAny_pyIter_gen (hgo2 _ hgo) ?_)
  refine wpAny_bind (wpAny_mkInt ?_)
  refine wpAny_bind (wpAny_pure ?_)
  simp only [List.forIn_cons, List.forIn_nil]
  refine wpAny_bind (wpAny_bind (wpAny_bind (wpAny_isInstance (T := "int") (b := false) (typeIs_int _ _ _) PySem.sub_int_str ?_)))
  simp only [Bool.false_eq_true, if_false]
  refine wpAny_pure (wpAny_bind (wpAny_bind (wpAny_isInstance (T := "int") (b := false) (typeIs_int _ _ _) PySem.sub_int_bytes ?_)))
  simp only [Bool.false_eq_true, if_false]
  refine wpAny_pure (wpAny_bind (wpAny_bind (wpAny_isInstance (T := "int") (b := false) (typeIs_int _ _ _) PySem.sub_int_bytearray ?_)))
  simp only [Bool.false_eq_true, if_false]
  refine wpAny_pure (wpAny_pure ?_)
  refine wpAny_bind (wpAny_newObj_type ?_)
  let Sa := s5.heap.objs.size
  let r : GnR := ⟨J, len, sumAcc Sa, Pp, fun ys y i H => (∃ z, y = .int z) ∧ Pp (ys ++ [y]) (i + 1) H, Fi⟩
  refine wpAny_pure ⟨plainId_quiet F.plain_sum_loop _, ?_⟩
  have hS : ∀ (x : Tok), (s5.heap.push (sumO 0 x 0)).get? Sa = some (sumO 0 x 0) := fun x => Heap.get?_push_size _ rfl
  obtain ⟨G, gn2, eX, hsz, ob, hfp, tk, hA, hat, back⟩ := gn_at (A := X.A.in1) (k := k) (r := r) (pl := [(Sa, sumO 0 s5.toks 0)]) (s6 := { s5 with heap := s5.heap.push (sumO 0 s5.toks 0), toks := s5.toks + 1 }) M S hN hc rfl hr.hd hfr (fun env => room_gn hr env)
    (fun b o e => Heap.get?_push_of_some _ e) rfl rfl (fun p hp => by rw [List.mem_singleton.mp hp]; exact ⟨Nat.le_refl _, hS _, fun v z => by cases z⟩) ⟨s5.toks, 0, rfl⟩ h0 pr.g pr.t pr.e (hT _)
  subst eX
  exact sum_gn hr.hd (room_deep hr) ob hfp tk hA rfl (fun ys y i H h => by obtain ⟨⟨z, e⟩, h⟩ := h; exact ⟨z, e, h⟩)
    (fun s' ys t' H' pl pv hI fi => by
      obtain ⟨Ag, d1, d2⟩ := hA
      exact ⟨.int (sumV ys), H', back Ag pl H' s' (hI Ag d1 d2), ⟨t', rfl⟩, hFi ys H' fi⟩) r.len 0 _ _ _ 0 (.inl rfl) hat (hS _)
theorem pe_sumG {k : Nat} {np gpos : Pos} {c P : Addr} {elt iter tgE : Expr} {e : Ex} {tg : Tg} {src : Src} {ifs : List Expr} {is : List Ex} {scope : Scope} {own : List (Str × Nat)} {t : TG} (hr : Room (k + 1) X.A) (hc : X.calm = true) (hN : X.N.Nodup)
    (hg : Gl X "sum") (hm : X.mg "sum" = none) (hv : bootBuiltins "sum" = some (.builtin "sum")) (TB : GxR.TabB X.base X.mg c P) (hcode : X.env.code = .ref c) (hP : P ∈ F.TG) (hTL : ∀ p ∈ F.TL, p.1 ≠ P)
    (ne : isB e = false) (pf : plainG iter = true) (ok : GnOk X.N X.env.scope scope own) (hvs : own.map (·.2) = tvars tg) (hi : PI X tgE iter (LI F Wx W src)) (hG : GOk F t tg) (pr : GnParts X k scope tgE elt ifs t (LTs F W is) (LE F Wx0 false (evE W e))) :
    PE X (.Call (.Name "sum" np) [.GeneratorExp elt [⟨tgE, iter, ifs, 0⟩] scope gpos] [] pos) (LE F Wx false (evE W (.co .sum e tg src is))) :=
  ⟨fun pins s σ H Q I h => gen_call hg hm hv (by decide) (by decide) (room_deep hr) TB hcode ok hi (plain_gen pf _) I (sum_read ne hG hvs hP hTL h) fun J H2 a s5 hq M => sum_call hr I.ok.frames hc hN ok pr M hq⟩
end
end Ev
end
section
set_option linter.all false
set_option autoImplicit false
set_option maxRecDepth 100000
set_option maxHeartbeats 1000000
/-! Ev, part GH: any, all of a generator expression. -/
namespace Ev
open PySem PySem.Spec PyProof.Rows L2

section
variable {G : GnW} {r : GnR} {a : Addr} {g : Nat}
theorem any_gn {A : Around} {R : Result → Shared → Prop} {Bk : Hp → Prop} (hh : A.handled = none) (hroom : A.depth < recursionLimit) (ob : GnOb G a g) (hfp : ∀ b ∈ G.fp, b < G.s0.heap.objs.size)
    (tk : ∀ i h h', G.tn i h → (∀ b ∈ G.fp, ∀ o, h.get? b = some o → h'.get? b = some o) → G.tn i h') (hA : ∃ Ag : Around, Ag.handled = none ∧ Ag.frames = some (G.cenv :: G.X.stack)) (hacc : r.Acc = fun _ pl => pl = [])
    (hYd : ∀ ys y i H, r.Yd ys y i H → ∃ c, y = .bl c ∧ (c = true → Bk H) ∧ (c = false → r.P (ys ++ [y]) (i + 1) H))
    (hB : ∀ s' H pl, Priv G pl → (∀ Ag : Around, Ag.handled = none → Ag.frames = some (G.cenv :: G.X.stack) → Inv (G.cx Ag) pl G.σ H s') → Bk H → R (.ok (.ret (.bool true))) s')
    (hR : ∀ s' ys H pl, Priv G pl → (∀ Ag : Around, Ag.handled = none → Ag.frames = some (G.cenv :: G.X.stack) → Inv (G.cx Ag) pl G.σ H s') → r.Fi ys H → R (.ok (.ret (.bool false))) s') :
    ∀ (n : Nat) (s : Shared), GnAt G r A.in1 a g n s → codeAny (model G.X.prog G.X.w) A (.builtin "any.loop" ⟨[.ref a], []⟩) R s := by
  have main : ∀ (n : Nat), (∀ m, n = m + 1 → ∀ s : Shared, GnAt G r A.in1 a g m s → codeAny (model G.X.prog G.X.w) A (.builtin "any.loop" ⟨[.ref a], []⟩) R s) →
      ∀ s : Shared, GnAt G r A.in1 a g n s → codeAny (model G.X.prog G.X.w) A (.builtin "any.loop" ⟨[.ref a], []⟩) R s := by
    intro n ih s hat
    refine codeAny_builtin F.entry_any_loop ?_
    rw [Around.under_plainId F.plain_any_loop _]
    show wpAny _ A.in1 (pyNext (.ref a) >>= _) _ _ s
    refine wpAny_bind (gn_next (A := A.in1) hh hroom ob hfp tk hA hat (fun v s1 ys y i H pl h0 hlt rv hac rest yd hk => ?_) (fun s1 ys H pl h0 hac pv hI fi => ?_))
    · rw [hacc] at hac
      subst hac
      obtain ⟨c, rfl, h1, h2⟩ := hYd _ _ _ _ yd
      obtain rfl : v = .bool c := rv
      obtain ⟨Ag, d1, d2⟩ := hA
      have bare1 : AllBare s1.gens := (rest.inv Ag d1 d2).bare
      refine wpAny_bind (wpAny_holding (wpAny_truthy_bool ?_))
      refine wpAny_bind (wpAny_letGo ?_)
      cases c with
      | true =>
        simp only [if_true]
        refine wpAny_bind (wpAny_rule (wpAny_pure ?_))
        exact hB s1 H [] rest.pv (fun Ag d1 d2 => rest.inv Ag d1 d2) (h1 rfl)
      | false =>
        simp only [Bool.false_eq_true, if_false]
        refine wpAny_pure ⟨plainId_quiet F.plain_any_loop _, ?_⟩
        obtain ⟨m, hm, hat2⟩ := hk (h2 rfl) [] s1 rfl (by rw [hacc]) ⟨rfl, bare1, rfl, fun _ _ _ e => e, fun p hp => by simp at hp⟩
        exact ih m hm s1 hat2
    · rw [hacc] at hac
      subst hac
      exact wpAny_bind (wpAny_rule (wpAny_pure (hR s1 ys H [] pv hI fi)))
  intro n
  induction n with
  | zero => exact main 0 fun m e => by cases e
  | succ m ih => exact main (m + 1) fun m' e => by cases e; exact ih
theorem all_gn {A : Around} {R : Result → Shared → Prop} {Bk : Hp → Prop} (hh : A.handled = none) (hroom : A.depth < recursionLimit) (ob : GnOb G a g) (hfp : ∀ b ∈ G.fp, b < G.s0.heap.objs.size)
    (tk : ∀ i h h', G.tn i h → (∀ b ∈ G.fp, ∀ o, h.get? b = some o → h'.get? b = some o) → G.tn i h') (hA : ∃ Ag : Around, Ag.handled = none ∧ Ag.frames = some (G.cenv :: G.X.stack)) (hacc : r.Acc = fun _ pl => pl = [])
    (hYd : ∀ ys y i H, r.Yd ys y i H → ∃ c, y = .bl c ∧ (c = false → Bk H) ∧ (c = true → r.P (ys ++ [y]) (i + 1) H))
    (hB : ∀ s' H pl, Priv G pl → (∀ Ag : Around, Ag.handled = none → Ag.frames = some (G.cenv :: G.X.stack) → Inv (G.cx Ag) pl G.σ H s') → Bk H → R (.ok (.ret (.bool false))) s')
    (hR : ∀ s' ys H pl, Priv G pl → (∀ Ag : Around, Ag.handled = none → Ag.frames = some (G.cenv :: G.X.stack) → Inv (G.cx Ag) pl G.σ H s') → r.Fi ys H → R (.ok (.ret (.bool true))) s') :
    ∀ (n : Nat) (s : Shared), GnAt G r A.in1 a g n s → codeAny (model G.X.prog G.X.w) A (.builtin "all.loop" ⟨[.ref a], []⟩) R s := by
  have main : ∀ (n : Nat), (∀ m, n = m + 1 → ∀ s : Shared, GnAt G r A.in1 a g m s → codeAny (model G.X.prog G.X.w) A (.builtin "all.loop" ⟨[.ref a], []⟩) R s) →
      ∀ s : Shared, GnAt G r A.in1 a g n s → codeAny (model G.X.prog G.X.w) A (.builtin "all.loop" ⟨[.ref a], []⟩) R s := by
    intro n ih s hat
    refine codeAny_builtin F.entry_all_loop ?_
    rw [Around.under_plainId F.plain_all_loop _]
    show wpAny _ A.in1 (pyNext (.ref a) >>= _) _ _ s
    refine wpAny_bind (gn_next (A := A.in1) hh hroom ob hfp tk hA hat (fun v s1 ys y i H pl h0 hlt rv hac rest yd hk => ?_) (fun s1 ys H pl h0 hac pv hI fi => ?_))
    · rw [hacc] at hac
      subst hac
      obtain ⟨c, rfl, h1, h2⟩ := hYd _ _ _ _ yd
      obtain rfl : v = .bool c := rv
      obtain ⟨Ag, d1, d2⟩ := hA
      have bare1 : AllBare s1.gens := (rest.inv Ag d1 d2).bare
      refine wpAny_bind (wpAny_holding (wpAny_truthy_bool ?_))
      refine wpAny_bind (wpAny_letGo ?_)
      cases c with
      | false =>
        simp only [Bool.false_eq_true, if_false]
        refine wpAny_bind (wpAny_rule (wpAny_pure ?_))
        exact hB s1 H [] rest.pv (fun Ag d1 d2 => rest.inv Ag d1 d2) (h1 rfl)
      | true =>
        simp only [if_true]
        refine wpAny_pure ⟨plainId_quiet F.plain_all_loop _, ?_⟩
        obtain ⟨m, hm, hat2⟩ := hk (h2 rfl) [] s1 rfl (by rw [hacc]) ⟨rfl, bare1, rfl, fun _ _ _ e => e, fun p hp => by simp at hp⟩
        exact ih m hm s1 hat2
    · rw [hacc] at hac
      subst hac
      exact wpAny_bind (wpAny_rule (wpAny_pure (hR s1 ys H [] pv hI fi)))
  intro n
  induction n with
  | zero => exact main 0 fun m e => by cases e
  | succ m ih => exact main (m + 1) fun m' e => by cases e; exact ih
end
section
variable {X : Cx} {F : Fx} {W : Wd} {Wx : WX} {pos : Pos}
/-- what the consumer of a generator expression is to know -/
def AnyRq (X : Cx) (b : Bool) (t : TG) (tt : TT) (te : TE) (σ : L2.St) (vs : List Nat) (Q : VK) : It → Hp → Prop := fun J H => ∃ (len : Nat) (Pp : List V → Nat → Hp → Prop) (Fi : List V → Hp → Prop), Pp [] 0 H ∧
  (∀ A : List V → List (Addr × Obj) → Prop, GnT X ⟨J, len, A, Pp, fun ys y i H => ∃ c, y = .bl c ∧ (c = b → Q (.bl b) H) ∧ (c = !b → Pp (ys ++ [y]) (i + 1) H), Fi⟩ t tt te (L2.wipe σ vs) vs) ∧ ∀ ys H, Fi ys H → Q (.bl !b) H
theorem until_cons (b : Bool) (body : D → M → R (Option D)) (x : D) (xs : List D) (m : M) : until' b body (x :: xs) m = (body x m).bind fun o m' => match o with
    | some (.bool c) => if c = b then .ok b m' else until' b body xs m'
    | some _ => .stuck
    | none => until' b body xs m' := rfl
theorem any_read {b : Bool} {ck : Ck} {elt : Ex} {tg : Tg} {src : Src} {ifs : List Ex} {t : TG} {vs : List Nat} {σ : L2.St} {H : Hp} {Q : VK} {P : Addr} (hck : ∀ body xs m, True → runCo ck body xs m = (until' b body xs m).bind fun b m' => .ok (.bool b) m') (ne : isB elt = false) (ht : GOk F t tg) (hvs : vs = tvars tg) (hP : P ∈ F.TG) (hTL : ∀ p ∈ F.TL, p.1 ≠ P)
    (h : LE F Wx false (evE W (.co ck elt tg src ifs)) σ H Q) : LI F Wx W src σ H fun J H1 => GxR.TabG H1 P ∧ ∀ H2, TabX P H1 H2 → AnyRq X b t (LTs F W ifs) (LE F Wx0 false (evE W elt)) σ vs Q J H2 := by
  subst hvs
  obtain ⟨ω, g, m, wr, S, h⟩ := h
  refine LG.of (wr := wr) S ?_
  show Fin F Wx wr σ (RelI F) _ ω m H (evSx W src wr g m)
  have e0 : evE W (.co ck elt tg src ifs) wr g m = (evS W src wr g m).bind fun r m1 => (until' b (coBody W elt tg ifs (lockW wr r.2) g) r.1 m1).bind fun b m' => .ok (.bool b) m' := by
    simp only [evE]
    rw [ev]
    refine (if_neg (by rw [ne]; exact Bool.false_ne_true)).trans ?_
    congr 1
    funext r m1
    exact hck _ _ _ trivial
  rw [e0] at h
  simp only [evSx]
  cases hs : evS W src wr g m with
  | stuck => rw [hs] at h; exact h
  | exc c m' => rw [hs] at h; exact h
  | ok r m1 =>
    obtain ⟨xs, p⟩ := r
    rw [hs] at h
    simp only [R.bind_ok] at h ⊢
    intro ω1 J H1 p1 hr
    obtain ⟨A, hA, wk⟩ := hr
    have hA : ∀ b, A b → AOk ω1 m1 g p b ∧ ∃ o, H1 b = some o ∧ ∀ ps, o ≠ .tbl ps := hA
    have wk : Walk F A ω1 H1 J xs := wk
    refine ⟨p1.tabs.1 P hP, fun H1' hT => ?_⟩
    have S1 := S.po p1
    let wr' := lockW wr p
    let body := coBody W elt tg ifs wr' g
    have p0 : Po F wr' ω1 m1 H1 ω1 m1 H1' := po_tab p1.cells p1.tabs hT hP hTL
    have hU : ∀ b, A b → ¬ Ub ω1 m1 wr' b := fun b hb => aok_ub S1 (hA b hb).1
    refine ⟨xs.length, fun ys i H2 => i ≤ xs.length ∧ ∃ ω2 m2, Po F wr' ω1 m1 H1 ω2 m2 H2 ∧ Fin F Wx wr σ (VRel F false) Q ω m H ((until' b body (xs.drop i) m2).bind fun b m' => .ok (.bool b) m'),
      fun ys H2 => Q (.bl !b) H2, ⟨Nat.zero_le _, ω1, m1, p0, h⟩, fun Ac => ⟨?_, ?_⟩, fun ys H h => h⟩
    · rintro ys H2 ⟨hi, ω2, m2, p2, hf⟩
      have hold : Hold F A ω1 H1 ω2 H2 := po_hold p1.cells p2 hU
      have hf : Fin F Wx wr σ (VRel F false) Q ω m H ((until' b body (xs.drop xs.length) m2).bind fun b m' => .ok (.bool b) m') := hf
      refine ⟨wk.stop ω2 H2 hold, ?_⟩
      rw [List.drop_length] at hf
      have hf : Fin F Wx wr σ (VRel F false) Q ω m H (.ok (.bool !b) m2) := hf
      have p12 : Po F wr ω m H ω2 m2 H2 := p1.trans S.ce (p2.mono (lockW_le wr p))
      exact hf ω2 (.bl !b) H2 p12 (.inl rfl)
    · rintro ys i H2 hlt ⟨hi, ω2, m2, p2, hf⟩
      have hlt : i < xs.length := hlt
      have hold : Hold F A ω1 H1 ω2 H2 := po_hold p1.cells p2 hU
      refine ⟨wk.go ω2 H2 i hold hlt, fun x H3 hy => ?_⟩
      obtain ⟨d, ω3, e1, p3, r3⟩ := wk.yld wr' ω2 m2 H2 i x H3 hold p2.cells p2.tabs hlt hy
      have p23 := p2.trans p1.cells p3
      rw [drop_cons e1, until_cons] at hf
      have S3 : SlRel F ω3 (wipeG g (tvars tg)) m2 (L2.wipe σ (tvars tg)) H3 := (S1.sl.po p1.cells p23).wipe _
      cases hb : bindT tg d (wipeG g (tvars tg)) with
      | none =>
        simp only [body, coBody, hb] at hf
        exact hf.elim
      | some g' =>
        have hbody : body d m2 = R.nox ((evI W ifs wr' g' m2).bind fun b m' => if b then (ev W elt wr' g' m').bind fun y m'' => .ok (some y) m'' else .ok none m') := by
          simp only [body, coBody, hb]
        rw [hbody] at hf
        refine ht ω3 H3 _ m2 _ d x g' _ S3 r3 hb fun σ' S' hl' hk' => ⟨?_, ?_⟩
        · exact (wipe_eq hl' hk').trans wipe_wipe
        · have St3 : Stt F ω3 g' m2 σ' H3 := ⟨S', p23.cells, p23.tabs⟩
          refine LG.of (wr := wr') St3 ?_
          show Fin F Wx0 wr' σ' _ _ ω3 m2 H3 (evI W ifs wr' g' m2)
          cases ht2 : evI W ifs wr' g' m2 with
          | stuck => rw [ht2] at hf; exact hf.elim
          | exc c m' => rw [ht2] at hf; exact hf.elim
          | ok bb m4 =>
            rw [ht2] at hf
            intro ω4 b' H4 p4 hb'
            subst hb'
            have p24 := p23.trans p1.cells p4
            simp only [R.bind_ok] at hf
            cases bb with
            | false =>
              simp only [Bool.false_eq_true, if_false, R.nox, R.bind_ok] at hf ⊢
              exact ⟨hlt, ω4, m4, p24, hf⟩
            | true =>
              simp only [if_true] at hf ⊢
              refine LG.of (wr := wr') (St3.po p4) ?_
              show Fin F Wx0 wr' σ' (VRel F false) _ ω4 m4 H4 (ev W elt wr' g' m4)
              cases hx : ev W elt wr' g' m4 with
              | stuck => rw [hx] at hf; exact hf.elim
              | exc c m' => rw [hx] at hf; exact hf.elim
              | ok y m5 =>
                rw [hx] at hf
                intro ω5 v H5 p5 r5
                have p25 := p24.trans p1.cells p5
                simp only [R.bind_ok, R.nox] at hf
                cases y with
                | bool c =>
                  simp only at hf
                  have ev : v = .bl c := by
                    rcases r5 with r5 | ⟨z2, _⟩
                    · exact r5
                    · cases z2
                  subst ev
                  refine ⟨c, rfl, fun e => ?_, fun e => ?_⟩
                  · subst e
                    simp only [if_true, R.bind_ok] at hf
                    have p12 : Po F wr ω m H ω5 m5 H5 := p1.trans S.ce (p25.mono (lockW_le wr p))
                    exact hf ω5 (.bl c) H5 p12 (.inl rfl)
                  · rw [if_neg (by rw [e]; cases b <;> decide)] at hf
                    exact ⟨hlt, ω5, m5, p25, hf⟩
                | _ => exact hf.elim
end
section
variable {X : Cx} {F : Fx} {W : Wd} {Wx : WX} {pos : Pos} {pins : List (Addr × Obj)} {σ : L2.St} {H : Hp}
theorem any_call {k : Nat} {a : Addr} {s5 : Shared} {J : It} {elt iter tgE : Expr} {ifs : List Expr} {gpos : Pos} {scope : Scope} {own : List (Str × Nat)} {g : TG} {tt : TT} {te : TE} {Q : VK} (hr : Room (k + 1) X.A) (hfr : X.A.frames = some X.stack) (hc : X.calm = true) (hN : X.N.Nodup)
    (S : GnOk X.N X.env.scope scope own) (pr : GnParts X k scope tgE elt ifs g tt te) (M : GnMade X pins σ H scope tgE elt iter ifs gpos J a s5) (h : AnyRq X true g tt te σ (own.map (·.2)) Q J H) :
    wpAny (model X.prog X.w) X.A (call (.builtin "any") [.ref a]) (EP X pins σ Q) X.xe s5 := by
  obtain ⟨len, Pp, Fi, h0, hT, hFi⟩ := h
  obtain ⟨s4, fp, tn, it, code, go, mm, gn, I4, os5, bare5, k45, ha1, ha2, hgo, hgo2, hgd, hns, T, st5, f4, hgen⟩ := M.ex
  refine call_function_tree F.kind_any F.plain_any F.entry_any (F.args_any1 _) ?_
  unfold Builtin.«any»
  refine wpAny_bind (m := oneArg "any" _) (wpAny_pure ?_)
  refine wpAny_bind (wpAny_pyIter_gen (hgo2 _ hgo) ?_)
  let r : GnR := ⟨J, len, fun _ pl => pl = [], Pp, fun ys y i H => ∃ c, y = .bl c ∧ (c = true → Q (.bl true) H) ∧ (c = !true → Pp (ys ++ [y]) (i + 1) H), Fi⟩
  refine wpAny_pure ⟨plainId_quiet F.plain_any_loop _, ?_⟩
  obtain ⟨G, gn2, eX, hsz, ob, hfp, tk, hA, hat, back⟩ := gn_at (A := X.A.in1) (k := k) (r := r) (pl := []) (s6 := s5) M S hN hc rfl hr.hd hfr (fun env => room_gn hr env)
    (fun b o e => e) rfl rfl (fun p hp => by simp at hp) rfl h0 pr.g pr.t pr.e (hT _)
  subst eX
  exact any_gn (Bk := fun H => Q (.bl true) H) hr.hd (room_deep hr) ob hfp tk hA rfl (fun ys y i H h => h)
    (fun s' H' pl pv hI fi => by
      obtain ⟨Ag, d1, d2⟩ := hA
      exact ⟨.bl true, H', back Ag pl H' s' (hI Ag d1 d2), rfl, fi⟩)
    (fun s' ys H' pl pv hI fi => by
      obtain ⟨Ag, d1, d2⟩ := hA
      exact ⟨.bl false, H', back Ag pl H' s' (hI Ag d1 d2), rfl, hFi ys H' fi⟩) r.len s5 hat
theorem all_call {k : Nat} {a : Addr} {s5 : Shared} {J : It} {elt iter tgE : Expr} {ifs : List Expr} {gpos : Pos} {scope : Scope} {own : List (Str × Nat)} {g : TG} {tt : TT} {te : TE} {Q : VK} (hr : Room (k + 1) X.A) (hfr : X.A.frames = some X.stack) (hc : X.calm = true) (hN : X.N.Nodup)
    (S : GnOk X.N X.env.scope scope own) (pr : GnParts X k scope tgE elt ifs g tt te) (M : GnMade X pins σ H scope tgE elt iter ifs gpos J a s5) (h : AnyRq X false g tt te σ (own.map (·.2)) Q J H) :
    wpAny (model X.prog X.w) X.A (call (.builtin "all") [.ref a]) (EP X pins σ Q) X.xe s5 := by
  obtain ⟨len, Pp, Fi, h0, hT, hFi⟩ := h
  obtain ⟨s4, fp, tn, it, code, go, mm, gn, I4, os5, bare5, k45, ha1, ha2, hgo, hgo2, hgd, hns, T, st5, f4, hgen⟩ := M.ex
  refine call_function_tree F.kind_all F.plain_all F.entry_all (F.args_all1 _) ?_
  unfold Builtin.«all»
  refine wpAny_bind (m := oneArg "all" _) (wpAny_pure ?_)
  refine wpAny_bind (wpAny_pyIter_gen (hgo2 _ hgo) ?_)
  let r : GnR := ⟨J, len, fun _ pl => pl = [], Pp, fun ys y i H => ∃ c, y = .bl c ∧ (c = false → Q (.bl false) H) ∧ (c = !false → Pp (ys ++ [y]) (i + 1) H), Fi⟩
  refine wpAny_pure ⟨plainId_quiet F.plain_all_loop _, ?_⟩
  obtain ⟨G, gn2, eX, hsz, ob, hfp, tk, hA, hat, back⟩ := gn_at (A := X.A.in1) (k := k) (r := r) (pl := []) (s6 := s5) M S hN hc rfl hr.hd hfr (fun env => room_gn hr env)
    (fun b o e => e) rfl rfl (fun p hp => by simp at hp) rfl h0 pr.g pr.t pr.e (hT _)
  subst eX
  exact all_gn (Bk := fun H => Q (.bl false) H) hr.hd (room_deep hr) ob hfp tk hA rfl (fun ys y i H h => h)
    (fun s' H' pl pv hI fi => by
      obtain ⟨Ag, d1, d2⟩ := hA
      exact ⟨.bl false, H', back Ag pl H' s' (hI Ag d1 d2), rfl, fi⟩)
    (fun s' ys H' pl pv hI fi => by
      obtain ⟨Ag, d1, d2⟩ := hA
      exact ⟨.bl true, H', back Ag pl H' s' (hI Ag d1 d2), rfl, hFi ys H' fi⟩) r.len s5 hat
theorem pe_anyG {k : Nat} {np gpos : Pos} {c P : Addr} {elt iter tgE : Expr} {e : Ex} {tg : Tg} {src : Src} {ifs : List Expr} {is : List Ex} {scope : Scope} {own : List (Str × Nat)} {t : TG} (hr : Room (k + 1) X.A) (hc : X.calm = true) (hN : X.N.Nodup)
    (hg : Gl X "any") (hm : X.mg "any" = none) (hv : bootBuiltins "any" = some (.builtin "any")) (TB : GxR.TabB X.base X.mg c P) (hcode : X.env.code = .ref c) (hP : P ∈ F.TG) (hTL : ∀ p ∈ F.TL, p.1 ≠ P)
    (ne : isB e = false) (pf : plainG iter = true) (ok : GnOk X.N X.env.scope scope own) (hvs : own.map (·.2) = tvars tg) (hi : PI X tgE iter (LI F Wx W src)) (hG : GOk F t tg) (pr : GnParts X k scope tgE elt ifs t (LTs F W is) (LE F Wx0 false (evE W e))) :
    PE X (.Call (.Name "any" np) [.GeneratorExp elt [⟨tgE, iter, ifs, 0⟩] scope gpos] [] pos) (LE F Wx false (evE W (.co .any e tg src is))) :=
  ⟨fun pins s σ H Q I h => gen_call hg hm hv (by decide) (by decide) (room_deep hr) TB hcode ok hi (plain_gen pf _) I (any_read (b := true) (fun _ _ _ _ => rfl) ne hG hvs hP hTL h) fun J H2 a s5 hq M => any_call hr I.ok.frames hc hN ok pr M hq⟩
theorem pe_allG {k : Nat} {np gpos : Pos} {c P : Addr} {elt iter tgE : Expr} {e : Ex} {tg : Tg} {src : Src} {ifs : List Expr} {is : List Ex} {scope : Scope} {own : List (Str × Nat)} {t : TG} (hr : Room (k + 1) X.A) (hc : X.calm = true) (hN : X.N.Nodup)
    (hg : Gl X "all") (hm : X.mg "all" = none) (hv : bootBuiltins "all" = some (.builtin "all")) (TB : GxR.TabB X.base X.mg c P) (hcode : X.env.code = .ref c) (hP : P ∈ F.TG) (hTL : ∀ p ∈ F.TL, p.1 ≠ P)
    (ne : isB e = false) (pf : plainG iter = true) (ok : GnOk X.N X.env.scope scope own) (hvs : own.map (·.2) = tvars tg) (hi : PI X tgE iter (LI F Wx W src)) (hG : GOk F t tg) (pr : GnParts X k scope tgE elt ifs t (LTs F W is) (LE F Wx0 false (evE W e))) :
    PE X (.Call (.Name "all" np) [.GeneratorExp elt [⟨tgE, iter, ifs, 0⟩] scope gpos] [] pos) (LE F Wx false (evE W (.co .all e tg src is))) :=
  ⟨fun pins s σ H Q I h => gen_call hg hm hv (by decide) (by decide) (room_deep hr) TB hcode ok hi (plain_gen pf _) I (any_read (b := false) (fun _ _ _ _ => rfl) ne hG hvs hP hTL h) fun J H2 a s5 hq M => all_call hr I.ok.frames hc hN ok pr M hq⟩
end
end Ev
end
section
set_option linter.all false
set_option autoImplicit false
set_option maxRecDepth 100000
set_option maxHeartbeats 1000000
/-! Ev, part GI: what is handed out is collected. -/
namespace Ev
open PySem PySem.Spec PyProof.Rows L2

def colO (acc : Array Value) (c : Nat) : Obj := { cls := .type "list", dict := none, data := .seq acc c, slots := #[] }
theorem colO_inj {a b : Array Value} {c d : Nat} (h : colO a c = colO b d) : a = b := by
  unfold colO at h
  simp at h
  exact h.1
def colAcc (S : Addr) (ys : List V) (pl : List (Addr × Obj)) : Prop := ∃ acc c, pl = [(S, colO acc c)] ∧ Vals ys acc.toList ∧ ys.length ≤ sizeLine
section
variable {G : GnW} {r : GnR} {S a : Addr} {g : Nat}
theorem ext_gn {A : Around} {R : Result → Shared → Prop} {res : Value} (hh : A.handled = none) (hroom : A.depth < recursionLimit) (ob : GnOb G a g) (hfp : ∀ b ∈ G.fp, b < G.s0.heap.objs.size)
    (tk : ∀ i h h', G.tn i h → (∀ b ∈ G.fp, ∀ o, h.get? b = some o → h'.get? b = some o) → G.tn i h') (hA : ∃ Ag : Around, Ag.handled = none ∧ Ag.frames = some (G.cenv :: G.X.stack)) (hacc : r.Acc = colAcc S)
    (hYd : ∀ ys y i H, r.Yd ys y i H → ys.length < sizeLine ∧ r.P (ys ++ [y]) (i + 1) H)
    (hR : ∀ s' ys acc c H, Priv G [(S, colO acc c)] → (∀ Ag : Around, Ag.handled = none → Ag.frames = some (G.cenv :: G.X.stack) → Inv (G.cx Ag) [(S, colO acc c)] G.σ H s') → Vals ys acc.toList → ys.length ≤ sizeLine → r.Fi ys H → R (.ok (.ret res)) s') :
    ∀ (n : Nat) (s : Shared) (acc : Array Value) (c : Nat), GnAt G r A.in1 a g n s → s.heap.get? S = some (colO acc c) →
      codeAny (model G.X.prog G.X.w) A (.builtin "list.extend.loop" ⟨[.ref S, .ref a, res], []⟩) R s := by
  have main : ∀ (n : Nat), (∀ m, n = m + 1 → ∀ (s : Shared) (acc : Array Value) (c : Nat), GnAt G r A.in1 a g m s → s.heap.get? S = some (colO acc c) → codeAny (model G.X.prog G.X.w) A (.builtin "list.extend.loop" ⟨[.ref S, .ref a, res], []⟩) R s) →
      ∀ (s : Shared) (acc : Array Value) (c : Nat), GnAt G r A.in1 a g n s → s.heap.get? S = some (colO acc c) → codeAny (model G.X.prog G.X.w) A (.builtin "list.extend.loop" ⟨[.ref S, .ref a, res], []⟩) R s := by
    intro n ih s acc c hat hS
    refine codeAny_builtin F.entry_extend_loop ?_
    rw [Around.under_plainId F.plain_extend_loop _]
    show wpAny _ A.in1 (pyNext (.ref a) >>= _) _ _ s
    refine wpAny_bind (gn_next (A := A.in1) hh hroom ob hfp tk hA hat (fun v s1 ys y i H pl h0 hlt rv hac rest yd hk => ?_) (fun s1 ys H pl h0 hac pv hI fi => ?_))
    · rw [hacc] at hac
      obtain ⟨acc0, c0, rfl, hv, hl⟩ := hac
      obtain ⟨hz, hP⟩ := hYd _ _ _ _ yd
      obtain ⟨Ag, d1, d2⟩ := hA
      have hS' : s1.heap.get? S = some (colO acc0 c0) := ((rest.inv Ag d1 d2).pin (S, _) (List.mem_append_right _ (List.mem_singleton.mpr rfl))).1
      have bare1 : AllBare s1.gens := (rest.inv Ag d1 d2).bare
      have hasz : acc0.size < sizeLine := by
        rw [← Array.length_toList, ← L2.Vals.length hv]
        exact hz
      show wpAny _ A.in1 (updateSeq S (·.push v) >>= _) _ _ _
      refine wpAny_bind (wpAny_updateSeq hS' rfl (wpAny_pure ⟨plainId_quiet F.plain_extend_loop _, ?_⟩) (Nat.le_of_lt hasz) (by show (acc0.push v).size ≤ sizeLine + 1; rw [Array.size_push]; omega))
      have hS2 := Heap.get?_update_self (Obj.mapSeq (·.push v)) hS' rfl
      have other : ∀ {b : Addr} {o : Obj}, b ≠ S → s1.heap.get? b = some o → (s1.heap.update S (Obj.mapSeq (·.push v))).get? b = some o := fun hb e => (Heap.get?_update_other _ _ (Ne.symm hb)).trans e
      have e2 : ∃ c2, (Obj.mapSeq (·.push v)) (colO acc0 c0) = colO (acc0.push v) c2 := ⟨_, rfl⟩
      obtain ⟨c2, e2⟩ := e2
      rw [e2] at hS2
      obtain ⟨m, hm, hat2⟩ := hk hP [(S, colO (acc0.push v) c2)] { s1 with heap := s1.heap.update S (Obj.mapSeq (·.push v)) } rfl
        (by rw [hacc]; exact ⟨_, _, rfl, by rw [Array.toList_push]; exact hv.append (.cons rv .nil), by rw [List.length_append, List.length_singleton]; exact hz⟩)
        ⟨rfl, bare1, rfl, fun b o hb e => other (fun hbS => hb (by simp [hbS])) e, fun p hp => by rw [List.mem_singleton.mp hp]; exact ⟨hS2, fun v q => by cases q⟩⟩
      exact ih m hm _ _ c2 hat2 hS2
    · rw [hacc] at hac
      obtain ⟨acc0, c0, rfl, hv, hl⟩ := hac
      exact wpAny_pure (hR s1 ys acc0 c0 H pv hI hv hl fi)
  intro n
  induction n with
  | zero => exact main 0 fun m e => by cases e
  | succ m ih => exact main (m + 1) fun m' e => by cases e; exact ih
end
/-- what the collector is to know -/
def ColRq (X : Cx) (t : TG) (tt : TT) (te : TE) (σ : L2.St) (vs : List Nat) (Fin : List V → Hp → Prop) : It → Hp → Prop := fun J H => ∃ (len : Nat) (Pp : List V → Nat → Hp → Prop) (Fi : List V → Hp → Prop), Pp [] 0 H ∧
  (∀ A : List V → List (Addr × Obj) → Prop, GnT X ⟨J, len, A, Pp, fun ys y i H => ys.length < sizeLine ∧ Pp (ys ++ [y]) (i + 1) H, Fi⟩ t tt te (L2.wipe σ vs) vs) ∧ ∀ ys H, Fi ys H → Fin ys H
section
variable {X : Cx} {F : Fx} {W : Wd} {Wx : WX} {pos : Pos} {pins : List (Addr × Obj)} {σ : L2.St} {H : Hp}
theorem collect_gn {k : Nat} {a : Addr} {s5 : Shared} {J : It} {elt iter tgE : Expr} {ifs : List Expr} {gpos : Pos} {scope : Scope} {own : List (Str × Nat)} {g : TG} {tt : TT} {te : TE} {Fn : List V → Hp → Prop} {A : Around} {R : List Value → Shared → Prop} {E : Value → Shared → Prop}
    (hd : A.handled = none) (hdp : A.depth < recursionLimit) (hfr : A.frames = some X.stack) (hr : ∀ env, Room k (A.in1.in1.deeper env)) (hc : X.calm = true) (hN : X.N.Nodup)
    (S : GnOk X.N X.env.scope scope own) (pr : GnParts X k scope tgE elt ifs g tt te) (M : GnMade X pins σ H scope tgE elt iter ifs gpos J a s5) (h : ColRq X g tt te σ (own.map (·.2)) Fn J H)
    (hR : ∀ s' ys acc H', Inv X pins σ H' s' → Vals ys acc → ys.length ≤ sizeLine → Fn ys H' → R acc s') :
    wpAny (model X.prog X.w) A (collect (.ref a)) R E s5 := by
  obtain ⟨len, Pp, Fi, h0, hT, hFi⟩ := h
  have M0 := M
  obtain ⟨s4, fp, tn, it, code, go, mm, gn, I4, os5, bare5, k45, ha1, ha2, hgo, hgo2, hgd, hns, T, st5, f4, hgen⟩ := M.ex
  have hlt : a < s5.heap.objs.size := ha2
  have hg5 : s5.heap.IsGen a gn := hgo2 _ hgo
  unfold collect
  refine wpAny_bind (wpAny_runValue (codeAny_builtin F.entry_proto_collect ?_))
  rw [Around.under_plainId F.plain_proto_collect _]
  show wpAny _ A.in1 (newList [] >>= fun l => again (.builtin "list.__iadd__" ⟨[l, .ref a], []⟩)) _ _ s5
  refine wpAny_bind (wpAny_newObj_type ?_)
  refine wpAny_pure ⟨plainId_quiet F.plain_list_iadd _, codeAny_builtin F.entry_list_iadd ?_⟩
  rw [Around.under_plainId F.plain_list_iadd _]
  have hS : (s5.heap.push { cls := .type "list", data := .seq ([] : List Value).toArray }).get? s5.heap.objs.size = some { cls := .type "list", data := .seq #[] } := Heap.get?_push_size _ rfl
  have hSa : s5.heap.objs.size ≠ a := Nat.ne_of_gt hlt
  show wpAny _ A.in1 (Builtin.List.listExtendWith (.ref s5.heap.objs.size) (.ref a) (.ref s5.heap.objs.size)) _ _ _
  unfold Builtin.List.listExtendWith
  have up : ∀ (h : Heap) (f : Obj → Obj), (∀ b o, s5.heap.get? b = some o → h.get? b = some o) → ∀ b o, s5.heap.get? b = some o → (h.update s5.heap.objs.size f).get? b = some o := fun h f q b o e =>
    (Heap.get?_update_other _ _ (Ne.symm (Nat.ne_of_lt (Heap.lt_size e)))).trans (q b o e)
  have k1 : ∀ b o, s5.heap.get? b = some o → (s5.heap.push { cls := .type "list", data := .seq ([] : List Value).toArray }).get? b = some o := fun b o e => Heap.get?_push_of_some _ e
  have gty : ∀ {h : Heap}, (∀ b o, s5.heap.get? b = some o → h.get? b = some o) → h.IsGen a gn := fun {h} q => hg5.keeps q
  refine wpAny_bind (wpAny_typeOf (Heap.IsGen.typeIs (s := { s5 with heap := _ }) (gty k1)) ?_)
  have h1 : Builtin.List.listSameRef (.ref s5.heap.objs.size) (.ref a) = false := by simp [Builtin.List.listSameRef, hSa]
  have h2 : (Value.type "generator" == Value.type "list") = false := by decide
  have h3 : (Value.type "generator" == Value.type "tuple") = false := by decide
  simp only [h1, h2, h3, Bool.or_false, Bool.false_eq_true, if_false]
  refine wpAny_bind (wpAny_pyIter_gen (s := { s5 with heap := _ }) (gty k1) ?_)
  refine wpAny_bind (wpAny_holding ?_)
  unfold Builtin.List.listLengthHint
  refine wpAny_bind (wpAny_specialOf (Heap.IsGen.typeIs (s := { s5 with heap := _ }) (gty k1)) F.gen_no_len ?_)
  show wpAny _ A.in1 (specialOf (Value.ref a) (Str.ofString "__length_hint__") >>= _) _ _ _
  refine wpAny_bind (wpAny_specialOf (Heap.IsGen.typeIs (s := { s5 with heap := _ }) (gty k1)) F.gen_no_hint ?_)
  refine wpAny_pure ?_
  show wpAny _ A.in1 (rule "list.extend.makes-room" >>= fun _ => Builtin.List.listTouch (.ref s5.heap.objs.size) >>= fun _ =>
    again (.builtin "list.extend.loop" ⟨[.ref s5.heap.objs.size, .ref a, .ref s5.heap.objs.size], []⟩)) _ _ _
  refine wpAny_bind (wpAny_rule ?_)
  refine wpAny_bind ?_
  show wpAny _ A.in1 (updateSeq s5.heap.objs.size (·.push .none) >>= fun _ => updateSeq s5.heap.objs.size (·.pop)) _ _ _
  refine wpAny_bind (wpAny_updateSeq hS rfl ?_)
  have hS3 := Heap.get?_update_self (Obj.mapSeq (·.push Value.none)) hS rfl
  refine wpAny_updateSeq (hz := by seq_fits) hS3 rfl ?_
  have hS4 := Heap.get?_update_self (Obj.mapSeq (·.pop)) hS3 rfl
  have k4 := up _ (Obj.mapSeq (·.pop)) (up _ (Obj.mapSeq (·.push Value.none)) k1)
  refine wpAny_pure ⟨plainId_quiet F.plain_extend_loop _, ?_⟩
  have e4 : ∃ c4, (Obj.mapSeq (·.pop)) ((Obj.mapSeq (·.push Value.none)) { cls := .type "list", data := .seq ([] : List Value).toArray }) = colO #[] c4 := ⟨_, rfl⟩
  obtain ⟨c4, e4⟩ := e4
  have hS5 : (((s5.heap.push { cls := .type "list", data := .seq ([] : List Value).toArray }).update s5.heap.objs.size (Obj.mapSeq (·.push Value.none))).update s5.heap.objs.size (Obj.mapSeq (·.pop))).get? s5.heap.objs.size = some (colO #[] c4) := by
    rw [← e4]
    exact hS4
  let r : GnR := ⟨J, len, colAcc s5.heap.objs.size, Pp, fun ys y i H => ys.length < sizeLine ∧ Pp (ys ++ [y]) (i + 1) H, Fi⟩
  obtain ⟨G, gn2, eX, hsz, ob, hfp, tk, hA, hat, back⟩ := gn_at (A := A.in1) (k := k) (r := r) (pl := [(s5.heap.objs.size, colO #[] c4)]) (s6 := { s5 with heap := _ }) M0 S hN hc rfl hd hfr hr
    k4 rfl rfl (fun p hp => by rw [List.mem_singleton.mp hp]; exact ⟨Nat.le_refl _, hS5, fun v z => by cases z⟩) ⟨#[], c4, rfl, .nil, Nat.zero_le _⟩ h0 pr.g pr.t pr.e (hT _)
  subst eX
  refine ext_gn hd hdp ob hfp tk hA rfl (fun ys y i H h => h) (fun s' ys acc c H' pv hI hv hl fi => ?_) r.len _ _ _ hat hS5
  obtain ⟨Ag, d1, d2⟩ := hA
  have IA := hI Ag d1 d2
  have hS' : s'.heap.get? s5.heap.objs.size = some (colO acc c) := (IA.pin (s5.heap.objs.size, _) (List.mem_append_right _ (List.mem_singleton.mpr rfl))).1
  show wpAny _ A (load s5.heap.objs.size >>= _) _ _ _
  exact wpAny_bind (wpAny_load hS' (wpAny_pure (hR s' ys acc.toList H' (back Ag _ H' s' IA) hv hl (hFi ys H' fi))))
/-- those that take all of them -/
def colB : Ck → Bool
  | .sorted => true
  | .tuple => true
  | _ => false
def ColFin (F : Fx) (ck : Ck) (Q : VK) : List V → Hp → Prop := fun ys H2 => ∃ ω2 m2 wr ds d, Cells F ω2 m2 H2 ∧ TabInv F H2 ∧ Reps F ω2 H2 ds ys ∧ endCo ck ds = some d ∧ ∀ ω' v H', Po F wr ω2 m2 H2 ω' m2 H' → Rep F ω' H' d v → Q v H'
theorem col_read {ck : Ck} {elt : Ex} {tg : Tg} {src : Src} {ifs : List Ex} {t : TG} {vs : List Nat} {σ : L2.St} {H : Hp} {Q : VK} {P : Addr} (hck : colB ck = true) (ne : isB elt = false) (ht : GOk F t tg) (hvs : vs = tvars tg) (hP : P ∈ F.TG) (hTL : ∀ p ∈ F.TL, p.1 ≠ P)
    (h : LE F Wx false (evE W (.co ck elt tg src ifs)) σ H Q) : LI F Wx W src σ H fun J H1 => GxR.TabG H1 P ∧ ∀ H2, TabX P H1 H2 → ColRq X t (LTs F W ifs) (LE F Wx0 false (evE W elt)) σ vs (ColFin F ck Q) J H2 := by
  subst hvs
  obtain ⟨ω, g, m, wr, S, h⟩ := h
  refine LG.of (wr := wr) S ?_
  show Fin F Wx wr σ (RelI F) _ ω m H (evSx W src wr g m)
  have e0 : evE W (.co ck elt tg src ifs) wr g m = (evS W src wr g m).bind fun r m1 => (turns (coBody W elt tg ifs (lockW wr r.2) g) r.1 [] m1).bind fun ys m' => R.of (endCo ck ys) m' := by
    have e1 : evE W (.co ck elt tg src ifs) wr g m = (evS W src wr g m).bind fun r m1 => runCo ck (coBody W elt tg ifs (lockW wr r.2) g) r.1 m1 := by
      simp only [evE]
      rw [ev]
      exact if_neg (by rw [ne]; exact Bool.false_ne_true)
    rw [e1]
    cases ck <;> first | (simp [colB] at hck; done) | rfl
  rw [e0] at h
  simp only [evSx]
  cases hs : evS W src wr g m with
  | stuck => rw [hs] at h; exact h
  | exc c m' => rw [hs] at h; exact h
  | ok r m1 =>
    obtain ⟨xs, p⟩ := r
    rw [hs] at h
    simp only [R.bind_ok] at h ⊢
    intro ω1 J H1 p1 hr
    obtain ⟨A, hA, wk⟩ := hr
    have hA : ∀ b, A b → AOk ω1 m1 g p b ∧ ∃ o, H1 b = some o ∧ ∀ ps, o ≠ .tbl ps := hA
    have wk : Walk F A ω1 H1 J xs := wk
    refine ⟨p1.tabs.1 P hP, fun H1' hT => ?_⟩
    have S1 := S.po p1
    let wr' := lockW wr p
    let body := coBody W elt tg ifs wr' g
    have p0 : Po F wr' ω1 m1 H1 ω1 m1 H1' := po_tab p1.cells p1.tabs hT hP hTL
    have hU : ∀ b, A b → ¬ Ub ω1 m1 wr' b := fun b hb => aok_ub S1 (hA b hb).1
    refine ⟨xs.length, fun ys i H2 => i ≤ xs.length ∧ ∃ ω2 m2 ds, Po F wr' ω1 m1 H1 ω2 m2 H2 ∧ Reps F ω2 H2 ds ys ∧ Fin F Wx wr σ (VRel F false) Q ω m H ((turns body (xs.drop i) ds m2).bind fun ys m' => R.of (endCo ck ys) m'),
      ColFin F ck Q, ⟨Nat.zero_le _, ω1, m1, [], p0, rfl, h⟩, fun Ac => ⟨?_, ?_⟩, fun ys H h => h⟩
    · rintro ys H2 ⟨hi, ω2, m2, ds, p2, rds, hf⟩
      have hold : Hold F A ω1 H1 ω2 H2 := po_hold p1.cells p2 hU
      have hf : Fin F Wx wr σ (VRel F false) Q ω m H ((turns body (xs.drop xs.length) ds m2).bind fun ys m' => R.of (endCo ck ys) m') := hf
      refine ⟨wk.stop ω2 H2 hold, ?_⟩
      rw [List.drop_length] at hf
      have hf : Fin F Wx wr σ (VRel F false) Q ω m H (R.of (endCo ck ds) m2) := hf
      have p12 : Po F wr ω m H ω2 m2 H2 := p1.trans S.ce (p2.mono (lockW_le wr p))
      cases e : endCo ck ds with
      | none => rw [e] at hf; exact hf.elim
      | some d =>
        rw [e] at hf
        exact ⟨ω2, m2, wr, ds, d, p2.cells, p2.tabs, rds, e, fun ω' v H' p' r' => hf ω' v H' (p12.trans S.ce p') (.inl r')⟩
    · rintro ys i H2 hlt ⟨hi, ω2, m2, ds, p2, rds, hf⟩
      have hlt : i < xs.length := hlt
      have hold : Hold F A ω1 H1 ω2 H2 := po_hold p1.cells p2 hU
      refine ⟨wk.go ω2 H2 i hold hlt, fun x H3 hy => ?_⟩
      obtain ⟨d, ω3, e1, p3, r3⟩ := wk.yld wr' ω2 m2 H2 i x H3 hold p2.cells p2.tabs hlt hy
      have p23 := p2.trans p1.cells p3
      have rds3 := Reps.stays (p3.stays p2.cells) _ _ rds
      rw [drop_cons e1, turns_cons] at hf
      have S3 : SlRel F ω3 (wipeG g (tvars tg)) m2 (L2.wipe σ (tvars tg)) H3 := (S1.sl.po p1.cells p23).wipe _
      cases hb : bindT tg d (wipeG g (tvars tg)) with
      | none =>
        simp only [body, coBody, hb] at hf
        exact hf.elim
      | some g' =>
        have hbody : body d m2 = R.nox ((evI W ifs wr' g' m2).bind fun b m' => if b then (ev W elt wr' g' m').bind fun y m'' => .ok (some y) m'' else .ok none m') := by
          simp only [body, coBody, hb]
        rw [hbody] at hf
        refine ht ω3 H3 _ m2 _ d x g' _ S3 r3 hb fun σ' S' hl' hk' => ⟨?_, ?_⟩
        · exact (wipe_eq hl' hk').trans wipe_wipe
        · have St3 : Stt F ω3 g' m2 σ' H3 := ⟨S', p23.cells, p23.tabs⟩
          refine LG.of (wr := wr') St3 ?_
          show Fin F Wx0 wr' σ' _ _ ω3 m2 H3 (evI W ifs wr' g' m2)
          cases ht2 : evI W ifs wr' g' m2 with
          | stuck => rw [ht2] at hf; exact hf.elim
          | exc c m' => rw [ht2] at hf; exact hf.elim
          | ok b m4 =>
            rw [ht2] at hf
            intro ω4 b' H4 p4 hb'
            subst hb'
            have p24 := p23.trans p1.cells p4
            have rds4 := Reps.stays (p4.stays p23.cells) _ _ rds3
            simp only [R.bind_ok] at hf
            cases b with
            | false =>
              simp only [Bool.false_eq_true, if_false, R.nox, R.bind_ok] at hf ⊢
              exact ⟨hlt, ω4, m4, ds, p24, rds4, hf⟩
            | true =>
              simp only [if_true] at hf ⊢
              refine LG.of (wr := wr') (St3.po p4) ?_
              show Fin F Wx0 wr' σ' (VRel F false) _ ω4 m4 H4 (ev W elt wr' g' m4)
              cases hx : ev W elt wr' g' m4 with
              | stuck => rw [hx] at hf; exact hf.elim
              | exc c m' => rw [hx] at hf; exact hf.elim
              | ok y m5 =>
                rw [hx] at hf
                intro ω5 v H5 p5 r5
                have p25 := p24.trans p1.cells p5
                have rds5 := Reps.stays (p5.stays p24.cells) _ _ rds4
                simp only [R.bind_ok, R.nox] at hf
                split at hf
                · rename_i hz
                  exact ⟨by rw [rds5.length]; exact hz, hlt, ω5, m5, ds ++ [y], p25, Reps.app rds5 (Reps.cons r5.pure (show Reps F ω5 H5 [] [] from rfl)), hf⟩
                · exact hf.elim
theorem room_gn2 {k : Nat} {A : Around} (r : Room (k + 1) A) (env : Env) : Room k (A.in1.in1.in1.deeper env) :=
  ⟨r.hd, by have := r.dp; show A.depth + 1 + 3 * k + 5 < _; omega, by have := r.un; show A.units + 1 + 1 + 1 + 3 + 16 * k + 200 < _; omega⟩
theorem sorted_call {k : Nat} {a : Addr} {s5 : Shared} {J : It} {elt iter tgE : Expr} {ifs : List Expr} {gpos : Pos} {scope : Scope} {own : List (Str × Nat)} {g : TG} {tt : TT} {te : TE} {Q : VK} (hK : X.K = F.K) (hr : Room (k + 1) X.A) (hfr : X.A.frames = some X.stack) (hc : X.calm = true) (hN : X.N.Nodup)
    (S : GnOk X.N X.env.scope scope own) (pr : GnParts X k scope tgE elt ifs g tt te) (M : GnMade X pins σ H scope tgE elt iter ifs gpos J a s5) (h : ColRq X g tt te σ (own.map (·.2)) (ColFin F .sorted Q) J H) :
    wpAny (model X.prog X.w) X.A (call (.builtin "sorted") [.ref a]) (EP X pins σ Q) X.xe s5 := by
  refine Calls.call_function_entry PyProof.Rows.kind_sorted PyProof.Rows.plain_sorted PyProof.Rows.entry_sorted (PyProof.Rows.args_sorted1 _) ?_
  unfold Builtin.«sorted»
  refine wpAny_bind (m := checkCount "sorted" 1 1 _) (wpAny_pure ?_)
  refine wpAny_bind (collect_gn (A := X.A.in1) hr.hd (room_deep (A := X.A) hr) hfr (fun env => room_gn2 hr env) hc hN S pr M h fun s' ys acc H' I hv hl fi => ?_)
  obtain ⟨ω2, m2, wr, ds, d, C2, T2, rds, e, q⟩ := fi
  simp only [endCo] at e
  split at e
  · rename_i hs
    cases e
    obtain ⟨s1, s2, s3⟩ := sortable_ok hs
    refine sort_tail hr I hv hl (ds := ds) (by rw [hK]; exact Reps.dpA _ _ rds (allAlike_self s1)) s1 s2 s3 fun l us ⟨ps, q1, q2, q3⟩ hl => ?_
    have p := Po.new (wr := wr) (o := .lst (us.map (·.1))) C2 T2 hl
    exact q _ _ _ p ⟨l, _, rfl, upd_same, fun z => z.2 rfl, Reps.stays (p.stays C2) _ _ (sort_rep rds q1 q2 q3)⟩
  · cases e
theorem pe_sortedG {k : Nat} {np gpos : Pos} {c P : Addr} {elt iter tgE : Expr} {e : Ex} {tg : Tg} {src : Src} {ifs : List Expr} {is : List Ex} {scope : Scope} {own : List (Str × Nat)} {t : TG} (hK : X.K = F.K) (hr : Room (k + 1) X.A) (hc : X.calm = true) (hN : X.N.Nodup)
    (hg : Gl X "sorted") (hm : X.mg "sorted" = none) (hv : bootBuiltins "sorted" = some (.builtin "sorted")) (TB : GxR.TabB X.base X.mg c P) (hcode : X.env.code = .ref c) (hP : P ∈ F.TG) (hTL : ∀ p ∈ F.TL, p.1 ≠ P)
    (ne : isB e = false) (pf : plainG iter = true) (ok : GnOk X.N X.env.scope scope own) (hvs : own.map (·.2) = tvars tg) (hi : PI X tgE iter (LI F Wx W src)) (hG : GOk F t tg) (pr : GnParts X k scope tgE elt ifs t (LTs F W is) (LE F Wx0 false (evE W e))) :
    PE X (.Call (.Name "sorted" np) [.GeneratorExp elt [⟨tgE, iter, ifs, 0⟩] scope gpos] [] pos) (LE F Wx false (evE W (.co .sorted e tg src is))) :=
  ⟨fun pins s σ H Q I h => gen_call hg hm hv (by decide) (by decide) (room_deep hr) TB hcode ok hi (plain_gen pf _) I (col_read (X := X) rfl ne hG hvs hP hTL h) fun J H2 a s5 hq M => sorted_call hK hr I.ok.frames hc hN ok pr M hq⟩
/-- tuple(genexp) -/
theorem tuple_call {k : Nat} {a : Addr} {s5 : Shared} {J : It} {elt iter tgE : Expr} {ifs : List Expr} {gpos : Pos} {scope : Scope} {own : List (Str × Nat)} {g : TG} {tt : TT} {te : TE} {Q : VK} (hr : Room (k + 1) X.A) (hfr : X.A.frames = some X.stack) (hc : X.calm = true) (hN : X.N.Nodup)
    (S : GnOk X.N X.env.scope scope own) (pr : GnParts X k scope tgE elt ifs g tt te) (M : GnMade X pins σ H scope tgE elt iter ifs gpos J a s5) (h : ColRq X g tt te σ (own.map (·.2)) (ColFin F .tuple Q) J H) :
    wpAny (model X.prog X.w) X.A (call (.type "tuple") [.ref a]) (EP X pins σ Q) X.xe s5 := by
  refine callType_codes (Q₁ := fun obj s₁ => s₁.TypeIs obj "tuple" ∧ EP X pins σ Q obj s₁) PySem.F.called_tuple (PySem.F.typeCall_tuple_1 _) PySem.F.entry_object_init ?_ fun obj s₁ h₁ =>
    ⟨h₁.1, PySem.F.args_object_init_2 obj _, object_init_meets PySem.F.called_tuple.init.lookup PySem.F.called_tuple.made (by decide) X.prog X.w X.A.in1 _ s₁ ⟨h₁.1, rfl, h₁.2⟩⟩
  refine codeAny_of_tree ?_
  show wpAny _ X.A.in1.in1 (do checkBuiltinCall "tuple.__new__" ⟨[.type "tuple", .ref a], []⟩; again (.builtin "tuple.__new__" ⟨[.type "tuple", .ref a], []⟩)) _ _ s5
  refine wpAny_bind (wpAny_of_eq (PySem.F.newCall_tuple_1 _) (wpAny_pure ⟨plainId_quiet PySem.F.plain_tuple_new _, codeAny_builtin PySem.F.entry_tuple_new ?_⟩))
  rw [Around.under_plainId PySem.F.plain_tuple_new _]
  have hsub := sub_tuple_self
  have hinit := init_tuple_lookup
  have hmh := madeHere_tuple
  obtain ⟨s4, fp, tn, it, code, go, mm, gn, I4, os5, bare5, k45, ha1, ha2, hgo, hgo2, hgd, hns, T, st5, f4, hgen⟩ := M.ex
  have hTI : s5.TypeIs (.ref a) "generator" := Heap.IsGen.typeIs (s := s5) (hgo2 _ hgo)
  have rm : ∀ env : Env, Room k (X.A.in1.in1.in1.in1.deeper env) := fun env => ⟨hr.hd, by have := hr.dp; show X.A.depth + 1 + 3 * k + 5 < _; omega, by have := hr.un; show X.A.units + 1 + 1 + 1 + 1 + 3 + 16 * k + 200 < _; omega⟩
  have hd2 : X.A.in1.in1.handled = none := hr.hd
  have hfr2 : X.A.in1.in1.frames = some X.stack := hfr
  have hdp2 : X.A.in1.in1.depth < recursionLimit := room_deep (A := X.A) hr
  wp_walk using wpAny_typeOf hTI, collect_gn (A := X.A.in1.in1) hd2 hdp2 hfr2 rm hc hN S pr M h
  intro s' ys acc H' I hv hl fi
  obtain ⟨ω2, m2, wr, ds, d, C2, T2, rds, e, q⟩ := fi
  simp only [endCo] at e
  cases e
  show wpAny _ _ (Builtin.Tuple.tupleExact acc.toArray >>= fun v => ret v) _ _ _
  unfold Builtin.Tuple.tupleExact
  refine wpAny_bind (wpAny_newObj_type ?_ (by show acc.toArray.size ≤ sizeLine; rw [List.size_toArray, ← L2.Vals.length hv]; exact hl))
  refine wpAny_pure ⟨⟨_, Heap.get?_push_size _ rfl, rfl⟩, .ref s'.heap.objs.size, upd H' s'.heap.objs.size (.tup ys), I.laid (t' := s'.toks) (fun b o e => Heap.get?_push_of_some _ e) (Nat.le_refl _) (show ObjOk X.prog X.w _ _ _ (.tup ys) from ⟨hl, acc, hv, IsTup.new _ _⟩), rfl, ?_⟩
  have hl2 : H' s'.heap.objs.size = none := I.hok.fresh (Nat.le_refl _)
  have p := Po.new (wr := wr) (o := .tup ys) C2 T2 hl2
  exact q _ _ _ p ⟨_, ys, rfl, .inl ⟨upd_same, fun z => z.2 rfl⟩, Reps.stays (p.stays C2) _ _ rds⟩
theorem pe_tupleG {k : Nat} {np gpos : Pos} {c P : Addr} {elt iter tgE : Expr} {e : Ex} {tg : Tg} {src : Src} {ifs : List Expr} {is : List Ex} {scope : Scope} {own : List (Str × Nat)} {t : TG} (hr : Room (k + 1) X.A) (hc : X.calm = true) (hN : X.N.Nodup)
    (hg : Gl X "tuple") (hm : X.mg "tuple" = none) (hv : bootBuiltins "tuple" = some (.type "tuple")) (TB : GxR.TabB X.base X.mg c P) (hcode : X.env.code = .ref c) (hP : P ∈ F.TG) (hTL : ∀ p ∈ F.TL, p.1 ≠ P)
    (ne : isB e = false) (pf : plainG iter = true) (ok : GnOk X.N X.env.scope scope own) (hvs : own.map (·.2) = tvars tg) (hi : PI X tgE iter (LI F Wx W src)) (hG : GOk F t tg) (pr : GnParts X k scope tgE elt ifs t (LTs F W is) (LE F Wx0 false (evE W e))) :
    PE X (.Call (.Name "tuple" np) [.GeneratorExp elt [⟨tgE, iter, ifs, 0⟩] scope gpos] [] pos) (LE F Wx false (evE W (.co .tuple e tg src is))) := by
  refine ⟨fun pins s σ H Q I h => ?_⟩
  have he : starEach [.GeneratorExp elt [⟨tgE, iter, ifs, 0⟩] scope gpos] X.env = (false, eval (.GeneratorExp elt [⟨tgE, iter, ifs, 0⟩] scope gpos) X.env) :: starEach [] X.env := rfl
  refine wpAny_Call_Name_kw (ld_blt I hg hm hv ?_ (by decide) (by decide))
  refine PyProof.Rows.callWith_type1 ?_ he (by rfl)
  rw [he]
  show wpAny _ _ (spliced ((false, eval (.GeneratorExp elt [⟨tgE, iter, ifs, 0⟩] scope gpos) X.env) :: backTo pos (starEach [] X.env))) _ _ s
  exact Calls.spliced_cons (gen_made (room_deep hr) TB hcode ok hi (plain_gen pf _) I (col_read (X := X) rfl ne hG hvs hP hTL h) fun J H2 a s5 hq M => Calls.spliced_nil (tuple_call hr I.ok.frames hc hN ok pr M hq))
end
end Ev
end
section
set_option linter.all false
set_option autoImplicit false
set_option maxRecDepth 100000
set_option maxHeartbeats 1000000
/-! Ev, part HA: a lambda is made, its object known from then on. -/
namespace Ev
open PySem PySem.Spec PyProof.Rows L2 LamX

/-- the object at f is o -/
def FunO (f : Addr) (o : Obj) : HO := .ext fun h => h.get? f = some o
theorem funO_ne {f : Addr} {o : Obj} (ps : Array Value) : FunO f o ≠ .tbl ps := fun z => by
  unfold FunO at z
  cases z
theorem funO_at {P : Program} {w : World} {H : Hp} {h : Heap} {f : Addr} {o : Obj} (hok : HOk P w H h) (e : H f = some (FunO f o)) : h.get? f = some o := by
  obtain ⟨z, _, _⟩ := hok f _ e
  exact z
/-- what a lambda's making leaves -/
structure LamMade (T : List (Addr × Str)) (P : Addr) (q : Str) (H H1 : Hp) (f c' : Addr) (o : Obj) : Prop where
  keep : ∀ b u, H b = some u → b ≠ P → H1 b = some u
  tab : ∃ ps more : Array Value, H P = some (.tbl ps) ∧ H1 P = some (.tbl (ps ++ more))
  tabs : Tabs T H1
  nf : H f = none
  fo : H1 f = some (FunO f o)
  co : H1 c' = some (CodeO c' q)
section
variable {X : Cx} {pins : List (Addr × Obj)} {σ : L2.St} {H : Hp} {s : Shared}
theorem inv_lam {o : Obj} {t' : Nat} (I : Inv X pins σ H s) (hf : o.isFreed = false) : Inv X pins σ (upd H s.heap.objs.size (FunO s.heap.objs.size o)) { s with heap := s.heap.push o, toks := t' } := by
  refine I.laid (a := s.heap.objs.size) (fun b u e => Heap.get?_push_of_some _ e) (Nat.le_refl _) ?_
  have e : (s.heap.push o).get? s.heap.objs.size = some o := Heap.get?_push_size _ hf
  exact ⟨e, ⟨_, e⟩, fun h1 h2 z st => st _ z⟩
theorem lam_make3 {T : List (Addr × Str)} {c P : Addr} {params : Arguments} {body : Expr} {scope : Scope} {pos : Pos} {E : Value → Shared → Prop} {Q : Value → Shared → Prop} (I : Inv X pins σ H s) (TB : LamX.TabB X.base X.mg c P) (hcode : X.env.code = .ref c)
    (hm : (P, X.env.qual ++ "<lambda>") ∈ T) (hu : ∀ p ∈ T, p.1 = P → p.2 = X.env.qual ++ "<lambda>") (hT : Tabs T H) (hdef : defaultsOf params X.env = ([], [])) (hfree : ∀ y ∈ scope.names, y.2 = .free → ∃ c, X.env.cells.lookup y.1 = some c)
    (h : ∀ (f c' : Addr) (pm ctv : Value) (H1 : Hp) (s' : Shared), Inv X pins σ H1 s' →
      LamMade T P (X.env.qual ++ "<lambda>") H H1 f c' (PySem.W.kla_obj "<lambda>" (X.env.qual ++ "<lambda>") params body scope (cloFrom X.env.cells scope.names []) pm c' ctv) → Q (.ref f) s') :
    wpAny (model X.prog X.w) X.A (eval (.Lambda params body scope pos) X.env) Q E s := by
  obtain ⟨ps, hP, ht, ha⟩ := hT _ hm
  refine PySem.W.kla_eval hdef ?_
  have bP : s.heap.BuiltinsAt X.mg P := TB.bm.keeps I.bk
  have hP' : s.heap.get? P = some { cls := .none, data := .fields ps } := I.hok P _ hP
  cases hc : codeAmong pos ps.toList with
  | none =>
    refine PySem.W.kla_makeFunction (mg := X.mg) (c := c) (P := P) (ps := ps) (closure_ok hfree) I.ok.glob (I.mod.glob.keeps I.bk) hcode (TB.code.keeps I.bk) hP' ht hc TB.gP bP fun c' ctv h' tk hx hge hlt hrec htb => ?_
    obtain ⟨c2, oc, vs, t, e2, hoc, hd, hv⟩ := hrec
    cases e2
    have nC : H c' = none := I.hok.fresh hge
    have I1 := inv_table (t' := tk) (more := #[rawInt pos.line, rawInt pos.col, .ref c']) (h' := h') I hP (fun b o hb e => hx b o hb e) htb hge ⟨oc, vs, t, hoc, hd, hv⟩
    have nF := I1.hok.fresh (Nat.le_refl h'.objs.size)
    have hE : ∀ b u, H b = some u → b ≠ P → upd (upd H P (.tbl (ps ++ #[rawInt pos.line, rawInt pos.col, .ref c']))) c' (CodeO c' (X.env.qual ++ "<lambda>")) b = some u := fun b u e n => by
      rw [upd_ne (ne_of_none e nC), upd_ne n]
      exact e
    have nP : ∀ {b : Addr} {q : Str}, H b = some (CodeO b q) → b ≠ P := fun {b q} e z => by
      rw [z, hP] at e
      exact codeO_ne _ (Option.some.inj e).symm
    have eL : (ps ++ #[rawInt pos.line, rawInt pos.col, .ref c']).toList = ps.toList ++ [rawInt pos.line, rawInt pos.col, .ref c'] := by simp
    have T1 : Tabs T (upd (upd H P (.tbl (ps ++ #[rawInt pos.line, rawInt pos.col, .ref c']))) c' (CodeO c' (X.env.qual ++ "<lambda>"))) := fun p hp => by
      by_cases hb : p.1 = P
      · rw [hu p hp hb, hb]
        refine ⟨_, by rw [upd_ne (ne_of_none hP nC), upd_same], by rw [eL]; exact PySem.TriplesOk_snoc _ _ _ _ ht, fun p' cv hcv => ?_⟩
        rw [eL] at hcv
        rcases LamX.among_app _ ht hcv with z | z
        · obtain ⟨c0, e1, e2⟩ := ha p' cv z
          exact ⟨c0, e1, hE _ _ e2 (nP e2)⟩
        · exact ⟨c', z, upd_same⟩
      · obtain ⟨ps', a1, a2, a3⟩ := hT p hp
        refine ⟨ps', by rw [upd_ne (ne_of_none a1 nC), upd_ne hb]; exact a1, a2, fun p' cv hcv => ?_⟩
        obtain ⟨c0, e1, e2⟩ := a3 p' cv hcv
        exact ⟨c0, e1, hE _ _ e2 (nP e2)⟩
    have I2 := inv_lam (t' := tk) (o := PySem.W.kla_obj "<lambda>" (X.env.qual ++ "<lambda>") params body scope (cloFrom X.env.cells scope.names []) ((X.mg "__name__").getD .none) c' ctv) I1 rfl
    have up : ∀ {b : Addr} {u : HO}, (upd (upd H P (.tbl (ps ++ #[rawInt pos.line, rawInt pos.col, .ref c']))) c' (CodeO c' (X.env.qual ++ "<lambda>"))) b = some u → ∀ x : HO, upd (upd (upd H P (.tbl (ps ++ #[rawInt pos.line, rawInt pos.col, .ref c']))) c' (CodeO c' (X.env.qual ++ "<lambda>"))) h'.objs.size x b = some u := fun {b u} e x => by
      rw [upd_ne (ne_of_none e nF)]
      exact e
    refine h h'.objs.size c' ((X.mg "__name__").getD .none) ctv _ _ I2 ⟨fun b u e n => up (hE b u e n) _, ⟨ps, _, hP, up (by rw [upd_ne (ne_of_none hP nC), upd_same]) _⟩, T1.ext fun b u e => up e _, I.hok.fresh (Nat.le_trans hge (Nat.le_of_lt hlt)), upd_same, up upd_same _⟩
  | some cv =>
    obtain ⟨c', e, hco⟩ := ha pos cv hc
    subst e
    refine PySem.W.kla_makeFunctionHit (mg := X.mg) (c := c) (P := P) (ps := ps) (closure_ok hfree) I.ok.glob (I.mod.glob.keeps I.bk) hcode (TB.code.keeps I.bk) hP' ht hc bP fun ctv h' tk hx hsz => ?_
    have I1 : Inv X pins σ H { s with heap := h', toks := tk } := I.kept hx
    have nF := I1.hok.fresh (Nat.le_refl h'.objs.size)
    have I2 := inv_lam (t' := tk) (o := PySem.W.kla_obj "<lambda>" (X.env.qual ++ "<lambda>") params body scope (cloFrom X.env.cells scope.names []) ((X.mg "__name__").getD .none) c' ctv) I1 rfl
    have up : ∀ {b : Addr} {u : HO}, H b = some u → ∀ x : HO, upd H h'.objs.size x b = some u := fun {b u} e x => by
      rw [upd_ne (ne_of_none e nF)]
      exact e
    exact h h'.objs.size c' ((X.mg "__name__").getD .none) ctv _ _ I2 ⟨fun b u e n => up e _, ⟨ps, #[], hP, by simpa using up hP _⟩, hT.ext fun b u e => up e _, nF, upd_same, up hco _⟩
end
end Ev
end
section
set_option linter.all false
set_option autoImplicit false
set_option maxRecDepth 100000
set_option maxHeartbeats 1000000
/-! Ev, part HB: a list comprehension of which no item passes; its tests are told of the def's own state. -/
namespace Ev
open PySem PySem.Spec PyProof.Rows L2

/-- [elt for tgE in iter if ..], all n items fail -/
def tNone (wi : TI) (g : TG) (tt : L2.St → TT) (vs : List Nat) : TE := fun σ H Q => wi σ H fun J H1 => ∀ D, H1 D = none → ∃ (n : Nat) (W : Nat → Hp → Prop), W 0 (upd H1 D (.lst [])) ∧ ∀ i H, W i H →
  (i = n ∧ J.stop i H ∧ Q (.ref D) H) ∨ (i < n ∧ J.go i H ∧ ∀ x H', J.yld i H x H' → g x (L2.wipe σ vs) H' fun σ2 H2 => L2.wipe σ2 vs = L2.wipe σ vs ∧ tt σ σ2 H2 fun b H3 => b = false ∧ W (i + 1) H3)
section
variable {X : Cx} {pins : List (Addr × Obj)} {σ : L2.St} {H : Hp} {s : Shared}
theorem none_core {Q : VK} {elt tgE iter : Expr} {ifs : List Expr} {scope : Scope} {own : List (Str × Nat)} {pos : Pos} {wi : TI} {g : TG} {tt : L2.St → TT} (calm : X.calm = true) (nd : X.N.Nodup) (I : Inv X pins σ H s) (src : PI X tgE iter wi) (B : BlkOk X.N X.env.scope scope own)
    (pf : plainE iter = true) (tg : ∀ (s : Shared) (H : Hp) (C : Addr) (cl : List (Str × Addr)) (fp : List Addr), PG (X.blk s H scope (compEnvC scope cl C X.env) fp) tgE g)
    (test : ∀ (s : Shared) (H : Hp) (C : Addr) (cl : List (Str × Addr)) (fp : List Addr), (∀ pins' σ' H' s', Inv (X.blk s H scope (compEnvC scope cl C X.env) fp) pins' σ' H' s' → Inv X pins σ H' s') → PTs (X.blk s H scope (compEnvC scope cl C X.env) fp) ifs (tt σ)) (h : tNone wi g tt (own.map (·.2)) σ H Q) :
    wpAny (model X.prog X.w) X.A (eval (.ListComp elt [⟨tgE, iter, ifs, 0⟩] scope pos) X.env) (EP X pins σ Q) X.xe s := by
  rw [eval_ListComp]
  have outer : ∀ y ∈ scope.names, y.2 = .free → ∃ c, X.env.cells.lookup y.1 = some c := fun y hy e => (B.free y hy e).elim (fun k => I.ok.has _ (.inl k)) fun k => I.ok.has _ (.inr k)
  refine wpAny_comprehension_free rfl (plain_fold pf _) (closure_ok outer) B.kind (fun y hy e => (B.uniq y hy).trans (congrArg some e)) (thn (src.run pins s σ H _ I h) fun v0 t0 hv => thn hv fun v1 t1 hw => ?_)
  obtain ⟨it, fp, tn, J, Hs, rfl, Is, T, sts, fs, turns⟩ := hw
  refine wpAny_newObj_type (newEnv_comp ?_) (by show 0 ≤ sizeLine; decide)
  have fresh : Hs t1.heap.objs.size = none := Is.hok.fresh (Nat.le_refl _)
  obtain ⟨n, W, start, turn⟩ := turns _ fresh
  let D := t1.heap.objs.size
  let t2 : Shared := { t1 with heap := t1.heap.push { cls := .type "list", data := .seq ([] : List Value).toArray } }
  let HD := upd Hs D (.lst [])
  have push : ∀ b o, t1.heap.get? b = some o → t2.heap.get? b = some o := fun b o e => Heap.get?_push_of_some _ e
  have ID : Inv X pins σ HD t2 := Is.laid (t' := t1.toks) push (Nat.le_refl _) ⟨Nat.zero_le _, [], 0, .nil, Heap.get?_push_size _ rfl⟩
  have small : ∀ b ∈ fp, b < D := fun b hb => by
    obtain ⟨o, e, _⟩ := T.obj _ _ sts b hb
    exact Heap.lt_size e
  have fD : ∀ b ∈ fp, FpOk X pins HD b ∧ b < t2.heap.objs.size := fun b hb => by
    refine ⟨⟨(upd_ne (Nat.ne_of_lt (small b hb))).trans (fs b hb).1, (fs b hb).2⟩, ?_⟩
    show b < (t1.heap.push _).objs.size
    rw [Heap.size_push]
    exact Nat.lt_succ_of_lt (small b hb)
  let cl := cellsFrom (t2.heap.objs.size + 1) scope.names (cloFrom X.env.cells scope.names [])
  let ce := compEnvC scope cl t2.heap.objs.size X.env
  let t3 : Shared := { t2 with heap := pushCells (t2.heap.push { cls := .type "dict", data := .dict #[] }) scope.names }
  have IB : Inv (X.blk t2 HD scope ce fp) [] (L2.wipe σ (own.map (·.2))) HD t3 := block_start ID B nd fD
  have tn3 : tn 0 t3.heap := T.keep _ _ _ sts fun b _ o e => pushCells_keeps _ _ _ _ (Heap.get?_push_of_some _ (push b o e))
  have ptg := tg t2 HD t2.heap.objs.size cl fp
  have home : ∀ pins' σ' H' s', Inv (X.blk t2 HD scope ce fp) pins' σ' H' s' → Inv X pins σ H' s' := fun pins' σ' H' s' J => ID.call' (ch := fp) J.os J.base J.hok J.bare fun b hb => ⟨(fD b hb).1.2.2.2.1, (fD b hb).1.2.1, (fD b hb).1.2.2.2.2.1, (fD b hb).1.2.2.2.2.2⟩
  have pts := test t2 HD t2.heap.objs.size cl fp home
  have ready : ∀ {σ' : L2.St} {H' : Hp} {s' : Shared}, Inv (X.blk t2 HD scope ce fp) [] σ' H' s' → (∀ b ∈ fp, H' b = none) → ∀ b ∈ fp, FpOk (X.blk t2 HD scope ce fp) [] H' b := fun {σ' H' s'} I' none b hb =>
    ⟨none b hb, (I'.ok.exf b hb).1, I'.ok.exfs b hb, .inl hb, fun x c e => (I'.ok.exf b hb).2 x c e, fun p hp => by
      have hp : p ∈ ([] : List (Addr × Obj)) ++ [] := hp
      simp at hp⟩
  have loop : codeAny (model X.prog X.w) X.A (.compLoop (.ListComp elt [⟨tgE, iter, ifs, 0⟩] scope pos) 0 (.ref it) (.ref D) ce) (compPost (model X.prog X.w) X.A X.xe none (EP X pins σ Q) (.ref D) t2.heap.objs.size) t3 := by
    refine compLoop_any (fun k s' => ∃ i H', i + k = n ∧ Inv (X.blk t2 HD scope ce fp) [] (L2.wipe σ (own.map (·.2))) H' s' ∧ tn i s'.heap ∧ (∀ b ∈ fp, H' b = none) ∧ W i H') ?_ n ⟨0, HD, Nat.zero_add n, IB, tn3, fun b hb => (fD b hb).1.1, start⟩
    rintro k u0 ⟨i, H0, hk, I0, tn0, no0, w0⟩
    rcases turn i H0 w0 with ⟨_, stop, q⟩ | ⟨hlt, go, step⟩
    · refine thnF (T.done (X.blk t2 HD scope ce fp) rfl rfl rfl calm i [] u0 _ H0 (fun _ _ => False) I0 (ready I0 no0) tn0 stop) fun r u1 ⟨e, I1⟩ => ?_
      subst e
      have back : Inv X pins σ H0 u1 := home _ _ _ _ I1
      obtain ⟨m, hn, _⟩ := I1.loc
      have nC : H0 t2.heap.objs.size = none := I1.free
      refine ⟨m, hn, fun h'' sb => ?_⟩
      obtain ⟨f0, f1, f2, f3, f4, f5⟩ := ID.fpOk (Nat.le_refl _) nC
      exact ⟨.ref D, H0, back.turned (t' := u1.toks) (fun b o hb e => (sb.2 b hb).trans e) f0 f1 f3 f4 f5, rfl, q⟩
    · refine thnF (T.item (X.blk t2 HD scope ce fp) rfl rfl rfl calm i [] u0 _ H0 (fun _ _ => False) I0 (ready I0 no0) tn0 go) fun r u1 ⟨v, e, h1⟩ => ?_
      subst e
      refine thnF h1 fun _ u2 ⟨x, H2, I2, rx, yx, tn2, no2⟩ => ?_
      refine thnF (ptg.run _ u2 _ H2 x v _ (I2.pinned (ready I2 no2) (T.obj _ _ tn2)) rx (step x H2 yx)) fun _ u3 ⟨σ3, H3, I3, hw, q3⟩ => ?_
      refine thnF (pts.run _ u3 σ3 H3 _ I3 q3) fun b u4 ⟨H4, I4, eb, w4⟩ => ?_
      subst eb
      have pinned : ∀ b ∈ fp, ∀ o, u2.heap.get? b = some o → u4.heap.get? b = some o ∧ H4 b = none := fun b hb o e =>
        let z := I4.pin (b, o) (List.mem_append_right _ (List.mem_append_right _ (mem_pinsAt hb e)))
        ⟨z.1, z.2.1⟩
      obtain ⟨l1, l2⟩ := wipe_weak hw
      refine ⟨k - 1, by omega, i + 1, H4, by omega, (I4.unpinned (pins := [])).weak l1 l2, T.keep _ _ _ tn2 fun b hb o e => (pinned b hb o e).1, fun b hb => ?_, w4⟩
      obtain ⟨o, e, _⟩ := T.obj _ _ tn2 b hb
      exact (pinned b hb o e).2
  exact codeAny_compStart_list loop (T.self X.A 0 _ _ _ tn3 loop)
end
end Ev
end
section
set_option linter.all false
set_option autoImplicit false
set_option maxRecDepth 100000
set_option maxHeartbeats 1000000
/-! Ev, part HC: a lambda that is known is called by the def that was handed it. -/
namespace Ev
open PySem PySem.Spec PyProof.Rows L2 LamX

/-- a lambda's words -/
structure Lm where
  params : Arguments
  body : Expr
  scope : Scope
  e : Ex
abbrev Lm.obj (l : Lm) (q : Str) (cells : List (Str × Addr)) (c' : Addr) (pm ctv : Value) : Obj := PySem.W.kla_obj "<lambda>" q l.params l.body l.scope (cloFrom cells l.scope.names []) pm c' ctv
structure LmOk (X : Cx) (l : Lm) : Prop where
  sc : LamS X.env.scope l.scope
  bind : ∀ (q : Str) (cl : List (Str × Addr)) (pm cv ctv : Value), bindArgs (PySem.W.kla_fn "<lambda>" q l.params l.body l.scope cl pm cv ctv) ⟨[], []⟩ = pure []
section
variable {X : Cx} {pins : List (Addr × Obj)} {σ : L2.St} {H : Hp} {s : Shared}
theorem act_known {Eg : XK} {Ng : List Str} {qg : Str} {sg : Scope} {g f c' : Addr} {cdg pm ctv : Value} {l : Lm} {k i : Nat} {a : Str} {pn : List (Addr × Obj)} {xe : Value → Shared → Prop} {W : WX} {E : XK} {tb : TE} {p1 p2 : Pos}
    (I : Inv X pins σ H s) (L : LmOk X l) (tk : Takes ((cxOf C8.CX0 X.prog X.w X.K X.mg X.base Ng qg sg g cdg X.A X.stack s H Eg).tr pn xe) W) (hW : ∀ cls d σ' H', E cls d H' → W cls d σ' H') (hr : Room (k + 1) (X.A.deeper (envOfC qg sg s.heap.objs.size g cdg)))
    (body : ∀ (A : Around) (outer : List Env) (s : Shared) (H : Hp), Room k (A.deeper (lamEnv X l.scope s.heap.objs.size f c')) → PE (lamCx X A outer s H E l.scope f c') l.body tb)
    (hN : Ng[i]? = some a) (hv : Vis sg a) (hd : (a == ("__debug__" : Str)) = false) (hcd : (a == ("__classdict__" : Str)) = false) :
    PE ((cxOf C8.CX0 X.prog X.w X.K X.mg X.base Ng qg sg g cdg X.A X.stack s H Eg).tr pn xe) (.Call (.Name a p1) [] [] p2)
      (fun σZ HZ Q => σZ[i]? = some (some (.ref f)) ∧ HZ c' = some (CodeO c' (X.env.qual ++ "<lambda>")) ∧ HZ f = some (FunO f (l.obj (X.env.qual ++ "<lambda>") X.env.cells c' pm ctv)) ∧ tb σ HZ Q) := by
  let Z : Cx := (cxOf C8.CX0 X.prog X.w X.K X.mg X.base Ng qg sg g cdg X.A X.stack s H Eg).tr pn xe
  refine ⟨fun pz z0 σZ HZ Q IZ ⟨at_, code, known, rd⟩ => ?_⟩
  refine wpAny_Call_Name_kw (thn ((pe_var (pos := p1) (i := i) hN hv hd hcd).run pz z0 σZ HZ (fun v H1 => v = .ref f ∧ H1 = HZ) IZ ⟨.ref f, at_, rfl, rfl⟩) fun u z1 ⟨v, H1, J, rv, e1, e2⟩ => ?_)
  subst e1
  rw [e2] at J
  obtain rfl : u = Value.ref f := rv
  have ob := funO_at J.hok known
  refine PySem.W.callWith_F0 ⟨_, _, _, _, ob⟩ ?_
  obtain ⟨⟨oc, vs, t, hoc, hdc, hvc⟩, _, _⟩ := J.hok c' _ code
  have pass : Passes (L2.CX X.prog X.w) Z E := passes_call tk hW
  have run : codeAny (model X.prog X.w) Z.A (.call (.ref f) ⟨[], []⟩) (CR (L2.CX X.prog X.w) Z.stack X.prog X.w HZ z1 Q E) z1 := by
    refine PySem.W.kla_callFunE hr.depth ob rfl L.sc.co L.sc.gen rfl ⟨c', oc, vs, t, rfl, hoc, hdc, hvc⟩ ?_
    rw [L.bind]
    refine wpAny_pure (wpAny_newFunctionEnv (fun y hy => (L.sc.own y hy).2) (fun y hy => absurd hy (by simp)) (fun h₁ hns hsb => ⟨J.nolimit.fresh _ hsb, ?_⟩) L.sc.kind)
    show codeAny _ _ (.expr l.body (lamEnv X l.scope z1.heap.objs.size f c')) _ _
    have kp : ∀ b o, z1.heap.get? b = some o → h₁.get? b = some o := fun b o e => hsb.extBut b o (Nat.ne_of_lt (Heap.lt_size e)) (Heap.get?_push_of_some _ e)
    have start : Inv (lamCx X Z.A Z.stack z1 HZ E l.scope f c') [] σ HZ { z1 with heap := h₁, toks := z1.toks + ([] : List (Str × Value)).length } := lam_start2 I L.sc J.env0 hr.hd J.base hns kp
    exact PySem.W.kla_codeExpr (wpAny_mono ((body _ _ z1 HZ (hr.deeper _)).run [] _ _ HZ Q start rd) (fun v s' ⟨w', H', J', rv, q⟩ => ⟨w', H', J'.os, J'.bare, J'.base, J'.hok, rv, q⟩) fun e s' hq => hq)
  refine wpAny_call (codeAny_mono run fun r s' hq => ?_)
  cases r with
  | error e => exact pass pz σZ HZ z1 e s' J hq
  | ok fl =>
    cases fl with
    | ret u => exact J.after hq
    | _ => exact False.elim hq
/-- x(y), x the def that tells, y a name that holds one of the known lambdas -/
def tTold (X : Cx) (j : Nat) (TT : (XK → Hp → VK → Prop) → Hp → VK → Prop) (ls : List Lm) (t : Lm → XK → TE) (σ : L2.St) : TE := fun σY HY Q => ∃ (f c' : Addr) (pm ctv : Value) (l : Lm), l ∈ ls ∧ σY[j]? = some (some (.ref f)) ∧ HY c' = some (CodeO c' (X.env.qual ++ "<lambda>")) ∧
  TT (fun E H' Q' => H' f = some (FunO f (l.obj (X.env.qual ++ "<lambda>") X.env.cells c' pm ctv)) ∧ t l E σ H' Q') HY Q
theorem pe_toldV {s0 : Shared} {H0 : Hp} {scope : Scope} {C : Addr} {cl : List (Str × Addr)} {fp : List Addr} {TT : (XK → Hp → VK → Prop) → Hp → VK → Prop} {x y a : Str} {g : Addr} {k j : Nat} {pg : Arguments} {bg : List Stmt} {sg : Scope} {dV kV doc pm cdv ct oc : Value} {an od : Option Addr} {osl : Array (Option Value)} {Ng : List Str}
    {ls : List Lm} {t : Lm → XK → TE} {p py pos : Pos} (home : ∀ pins' σ' H' s', Inv (X.blk s0 H0 scope (compEnvC scope cl C X.env) fp) pins' σ' H' s' → Inv X pins σ H' s')
    (hg : Gl (X.blk s0 H0 scope (compEnvC scope cl C X.env) fp) x) (hm : X.mg x = some (.ref g)) (hk : PySem.W.keepIn X.K (.ref g) = true)
    (lk : X.K.lookup g = some ⟨oc, od, .func (PySem.W.fnOf x x pg bg sg dV kV doc pm an cdv ct), osl⟩) (hcg : PySem.W.codeIn X.K cdv x = true) (hb : L2.Binds X.K (PySem.W.fnOf x x pg bg sg dV kV doc pm an cdv ct) [a] []) (Sg : FnScope Ng [a] sg) (hNg : Ng[0]? = some a) (hva : Vis sg a)
    (hG : GivesTo (X.blk s0 H0 scope (compEnvC scope cl C X.env) fp) Ng x sg g cdv bg a (X.env.qual ++ "<lambda>") TT) (hr : Room (k + 2) X.A) (L : ∀ l ∈ ls, LmOk X l)
    (hbody : ∀ l ∈ ls, ∀ (A : Around) (outer : List Env) (s : Shared) (H : Hp) (E : XK) (f c' : Addr), Room k (A.deeper (lamEnv X l.scope s.heap.objs.size f c')) → PE (lamCx X A outer s H E l.scope f c') l.body (t l E))
    (hN : X.N[j]? = some y) (hy : Vis (relS scope X.env.scope) y) (hdx : (x == ("__debug__" : Str)) = false) (hdy : (y == ("__debug__" : Str)) = false) (hcy : (y == ("__classdict__" : Str)) = false) (hda : (a == ("__debug__" : Str)) = false) (hca : (a == ("__classdict__" : Str)) = false) :
    PE (X.blk s0 H0 scope (compEnvC scope cl C X.env) fp) (.Call (.Name x p) [.Name y py] [] pos) (tTold X j TT ls t σ) := by
  let Y : Cx := X.blk s0 H0 scope (compEnvC scope cl C X.env) fp
  refine ⟨fun pz z0 σY HY Q I ⟨f, c', pm, ctv, l, hl, at_, code, rd⟩ => ?_⟩
  refine wpAny_Call_Name_kw (ld_glob I hg hm ?_ hdx)
  refine PySem.W.callWith_K (h₀ := Y.base) I.ok.mod.kin hk ?_ (by rfl) (by rfl)
  show wpAny _ _ (spliced ((false, eval (.Name y py) Y.env) :: backTo pos (starEach [] Y.env))) _ _ z0
  refine Calls.spliced_cons (thn ((pe_var (X := Y) (pos := py) (i := j) hN hy hdy hcy).run pz z0 σY HY (fun v H1 => v = .ref f ∧ H1 = HY) I ⟨.ref f, at_, rfl, rfl⟩) fun u z1 ⟨v, H1, J, rv, e1, e2⟩ => ?_)
  subst e1
  rw [e2] at J
  obtain rfl : u = Value.ref f := rv
  refine Calls.spliced_nil ⟨J.kIn, ?_⟩
  have run : codeAny (model X.prog X.w) Y.A (.call (.ref g) ⟨[.ref f], []⟩) (CR C8.CX0 Y.stack X.prog X.w HY z1 Q C8.E0) z1 := by
    refine run_ofS (N := Ng) (ps := [a]) (us := [.ref f]) (vs := [.ref f]) lk hcg Sg hr J.env0 (hb z1 [.ref f] J.kIn rfl) (.cons rfl .nil) rfl fun room => ?_
    obtain ⟨t', ht', hq'⟩ := hG f c' z1 HY Q _ (fun W pn xe E p1 p2 tk hW => act_known (X := X) (i := 0) (E := E) (tb := t l E) (home _ _ _ _ J) (L l hl) tk hW room (fun A outer s H hr2 => hbody l hl A outer s H E f c' hr2) hNg hva hda hca) code rd
    exact ⟨t', ht'.nox, hq'⟩
  refine wpAny_call (codeAny_mono run fun r s2 hq => ?_)
  cases r with
  | error e => exact (show False from hq).elim
  | ok fl =>
    cases fl with
    | ret u => exact J.after hq
    | _ => exact False.elim hq
end
end Ev
end
section
set_option linter.all false
set_option autoImplicit false
set_option maxRecDepth 100000
set_option maxHeartbeats 1000000
/-! Ev, part HD: lambdas known, in the layer's own words. -/
namespace Ev
open PySem PySem.Spec PyProof.Rows L2 LamX

section
variable {F : Fx} {ω ω' : Om} {m m' : M} {H H' H1 : Hp} {wr : Wr}
theorem Cont.noext {a : Addr} {d : D} (h : ContAt F ω H a d) (φ : Heap → Prop) : H a ≠ some (.ext φ) := fun z => by
  cases d with
  | list ds =>
    obtain ⟨vs, h1, _⟩ := h
    rw [h1] at z
    cases z
  | dict ds =>
    obtain ⟨vs, h1, _⟩ := h
    rw [h1] at z
    cases z
  | _ => exact h.elim
theorem Cells.noext (C : Cells F ω m H) {r : Nat} {f : Str} (h : LvC m r f) (φ : Heap → Prop) : H (ω.ad r f) ≠ some (.ext φ) := by
  obtain ⟨hr, h⟩ := h
  have e : m[r]? = some m[r] := List.getElem?_eq_getElem hr
  have a := C.at_ r _ e
  rcases h with rfl | ⟨c, fs, d, e2, h2, h3⟩
  · cases hc : m[r] with
    | lst xs => rw [hc] at a; obtain ⟨vs, h1, _⟩ := a; exact fun z => by rw [h1] at z; cases z
    | ins c fs => rw [hc] at a; obtain ⟨dx, vs, h1, _⟩ := a; exact fun z => by rw [h1] at z; cases z
    | dic lk kvs =>
      rw [hc] at a
      obtain ⟨vs, h1, _⟩ := a
      cases lk with
      | true => obtain ⟨o, h1⟩ := h1; exact fun z => by rw [h1] at z; cases z
      | false =>
        have h1 : H (ω.ad r "") = some (.dK vs) := h1
        exact fun z => by rw [h1] at z; cases z
  · rw [e] at e2
    rw [Option.some.inj e2] at a
    obtain ⟨dx, vs, _, h4⟩ := a
    have all : ∀ (l : List (Str × Bool × D)) (us : List (Str × V)), Paired (FvRel F ω H r) l us → (f, true, d) ∈ l → H (ω.ad r f) ≠ some (.ext φ) := by
      intro l
      induction l with
      | nil => intro us _ q; cases q
      | cons q l ih =>
        intro us hq hm
        cases hq with
        | cons a b =>
          rcases List.mem_cons.mp hm with e | hm
          · subst e
            obtain ⟨_, _, _, a⟩ := a
            exact Cont.noext a φ
          · exact ih _ b hm
    exact all fs vs h4 (PySem.mem_of_lookup h2)
/-- what is known by an ext stays so -/
theorem Po.ext {φ : Heap → Prop} {b : Addr} (C : Cells F ω m H) (p : Po F wr ω m H ω' m' H') (e : H b = some (.ext φ)) : H' b = some (.ext φ) := by
  refine p.fr.keep b _ e ?_ fun ps z => by cases z
  rintro ⟨r, f, h1, _, rfl⟩
  exact C.noext h1 φ e
/-- a lambda is made -/
theorem LamMade.po {P f c' : Addr} {q : Str} {o : Obj} (C : Cells F ω m H) (T : TabInv F H) (M : LamMade F.TL P q H H1 f c' o) (hT : P ∉ F.TG) : Po F wr ω m H (ω.out f) m H1 := by
  obtain ⟨ps, more, t1, t2⟩ := M.tab
  have nt : ∀ b o, H b = some o → (∀ ps, o ≠ .tbl ps) → H1 b = some o := fun b u e n => M.keep b u e fun z => by
    rw [z, t1] at e
    exact n _ (Option.some.inj e).symm
  have nf : ∀ b u, H b = some u → b ≠ f := fun b u e => ne_of_none e M.nf
  have st : Stays F ω (ω.out f) H H1 := ⟨Nat.le_refl _, fun _ _ => rfl, fun b o e _ n => .inl (nt b o e n), fun b o _ h z => h z.1⟩
  refine ⟨Nat.le_refl _, fun _ _ => rfl, rfl, ⟨fun b o e _ n => nt b o e n, fun b qs e => ?_, fun b o _ h z => h z.1, fun b o e h => ⟨h, nf b o e⟩, fun b o e => ?_⟩, fun _ _ h => .inl ⟨h, rfl⟩, C.stays st rfl rfl (fun b o e h => ⟨h, nf b o e⟩) nt, fun Q hQ => ?_, M.tabs⟩
  · by_cases hb : b = P
    · subst hb
      rw [t1] at e
      cases e
      exact ⟨more, t2⟩
    · exact ⟨#[], by rw [M.keep b _ e hb]; simp⟩
  · by_cases hb : b = P
    · subst hb
      exact ⟨_, t2⟩
    · exact ⟨o, M.keep b o e hb⟩
  · obtain ⟨qs, e1, e2⟩ := T.1 Q hQ
    exact ⟨qs, M.keep Q _ e1 fun z => hT (z ▸ hQ), e2⟩
/-- f is the lambda l -/
def Kn (q : Str) (cells : List (Str × Addr)) (H : Hp) (l : Lm) (f : Addr) : Prop := ∃ (c' : Addr) (pm ctv : Value), H f = some (FunO f (l.obj q cells c' pm ctv)) ∧ H c' = some (CodeO c' q)
theorem Kn.po {q : Str} {cells : List (Str × Addr)} {l : Lm} {f : Addr} (C : Cells F ω m H) (p : Po F wr ω m H ω' m' H') (h : Kn q cells H l f) : Kn q cells H' l f := by
  obtain ⟨c', pm, ctv, h1, h2⟩ := h
  exact ⟨c', pm, ctv, Po.ext C p h1, Po.ext C p h2⟩
end
section
variable {X : Cx}
def tLm (T : List (Addr × Str)) (P : Addr) (q : Str) (cells : List (Str × Addr)) (l : Lm) : TE := fun _ H Q => Tabs T H ∧ ∀ (f c' : Addr) (pm ctv : Value) (H1 : Hp), LamMade T P q H H1 f c' (l.obj q cells c' pm ctv) → Q (.ref f) H1
/-- where lambdas may be made -/
structure LmAt (X : Cx) (T : List (Addr × Str)) (P : Addr) : Prop where
  ex : ∃ c, LamX.TabB X.base X.mg c P ∧ X.env.code = .ref c
  mem : (P, X.env.qual ++ "<lambda>") ∈ T
  one : ∀ p ∈ T, p.1 = P → p.2 = X.env.qual ++ "<lambda>"
theorem pe_lm {T : List (Addr × Str)} {P : Addr} {l : Lm} {pos : Pos} (h : LmAt X T P) (L : LmOk X l) (hd : defaultsOf l.params X.env = ([], [])) : PE X (.Lambda l.params l.body l.scope pos) (tLm T P (X.env.qual ++ "<lambda>") X.env.cells l) := by
  obtain ⟨c, TB, hc⟩ := h.ex
  exact ⟨fun pins s σ H Q I ⟨hT, q⟩ => lam_make3 I TB hc h.mem h.one hT hd (L.sc.has I.ok) fun f c' pm ctv H1 s' I1 M => ⟨.ref f, H1, I1, rfl, q f c' pm ctv H1 M⟩⟩
def lmE (l : Lm × Pos) : Expr := .Lambda l.1.params l.1.body l.1.scope l.2
/-- the list's items -/
def tLms (T : List (Addr × Str)) (P : Addr) (q : Str) (cells : List (Str × Addr)) : List (Lm × Pos) → TA
  | [] => tNil
  | l :: ls => tCons (tLm T P q cells l.1) (tLms T P q cells ls)
theorem pa_lms {T : List (Addr × Str)} {P : Addr} (h : LmAt X T P) : ∀ ls : List (Lm × Pos), (∀ l ∈ ls, LmOk X l.1 ∧ defaultsOf l.1.params X.env = ([], [])) → PA X (ls.map lmE) (tLms T P (X.env.qual ++ "<lambda>") X.env.cells ls)
  | [], _ => pa_nil
  | l :: ls, hl => pa_cons (pe_lm h (hl l (List.mem_cons_self ..)).1 (hl l (List.mem_cons_self ..)).2) (pa_lms h ls fun k hk => hl k (List.mem_cons_of_mem _ hk))
theorem lms_read {F : Fx} {m : M} {wr : Wr} {P : Addr} {q : Str} {cells : List (Str × Addr)} {σ : L2.St} (hT : P ∉ F.TG) : ∀ (ls : List (Lm × Pos)) (H : Hp) (Q : List V → Hp → Prop) (ω : Om), Cells F ω m H → TabInv F H →
    (∀ ω' fs H', Po F wr ω m H ω' m H' → Paired (fun (l : Lm × Pos) (f : Addr) => Kn q cells H' l.1 f) ls fs → Q (fs.map V.ref) H') → tLms F.TL P q cells ls σ H Q
  | [], H, Q, ω, C, T, h => h ω [] H (Po.refl C T) .nil
  | l :: ls, H, Q, ω, C, T, h => ⟨T.2, fun f c' pm ctv H1 M => by
      have p1 : Po F wr ω m H (ω.out f) m H1 := LamMade.po C T M hT
      refine lms_read (wr := wr) hT ls H1 _ (ω.out f) p1.cells p1.tabs fun ω' fs H' p2 k => ?_
      exact h ω' (f :: fs) H' (p1.trans C p2) (.cons (Kn.po p1.cells p2 ⟨c', pm, ctv, M.fo, M.co⟩) k)⟩
end
end Ev
end
section
set_option linter.all false
set_option autoImplicit false
set_option maxRecDepth 100000
set_option maxHeartbeats 1000000
/-! Ev, part HE: a list of lambdas, each of which raises: the reading. -/
namespace Ev
open PySem PySem.Spec PyProof.Rows L2 LamX

theorem Paired.at {α β : Type} {R : α → β → Prop} : ∀ {xs : List α} {ys : List β} {i : Nat} {x : α}, Paired R xs ys → xs[i]? = some x → ∃ y, ys[i]? = some y ∧ R x y
  | [], _, _, _, _, e => by simp at e
  | _ :: _, _ :: _, 0, _, .cons a _, e => ⟨_, rfl, by simp at e; subst e; exact a⟩
  | _ :: _, _ :: _, i + 1, _, .cons _ b, e => by
    obtain ⟨y, h1, h2⟩ := Paired.at (i := i) b (by simpa using e)
    exact ⟨y, by simpa using h1, h2⟩
theorem Paired.len {α β : Type} {R : α → β → Prop} : ∀ {xs : List α} {ys : List β}, Paired R xs ys → xs.length = ys.length
  | _, _, .nil => rfl
  | _, _, .cons _ b => congrArg Nat.succ (Paired.len b)
section
variable {X : Cx} {F : Fx} {W : Wd} {ω : Om} {g : Ga} {m m2 : M} {σ : L2.St} {H : Hp} {wr : Wr}
abbrev lmT (F : Fx) (W : Wd) : Lm → XK → TE := fun l E => LE F (fun cls d _ H' => E cls d H') false (evE W l.e)
abbrev ttBad (X : Cx) (F : Fx) (W : Wd) (j : Nat) (CS : Addr) (ret : Str) (ls : List (Lm × Pos)) : L2.St → TT := fun σ => tTest (tOp (rCmp .ne X.K) (tTold X j (TTold X.K CS ret) (ls.map (·.1)) (lmT F W) σ) (tC (.str ret)))
theorem bads_read {ls : List (Lm × Pos)} {fs : List Addr} {ib j c : Nat} {L CS : Addr} {ret : Str} {Q : VK} (hK : X.K = F.K) (S : Stt F ω g m σ H) (hb : σ[ib]? = some (some (.ref L))) (hL : H L = some (.lst (fs.map V.ref))) (hLB : ¬ ω.B L) (hj : j < σ.length)
    (kn : Paired (fun (l : Lm × Pos) (f : Addr) => Kn (X.env.qual ++ "<lambda>") X.env.cells H l.1 f) ls fs) (hr : badsR W c (ls.map (·.1.e)) wr g m = some m2)
    (caught : ∀ k, W.sub k c = true → PySem.W.exmOne X.K (.ref (F.xa k)) (.ref CS) = some true) (hne : semCmp .ne (.str ret) (.str ret) = some false)
    (hQ : ∀ ω2 D H2, Po F wr ω m H ω2 m2 H2 → H D = none → H2 D = some (.lst []) → ¬ ω2.B D → Q (.ref D) H2) :
    tNone (iList F.K (tVar ib)) (gName j) (ttBad X F W j CS ret ls) [j] σ H Q := by
  refine ⟨.ref L, hb, L, rfl, ⟨_, .inl (.inl hL)⟩, fun D hD => ?_⟩
  have len := Paired.len kn
  have nt : ∀ (xs : List V) ps, (HO.lst xs) ≠ .tbl ps := fun xs ps z => by cases z
  refine ⟨ls.length, fun i H' => i ≤ ls.length ∧ ∃ ω' m', Po F wr ω m H ω' m' H' ∧ H' D = some (.lst []) ∧ ¬ ω'.B D ∧ badsR W c ((ls.drop i).map (·.1.e)) wr g m' = some m2, ⟨Nat.zero_le _, ω.out D, m, Po.new S.ce S.tb hD, upd_same, fun z => z.2 rfl, hr⟩, ?_⟩
  rintro i H' ⟨hi, ω', m', p, hD', nD, hb'⟩
  have hL' : H' L = some (.lst (fs.map V.ref)) := p.fr.keep L _ hL (fun z => hLB (S.ce.ub z)) (nt _)
  by_cases hlt : i < ls.length
  · obtain ⟨l, hl⟩ : ∃ l, ls[i]? = some l := ⟨_, List.getElem?_eq_getElem hlt⟩
    obtain ⟨f, hf, k⟩ := Paired.at kn hl
    have hx : (fs.map V.ref)[i]? = some (V.ref f) := by rw [List.getElem?_map, hf]; rfl
    refine .inr ⟨hlt, ⟨_, _, .inl (.inl hL'), hx⟩, fun x H'' ⟨e, y⟩ => ?_⟩
    subst e
    have ex := y _ (.inl (.inl hL'))
    rw [hx] at ex
    cases ex
    obtain ⟨c', pm, ctv, k1, k2⟩ := Kn.po S.ce p k
    refine ⟨?_, f, c', pm, ctv, l.1, List.mem_map.mpr ⟨l, List.mem_of_getElem? hl, rfl⟩, ?_, k2, k1, ?_⟩
    · show ((σ.set j none).set j _).set j none = σ.set j none
      rw [List.set_set, List.set_set]
    · show ((σ.set j none).set j (some (V.ref f)))[j]? = _
      rw [List.set_set, List.getElem?_set_self hj]
    · refine LG.of (wr := wr) (S.po p) ?_
      show Fin F _ wr σ (VRel F false) _ ω' m' H'' (ev W l.1.e wr g m')
      have ed : ls.drop i = l :: ls.drop (i + 1) := drop_cons hl
      rw [ed] at hb'
      simp only [List.map_cons, badsR] at hb'
      cases hv : ev W l.1.e wr g m' with
      | stuck => rw [hv] at hb'; cases hb'
      | ok d m3 => rw [hv] at hb'; cases hb'
      | exc k m3 =>
        rw [hv] at hb'
        simp only at hb'
        split at hb'
        · rename_i hs
          intro ω3 H3 p3
          refine ⟨true, caught k hs, fun _ => ?_, fun z => by cases z⟩
          simp only [tC]
          refine cmp_sound (X := X) (F := F) .ne hK (ba := false) (bb := false) (ω := ω3) (ω₂ := ω3) (dx := .str ret) (dy := .str ret) (.inl rfl) (.inl rfl) hne ?_
          exact ⟨false, rfl, rfl, hlt, ω3, m3, p.trans S.ce p3, p3.fr.keep D _ hD' (fun z => nD (p.cells.ub z)) (nt _), p3.fr.nb D _ hD' nD, hb'⟩
        · cases hb'
  · have hi2 : i = ls.length := by omega
    subst hi2
    rw [List.drop_length] at hb'
    cases hb'
    refine .inl ⟨rfl, ⟨_, .inl (.inl hL'), by rw [List.length_map]; omega⟩, hQ ω' D H' p hD hD' nD⟩
end
end Ev
end
section
set_option linter.all false
set_option autoImplicit false
set_option maxRecDepth 100000
set_option maxHeartbeats 1000000
/-! Ev, part HF: [1 for f in bad if told(f) != 'X'] != []. -/
namespace Ev
open PySem PySem.Spec PyProof.Rows L2 LamX

/-- the def that tells: x(a): try: return a() except e: return ret -/
structure ToldK (K : PySem.W.Frag) (mg : Str → Option Value) (x ret : Str) (CS : Addr) : Prop where
  ex : ∃ (g : Addr) (pg : Arguments) (bg : List Stmt) (sg : Scope) (dV kV doc pm cdv ct oc : Value) (an od : Option Addr) (osl : Array (Option Value)) (Ng : List Str) (a e : Str) (j : Nat) (p1 p2 p3 p4 p5 p6 p7 p8 : Pos),
    mg x = some (.ref g) ∧ PySem.W.keepIn K (.ref g) = true ∧ K.lookup g = some ⟨oc, od, .func (PySem.W.fnOf x x pg bg sg dV kV doc pm an cdv ct), osl⟩ ∧ PySem.W.codeIn K cdv x = true ∧ L2.Binds K (PySem.W.fnOf x x pg bg sg dV kV doc pm an cdv ct) [a] [] ∧ FnScope Ng [a] sg ∧ Ng[0]? = some a ∧ Vis sg a ∧
    bg = [.Try [.Return (some (.Call (.Name a p1) [] [] p2)) p3] [.ExceptHandler (some (.Name e p4)) none [.Return (some (.Constant (.str ret) j p5)) p6] p7] [] [] p8] ∧
    sg.names.lookup e = some .globalImplicit ∧ mg e = some (.ref CS) ∧ (e == ("__debug__" : Str)) = false ∧ (a == ("__debug__" : Str)) = false ∧ (a == ("__classdict__" : Str)) = false ∧ ∀ f : Addr, (L2.start Ng [V.ref f])[0]? = some (some (V.ref f))
section
variable {X : Cx} {F : Fx} {W : Wd}
theorem t_bads {k ib j kk : Nat} {CS : Addr} {ret x y fn : Str} {ls : List (Lm × Pos)} {elt : Expr} {scope : Scope} {pf py pf2 px cp sp mp lp ep pos : Pos} (hc : X.calm = true) (nd : X.N.Nodup) (hr : Room (k + 2) X.A) (B : BlkOk X.N X.env.scope scope [(fn, j)])
    (hN : X.N[ib]? = some y) (hy : Vis X.env.scope y) (hy1 : (y == ("__debug__" : Str)) = false) (hy2 : (y == ("__classdict__" : Str)) = false)
    (hj : X.N[j]? = some fn) (hfl : (relS scope X.env.scope).names.lookup fn = some .local) (hf1 : (fn == ("__debug__" : Str)) = false) (hf2 : (fn == ("__classdict__" : Str)) = false)
    (hx : (relS scope X.env.scope).names.lookup x = some .globalImplicit) (hx1 : (x == ("__debug__" : Str)) = false) (T : ToldK X.K X.mg x ret CS) (L : ∀ l ∈ ls, LmOk X l.1)
    (hbody : ∀ l ∈ ls, ∀ (A : Around) (outer : List Env) (s : Shared) (H : Hp) (E : XK) (f c' : Addr), Room k (A.deeper (lamEnv X l.1.scope s.heap.objs.size f c')) → PE (lamCx X A outer s H E l.1.scope f c') l.1.body (lmT F W l.1 E)) :
    PT X (.Compare (.ListComp elt [⟨.Name fn pf, .Name y py, [.Compare (.Call (.Name x px) [.Name fn pf2] [] cp) [.NotEq] [.Constant (.str ret) kk sp] mp], 0⟩] scope lp) [.NotEq] [.List [] ep] pos)
      (tTest (tOp (rCmp .ne X.K) (tNone (iList X.K (tVar ib)) (gName j) (ttBad X F W j CS ret ls) [j]) (tLst tNil))) := by
  obtain ⟨g, pg, bg, sg, dV, kV, doc, pm, cdv, ct, oc, an, od, osl, Ng, a, e, jj, p1, p2, p3, p4, p5, p6, p7, p8, h1, h2, h3, h4, h5, h6, h7, h8, rfl, h10, h11, h12, h13, h14, h15⟩ := T.ex
  refine pt_cmpR (or_cmp (X := X) .ne hr) ⟨fun pins s σ H Q I h => none_core (own := [(fn, j)]) hc nd I (pi_list (pe_var hN hy hy1 hy2)) B rfl (fun s H C cl fp => ?_) (fun s H C cl fp home => ?_) h⟩ (pe_lst pa_nil) rfl
  · exact pg_name (X := X.blk s H scope (compEnvC scope cl C X.env) fp) nd hj (.inl hfl) (.inr hfl)
  · refine pts_one (pt_cmpR (X := X.blk s H scope (compEnvC scope cl C X.env) fp) (or_cmp (X := X.blk s H scope (compEnvC scope cl C X.env) fp) .ne hr) ?_ pe_str rfl)
    exact pe_toldV home hx h1 h2 h3 h4 h5 h6 h7 h8 (told_gives h10 h11 h12 h15) hr (fun l hl => by obtain ⟨q, hq, rfl⟩ := List.mem_map.mp hl; exact L q hq) (fun l hl => by obtain ⟨q, hq, rfl⟩ := List.mem_map.mp hl; exact hbody q hq) hj (.inl hfl) hx1 hf1 hf2 h13 h14
theorem bads_test {ω : Om} {g : Ga} {m m2 : M} {σ : L2.St} {H : Hp} {wr : Wr} {ls : List (Lm × Pos)} {fs : List Addr} {ib j c : Nat} {L CS : Addr} {ret : Str} {Q : Bool → Hp → Prop} (hK : X.K = F.K) (S : Stt F ω g m σ H) (hb : σ[ib]? = some (some (.ref L))) (hL : H L = some (.lst (fs.map V.ref))) (hLB : ¬ ω.B L) (hj : j < σ.length)
    (kn : Paired (fun (l : Lm × Pos) (f : Addr) => Kn (X.env.qual ++ "<lambda>") X.env.cells H l.1 f) ls fs) (hr : badsR W c (ls.map (·.1.e)) wr g m = some m2)
    (caught : ∀ k, W.sub k c = true → PySem.W.exmOne X.K (.ref (F.xa k)) (.ref CS) = some true) (hne : semCmp .ne (.str ret) (.str ret) = some false)
    (hQ : ∀ ω2 H2, Po F wr ω m H ω2 m2 H2 → Q false H2) :
    tTest (tOp (rCmp .ne X.K) (tNone (iList X.K (tVar ib)) (gName j) (ttBad X F W j CS ret ls) [j]) (tLst tNil)) σ H Q := by
  have h := bads_read (X := X) (F := F) (W := W) (Q := fun x H1 => tLst tNil σ H1 fun y H2 => rCmp .ne X.K x y H2 fun x H' => ∃ k, x = V.bl k ∧ Q k H') hK S hb hL hLB hj kn hr caught hne fun ω2 D H2 p hD hD2 nD => ⟨by decide, fun E hE => ?_⟩
  · rw [← hK] at h
    exact h
  · have q := Po.new (wr := wr) (o := .lst []) p.cells p.tabs hE
    have rD : Rep F (ω2.out E) (upd H2 E (.lst [])) (.list []) (.ref D) := Rep.stays (q.stays p.cells) (.list []) (.ref D) ⟨D, [], rfl, hD2, nD, rfl⟩
    have rE : Rep F (ω2.out E) (upd H2 E (.lst [])) (.list []) (.ref E) := ⟨E, [], rfl, upd_same, fun z => z.2 rfl, rfl⟩
    refine cmp_sound (X := X) (F := F) .ne hK (ba := false) (bb := false) (c := false) (.inl rD) (.inl rE) (by decide) ?_
    exact ⟨false, rfl, hQ _ _ (p.trans S.ce q)⟩
end
end Ev
end
section
set_option linter.all false
set_option autoImplicit false
set_option maxRecDepth 100000
set_option maxHeartbeats 1000000
/-! Ev, part HG: bad = [lambda ..]; if [1 for f in bad if told(f) != 'X'] != [] or R: A. -/
namespace Ev
open PySem PySem.Spec PyProof.Rows L2 LamX

section
variable {X : Cx} {F : Fx} {W : Wd} {Wx : WX} {ω : Om} {g : Ga} {m : M} {σ : L2.St} {H : Hp} {wr : Wr} {Dn : Ends}
theorem SlRel.put {i : Nat} {v : V} (S : SlRel F ω g m σ H) : SlRel F ω (g.set i none) m (σ.set i (some v)) H := by
  have Z := S.clr (i := i)
  have un : ∀ {j : Nat} {p : Bool × D}, (g.set i none)[j]? = some (some p) → i ≠ j := fun {j p} h e => by
    subst e
    have hl : i < g.length := by
      have := (List.getElem?_eq_some_iff.mp h).1
      simpa using this
    rw [List.getElem?_set_self hl] at h
    cases h
  refine ⟨by rw [List.length_set, List.length_set, S.len], fun j d h => ?_, fun j d h => ?_, Z.inj⟩
  · obtain ⟨u, h1, h2⟩ := Z.val j d h
    rw [List.getElem?_set_ne (un h)] at h1
    exact ⟨u, by rw [List.getElem?_set_ne (un h)]; exact h1, h2⟩
  · obtain ⟨h1, h2⟩ := Z.own j d h
    rw [List.getElem?_set_ne (un h)] at h1
    exact ⟨by rw [List.getElem?_set_ne (un h)]; exact h1, h2⟩
theorem ifs_read {t : Ex} {a b : List St} (h : LS F Wx (exS W (.ifs t a b)) Dn σ H) : tIfS (LT F Wx (evE W t)) (LS F Wx (exL W a)) (LS F Wx (exL W b)) Dn σ H := by
  obtain ⟨ω, g, m, wr, S, h⟩ := h
  simp only [exec] at h
  refine LG.of (wr := wr) S ?_
  show Fin F Wx wr σ RelB _ ω m H (asB (ev W t wr g m))
  have hh := FinS.of_bind (rel := fun _ _ (_ : D) (_ : V) => True) S h
  cases hx : ev W t wr g m with
  | stuck => rw [hx] at h; exact h
  | exc c m' => rw [hx] at hh; exact hh
  | ok d m' =>
    rw [hx] at hh
    cases d with
    | bool k =>
      intro ω' v H' p r
      rw [show v = k by cases r; rfl]
      obtain ⟨ω1, d, m1, e1, p1, r1, S1, h1⟩ := hh ω' (.non) H' p trivial
      cases e1
      cases k with
      | true => exact iteT (LS.of S1 h1)
      | false => exact iteF (LS.of S1 h1)
    | _ => rw [hx] at h; exact h
/-- what the two statements mean -/
def exBads (W : Wd) (i c : Nat) (es : List Ex) (r : List St) : Wr → Ga → M → RS := fun wr g m => match badsR W c es wr (g.set i none) m with
  | some m2 => execL W r wr (g.set i none) m2
  | none => .stuck
theorem ss_bads {i j c : Nat} {ls : List (Lm × Pos)} {CS P : Addr} {ret y : Str} {C r0 : Expr} {rest : List Expr} {py ep ap op ip : Pos} {t : Ex} {a r : List St} {A ps : List Stmt} (hK : X.K = F.K) (nd : X.N.Nodup) (hi : X.N[i]? = some y) (hy : Loc X.env.scope y) (hf : X.fn y = true ∨ X.env.scope.names.lookup y = some .local) (hj : j < X.N.length) (hlen : ls.length ≤ sizeLine)
    (at_ : LmAt X F.TL P) (hT : P ∉ F.TG) (L : ∀ l ∈ ls, LmOk X l.1 ∧ defaultsOf l.1.params X.env = ([], [])) (caught : ∀ k, W.sub k c = true → PySem.W.exmOne X.K (.ref (F.xa k)) (.ref CS) = some true) (hne : semCmp .ne (.str ret) (.str ret) = some false)
    (hN : ∀ pins σ H s, Inv X pins σ H s → σ.length = X.N.length)
    (hC : PT X C (tTest (tOp (rCmp .ne X.K) (tNone (iList X.K (tVar i)) (gName j) (ttBad X F W j CS ret ls) [j]) (tLst tNil)))) (hR : PT X (.BoolOp .Or (r0 :: rest) op) (LT F Wx (evE W t))) (hA : PSs X A (LS F Wx (exL W a))) (hps : PSs X ps (LS F Wx (exL W r))) :
    PSs X (.Assign [.Name y py] (.List (ls.map lmE) ep) ap :: .If (.BoolOp .Or (C :: r0 :: rest) op) A [] ip :: ps) (LS F Wx (exBads W i c (ls.map (·.1.e)) (.ifs t a [] :: r))) := by
  have h0 := pss_cons (ps_set (pos := ap) (pos' := py) nd hi hy (pe_lst (pos := ep) (pa_lms at_ ls L)) rfl hf) (pss_cons (ps_if (pos := ip) (PW.pt (pw_or hC (pw_of hR))) hA (show PSs X [] (LS F Wx (exL W [])) from ss_nil)) hps)
  refine ⟨fun pins s σ H Dn I h => h0.run pins s σ H Dn I ?_⟩
  obtain ⟨ω, g, m, wr, S, h⟩ := h
  have hl := hN _ _ _ _ I
  show tLms F.TL P (X.env.qual ++ "<lambda>") X.env.cells ls σ H _
  refine lms_read (wr := wr) hT ls H _ ω S.ce S.tb fun ω1 fs H1 p1 kn => ⟨by rw [List.length_map, ← Paired.len kn]; exact hlen, fun L hL => ?_⟩
  have q := Po.new (wr := wr) (o := .lst (fs.map V.ref)) p1.cells p1.tabs hL
  have p2 := p1.trans S.ce q
  have S2 : Stt F (ω1.out L) (g.set i none) m (σ.set i (some (.ref L))) (upd H1 L (.lst (fs.map V.ref))) := ⟨(S.po p2).sl.put, p2.cells, p2.tabs⟩
  have kn2 : Paired (fun (l : Lm × Pos) (f : Addr) => Kn (X.env.qual ++ "<lambda>") X.env.cells (upd H1 L (.lst (fs.map V.ref))) l.1 f) ls fs := Paired.mono (fun l f k => Kn.po p1.cells q k) kn
  unfold exBads at h
  cases hr : badsR W c (ls.map (·.1.e)) wr (g.set i none) m with
  | none => rw [hr] at h; exact h.elim
  | some m2 =>
    rw [hr] at h
    have hil : i < σ.length := by rw [hl]; exact (List.getElem?_eq_some_iff.mp hi).1
    simp only [gName, tSeq, tIfS, tOr]
    refine bads_test hK S2 (List.getElem?_set_self hil) upd_same (fun z => z.2 rfl) (by rw [List.length_set, hl]; exact hj) kn2 hr caught hne fun ω2 H2 p3 => ?_
    have S3 : Stt F ω2 (g.set i none) m2 (σ.set i (some (.ref L))) H2 := S2.po p3
    have pt := p2.trans S.ce p3
    have fin := FinS.shift (V₁ := Vg ω2 (g.set i none)) (PoV.of pt fun b ⟨k, d, e1, e2⟩ => ⟨k, d, by
      by_cases hk : i = k
      · subst hk
        have hgl : i < g.length := by
          have := (List.getElem?_eq_some_iff.mp e1).1
          simpa using this
        rw [List.getElem?_set_self hgl] at e1
        cases e1
      · rw [List.getElem?_set_ne hk] at e1
        exact e1, by rw [← pt.sl]; exact e2⟩) h
    exact ifs_read (LS.seq (LS.of S3 fin))
end
end Ev
end
section
set_option linter.all false
set_option autoImplicit false
set_option maxRecDepth 100000
set_option maxHeartbeats 1000000
/-! Ev, part HH: told(lambda: e), where it stands. -/
namespace Ev
open PySem PySem.Spec PyProof.Rows L2 LamX

section
variable {X : Cx} {F : Fx} {W : Wd} {Wx : WX}
def tTold1 (X : Cx) (T : List (Addr × Str)) (P : Addr) (TT : (XK → Hp → VK → Prop) → Hp → VK → Prop) (l : Lm) (t : XK → TE) : TE := fun σ H Q => Tabs T H ∧ ∀ (f c' : Addr) (pm ctv : Value) (H1 : Hp), LamMade T P (X.env.qual ++ "<lambda>") H H1 f c' (l.obj (X.env.qual ++ "<lambda>") X.env.cells c' pm ctv) →
  TT (fun E H' Q' => H' f = some (FunO f (l.obj (X.env.qual ++ "<lambda>") X.env.cells c' pm ctv)) ∧ t E σ H' Q') H1 Q
theorem pe_told1 {T : List (Addr × Str)} {TT : (XK → Hp → VK → Prop) → Hp → VK → Prop} {x a : Str} {g P : Addr} {k : Nat} {pg : Arguments} {bg : List Stmt} {sg : Scope} {dV kV doc pm cdv ct oc : Value} {an od : Option Addr} {osl : Array (Option Value)} {Ng : List Str}
    {l : Lm} {t : XK → TE} {p lpos pos : Pos} (hg : Gl X x) (hm : X.mg x = some (.ref g)) (hk : PySem.W.keepIn X.K (.ref g) = true)
    (lk : X.K.lookup g = some ⟨oc, od, .func (PySem.W.fnOf x x pg bg sg dV kV doc pm an cdv ct), osl⟩) (hcg : PySem.W.codeIn X.K cdv x = true) (hb : L2.Binds X.K (PySem.W.fnOf x x pg bg sg dV kV doc pm an cdv ct) [a] []) (Sg : FnScope Ng [a] sg) (hNg : Ng[0]? = some a) (hva : Vis sg a)
    (hG : GivesTo X Ng x sg g cdv bg a (X.env.qual ++ "<lambda>") TT) (at_ : LmAt X T P) (hr : Room (k + 2) X.A) (L : LmOk X l) (hdef : defaultsOf l.params X.env = ([], []))
    (hbody : ∀ (A : Around) (outer : List Env) (s : Shared) (H : Hp) (E : XK) (f c' : Addr), Room k (A.deeper (lamEnv X l.scope s.heap.objs.size f c')) → PE (lamCx X A outer s H E l.scope f c') l.body (t E))
    (hdx : (x == ("__debug__" : Str)) = false) (hda : (a == ("__debug__" : Str)) = false) (hca : (a == ("__classdict__" : Str)) = false) :
    PE X (.Call (.Name x p) [.Lambda l.params l.body l.scope lpos] [] pos) (tTold1 X T P TT l t) := by
  obtain ⟨c, TB, hcode⟩ := at_.ex
  refine ⟨fun pins s σ H Q I ⟨hT, h⟩ => ?_⟩
  refine wpAny_Call_Name_kw (ld_glob I hg hm ?_ hdx)
  refine PySem.W.callWith_K (h₀ := X.base) I.ok.mod.kin hk ?_ (by rfl) (by rfl)
  show wpAny _ _ (spliced ((false, eval (.Lambda l.params l.body l.scope lpos) X.env) :: backTo pos (starEach [] X.env))) _ _ s
  refine Calls.spliced_cons (lam_make3 I TB hcode at_.mem at_.one hT hdef (L.sc.has I.ok) fun f c' pm' ctv H1 s' I1 M => ?_)
  refine Calls.spliced_nil ⟨I1.kIn, ?_⟩
  have rc : codeAny (model X.prog X.w) X.A (.call (.ref g) ⟨[.ref f], []⟩) (CR C8.CX0 X.stack X.prog X.w H1 s' Q C8.E0) s' := by
    refine run_ofS (N := Ng) (ps := [a]) (us := [.ref f]) (vs := [.ref f]) lk hcg Sg hr I1.env0 (hb s' [.ref f] I1.kIn rfl) (.cons rfl .nil) rfl fun room => ?_
    obtain ⟨t', ht', hq'⟩ := hG f c' s' H1 Q _ (fun W pn xe E p1 p2 tk hW => act_known (X := X) (i := 0) (E := E) (tb := t E) I1 L tk hW room (fun A outer s H hr2 => hbody A outer s H E f c' hr2) hNg hva hda hca) M.co (h f c' pm' ctv H1 M)
    exact ⟨t', ht'.nox, hq'⟩
  refine wpAny_call (codeAny_mono rc fun r s2 hq => ?_)
  cases r with
  | error e => exact (show False from hq).elim
  | ok fl =>
    cases fl with
    | ret u => exact I1.after hq
    | _ => exact False.elim hq
/-- what it means -/
theorem told_read {P CS : Addr} {l : Lm} {c f0 : Nat} {ret : Str} {σ : L2.St} {H : Hp} {Q : VK} (hT : P ∉ F.TG) (nb : isB l.e = false) (caught : ∀ k, W.sub k c = true → PySem.W.exmOne X.K (.ref (F.xa k)) (.ref CS) = some true) (hret : W.tol c = ret)
    (h : LE F Wx false (evE W (.told f0 c l.e)) σ H Q) : tTold1 X F.TL P (TTold X.K CS ret) l (lmT F W l) σ H Q := by
  obtain ⟨ω, g, m, wr, S, h⟩ := h
  refine ⟨S.tb.2, fun f c' pm ctv H1 M => ?_⟩
  have p := LamMade.po (wr := wr) S.ce S.tb M hT
  refine ⟨M.fo, LG.of (wr := wr) (S.po p) ?_⟩
  have h : Fin F Wx wr σ (VRel F false) Q ω m H (ev W (.told f0 c l.e) wr g m) := h
  simp only [ev, nb, Bool.false_eq_true, if_false] at h
  show Fin F _ wr σ (VRel F false) _ (ω.out f) m H1 (ev W l.e wr g m)
  cases hv : ev W l.e wr g m with
  | stuck => rw [hv] at h; exact h
  | ok d m' =>
    rw [hv] at h
    exact fun ω' v H' q r => h ω' v H' (p.trans S.ce q) r
  | exc k m' =>
    rw [hv] at h
    simp only at h
    split at h
    · rename_i hs
      intro ω' H' q
      exact ⟨true, caught k hs, fun _ => h ω' (.str ret) H' (p.trans S.ce q) (.inl (by rw [hret]; rfl)), fun z => by cases z⟩
    · exact h.elim
theorem pe_toldL {x ret : Str} {P CS : Addr} {k c f0 : Nat} {l : Lm} {p lpos pos : Pos} (hg : Gl X x) (hdx : (x == ("__debug__" : Str)) = false) (T : ToldK X.K X.mg x ret CS) (at_ : LmAt X F.TL P) (hT : P ∉ F.TG) (hr : Room (k + 2) X.A) (L : LmOk X l) (hdef : defaultsOf l.params X.env = ([], [])) (nb : isB l.e = false)
    (hbody : ∀ (A : Around) (outer : List Env) (s : Shared) (H : Hp) (E : XK) (f c' : Addr), Room k (A.deeper (lamEnv X l.scope s.heap.objs.size f c')) → PE (lamCx X A outer s H E l.scope f c') l.body (lmT F W l E))
    (caught : ∀ k, W.sub k c = true → PySem.W.exmOne X.K (.ref (F.xa k)) (.ref CS) = some true) (hret : W.tol c = ret) :
    PE X (.Call (.Name x p) [.Lambda l.params l.body l.scope lpos] [] pos) (LE F Wx false (evE W (.told f0 c l.e))) := by
  obtain ⟨g, pg, bg, sg, dV, kV, doc, pm, cdv, ct, oc, an, od, osl, Ng, a, e, jj, p1, p2, p3, p4, p5, p6, p7, p8, h1, h2, h3, h4, h5, h6, h7, h8, rfl, h10, h11, h12, h13, h14, h15⟩ := T.ex
  exact PE_imp (pe_told1 hg h1 h2 h3 h4 h5 h6 h7 h8 (told_gives h10 h11 h12 h15) at_ hr L hdef hbody hdx h13 h14) fun σ H Q h => told_read hT nb caught hret h
end
end Ev
end
section
set_option linter.all false
set_option autoImplicit false
set_option maxRecDepth 100000
/-! Ev, part U: the look at a text: expressions. -/
namespace Ev
open PySem PySem.Spec PyProof.Rows L2

/-- what a name of the module stands for -/
inductive Gb where
  | fn (f : Nat) (ps : List Str)
  | cst (k : Nat)
  | exc (c : Nat)
  | blt
  | told (c : Nat) (ret : Str)
  | mt (f : Nat) (ps : List Str)
  | cls (c : Nat) (ps : List Str)
/-- what is known where a text stands -/
structure Cxt where
  N : List Str
  sc : Scope
  fn : Str → Bool
  G : List (Str × Gb)
  gd : Bool
  ld : Bool
/-- in a lambda's body -/
def Cxt.lblk (c : Cxt) (scope : Scope) : Cxt := { c with sc := scope, fn := fun _ => false, gd := false, ld := false }
/-- in a generator expression's block -/
def Cxt.gblk (c : Cxt) (scope : Scope) : Cxt := { c with sc := scope, fn := fun _ => false, gd := false, ld := false }
def Cxt.blk (c : Cxt) (scope : Scope) : Cxt := { c with sc := relS scope c.sc, fn := fun x => scope.names.lookup x == some .cell, ld := false }
def GbOk (P : Program) (w : World) (K : PySem.W.Frag) (mg : Str → Option Value) (base : Heap) (F : Fx) (W : Wd) (k : Nat) (x : Str) : Gb → Prop
  | .fn f ps => ∃ fa fd, mg x = some (.ref fa) ∧ PySem.W.keepIn K (.ref fa) = true ∧ Binds K fd ps [] ∧ FnOk P w K mg base (L2.CX P w) k fa fd ps (spOf F ps.length (W.call f))
  | .cst g => ∃ u v, mg x = some u ∧ RelV v u ∧ ∀ ω H, Rep F ω H (W.glb g) v
  | .exc c => ∃ bmB B newId initId, ExcBaseFacts B newId initId bmB ∧ PySem.W.excIn K (F.xa c) bmB newId = true ∧ mg x = some (.ref (F.xa c)) ∧ PySem.W.keepIn K (.ref (F.xa c)) = true ∧ PySem.W.subIn K (.ref (F.xa c)) (.type "BaseException") = some true ∧ PySem.W.typeIn K (.ref (F.xa c)) = some (.type "type")
  | .blt => mg x = none
  | .told c ret => ToldK K mg x ret (F.xa c) ∧ W.tol c = ret ∧ ∀ j, W.sub j c = true → PySem.W.exmOne K (.ref (F.xa j)) (.ref (F.xa c)) = some true
  | .mt f ps => ∃ fa fd, W.nam f = x ∧ Cls K (F.ca (W.cls f)) ∧ Meth K (F.ca (W.cls f)) x fa ∧ Binds K fd ps [] ∧ FnOk P w K mg base (L2.CX P w) k fa fd ps (spOf F ps.length (W.call f))
  | .cls c ps => ∃ fa fd, mg x = some (.ref (F.ca c)) ∧ Mk K (F.ca c) fa ∧ Binds K fd ps [] ∧ FnOk P w K mg base (L2.CX P w) k fa fd ps (spOf F ps.length (W.call (W.ini c)))
structure XOk (k : Nat) (c : Cxt) (X : Cx) (F : Fx) (W : Wd) (Wx : WX) : Prop where
  K : X.K = F.K
  calm : X.calm = true
  N : X.N = c.N
  nd : X.N.Nodup
  sc : X.env.scope = c.sc
  fn : ∀ x, c.fn x = true → X.fn x = true
  room : Room (k + 1) X.A
  gl : ∀ x gb, (x, gb) ∈ c.G → GbOk X.prog X.w X.K X.mg X.base F W k x gb
  cl : ∀ c f, W.has c f = true → Cls X.K (F.ca c) ∧ NoAttr X.K (F.ca c) f
  ob : ∀ c, W.obj c = true → EqObj X.K (F.ca c)
  tk : Takes X Wx
  gd : c.gd = true → Room (k + 2) X.A ∧ ∃ cc P, X.env.code = .ref cc ∧ GxR.TabB X.base X.mg cc P ∧ P ∈ F.TG ∧ ∀ p ∈ F.TL, p.1 ≠ P
  ld : c.ld = true → Room (k + 3) X.A ∧ ∃ P, LmAt X F.TL P ∧ P ∉ F.TG
theorem XOk.blk {k : Nat} {c : Cxt} {X : Cx} {F : Fx} {W : Wd} {Wx : WX} (h : XOk k c X F W Wx) {scope : Scope} (s : Shared) (H : Hp) (C : Addr) (cl : List (Str × Addr)) (fp : List Addr) :
    XOk k (c.blk scope) (X.blk s H scope (compEnvC scope cl C X.env) fp) F W Wx0 := by
  refine ⟨h.K, h.calm, h.N, h.nd, ?_, fun x hx => hx, h.room, h.gl, h.cl, h.ob, L2.takes0, h.gd, fun z => absurd (show false = true from z) Bool.false_ne_true⟩
  show relS scope X.env.scope = relS scope c.sc
  rw [h.sc]
theorem XOk.gblk {k : Nat} {c : Cxt} {X : Cx} {F : Fx} {W : Wd} {Wx : WX} (h : XOk k c X F W Wx) {scope : Scope} (Ag : Around) (s0 : Shared) (H0 : Hp) (C : Addr) (code : Value) (fp : List Addr) (pn : List (Addr × Obj)) (hr : Room (k + 1) Ag) :
    XOk k (c.gblk scope) (gnCx X Ag s0 H0 (genEnv scope (cloFrom X.env.cells scope.names []) C code builtinsNs X.env) fp pn) F W Wx0 :=
  ⟨h.K, h.calm, h.N, h.nd, rfl, fun x hx => absurd (show false = true from hx) Bool.false_ne_true, hr, h.gl, h.cl, h.ob, L2.takes0, fun z => absurd (show false = true from z) Bool.false_ne_true, fun z => absurd (show false = true from z) Bool.false_ne_true⟩
theorem XOk.lblk {k : Nat} {c : Cxt} {X : Cx} {F : Fx} {W : Wd} {Wx : WX} (h : XOk k c X F W Wx) {scope : Scope} (A : Around) (outer : List Env) (s : Shared) (H : Hp) (E : XK) (f c' : Addr) (hr : Room (k + 1) (A.deeper (LamX.lamEnv X scope s.heap.objs.size f c'))) :
    XOk k (c.lblk scope) (LamX.lamCx X A outer s H E scope f c') F W (fun cls d _ H' => E cls d H') :=
  ⟨h.K, rfl, h.N, h.nd, rfl, fun x hx => absurd (show false = true from hx) Bool.false_ne_true, hr, h.gl, h.cl, h.ob, takes_of rfl rfl rfl rfl, fun z => absurd (show false = true from z) Bool.false_ne_true, fun z => absurd (show false = true from z) Bool.false_ne_true⟩

/-! ### the look -/
def visB (sc : Scope) (x : Str) : Bool := match sc.names.lookup x with
  | some .local => true
  | some .cell => true
  | some .free => true
  | _ => false
def locB (sc : Scope) (x : Str) : Bool := match sc.names.lookup x with
  | some .local => true
  | some .cell => true
  | _ => false
def Cxt.nm (c : Cxt) (i : Nat) (x : Str) : Bool := decide (c.N[i]? = some x) && visB c.sc x && !(x == ("__debug__" : Str)) && !(x == ("__classdict__" : Str))
def Cxt.gl (c : Cxt) (x : Str) : Bool := decide (c.sc.names.lookup x = some .globalImplicit) && !(x == ("__debug__" : Str)) && decide (x ≠ "__name__")
def Cxt.isC (c : Cxt) (x : Str) (g : Nat) : Bool := match c.G.lookup x with
  | some (.cst h) => h == g
  | _ => false
def Cxt.isF (c : Cxt) (x : Str) (f n : Nat) : Bool := match c.G.lookup x with
  | some (.fn h ps) => h == f && ps.length == n
  | _ => false
def Cxt.isB (c : Cxt) (x y : Str) : Bool := c.gl x && x == y && match c.G.lookup x with
  | some .blt => true
  | _ => false
/-- is the f-th def a method of that name, with n parameters? -/
def Cxt.isM (c : Cxt) (x : Str) (f n : Nat) : Bool := match c.G.find? fun p => match p.2 with | .mt h _ => h == f | _ => false with
  | some (y, .mt h ps) => decide (y = x) && h == f && ps.length == n
  | _ => false
def Cxt.isK (c : Cxt) (x : Str) (g n : Nat) : Bool := match c.G.lookup x with
  | some (.cls h ps) => h == g && ps.length == n
  | _ => false
def Cxt.isTo (c : Cxt) (x : Str) (g : Nat) : Bool := match c.G.lookup x with
  | some (.told h _) => h == g
  | _ => false
def noArgs : Arguments → Bool
  | ⟨[], [], none, [], [], none, []⟩ => true
  | _ => false
def mthN : Mn → Str
  | .count => "count" | .index => "index" | .get1 => "get" | .get2 => "get" | .startswith => "startswith" | .join => "join"
def mth1B : Mn → Bool
  | .count => true | .index => true
  | _ => false
def rgB : Bi → Bool
  | .tuple => true | .list => true
  | _ => false
/-- its value is no tuple -/
def noTup : Ex → Bool
  | .dco _ _ _ _ _ => true
  | _ => false
/-- its value is a list -/
def isLst : Ex → Bool
  | .co .lc _ _ _ _ => true
  | .lst _ => true
  | _ => false
def opB : BOp → Operator → Bool
  | .add, .Add => true | .sub, .Sub => true | .mul, .Mult => true | .fdiv, .FloorDiv => true | .mod, .Mod => true | .pow, .Pow => true
  | _, _ => false
theorem opB_ok {o : BOp} {p : Operator} (h : opB o p = true) : p = pyB o := by cases o <;> cases p <;> first | rfl | (simp [opB] at h)
def opC : COp → CmpOp → Bool
  | .lt, .Lt => true | .le, .LtE => true | .gt, .Gt => true | .ge, .GtE => true | .eq, .Eq => true | .ne, .NotEq => true | .isin, .In => true | .notin, .NotIn => true | .isN, .Is => true | .notN, .IsNot => true
  | _, _ => false
theorem opC_ok {o : COp} {p : CmpOp} (h : opC o p = true) : p = pyC o := by cases o <;> cases p <;> first | rfl | (simp [opC] at h)
def biN : Bi → Str
  | .len => "len" | .abs => "abs" | .max2 => "max" | .min2 => "min" | .max1 => "max" | .min1 => "min" | .sum1 => "sum" | .sorted => "sorted" | .tuple => "tuple" | .list => "list" | .int => "int" | .str => "str" | .dict => "dict"
/-- those of one argument that are known, those of two -/
def bi1B : Bi → Bool
  | .len => true | .abs => true | .max1 => true | .sum1 => true | .tuple => true | .list => true | .int => true | .sorted => true
  | _ => false
def bi2B : Bi → Bool
  | .max2 => true | .min2 => true
  | _ => false
/-- those that take a generator expression -/
def coB : Ck → Bool
  | .sum => true | .any => true | .all => true | .sorted => true | .tuple => true
  | _ => false
def coN : Ck → Str
  | .sum => "sum" | .any => "any" | .sorted => "sorted" | .tuple => "tuple" | _ => "all"
def tOkE : Expr → Bool
  | .IfExp .. => false
  | _ => true
def ownOf (c : Cxt) (t : Tg) : List (Str × Nat) := (tvars t).map fun i => (c.N.getD i "", i)
theorem ownOf_ix (c : Cxt) (t : Tg) : (ownOf c t).map (·.2) = tvars t := by
  unfold ownOf
  rw [List.map_map]
  exact List.map_id _
mutual
def mTg (c : Cxt) : Tg → Expr → Bool
  | .nm i, .Name x _ => decide (c.N[i]? = some x) && locB c.sc x && (c.fn x || decide (c.sc.names.lookup x = some .local))
  | .tup ts, .Tuple ps _ _ => mTgs c ts ps
  | _, _ => false
def mTgs (c : Cxt) : List Tg → List Expr → Bool
  | [], [] => true
  | t :: ts, p :: ps => mTg c t p && mTgs c ts ps
  | _, _ => false
end
def isTup : Expr → Bool
  | .Tuple .. => true
  | _ => false
mutual
def mE (c : Cxt) : Ex → Expr → Bool
  | .nm i, .Name x _ => c.nm i x
  | .pk i, .Name x _ => c.nm i x
  | .cst (.int i), .Constant (.int j) _ _ => decide (i = j)
  | .cst (.str i), .Constant (.str j) _ _ => decide (i = j)
  | .cst (.bool i), .Constant (.bool j) _ _ => i == j
  | .cst .none, .Constant .none _ _ => true
  | .glb g, .Name x _ => c.gl x && c.isC x g
  | .bin o a b, .BinOp pa op pb _ => opB o op && !isB a && !isB b && mE c a pa && mE c b pb
  | .neg a, .UnaryOp .USub pa _ => !isB a && mE c a pa
  | .not a, .UnaryOp .Not pa _ => !isB a && (tOkE pa && mE c a pa)
  | .and a b, .BoolOp .And [pa, pb] _ => !isB a && !isB b && tOkE pa && tOkE pb && mE c a pa && mE c b pb
  | .and a b, .BoolOp .And (pa :: pb :: pc :: r) pos => !isB a && !isB b && tOkE pa && mE c a pa && mE c b (.BoolOp .And (pb :: pc :: r) pos)
  | .or a b, .BoolOp .Or [pa, pb] _ => !isB a && !isB b && tOkE pa && tOkE pb && mE c a pa && mE c b pb
  | .or a b, .BoolOp .Or (pa :: pb :: pc :: r) pos => !isB a && !isB b && tOkE pa && mE c a pa && mE c b (.BoolOp .Or (pb :: pc :: r) pos)
  | .cmp o a b, .Compare pa [op] [pb] _ => opC o op && plainE pb && mE c a pa && mE c b pb
  | .chn o o' a b d, .Compare pa [op, op'] [pb, pd] _ => opC o op && opC o' op' && !isB a && !isB b && plainE pb && plainE pd && mE c a pa && mE c b pb && mE c d pd
  | .ite t a b, .IfExp pt pa pb _ => tOkE pt && !isB a && !isB b && mE c t pt && mE c a pa && mE c b pb
  | .tup es, .Tuple ps _ _ => mL c es ps
  | .lst es, .List ps _ => mL c es ps
  | .lstC es, .List ps _ => mL c es ps
  | .idx a b, .Subscript pa pb _ => plainE pb && !isB b && mE c a pa && mE c b pb
  | .slc a lo hi, .Subscript pa (.Slice plo phi none _) _ => !isB a && mE c a pa && mO c lo plo && mO c hi phi
  | .call f es, .Call (.Name x _) ps [] _ => c.gl x && c.isF x f es.length && ps.all plainE && mL c es ps
  | .bi b [e], .Call (.Name x _) [p] [] _ => (bi1B b && c.isB x (biN b) && plainE p && mE c e p) || (match b with | .dict => true | _ => false) && c.isB x "dict" && plainE p && isLst e && mE c e p
  | .bi b [e, e2], .Call (.Name x _) [p, p2] [] _ => bi2B b && c.isB x (biN b) && plainE p && plainE p2 && !isB e && !isB e2 && mE c e p && mE c e2 p2
  | .co .lc e tg src is, .ListComp pe [⟨ptg, pit, pis, na⟩] scope _ => decide (na = 0) && !isB e && plainE pit && blkC c.N c.sc scope (ownOf c tg) && mS c src ptg pit && mTg (c.blk scope) tg ptg && mI (c.blk scope) is pis && mE (c.blk scope) e pe
  | .co ck e tg src is, .Call (.Name x _) [.GeneratorExp pe [⟨ptg, pit, pis, na⟩] scope _] [] _ => c.gd && coB ck && c.isB x (coN ck) && decide (na = 0) && !isB e && plainG pit && gnC c.N c.sc scope (ownOf c tg) && mS c src ptg pit && mTg (c.gblk scope) tg ptg && mI (c.gblk scope) is pis && mE (c.gblk scope) e pe
  | .fld e f, .Attribute p f' _ => decide (f = f') && nobase p && !isB e && mE c e p
  | .met f o es, .Call (.Attribute po m apos) ps [] pos => c.isM m f (es.length + 1) && nobase po && ps.all plainE && decide (ps.length < 30) && (apos.endLine == pos.line) && decide (es.length = ps.length) && !isB o && mE c o po && mL c es ps
  | .new k es, .Call (.Name x _) ps [] _ => c.gl x && c.isK x k (es.length + 1) && ps.all plainE && decide (es.length = ps.length) && mL c es ps
  | .mth n o [e], .Call (.Attribute po m apos) [p] [] pos => mth1B n && decide (m = mthN n) && nobase po && plainE p && (apos.endLine == pos.line) && !isB e && mE c o po && mE c e p
  | .bs b (.rng es), .Call (.Name x _) [.Call (.Name y _) (p :: ps) [] _] [] _ => rgB b && c.isB x (biN b) && c.isB y "range" && (p :: ps).all plainE && mL c es (p :: ps)
  | .bs b (.seq (.e e)), .Call (.Name x _) [p] [] _ => (match b with | .sorted => true | _ => false) && c.isB x "sorted" && plainE p && noTup e && !isB e && mE c e p
  | .dco k v tg src is, .DictComp kp vp [⟨ptg, pit, pis, na⟩] scope _ => decide (na = 0) && !isB k && !isB v && plainE pit && blkC c.N c.sc scope (ownOf c tg) && mS c src ptg pit && mTg (c.blk scope) tg ptg && mI (c.blk scope) is pis && mE (c.blk scope) k kp && mE (c.blk scope) v vp
  | .eqs e z, .Compare p [.Eq] [.Constant (.str z') _ _] _ => decide (z = z') && !isB e && mE c e p
  | .told _ k body, .Call (.Name x _) [.Lambda params pb scope _] [] _ => c.ld && c.gl x && c.isTo x k && LamX.lamSB c.sc scope && noArgs params && !isB body && mE (c.lblk scope) body pb
  | _, _ => false
def mL (c : Cxt) : List Ex → List Expr → Bool
  | [], [] => true
  | e :: es, p :: ps => !isB e && plainE p && mE c e p && mL c es ps
  | _, _ => false
def mO (c : Cxt) : Option Ex → Option Expr → Bool
  | none, none => true
  | some e, some p => !isB e && mE c e p
  | _, _ => false
def mI (c : Cxt) : List Ex → List Expr → Bool
  | [], [] => true
  | [e], [p] => tOkE p && mE c e p
  | _, _ => false
def mS (c : Cxt) : Src → Expr → Expr → Bool
  | .seq b, _, p => mB c b p
  | .rng [e], _, .Call (.Name x _) [p] [] _ => c.isB x "range" && !isB e && plainE p && mE c e p
  | .rng [e, e2], _, .Call (.Name x _) [p, p2] [] _ => c.isB x "range" && !isB e && !isB e2 && plainE p && plainE p2 && mE c e p && mE c e2 p2
  | .enum b, tg, .Call (.Name x _) [p] [] _ => isTup tg && c.isB x "enumerate" && plainE p && mB c b p
  | .zip e e2, tg, .Call (.Name x _) [p, p2] [] _ => isTup tg && c.isB x "zip" && !isB e && !isB e2 && plainE p && plainE p2 && mE c e p && mE c e2 p2
  | _, _, _ => false
def mB (c : Cxt) : Bs → Expr → Bool
  | .e e, p => !isB e && mE c e p
  | .sl i, .Name x _ => c.nm i x
  | _, _ => false
end

/-! ### what the look shows -/
section
variable {F : Fx} {W : Wd} {k : Nat}
theorem visB_ok {X : Cx} {sc : Scope} {x : Str} (hs : X.env.scope = sc) (h : visB sc x = true) : Vis X.env.scope x := by
  rw [hs]
  unfold visB at h
  split at h
  · rename_i e; exact .inl e
  · rename_i e; exact .inr (.inl e)
  · rename_i e; exact .inr (.inr e)
  · cases h
theorem locB_ok {X : Cx} {sc : Scope} {x : Str} (hs : X.env.scope = sc) (h : locB sc x = true) : Loc X.env.scope x := by
  rw [hs]
  unfold locB at h
  split at h
  · rename_i e; exact .inl e
  · rename_i e; exact .inr e
  · cases h
theorem nm_ok {c : Cxt} {X : Cx} {Wx : WX} {i : Nat} {x : Str} (O : XOk k c X F W Wx) (h : c.nm i x = true) : X.N[i]? = some x ∧ Vis X.env.scope x ∧ (x == ("__debug__" : Str)) = false ∧ (x == ("__classdict__" : Str)) = false := by
  unfold Cxt.nm at h
  simp only [Bool.and_eq_true, Bool.not_eq_true', decide_eq_true_eq] at h
  obtain ⟨⟨⟨h1, h2⟩, h3⟩, h4⟩ := h
  exact ⟨by rw [O.N]; exact h1, visB_ok O.sc h2, h3, h4⟩
theorem gl_ok {c : Cxt} {X : Cx} {Wx : WX} {x : Str} (O : XOk k c X F W Wx) (h : c.gl x = true) : Gl X x ∧ (x == ("__debug__" : Str)) = false ∧ x ≠ "__name__" := by
  unfold Cxt.gl at h
  simp only [Bool.and_eq_true, Bool.not_eq_true', decide_eq_true_eq] at h
  obtain ⟨⟨h1, h2⟩, h3⟩ := h
  refine ⟨?_, h2, h3⟩
  show X.env.scope.names.lookup x = _
  rw [O.sc]
  exact h1
theorem isB_ok {c : Cxt} {X : Cx} {Wx : WX} {x y : Str} (O : XOk k c X F W Wx) (h : c.isB x y = true) : x = y ∧ Gl X x ∧ X.mg x = none := by
  unfold Cxt.isB at h
  simp only [Bool.and_eq_true] at h
  obtain ⟨⟨h1, h2⟩, h3⟩ := h
  refine ⟨eq_of_beq h2, (gl_ok O h1).1, ?_⟩
  split at h3
  · rename_i e
    exact O.gl x .blt (PySem.mem_of_lookup e)
  · cases h3
theorem isC_ok {c : Cxt} {X : Cx} {Wx : WX} {x : Str} {g : Nat} (O : XOk k c X F W Wx) (h : c.isC x g = true) : GbOk X.prog X.w X.K X.mg X.base F W k x (.cst g) := by
  unfold Cxt.isC at h
  split at h
  · rename_i g' e
    have e2 : g' = g := by simpa using h
    subst e2
    exact O.gl x _ (PySem.mem_of_lookup e)
  · cases h
theorem isF_ok {c : Cxt} {X : Cx} {Wx : WX} {x : Str} {f n : Nat} (O : XOk k c X F W Wx) (h : c.isF x f n = true) : ∃ ps, ps.length = n ∧ GbOk X.prog X.w X.K X.mg X.base F W k x (.fn f ps) := by
  unfold Cxt.isF at h
  split at h
  · rename_i g' ps e
    simp only [Bool.and_eq_true, beq_iff_eq] at h
    obtain ⟨rfl, h2⟩ := h
    exact ⟨ps, h2, O.gl x _ (PySem.mem_of_lookup e)⟩
  · cases h
theorem isM_ok {c : Cxt} {X : Cx} {Wx : WX} {x : Str} {f n : Nat} (O : XOk k c X F W Wx) (h : c.isM x f n = true) : ∃ ps, ps.length = n ∧ GbOk X.prog X.w X.K X.mg X.base F W k x (.mt f ps) := by
  unfold Cxt.isM at h
  split at h
  · rename_i y g' ps e
    simp only [Bool.and_eq_true, beq_iff_eq, decide_eq_true_eq] at h
    obtain ⟨⟨rfl, rfl⟩, h2⟩ := h
    exact ⟨ps, h2, O.gl _ _ (List.mem_of_find?_eq_some e)⟩
  · cases h
theorem isK_ok {c : Cxt} {X : Cx} {Wx : WX} {x : Str} {f n : Nat} (O : XOk k c X F W Wx) (h : c.isK x f n = true) : ∃ ps, ps.length = n ∧ GbOk X.prog X.w X.K X.mg X.base F W k x (.cls f ps) := by
  unfold Cxt.isK at h
  split at h
  · rename_i g' ps e
    simp only [Bool.and_eq_true, beq_iff_eq] at h
    obtain ⟨rfl, h2⟩ := h
    exact ⟨ps, h2, O.gl x _ (PySem.mem_of_lookup e)⟩
  · cases h
theorem isTo_ok {c : Cxt} {X : Cx} {Wx : WX} {x : Str} {g : Nat} (O : XOk k c X F W Wx) (h : c.isTo x g = true) : ∃ ret, GbOk X.prog X.w X.K X.mg X.base F W k x (.told g ret) := by
  unfold Cxt.isTo at h
  split at h
  · rename_i g' r e
    have e2 : g' = g := by simpa using h
    subst e2
    exact ⟨r, O.gl x _ (PySem.mem_of_lookup e)⟩
  · cases h
theorem noArgs_ok {p : Arguments} (h : noArgs p = true) : p = ⟨[], [], none, [], [], none, []⟩ := by
  unfold noArgs at h
  split at h
  · rfl
  · cases h
theorem isTup_ok {p : Expr} (h : isTup p = true) : ∃ es k pos, p = .Tuple es k pos := by cases p <;> first | (simp [isTup] at h; done) | exact ⟨_, _, _, rfl⟩
theorem nostar_each {p : Expr} {ps : List Expr} {env : Env} (h : ∀ t q, p ≠ .Starred t q) : assignEach (p :: ps) env = (false, assign p env) :: assignEach ps env := by
  cases p <;> first | rfl | exact absurd rfl (h _ _)
mutual
theorem mTg_ok : ∀ (t : Tg) (c : Cxt) (p : Expr), mTg c t p = true → ∃ u : TG, GOk F u t ∧ (∀ (X : Cx) (Wx : WX), XOk k c X F W Wx → PG X p u) ∧ ∀ a q, p ≠ .Starred a q
  | .nm i, c, p, h => by
    cases p <;> first | (simp [mTg] at h; done) | skip
    rename_i x pos
    simp only [mTg, Bool.and_eq_true, decide_eq_true_eq, Bool.or_eq_true] at h
    obtain ⟨⟨h1, h2⟩, h3⟩ := h
    refine ⟨gName i, gok_nm, fun X Wx O => pg_name O.nd (by rw [O.N]; exact h1) (locB_ok O.sc h2) ?_, fun a q z => by cases z⟩
    rcases h3 with h3 | h3
    · exact .inl (O.fn x h3)
    · exact .inr (by rw [O.sc]; exact h3)
  | .tup ts, c, p, h => by
    cases p <;> first | (simp [mTg] at h; done) | skip
    rename_i ps kk pos
    simp only [mTg] at h
    obtain ⟨u, h1, h2, h3, h4⟩ := mTgs_ok ts c ps h
    refine ⟨gTup F.K ps.length u, gok_tup h4 h1, fun X Wx O => ?_, fun a q z => by cases z⟩
    rw [← O.K]
    exact pg_tup O.calm (h2 X Wx O) (h3 X.env).1 (h3 X.env).2
theorem mTgs_ok : ∀ (ts : List Tg) (c : Cxt) (ps : List Expr), mTgs c ts ps = true → ∃ u : TGs, GsOk F u ts ∧ (∀ (X : Cx) (Wx : WX), XOk k c X F W Wx → PGs X ps u) ∧ (∀ env, (assignEach ps env).length = ps.length ∧ (assignEach ps env).findIdx? (·.1) = none) ∧ ts.length = ps.length
  | [], c, ps, h => by
    cases ps with
    | nil => exact ⟨gNil, gsok_nil, fun X Wx O => pgs_nil, fun env => ⟨rfl, rfl⟩, rfl⟩
    | cons p ps => simp [mTgs] at h
  | t :: ts, c, ps, h => by
    cases ps with
    | nil => simp [mTgs] at h
    | cons p ps =>
      simp only [mTgs, Bool.and_eq_true] at h
      obtain ⟨u, h1, h2, h3⟩ := mTg_ok t c p h.1
      obtain ⟨us, k1, k2, k3, k4⟩ := mTgs_ok ts c ps h.2
      refine ⟨gCons u us, gsok_cons h1 k1, fun X Wx O => ?_, fun env => ?_, by simp [k4]⟩
      · exact pgs_cons (h2 X Wx O) (k2 X Wx O) (by rw [nostar_each h3]; rfl)
      · rw [nostar_each h3]
        refine ⟨by simp [(k3 env).1], ?_⟩
        rw [List.findIdx?_cons]
        simp [(k3 env).2]
end
end
end Ev
end
section
set_option linter.all false
set_option autoImplicit false
set_option maxRecDepth 100000
set_option maxHeartbeats 1000000
/-! Ev, part V: the look at an expression shows its reading. -/
namespace Ev
open PySem PySem.Spec PyProof.Rows L2

theorem boot_sum' : bootBuiltins "sum" = some (.builtin "sum") := by decide +kernel
theorem boot_any' : bootBuiltins "any" = some (.builtin "any") := by decide +kernel
theorem boot_all' : bootBuiltins "all" = some (.builtin "all") := by decide +kernel
theorem boot_max' : bootBuiltins "max" = some (.builtin "max") := by decide +kernel
theorem boot_min' : bootBuiltins "min" = some (.builtin "min") := by decide +kernel
theorem boot_abs' : bootBuiltins "abs" = some (.builtin "abs") := by decide +kernel
theorem boot_len' : bootBuiltins "len" = some (.builtin "len") := by decide +kernel
theorem boot_int' : bootBuiltins "int" = some (.type "int") := by decide +kernel
theorem boot_list' : bootBuiltins "list" = some (.type "list") := by decide +kernel
theorem boot_sorted' : bootBuiltins "sorted" = some (.builtin "sorted") := by decide +kernel
theorem boot_dict' : bootBuiltins "dict" = some (.type "dict") := by decide +kernel
theorem boot_tuple' : bootBuiltins "tuple" = some (.type "tuple") := by decide +kernel
section
variable {F : Fx} {W : Wd} {k : Nat}
abbrev EOk (F : Fx) (W : Wd) (Wx : WX) (X : Cx) (e : Ex) (p : Expr) : Prop := PE X p (LE F Wx (isB e) (evE W e)) ∧ (tOkE p = true → PT X p (LT F Wx (evE W e)))
theorem EOk.pe {Wx : WX} {X : Cx} {e : Ex} {p : Expr} (h : EOk F W Wx X e p) (n : isB e = false) : PE X p (LE F Wx false (evE W e)) := by
  have := h.1
  rw [n] at this
  exact this
theorem eok_of {Wx : WX} {X : Cx} {e : Ex} {p : Expr} (he : ∀ whole, isTrue p X.env whole = (do let v ← whole; standAt p.pos; holding [v] (truthy v))) (h : PE X p (LE F Wx (isB e) (evE W e))) : EOk F W Wx X e p := ⟨h, fun _ => t_val he h⟩
theorem pe_one' {X : Cx} {a : Expr} {pos : Pos} {op : PySem.BoolOp} {t : TE} (h : PE X a t) : PE X (.BoolOp op [a] pos) t := pe_one h
theorem bi1_ok {Wx : WX} {X : Cx} {c : Cxt} {b : Bi} {e : Ex} {p : Expr} {x : Str} {np pos : Pos} (O : XOk k c X F W Wx) (hb : bi1B b = true) (hx : c.isB x (biN b) = true) (pp : plainE p = true) (he : PE X p (LE F Wx (isB e) (evE W e))) :
    PE X (.Call (.Name x np) [p] [] pos) (LE F Wx false (evE W (.bi b [e]))) := by
  obtain ⟨rfl, hg, hm⟩ := isB_ok O hx
  have ha : PA X [p] _ := pa_cons he pa_nil (plain_star pp _ _)
  have hs := plain_star pp [] X.env
  cases b <;> first | (simp [bi1B] at hb; done) | skip
  · exact PE_imp (pe_callB call_lenR hg hm boot_len' ha (by decide) (by decide) hs rfl) fun σ H Q h => bi1_core (bi_len O.K) h
  · exact PE_imp (pe_callB call_abs hg hm boot_abs' ha (by decide) (by decide) hs rfl) fun σ H Q h => bi1_core (X := X) bi_abs h
  · exact PE_imp (pe_callB (cr_max O.calm) hg hm boot_max' ha (by decide) (by decide) hs rfl) fun σ H Q h => bi1_core (bi_max1 O.K) h
  · exact PE_imp (pe_callB (CallR.or (cr_sum O.calm) (cr_sumT O.calm)) hg hm boot_sum' ha (by decide) (by decide) hs rfl) fun σ H Q h => bi1_core (bi_sum O.K) h
  · exact PE_imp (pe_callB (cr_sortedV O.room) hg hm boot_sorted' ha (by decide) (by decide) hs rfl) fun σ H Q h => bi1_core (bi_sorted O.K) h
  · exact PE_imp (pe_callTy call_tuple_of hg hm boot_tuple' ha (by decide) (by decide) hs rfl) fun σ H Q h => bi1_core (bi_tuple O.K) h
  · exact PE_imp (pe_callTy call_list_of hg hm boot_list' ha (by decide) (by decide) hs rfl) fun σ H Q h => bi1_core (bi_list O.K) h
  · exact PE_imp (pe_callTy call_int1 hg hm boot_int' ha (by decide) (by decide) hs rfl) fun σ H Q h => bi1_core (X := X) bi_int h
theorem bi2_ok {Wx : WX} {X : Cx} {c : Cxt} {b : Bi} {e e2 : Ex} {p p2 : Expr} {x : Str} {np pos : Pos} (O : XOk k c X F W Wx) (hb : bi2B b = true) (hx : c.isB x (biN b) = true) (pp : plainE p = true) (pp2 : plainE p2 = true) (ha : PA X [p, p2] (LA F Wx (evLs W [e, e2]))) :
    PE X (.Call (.Name x np) [p, p2] [] pos) (LE F Wx false (evE W (.bi b [e, e2]))) := by
  obtain ⟨rfl, hg, hm⟩ := isB_ok O hx
  have hs := plain_star pp [p2] X.env
  have hpl : (backTo pos (starEach [p2] X.env)).any (·.1) = false := plain_any _ _ (by simp [pp2])
  cases b <;> first | (simp [bi2B] at hb; done) | skip
  · exact PE_imp (pe_callB (call_max2 O.calm) hg hm boot_max' ha (by decide) (by decide) hs hpl) fun σ H Q h => bi2_core (X := X) (es := []) bi_max2 h
  · exact PE_imp (pe_callB (call_min2 O.calm) hg hm boot_min' ha (by decide) (by decide) hs hpl) fun σ H Q h => bi2_core (X := X) (es := []) bi_min2 h
theorem isLst_nb {e : Ex} (h : isLst e = true) : isB e = false := by cases e <;> first | rfl | (simp [isLst] at h)
theorem isLst_ok {e : Ex} (h : isLst e = true) : ∀ wr g m d m', ev W e wr g m = .ok d m' → ∃ xs, d = .list xs := by
  intro wr g m d m' e1
  cases e <;> first | (simp [isLst] at h; done) | skip
  · rename_i es
    simp only [ev] at e1
    split at e1
    · cases he : evL W es wr g m with
      | stuck => rw [he] at e1; cases e1
      | exc c m' => rw [he] at e1; cases e1
      | ok xs m1 => rw [he] at e1; cases e1; exact ⟨xs, rfl⟩
    · cases e1
  · rename_i ck elt tg src ifs
    cases ck <;> first | (simp [isLst] at h; done) | skip
    rw [ev] at e1
    split at e1
    · cases e1
    · cases hs : evS W src wr g m with
      | stuck => rw [hs] at e1; cases e1
      | exc c m' => rw [hs] at e1; cases e1
      | ok r m1 =>
        obtain ⟨xs, p⟩ := r
        rw [hs] at e1
        simp only [R.bind_ok, runCo] at e1
        generalize turns _ xs [] m1 = t at e1
        cases t with
        | stuck => cases e1
        | exc c m' => cases e1
        | ok ys m2 =>
          simp only [R.bind_ok, endCo, R.of_some] at e1
          cases e1
          exact ⟨ys, rfl⟩
theorem noTup_ok {e : Ex} (h : noTup e = true) : ∀ wr g m xs m', ev W e wr g m ≠ .ok (.tuple xs) m' := by
  intro wr g m xs m' e1
  cases e <;> first | (simp [noTup] at h; done) | skip
  rename_i k v tg src ifs
  rw [ev] at e1
  split at e1
  · cases e1
  · cases hs : evS W src wr g m with
    | stuck => rw [hs] at e1; cases e1
    | exc c m' => rw [hs] at e1; cases e1
    | ok r m1 =>
      obtain ⟨xs, p⟩ := r
      rw [hs] at e1
      simp only [R.bind_ok] at e1
      generalize turns _ xs [] m1 = t at e1
      cases t with
      | stuck => cases e1
      | exc c m' => cases e1
      | ok ys m2 =>
        simp only [R.bind_ok] at e1
        cases hm : mkD ys [] with
        | none => rw [hm] at e1; cases e1
        | some kvs => rw [hm] at e1; cases e1
theorem biD_ok {Wx : WX} {X : Cx} {c : Cxt} {e : Ex} {p : Expr} {x : Str} {np pos : Pos} (O : XOk k c X F W Wx) (hx : c.isB x "dict" = true) (pp : plainE p = true) (hl : isLst e = true) (he : PE X p (LE F Wx (isB e) (evE W e))) :
    PE X (.Call (.Name x np) [p] [] pos) (LF F Wx (evE W (.bi .dict [e]))) := by
  obtain ⟨rfl, hg, hm⟩ := isB_ok O hx
  rw [isLst_nb hl] at he
  have ha : PA X [p] _ := pa_cons he pa_nil (plain_star pp _ _)
  exact PE_imp (pe_callTy (call_dictP O.calm) hg hm boot_dict' ha (by decide) (by decide) (plain_star pp [] X.env) rfl) fun σ H Q h => dictP_core O.K h (isLst_ok hl) (isLst_nb hl)
theorem mth_ok {Wx : WX} {X : Cx} {c : Cxt} {n : Mn} {o e : Ex} {po p : Expr} {m : Str} {apos pos : Pos} (O : XOk k c X F W Wx) (h1 : mth1B n = true) (h2 : m = mthN n) (nbs : nobase po = true) (pp : plainE p = true) (hl : (apos.endLine == pos.line) = true) (ne : isB e = false) (ho : PE X po (LE F Wx (isB o) (evE W o))) (he : PE X p (LE F Wx false (evE W e))) :
    PE X (.Call (.Attribute po m apos) [p] [] pos) (LE F Wx false (evE W (.mth n o [e]))) := by
  subst h2
  cases n <;> first | (simp [mth1B] at h1; done) | skip
  · exact s_count O.K O.room ne nbs pp hl ho he
  · exact s_index O.K O.room ne nbs pp hl ho he
abbrev and4 {a b : Bool} (h : (a && b) = true) : a = true ∧ b = true := (Bool.and_eq_true _ _).mp h
theorem nb {a : Bool} (h : (!a) = true) : a = false := by simpa using h
def coParts (c : Cxt) (ck : Ck) (e : Ex) (tg : Tg) (src : Src) (is : List Ex) (x : Str) (pe ptg pit : Expr) (pis : List Expr) (na : Int) (scope : Scope) : Bool :=
  c.gd && coB ck && c.isB x (coN ck) && decide (na = 0) && !isB e && plainG pit && gnC c.N c.sc scope (ownOf c tg) && mS c src ptg pit && mTg (c.gblk scope) tg ptg && mI (c.gblk scope) is pis && mE (c.gblk scope) e pe
theorem mE_co {c : Cxt} {ck : Ck} {e : Ex} {tg : Tg} {src : Src} {is : List Ex} {fn : Expr} {ps : List Expr} {kws : List Keyword} {pos : Pos} (h : mE c (.co ck e tg src is) (.Call fn ps kws pos) = true) :
    ∃ x np pe ptg pit pis na scope gpos, fn = .Name x np ∧ ps = [.GeneratorExp pe [⟨ptg, pit, pis, na⟩] scope gpos] ∧ kws = [] ∧ coParts c ck e tg src is x pe ptg pit pis na scope = true := by
  rw [mE.eq_def] at h
  split at h
  all_goals first
    | exact absurd h Bool.false_ne_true
    | (rename_i h1 h2; cases h1; done)
    | (rename_i h1 h2; cases h1; cases h2; done)
    | (rename_i h1 h2; cases h1; cases h2; exact ⟨_, _, _, _, _, _, _, _, _, rfl, rfl, rfl, h⟩)
theorem mE_bsR {c : Cxt} {b : Bi} {es : List Ex} {p : Expr} (h : mE c (.bs b (.rng es)) p = true) :
    ∃ x y np np2 q ps pos pos2, p = .Call (.Name x np) [.Call (.Name y np2) (q :: ps) [] pos2] [] pos ∧ rgB b = true ∧ c.isB x (biN b) = true ∧ c.isB y "range" = true ∧ (q :: ps).all plainE = true ∧ mL c es (q :: ps) = true := by
  rw [mE.eq_def] at h
  split at h
  all_goals first
    | exact absurd h Bool.false_ne_true
    | (rename_i h1 h2; cases h1; done)
    | (rename_i h1 h2; cases h1; cases h2; done)
    | (rename_i h1 h2
       cases h1
       cases h2
       simp only [Bool.and_eq_true] at h
       obtain ⟨⟨⟨⟨q1, q2⟩, q3⟩, q4⟩, q5⟩ := h
       exact ⟨_, _, _, _, _, _, _, _, rfl, q1, q2, q3, q4, q5⟩)
theorem mE_bsS {c : Cxt} {b : Bi} {e : Ex} {p : Expr} (h : mE c (.bs b (.seq (.e e))) p = true) :
    ∃ x np q pos, p = .Call (.Name x np) [q] [] pos ∧ b = .sorted ∧ c.isB x "sorted" = true ∧ plainE q = true ∧ noTup e = true ∧ (!isB e) = true ∧ mE c e q = true := by
  rw [mE.eq_def] at h
  split at h
  all_goals first
    | exact absurd h Bool.false_ne_true
    | (rename_i h1 h2; cases h1; done)
    | (rename_i h1 h2; cases h1; cases h2; done)
    | (rename_i h1 h2
       cases h1
       cases h2
       simp only [Bool.and_eq_true] at h
       obtain ⟨⟨⟨⟨⟨q0, q1⟩, q2⟩, q3⟩, q4⟩, q5⟩ := h
       refine ⟨_, _, _, _, rfl, ?_, q1, q2, q3, q4, q5⟩
       cases b <;> first | rfl | (simp at q0; done))
theorem mE_mth {c : Cxt} {n : Mn} {o e : Ex} {p : Expr} (h : mE c (.mth n o [e]) p = true) :
    ∃ po m apos q pos, p = .Call (.Attribute po m apos) [q] [] pos ∧ mth1B n = true ∧ m = mthN n ∧ nobase po = true ∧ plainE q = true ∧ (apos.endLine == pos.line) = true ∧ (!isB e) = true ∧ mE c o po = true ∧ mE c e q = true := by
  rw [mE.eq_def] at h
  split at h
  all_goals first
    | exact absurd h Bool.false_ne_true
    | (rename_i h1 h2; cases h1; done)
    | (rename_i h1 h2; cases h1; cases h2; done)
    | (rename_i h1 h2
       cases h1
       cases h2
       simp only [Bool.and_eq_true, decide_eq_true_eq] at h
       obtain ⟨⟨⟨⟨⟨⟨⟨q1, q2⟩, q3⟩, q4⟩, q5⟩, q6⟩, q7⟩, q8⟩ := h
       exact ⟨_, _, _, _, _, rfl, q1, q2, q3, q4, q5, q6, q7, q8⟩)
theorem mE_eqs {c : Cxt} {e : Ex} {z : Str} {p : Expr} (h : mE c (.eqs e z) p = true) : ∃ q j cp pos, p = .Compare q [.Eq] [.Constant (.str z) j cp] pos ∧ (!isB e) = true ∧ mE c e q = true := by
  rw [mE.eq_def] at h
  split at h
  all_goals first
    | exact absurd h Bool.false_ne_true
    | (rename_i h1 h2; cases h1; done)
    | (rename_i h1 h2; cases h1; cases h2; done)
    | (rename_i h1 h2
       cases h1
       cases h2
       simp only [Bool.and_eq_true, decide_eq_true_eq] at h
       obtain ⟨⟨q1, q2⟩, q3⟩ := h
       subst q1
       exact ⟨_, _, _, _, rfl, q2, q3⟩)
mutual
theorem mE_ok : ∀ (e : Ex) (c : Cxt) (p : Expr), mE c e p = true → ∀ (X : Cx) (Wx : WX), XOk k c X F W Wx → EOk F W Wx X e p
  | .nm i, c, p, h, X, Wx, O => by
    cases p <;> first | (simp [mE] at h; done) | skip
    simp only [mE] at h
    obtain ⟨h1, h2, h3, h4⟩ := nm_ok O h
    exact eok_of (fun _ => rfl) (s_nm h1 h2 h3 h4)
  | .pk i, c, p, h, X, Wx, O => by
    cases p <;> first | (simp [mE] at h; done) | skip
    simp only [mE] at h
    obtain ⟨h1, h2, h3, h4⟩ := nm_ok O h
    exact eok_of (fun _ => rfl) (s_pk h1 h2 h3 h4)
  | .cst d, c, p, h, X, Wx, O => by
    cases p <;> first | (cases d <;> simp [mE] at h; done) | skip
    rename_i v kk pos
    cases d <;> cases v <;> first | (simp [mE] at h; done) | skip
    · exact eok_of (fun _ => rfl) s_cst_non
    · simp only [mE, beq_iff_eq] at h
      subst h
      exact eok_of (fun _ => rfl) s_cst_bl
    · simp only [mE, decide_eq_true_eq] at h
      subst h
      exact eok_of (fun _ => rfl) s_cst_int
    · simp only [mE, decide_eq_true_eq] at h
      subst h
      exact eok_of (fun _ => rfl) s_cst_str
  | .glb g, c, p, h, X, Wx, O => by
    cases p <;> first | (simp [mE] at h; done) | skip
    simp only [mE, Bool.and_eq_true] at h
    obtain ⟨h1, h2, h3⟩ := gl_ok O h.1
    obtain ⟨u, v, q1, q2, q3⟩ := isC_ok O h.2
    exact eok_of (fun _ => rfl) (s_glb h1 q1 q2 q3 h2)
  | .bin o a b, c, p, h, X, Wx, O => by
    cases p <;> first | (simp [mE] at h; done) | skip
    simp only [mE, Bool.and_eq_true] at h
    obtain ⟨⟨⟨⟨h1, h2⟩, h3⟩, h4⟩, h5⟩ := h
    have e := opB_ok h1
    subst e
    exact eok_of (fun _ => rfl) (s_bin O.K (nb h2) (nb h3) ((mE_ok a c _ h4 X Wx O).pe (nb h2)) ((mE_ok b c _ h5 X Wx O).pe (nb h3)))
  | .neg a, c, p, h, X, Wx, O => by
    cases p <;> first | (simp [mE] at h; done) | skip
    rename_i op pa pos
    cases op <;> first | (simp [mE] at h; done) | skip
    simp only [mE, Bool.and_eq_true] at h
    exact eok_of (fun _ => rfl) (s_neg (nb h.1) ((mE_ok a c _ h.2 X Wx O).pe (nb h.1)))
  | .not a, c, p, h, X, Wx, O => by
    cases p <;> first | (simp [mE] at h; done) | skip
    rename_i op pa pos
    cases op <;> first | (simp [mE] at h; done) | skip
    simp only [mE, Bool.and_eq_true] at h
    have ih := mE_ok a c _ h.2.2 X Wx O
    exact ⟨s_not (nb h.1) (ih.pe (nb h.1)), fun _ => t_not (ih.2 h.2.1)⟩
  | .and a b, c, p, h, X, Wx, O => by
    cases p <;> first | (simp [mE] at h; done) | skip
    rename_i op vals pos
    cases op <;> first | (cases vals <;> simp [mE] at h; done) | skip
    match vals, h with
    | [], h => simp [mE] at h
    | [_], h => simp [mE] at h
    | [pa, pb], h =>
      simp only [mE, Bool.and_eq_true] at h
      obtain ⟨⟨⟨⟨⟨h1, h2⟩, t1⟩, t2⟩, h3⟩, h4⟩ := h
      have ia := mE_ok a c _ h3 X Wx O
      have ib := mE_ok b c _ h4 X Wx O
      exact ⟨s_and (nb h1) (nb h2) (ia.pe (nb h1)) (pe_one' (ib.pe (nb h2))), fun _ => t_and (nb h2) (ia.2 t1) (t_one_and (ib.2 t2))⟩
    | pa :: pb :: pc :: r, h =>
      simp only [mE, Bool.and_eq_true] at h
      obtain ⟨⟨⟨⟨h1, h2⟩, t1⟩, h3⟩, h4⟩ := h
      have ia := mE_ok a c _ h3 X Wx O
      have ib := mE_ok b c _ h4 X Wx O
      exact ⟨s_and (nb h1) (nb h2) (ia.pe (nb h1)) (ib.pe (nb h2)), fun _ => t_and (nb h2) (ia.2 t1) (ib.2 rfl)⟩
  | .or a b, c, p, h, X, Wx, O => by
    cases p <;> first | (simp [mE] at h; done) | skip
    rename_i op vals pos
    cases op <;> first | (cases vals <;> simp [mE] at h; done) | skip
    match vals, h with
    | [], h => simp [mE] at h
    | [_], h => simp [mE] at h
    | [pa, pb], h =>
      simp only [mE, Bool.and_eq_true] at h
      obtain ⟨⟨⟨⟨⟨h1, h2⟩, t1⟩, t2⟩, h3⟩, h4⟩ := h
      have ia := mE_ok a c _ h3 X Wx O
      have ib := mE_ok b c _ h4 X Wx O
      exact ⟨s_or (nb h1) (nb h2) (ia.pe (nb h1)) (pe_one' (ib.pe (nb h2))), fun _ => t_or (nb h2) (ia.2 t1) (t_one_or (ib.2 t2))⟩
    | pa :: pb :: pc :: r, h =>
      simp only [mE, Bool.and_eq_true] at h
      obtain ⟨⟨⟨⟨h1, h2⟩, t1⟩, h3⟩, h4⟩ := h
      have ia := mE_ok a c _ h3 X Wx O
      have ib := mE_ok b c _ h4 X Wx O
      exact ⟨s_or (nb h1) (nb h2) (ia.pe (nb h1)) (ib.pe (nb h2)), fun _ => t_or (nb h2) (ia.2 t1) (ib.2 rfl)⟩
  | .cmp o a b, c, p, h, X, Wx, O => by
    cases p <;> first | (simp [mE] at h; done) | skip
    rename_i pa ops pbs pos
    match ops, pbs, h with
    | [op], [pb], h =>
      simp only [mE, Bool.and_eq_true] at h
      obtain ⟨⟨⟨h1, h2⟩, h3⟩, h4⟩ := h
      have e := opC_ok h1
      subst e
      have ia := mE_ok a c _ h3 X Wx O
      have ib := mE_ok b c _ h4 X Wx O
      exact ⟨s_cmp O.K O.room h2 ia.1 ib.1, fun _ => t_cmp O.K O.room h2 ia.1 ib.1⟩
    | [], _, h => simp [mE] at h
    | [_], [], h => simp [mE] at h
    | [_], _ :: _ :: _, h => simp [mE] at h
    | _ :: _ :: _, _, h => simp [mE] at h
  | .chn o o' a b d, c, p, h, X, Wx, O => by
    cases p <;> first | (simp [mE] at h; done) | skip
    rename_i pa ops pbs pos
    match ops, pbs, h with
    | [op, op'], [pb, pd], h =>
      simp only [mE, Bool.and_eq_true] at h
      obtain ⟨⟨⟨⟨⟨⟨⟨⟨h1, h2⟩, h3⟩, h4⟩, h5⟩, h6⟩, h7⟩, h8⟩, h9⟩ := h
      have e := opC_ok h1
      subst e
      have e := opC_ok h2
      subst e
      have ia := (mE_ok a c _ h7 X Wx O).pe (nb h3)
      have ib := (mE_ok b c _ h8 X Wx O).pe (nb h4)
      have id := mE_ok d c _ h9 X Wx O
      exact ⟨s_chn' O.K O.room (nb h3) (nb h4) h5 h6 ia ib id.1, fun _ => t_chn' O.K O.room (nb h3) (nb h4) h5 h6 ia ib id.1⟩
    | [], _, h => simp [mE] at h
    | [_], _, h => simp [mE] at h
    | [_, _], [], h => simp [mE] at h
    | [_, _], [_], h => simp [mE] at h
    | [_, _], _ :: _ :: _ :: _, h => simp [mE] at h
    | _ :: _ :: _ :: _, _, h => simp [mE] at h
  | .ite t a b, c, p, h, X, Wx, O => by
    cases p <;> first | (simp [mE] at h; done) | skip
    simp only [mE, Bool.and_eq_true] at h
    obtain ⟨⟨⟨⟨⟨h1, h2⟩, h3⟩, h4⟩, h5⟩, h6⟩ := h
    exact ⟨s_ite (nb h2) (nb h3) ((mE_ok t c _ h4 X Wx O).2 h1) ((mE_ok a c _ h5 X Wx O).pe (nb h2)) ((mE_ok b c _ h6 X Wx O).pe (nb h3)), fun z => by simp [tOkE] at z⟩
  | .tup es, c, p, h, X, Wx, O => by
    cases p <;> first | (simp [mE] at h; done) | skip
    simp only [mE] at h
    exact eok_of (fun _ => rfl) (s_tup (mL_ok es c _ h X Wx O))
  | .lst es, c, p, h, X, Wx, O => by
    cases p <;> first | (simp [mE] at h; done) | skip
    simp only [mE] at h
    exact eok_of (fun _ => rfl) (LF.le (f_lst (mL_ok es c _ h X Wx O)))
  | .lstC es, c, p, h, X, Wx, O => by
    cases p <;> first | (simp [mE] at h; done) | skip
    simp only [mE] at h
    exact eok_of (fun _ => rfl) (s_lstC (mL_ok es c _ h X Wx O))
  | .idx a b, c, p, h, X, Wx, O => by
    cases p <;> first | (simp [mE] at h; done) | skip
    simp only [mE, Bool.and_eq_true] at h
    obtain ⟨⟨⟨h1, h2⟩, h3⟩, h4⟩ := h
    exact eok_of (fun _ => rfl) (s_idx O.K (nb h2) h1 (mE_ok a c _ h3 X Wx O).1 ((mE_ok b c _ h4 X Wx O).pe (nb h2)))
  | .slc a lo hi, c, p, h, X, Wx, O => by
    cases p <;> first | (simp [mE] at h; done) | skip
    rename_i pa ps pos
    cases ps <;> first | (simp [mE] at h; done) | skip
    rename_i plo phi pst p2
    cases pst with
    | some _ => simp [mE] at h
    | none =>
      simp only [mE, Bool.and_eq_true] at h
      obtain ⟨⟨⟨h1, h2⟩, h3⟩, h4⟩ := h
      exact eok_of (fun _ => rfl) (s_slc O.K (nb h1) ((mE_ok a c _ h2 X Wx O).pe (nb h1)) (mO_ok lo c _ h3 X Wx O) (mO_ok hi c _ h4 X Wx O))
  | .call f es, c, p, h, X, Wx, O => by
    cases p <;> first | (simp [mE] at h; done) | skip
    rename_i fn ps kws pos
    cases fn <;> first | (simp [mE] at h; done) | skip
    rename_i x np
    cases kws with
    | cons _ _ => simp [mE] at h
    | nil =>
      simp only [mE, Bool.and_eq_true] at h
      obtain ⟨⟨⟨h1, h2⟩, h3⟩, h4⟩ := h
      obtain ⟨q1, q2, q3⟩ := gl_ok O h1
      obtain ⟨qs, hl, fa, fd, r1, r2, r3, r4⟩ := isF_ok O h2
      refine eok_of (fun _ => rfl) ?_
      cases es with
      | nil =>
        cases ps with
        | cons _ _ => simp [mL] at h4
        | nil =>
          have e : qs = [] := List.length_eq_zero_iff.mp hl
          subst e
          exact s_call0 r4 (O.room.mono (by omega)) q1 r1 r2 r3 O.tk q2
      | cons e es =>
        cases ps with
        | nil => simp [mL] at h4
        | cons p ps => exact s_call hl.symm r4 (O.room.mono (by omega)) q1 r1 r2 r3 O.tk (mL_ok (e :: es) c _ h4 X Wx O) q2 h3
  | .bi b es, c, p, h, X, Wx, O => by
    cases p <;> first | (cases es <;> simp [mE] at h; done) | skip
    rename_i fn ps kws pos
    cases fn <;> first | (rcases es with _ | ⟨_, _ | ⟨_, _ | _⟩⟩ <;> simp [mE] at h; done) | skip
    rename_i x np
    cases kws with
    | cons _ _ => rcases es with _ | ⟨_, _ | ⟨_, _ | _⟩⟩ <;> rcases ps with _ | ⟨_, _ | ⟨_, _ | _⟩⟩ <;> simp [mE] at h
    | nil =>
      match es, ps, h with
      | [e], [p], h =>
        simp only [mE, Bool.or_eq_true, Bool.and_eq_true] at h
        rcases h with ⟨⟨⟨h1, h2⟩, h3⟩, h4⟩ | ⟨⟨⟨⟨h0, h1⟩, h2⟩, h3⟩, h4⟩
        · exact eok_of (fun _ => rfl) (bi1_ok O h1 h2 h3 (mE_ok e c _ h4 X Wx O).1)
        · cases b <;> first | (simp at h0; done) | skip
          exact eok_of (fun _ => rfl) (LF.le (biD_ok O h1 h2 h3 (mE_ok e c _ h4 X Wx O).1))
      | [e, e2], [p, p2], h =>
        simp only [mE, Bool.and_eq_true] at h
        obtain ⟨⟨⟨⟨⟨⟨⟨h1, h2⟩, h3⟩, h4⟩, h5⟩, h6⟩, h7⟩, h8⟩ := h
        exact eok_of (fun _ => rfl) (bi2_ok O h1 h2 h3 h4 (s_cons (nb h5) h3 ((mE_ok e c _ h7 X Wx O).pe (nb h5)) (s_cons (nb h6) h4 ((mE_ok e2 c _ h8 X Wx O).pe (nb h6)) s_nil')))
      | [], _, h => simp [mE] at h
      | [_], [], h => simp [mE] at h
      | [_], _ :: _ :: _, h => simp [mE] at h
      | [_, _], [], h => simp [mE] at h
      | [_, _], [_], h => simp [mE] at h
      | [_, _], _ :: _ :: _ :: _, h => simp [mE] at h
      | _ :: _ :: _ :: _, _, h => simp [mE] at h
  | .co ck e tg src is, c, p, h, X, Wx, O => by
    cases p <;> first | (cases ck <;> simp [mE] at h; done) | skip
    · rename_i pe gens scope pos
      cases ck <;> first | (simp [mE] at h; done) | skip
      match gens, h with
      | [⟨ptg, pit, pis, na⟩], h =>
        simp only [mE, Bool.and_eq_true, decide_eq_true_eq] at h
        obtain ⟨⟨⟨⟨⟨⟨⟨h0, h1⟩, h2⟩, h3⟩, h4⟩, h5⟩, h6⟩, h7⟩ := h
        subst h0
        obtain ⟨u, g1, g2, g3⟩ := mTg_ok (F := F) (W := W) (k := k) tg (c.blk scope) ptg h5
        exact eok_of (fun _ => rfl) (LF.le (f_lc (own := ownOf c tg) O.calm O.nd (nb h1) h2 (by rw [O.N, O.sc]; exact blkOk_by h3) (ownOf_ix c tg) (mS_ok src c ptg pit h4 X Wx O) g1 (fun s H C cl fp => g2 _ _ (O.blk s H C cl fp)) (fun s H C cl fp => mI_ok is (c.blk scope) pis h6 _ (O.blk s H C cl fp)) fun s H C cl fp => (mE_ok e (c.blk scope) pe h7 _ _ (O.blk s H C cl fp)).pe (nb h1)))
      | [], h => simp [mE] at h
      | _ :: _ :: _, h => simp [mE] at h
    · rename_i fn ps kws pos
      obtain ⟨x, np, pe, ptg, pit, pis, na, scope, gpos, rfl, rfl, rfl, hh⟩ := mE_co h
      clear h
      unfold coParts at hh
      simp only [Bool.and_eq_true, decide_eq_true_eq] at hh
      obtain ⟨⟨⟨⟨⟨⟨⟨⟨⟨⟨h0, h1⟩, h2⟩, h3⟩, h4⟩, h5⟩, h6⟩, h7⟩, h8⟩, h9⟩, h10⟩ := hh
      subst h3
      obtain ⟨rfl, hg, hm⟩ := isB_ok O h2
      obtain ⟨r1, cc, P, r2, r3, r4, r5⟩ := O.gd h0
      obtain ⟨u, g1, g2, g3⟩ := mTg_ok (F := F) (W := W) (k := k) tg (c.gblk scope) ptg h8
      have ok : GnOk X.N X.env.scope scope (ownOf c tg) := by rw [O.N, O.sc]; exact gnOk_by h6
      have pr : GnParts X (k + 1) scope ptg pe pis u (LTs F W is) (LE F Wx0 false (evE W e)) := ⟨fun Ag s0 H0 C code fp pn hd hr => g2 _ _ (O.gblk Ag s0 H0 C code fp pn hr), fun Ag s0 H0 C code fp pn hd hr => mI_ok is (c.gblk scope) pis h9 _ (O.gblk Ag s0 H0 C code fp pn hr),
        fun Ag s0 H0 C code fp pn hd hr => (mE_ok e (c.gblk scope) pe h10 _ _ (O.gblk Ag s0 H0 C code fp pn hr)).pe (nb h4)⟩
      have hi := mS_ok src c ptg pit h7 X Wx O
      cases ck <;> first | (simp [coB] at h1; done) | skip
      · exact eok_of (fun _ => rfl) (pe_anyG r1 O.calm O.nd hg hm boot_any' r3 r2 r4 r5 (nb h4) h5 ok (ownOf_ix c tg) hi g1 pr)
      · exact eok_of (fun _ => rfl) (pe_allG r1 O.calm O.nd hg hm boot_all' r3 r2 r4 r5 (nb h4) h5 ok (ownOf_ix c tg) hi g1 pr)
      · exact eok_of (fun _ => rfl) (pe_sumG r1 O.calm O.nd hg hm boot_sum' r3 r2 r4 r5 (nb h4) h5 ok (ownOf_ix c tg) hi g1 pr)
      · exact eok_of (fun _ => rfl) (pe_tupleG r1 O.calm O.nd hg hm boot_tuple' r3 r2 r4 r5 (nb h4) h5 ok (ownOf_ix c tg) hi g1 pr)
      · exact eok_of (fun _ => rfl) (pe_sortedG O.K r1 O.calm O.nd hg hm boot_sorted' r3 r2 r4 r5 (nb h4) h5 ok (ownOf_ix c tg) hi g1 pr)
  | .fld e f, c, p, h, X, Wx, O => by
    cases p <;> first | (simp [mE] at h; done) | skip
    simp only [mE, Bool.and_eq_true, decide_eq_true_eq] at h
    obtain ⟨⟨⟨rfl, h2⟩, h3⟩, h4⟩ := h
    exact eok_of (fun _ => rfl) (s_fld (nb h3) h2 (fun c' => O.cl c' _) ((mE_ok e c _ h4 X Wx O).pe (nb h3)))
  | .met f o es, c, p, h, X, Wx, O => by
    cases p <;> first | (simp [mE] at h; done) | skip
    rename_i fn ps kws pos
    cases fn <;> first | (simp [mE] at h; done) | skip
    cases kws with
    | cons _ _ => simp [mE] at h
    | nil =>
      simp only [mE, Bool.and_eq_true, decide_eq_true_eq] at h
      obtain ⟨⟨⟨⟨⟨⟨⟨⟨h1, h2⟩, h3⟩, h4⟩, h5⟩, h6⟩, h7⟩, h8⟩, h9⟩ := h
      obtain ⟨qs, hl, fa, fd, r1, r2, r3, r4, r5⟩ := isM_ok O h1
      exact eok_of (fun _ => rfl) (s_met (nb h7) hl.symm r1 (by rw [O.K] at r2 ⊢; exact r2) r3 r5 (O.room.mono (by omega)) r4 O.tk ((mE_ok o c _ h8 X Wx O).pe (nb h7)) (mL_ok es c _ h9 X Wx O) h6 h2 h3 h4 h5)
  | .new cc es, c, p, h, X, Wx, O => by
    cases p <;> first | (simp [mE] at h; done) | skip
    rename_i fn ps kws pos
    cases fn <;> first | (simp [mE] at h; done) | skip
    cases kws with
    | cons _ _ => simp [mE] at h
    | nil =>
      simp only [mE, Bool.and_eq_true, decide_eq_true_eq] at h
      obtain ⟨⟨⟨⟨h1, h2⟩, h3⟩, h4⟩, h5⟩ := h
      obtain ⟨q1, q2, q3⟩ := gl_ok O h1
      obtain ⟨qs, hl, fa, fd, r1, r2, r3, r4⟩ := isK_ok O h2
      exact eok_of (fun _ => rfl) (s_new hl.symm r2 r4 O.room q1 r1 r3 O.tk (mL_ok es c _ h5 X Wx O) h4 q2 h3)
  | .vw _, c, p, h, X, Wx, O => by simp [mE] at h
  | .box _, c, p, h, X, Wx, O => by simp [mE] at h
  | .dct _, c, p, h, X, Wx, O => by simp [mE] at h
  | .dco k' v tg src is, c, p, h, X, Wx, O => by
    cases p <;> first | (simp [mE] at h; done) | skip
    rename_i kp vp gens scope pos
    match gens, h with
    | [⟨ptg, pit, pis, na⟩], h =>
      simp only [mE, Bool.and_eq_true, decide_eq_true_eq] at h
      obtain ⟨⟨⟨⟨⟨⟨⟨⟨⟨h0, h1⟩, h1b⟩, h2⟩, h3⟩, h4⟩, h5⟩, h6⟩, h7⟩, h8⟩ := h
      subst h0
      obtain ⟨u, g1, g2, g3⟩ := mTg_ok (F := F) (W := W) (k := k) tg (c.blk scope) ptg h5
      exact eok_of (fun _ => rfl) (LF.le (f_dc (own := ownOf c tg) O.calm O.nd (nb h1) (nb h1b) h2 (by rw [O.N, O.sc]; exact blkOk_by h3) (ownOf_ix c tg) (mS_ok src c ptg pit h4 X Wx O) g1 (fun s H C cl fp => g2 _ _ (O.blk s H C cl fp)) (fun s H C cl fp => mI_ok is (c.blk scope) pis h6 _ (O.blk s H C cl fp)) (fun s H C cl fp => (mE_ok k' (c.blk scope) kp h7 _ _ (O.blk s H C cl fp)).pe (nb h1)) fun s H C cl fp => (mE_ok v (c.blk scope) vp h8 _ _ (O.blk s H C cl fp)).pe (nb h1b)))
    | [], h => simp [mE] at h
    | _ :: _ :: _, h => simp [mE] at h
  | .bs b (.rng es), c, p, h, X, Wx, O => by
    obtain ⟨x, y, np, np2, q, ps, pos, pos2, rfl, h1, h2, h3, h4, h5⟩ := mE_bsR h
    obtain ⟨e1, hg, hm⟩ := isB_ok O h2
    obtain ⟨rfl, hg2, hm2⟩ := isB_ok O h3
    subst e1
    have ha := mL_ok es c _ h5 X Wx O
    cases b <;> first | (simp [rgB] at h1; done) | skip
    · exact eok_of (fun _ => rfl) (s_tupRg O.calm hg hm hg2 hm2 h4 ha)
    · exact eok_of (fun _ => rfl) (s_listRg O.calm hg hm hg2 hm2 h4 ha)
  | .bs b (.seq (.e e)), c, p, h, X, Wx, O => by
    obtain ⟨x, np, q, pos, rfl, rfl, h1, h2, h3, h4, h5⟩ := mE_bsS h
    obtain ⟨rfl, hg, hm⟩ := isB_ok O h1
    exact eok_of (fun _ => rfl) (PE_imp (pe_callB (CallR.or (cr_sortedV O.room) (cr_sortedK O.room O.calm)) hg hm boot_sorted' (pa_cons ((mE_ok e c _ h5 X Wx O).pe (nb h4)) pa_nil (plain_star h2 _ _)) (by decide) (by decide) (plain_star h2 [] X.env) rfl) fun σ H Q h => sortE_core O.K h (noTup_ok h3))
  | .bs _ (.seq (.sl _)), c, p, h, X, Wx, O => by simp [mE] at h
  | .bs _ (.seq (.vw _)), c, p, h, X, Wx, O => by simp [mE] at h
  | .bs _ (.enum _), c, p, h, X, Wx, O => by simp [mE] at h
  | .bs _ (.zip _ _), c, p, h, X, Wx, O => by simp [mE] at h
  | .bs _ (.items _), c, p, h, X, Wx, O => by simp [mE] at h
  | .bs _ (.vals _), c, p, h, X, Wx, O => by simp [mE] at h
  | .mth n o [e], c, p, h, X, Wx, O => by
    obtain ⟨po, m, apos, q, pos, rfl, h1, h2, h3, h4, h5, h6, h7, h8⟩ := mE_mth h
    exact eok_of (fun _ => rfl) (mth_ok O h1 h2 h3 h4 h5 (nb h6) (mE_ok o c _ h7 X Wx O).1 ((mE_ok e c _ h8 X Wx O).pe (nb h6)))
  | .mth _ _ [], c, p, h, X, Wx, O => by simp [mE] at h
  | .mth _ _ (_ :: _ :: _), c, p, h, X, Wx, O => by simp [mE] at h
  | .eqs e z, c, p, h, X, Wx, O => by
    obtain ⟨q, j, cp, pos, rfl, h1, h2⟩ := mE_eqs h
    have ih := (mE_ok e c _ h2 X Wx O).pe (nb h1)
    exact ⟨s_eqs O.K O.room O.ob (nb h1) ih, fun _ => t_eqs O.K O.room O.ob (nb h1) ih⟩
  | .pop _ _, c, p, h, X, Wx, O => by simp [mE] at h
  | .lk _ _, c, p, h, X, Wx, O => by simp [mE] at h
  | .fstr _, c, p, h, X, Wx, O => by simp [mE] at h
  | .rev _, c, p, h, X, Wx, O => by simp [mE] at h
  | .told f0 cc body, c, p, h, X, Wx, O => by
    cases p <;> first | (simp [mE] at h; done) | skip
    rename_i fn ps kws pos
    cases fn <;> first | (simp [mE] at h; done) | skip
    match ps, kws, h with
    | [.Lambda params pb scope lpos], [], h =>
      simp only [mE, Bool.and_eq_true] at h
      obtain ⟨⟨⟨⟨⟨⟨h1, h2⟩, h3⟩, h4⟩, h5⟩, h6⟩, h7⟩ := h
      obtain ⟨q1, q2, q3⟩ := gl_ok O h2
      obtain ⟨ret, T, e1, e2⟩ := isTo_ok O h3
      obtain ⟨hr, P, la, lt⟩ := O.ld h1
      have e3 := noArgs_ok h5
      subst e3
      exact eok_of (fun _ => rfl) (pe_toldL (l := ⟨_, pb, scope, body⟩) q1 q2 T la lt hr ⟨by rw [O.sc]; exact LamX.lamS_by h4, fun q cl pm cv ctv => rfl⟩ rfl (nb h6) (fun A outer s H E f c' hr => (mE_ok body (c.lblk scope) pb h7 _ _ (O.lblk A outer s H E f c' hr)).pe (nb h6)) e2 e1)
    | [], _, h => simp [mE] at h
    | [_], _ :: _, h => simp [mE] at h
    | _ :: _ :: _, _, h => simp [mE] at h
theorem mL_ok : ∀ (es : List Ex) (c : Cxt) (ps : List Expr), mL c es ps = true → ∀ (X : Cx) (Wx : WX), XOk k c X F W Wx → PA X ps (LA F Wx (evLs W es))
  | [], c, ps, h, X, Wx, O => by
    cases ps with
    | nil => exact s_nil'
    | cons _ _ => simp [mL] at h
  | e :: es, c, ps, h, X, Wx, O => by
    cases ps with
    | nil => simp [mL] at h
    | cons p ps =>
      simp only [mL, Bool.and_eq_true] at h
      obtain ⟨⟨⟨h1, h2⟩, h3⟩, h4⟩ := h
      exact s_cons (nb h1) h2 ((mE_ok e c p h3 X Wx O).pe (nb h1)) (mL_ok es c ps h4 X Wx O)
theorem mO_ok : ∀ (o : Option Ex) (c : Cxt) (p : Option Expr), mO c o p = true → ∀ (X : Cx) (Wx : WX), XOk k c X F W Wx → PO X p (LO F Wx (evOs W o))
  | none, c, p, h, X, Wx, O => by
    cases p with
    | none => exact s_onone
    | some _ => simp [mO] at h
  | some e, c, p, h, X, Wx, O => by
    cases p with
    | none => simp [mO] at h
    | some p =>
      simp only [mO, Bool.and_eq_true] at h
      exact s_osome (nb h.1) ((mE_ok e c p h.2 X Wx O).pe (nb h.1))
theorem mI_ok : ∀ (es : List Ex) (c : Cxt) (ps : List Expr), mI c es ps = true → ∀ (X : Cx), XOk k c X F W Wx0 → PTs X ps (LTs F W es)
  | [], c, ps, h, X, O => by
    cases ps with
    | nil => exact pts_nil'
    | cons _ _ => simp [mI] at h
  | e :: es, c, ps, h, X, O => by
    match es, ps, h with
    | [], [p], h =>
      simp only [mI, Bool.and_eq_true] at h
      exact pts_one' ((mE_ok e c p h.2 X _ O).2 h.1)
    | [], [], h => simp [mI] at h
    | [], _ :: _ :: _, h => simp [mI] at h
    | _ :: _, _, h => simp [mI] at h
theorem mS_ok : ∀ (s : Src) (c : Cxt) (tg p : Expr), mS c s tg p = true → ∀ (X : Cx) (Wx : WX), XOk k c X F W Wx → PI X tg p (LI F Wx W s)
  | .seq b, c, tg, p, h, X, Wx, O => by
    simp only [mS] at h
    exact pi_seqS O.K (mB_ok b c p h X Wx O)
  | .rng es, c, tg, p, h, X, Wx, O => by
    cases p <;> first | (rcases es with _ | ⟨_, _ | ⟨_, _ | _⟩⟩ <;> simp [mS] at h; done) | skip
    rename_i fn ps kws pos
    cases fn <;> first | (rcases es with _ | ⟨_, _ | ⟨_, _ | _⟩⟩ <;> simp [mS] at h; done) | skip
    rename_i x np
    cases kws with
    | cons _ _ => rcases es with _ | ⟨_, _ | ⟨_, _ | _⟩⟩ <;> rcases ps with _ | ⟨_, _ | ⟨_, _ | _⟩⟩ <;> simp [mS] at h
    | nil =>
      match es, ps, h with
      | [e], [p], h =>
        simp only [mS, Bool.and_eq_true] at h
        obtain ⟨⟨⟨h1, h2⟩, h3⟩, h4⟩ := h
        obtain ⟨rfl, hg, hm⟩ := isB_ok O h1
        exact pi_rng1S hg hm h3 (s_cons (nb h2) h3 ((mE_ok e c _ h4 X Wx O).pe (nb h2)) s_nil')
      | [e, e2], [p, p2], h =>
        simp only [mS, Bool.and_eq_true] at h
        obtain ⟨⟨⟨⟨⟨⟨h1, h2⟩, h3⟩, h4⟩, h5⟩, h6⟩, h7⟩ := h
        obtain ⟨rfl, hg, hm⟩ := isB_ok O h1
        exact pi_rng2S hg hm h4 h5 (s_cons (nb h2) h4 ((mE_ok e c _ h6 X Wx O).pe (nb h2)) (s_cons (nb h3) h5 ((mE_ok e2 c _ h7 X Wx O).pe (nb h3)) s_nil'))
      | [], _, h => simp [mS] at h
      | [_], [], h => simp [mS] at h
      | [_], _ :: _ :: _, h => simp [mS] at h
      | [_, _], [], h => simp [mS] at h
      | [_, _], [_], h => simp [mS] at h
      | [_, _], _ :: _ :: _ :: _, h => simp [mS] at h
      | _ :: _ :: _ :: _, _, h => simp [mS] at h
  | .enum b, c, tg, p, h, X, Wx, O => by
    cases p <;> first | (simp [mS] at h; done) | skip
    rename_i fn ps kws pos
    cases fn <;> first | (simp [mS] at h; done) | skip
    match ps, kws, h with
    | [p], [], h =>
      simp only [mS, Bool.and_eq_true] at h
      obtain ⟨⟨⟨h1, h2⟩, h3⟩, h4⟩ := h
      obtain ⟨es, kk, tp, rfl⟩ := isTup_ok h1
      obtain ⟨rfl, hg, hm⟩ := isB_ok O h2
      exact pi_enumS O.K hg hm h3 (mB_ok b c p h4 X Wx O)
    | [], _, h => simp [mS] at h
    | [_], _ :: _, h => simp [mS] at h
    | _ :: _ :: _, _, h => simp [mS] at h
  | .zip e e2, c, tg, p, h, X, Wx, O => by
    cases p <;> first | (simp [mS] at h; done) | skip
    rename_i fn ps kws pos
    cases fn <;> first | (simp [mS] at h; done) | skip
    match ps, kws, h with
    | [p, p2], [], h =>
      simp only [mS, Bool.and_eq_true] at h
      obtain ⟨⟨⟨⟨⟨⟨⟨h1, h2⟩, h3⟩, h4⟩, h5⟩, h6⟩, h7⟩, h8⟩ := h
      obtain ⟨es, kk, tp, rfl⟩ := isTup_ok h1
      obtain ⟨rfl, hg, hm⟩ := isB_ok O h2
      exact pi_zipS O.K hg hm (nb h3) (nb h4) h5 h6 ((mE_ok e c _ h7 X Wx O).pe (nb h3)) ((mE_ok e2 c _ h8 X Wx O).pe (nb h4))
    | [], _, h => simp [mS] at h
    | [_], _, h => simp [mS] at h
    | [_, _], _ :: _, h => simp [mS] at h
    | _ :: _ :: _ :: _, _, h => simp [mS] at h
  | .items _, c, tg, p, h, X, Wx, O => by simp [mS] at h
  | .vals _, c, tg, p, h, X, Wx, O => by simp [mS] at h
theorem mB_ok : ∀ (b : Bs) (c : Cxt) (p : Expr), mB c b p = true → ∀ (X : Cx) (Wx : WX), XOk k c X F W Wx → PE X p (LB F Wx W b)
  | .e e, c, p, h, X, Wx, O => by
    simp only [mB, Bool.and_eq_true] at h
    exact b_e (nb h.1) ((mE_ok e c p h.2 X Wx O).pe (nb h.1))
  | .sl i, c, p, h, X, Wx, O => by
    cases p <;> first | (simp [mB] at h; done) | skip
    simp only [mB] at h
    obtain ⟨h1, h2, h3, h4⟩ := nm_ok O h
    exact b_sl h1 h2 h3 h4
  | .vw _, c, p, h, X, Wx, O => by simp [mB] at h
end
end
end Ev
end
section
set_option linter.all false
set_option autoImplicit false
set_option maxRecDepth 100000
set_option maxHeartbeats 1000000
/-! Ev, part W: the look at statements. -/
namespace Ev
open PySem PySem.Spec PyProof.Rows L2

/-- does the store swap with the comprehension? -/
def swLc (sc scope : Scope) (x : Str) (l1 l2 : Nat) : Bool := sc.names.lookup x == some .local && l1 == l2 && !(scope.names.any fun (n, k) => n == x && (k == .local || k == .cell))
def namesOf (sc : Scope) (line : Nat) (ts : List Expr) : List Str := ts.filterMap fun
  | .Name id pos => if sc.names.lookup id == some .local && pos.line == line then some id else none
  | _ => none
def lineOf (ts : List Expr) : Nat := (ts.head?.map (·.pos.line)).getD 0
/-- a tuple's items are not stored in the other order -/
def swNone (sc : Scope) : Expr → Expr → Bool
  | .Tuple ts _ _, .Tuple vs _ _ => !(ts.length == 2 || ts.length == 3) || vs.length != ts.length || (!(vs.any fun | .Starred .. => true | _ => false) && ((namesOf sc (lineOf ts) ts).length != ts.length || (namesOf sc (lineOf ts) ts).eraseDups.length != (namesOf sc (lineOf ts) ts).length || vs.all (foldedForSure 8)))
  | .Tuple .., _ => true
  | _, _ => false
def nmL (c : Cxt) (i : Nat) (x : Str) : Bool := decide (c.N[i]? = some x) && decide (c.sc.names.lookup x = some .local)
def parB (c : Cxt) : List Nat → List Expr → List Expr → Bool
  | [i, j], [.Name x px, .Name y py], [a, b] => nmL c i x && nmL c j y && decide (i ≠ j) && decide (c.sc.kind = .function) && px.line == py.line && decide (x ≠ y) && plainE a && plainE b && !([a, b].all (foldedForSure 8)) && !([a, b].all (constantsAlone 8))
  | [i, j, l], [.Name x px, .Name y py, .Name z pz], [a, b, d] => nmL c i x && nmL c j y && nmL c l z && decide (i ≠ j) && decide (i ≠ l) && decide (j ≠ l) && decide (c.sc.kind = .function) && px.line == py.line && px.line == pz.line && decide (x ≠ y) && decide (x ≠ z) && decide (y ≠ z) && plainE a && plainE b && plainE d && !([a, b, d].all (foldedForSure 8)) && !([a, b, d].all (constantsAlone 8))
  | _, _, _ => false
/-- what the items of a parallel store are -/
def parF (c : Cxt) : List (Nat × Bool) → List Ex → List Expr → Bool
  | [], [], [] => true
  | (_, b) :: is, e :: es, p :: ps => !isB e && (if b then isFresh e && swapOk p else true) && mE c e p && parF c is es ps
  | _, _, _ => false
def asgB (c : Cxt) (i : Nat) (x : Str) : Bool := decide (c.N[i]? = some x) && locB c.sc x && (c.fn x || decide (c.sc.names.lookup x = some .local))
/-- how a value is stored under a name -/
def stB (c : Cxt) (x : Str) (px : Pos) (p : Expr) : Bool := decide (c.sc.kind = .function) && match p with
  | .ListComp .. => true
  | p => swapOk p
def Cxt.isE (c : Cxt) (x : Str) (g : Nat) : Bool := c.gl x && match c.G.lookup x with
  | some (.exc h) => h == g
  | _ => false
def isAS : BOp → Bool
  | .add => true | .sub => true
  | _ => false
def isNm (c : Cxt) (i : Nat) : Expr → Bool
  | .Name x _ => c.nm i x
  | _ => false
theorem isNm_ok {c : Cxt} {i : Nat} {p : Expr} (h : isNm c i p = true) : ∃ x pos, p = .Name x pos ∧ c.nm i x = true := by
  unfold isNm at h
  split at h
  · exact ⟨_, _, rfl, h⟩
  · cases h
/-- X('text') -/
def isRai (c : Cxt) (g : Nat) (e : Expr) : Bool := match e with
  | .Call (.Name x _) [.Constant (.str _) _ _] [] _ => c.isE x g
  | _ => false
theorem isRai_ok {c : Cxt} {g : Nat} {e : Expr} (h : isRai c g e = true) : ∃ x p s k p2 p3, e = .Call (.Name x p) [.Constant (.str s) k p2] [] p3 ∧ c.isE x g = true := by
  unfold isRai at h
  split at h
  · exact ⟨_, _, _, _, _, _, rfl, h⟩
  · cases h
/-- lambdas without parameters -/
def lmsB (c : Cxt) : List Ex → List Expr → Bool
  | [], [] => true
  | e :: es, .Lambda params body scope _ :: ps => !isB e && LamX.lamSB c.sc scope && noArgs params && mE (c.lblk scope) e body && lmsB c es ps
  | _, _ => false
def Cxt.isT (c : Cxt) (x : Str) (g : Nat) (ret : Str) : Bool := match c.G.lookup x with
  | some (.told h r) => h == g && decide (r = ret)
  | _ => false
/-- bad = [lambda ..]; the comparison behind it -/
def badsB (c : Cxt) (i j : Nat) (es : List Ex) (cc : Nat) : Stmt → Expr → Bool
  | .Assign [.Name y _] (.List lams _) _, .Compare (.ListComp _ [⟨.Name fn _, .Name y2 _, [.Compare (.Call (.Name x _) [.Name fn2 _] [] _) [.NotEq] [.Constant (.str ret) _ _] _], na⟩] scope _) [.NotEq] [.List [] _] _ =>
    c.ld && decide (y2 = y) && decide (fn2 = fn) && decide (na = 0) && asgB c i y && c.nm i y && decide (c.N[j]? = some fn) && blkC c.N c.sc scope [(fn, j)] && decide ((relS scope c.sc).names.lookup fn = some .local) && !(fn == ("__debug__" : Str)) && !(fn == ("__classdict__" : Str)) &&
      decide ((relS scope c.sc).names.lookup x = some .globalImplicit) && !(x == ("__debug__" : Str)) && c.isT x cc ret && decide (semCmp .ne (.str ret) (.str ret) = some false) && decide (es.length ≤ 1000) && lmsB c es lams
  | _, _ => false
def ifParts : Stmt → Option (Expr × Expr × List Stmt)
  | .If (.BoolOp .Or (C :: r0 :: rest) op) A [] _ => some (C, .BoolOp .Or (r0 :: rest) op, A)
  | _ => none
theorem ifParts_ok {p : Stmt} {C R : Expr} {A : List Stmt} (h : ifParts p = some (C, R, A)) : ∃ r0 rest op ip, p = .If (.BoolOp .Or (C :: r0 :: rest) op) A [] ip ∧ R = .BoolOp .Or (r0 :: rest) op := by
  unfold ifParts at h
  split at h
  · cases h
    exact ⟨_, _, _, _, rfl, rfl⟩
  · cases h
def orB (c : Cxt) (t : Ex) : Expr → Bool
  | .BoolOp .Or [r0] _ => tOkE r0 && mE c t r0
  | R => tOkE R && mE c t R
mutual
def mSt (c : Cxt) : St → Stmt → Bool
  | .pass, .Pass _ => true
  | .pass, .Expr (.Constant (.str _) _ _) _ => true
  | .asg i e, .Assign [.Name x px] p _ => asgB c i x && stB c x px p && !isB e && mE c e p
  | .asgO i e, .Assign [.Name x px] p _ => asgB c i x && stB c x px p && isFresh e && mE c e p
  | .unp t e, .Assign [tg] p _ => swapOk p && decide (c.sc.kind = .function) && swNone c.sc tg p && !isB e && mTg c t tg && mE c e p
  | .par is es, .Assign [.Tuple ts _ _] (.Tuple vs _ _) _ => parB c (is.map (·.1)) ts vs && parF c is es vs
  | .seti (.sl i) k e, .Assign [.Subscript o pk _] p _ => isNm c i o && swapOk p && plainE pk && !isB e && !isB k && mE c e p && mE c k pk
  | .seti (.cl o) k e, .Assign [.Subscript po pk _] p _ => swapOk p && plainE pk && !isB e && !isB o && !isB k && mE c e p && mE c o po && mE c k pk
  | .augn i o e, .AugAssign (.Name x _) op p _ => isAS o && opB o op && asgB c i x && !isB e && mE c e p
  | .augi (.sl i) k o e, .AugAssign (.Subscript o2 pk _) op p _ => isAS o && opB o op && isNm c i o2 && plainE pk && !isB e && !isB k && mE c e p && mE c k pk
  | .setf o f e, .Assign [.Attribute po f' _] p _ => decide (f = f') && swapOk p && !isB e && !isB o && mE c e p && mE c o po
  | .app (.sl i) e, .Expr (.Call (.Attribute o m apos) [p] [] cpos) _ => decide (m = "append") && isNm c i o && plainE p && (apos.endLine == cpos.line) && !isB e && mE c e p
  | .exp e, .Expr p _ => swapOk p && !isB e && mE c e p
  | .ifs t a b, .If pt pa pb _ => tOkE pt && mE c t pt && mSts c a pa && mSts c b pb
  | .for tg src body, .For ptg pit pb [] _ => plainE pit && mS c src ptg pit && mTg c tg ptg && mSts c body pb
  | .whl t body, .While pt pb [] _ => tOkE pt && mE c t pt && mSts c body pb
  | .ret e, .Return (some p) _ => !isB e && mE c e p
  | .retn, .Return none _ => true
  | .rai g, .Raise (some e) none _ => isRai c g e
  | _, _ => false
def mSts (c : Cxt) : List St → List Stmt → Bool
  | [], [] => true
  | .frz _ :: r, ps => mSts c r ps
  | .bads i j es cc :: .ifs t a [] :: r, p1 :: p2 :: ps => (match ifParts p2 with
    | some (C, R, A) => badsB c i j es cc p1 C && orB c t R && mSts c a A && mSts c r ps
    | none => false)
  | s :: r, p :: ps => mSt c s p && mSts c r ps
  | _, _ => false
end
structure XSk (k : Nat) (c : Cxt) (X : Cx) (F : Fx) (W : Wd) (Wx : WX) : Prop extends XOk k c X F W Wx where
  po : PassesOwn (model X.prog X.w) X.A X.env X.xe
section
variable {F : Fx} {W : Wd} {k : Nat} {X : Cx} {Wx : WX} {c : Cxt}
theorem asgB_ok {i : Nat} {x : Str} (O : XOk k c X F W Wx) (h : asgB c i x = true) : X.N[i]? = some x ∧ Loc X.env.scope x ∧ (X.fn x = true ∨ X.env.scope.names.lookup x = some .local) := by
  unfold asgB at h
  simp only [Bool.and_eq_true, decide_eq_true_eq, Bool.or_eq_true] at h
  obtain ⟨⟨h1, h2⟩, h3⟩ := h
  refine ⟨by rw [O.N]; exact h1, locB_ok O.sc h2, ?_⟩
  rcases h3 with h3 | h3
  · exact .inl (O.fn x h3)
  · exact .inr (by rw [O.sc]; exact h3)
theorem blockKind_fn (hk : X.env.scope.kind = .function) : X.env.blockKind = .function := by
  unfold Env.blockKind
  rw [hk]
  exact if_neg (by decide)
theorem sw_false {elt : Expr} {gs : List Comprehension} {scope : Scope} {pos py : Pos} {y : Str} {l : Nat} (hk : X.env.scope.kind = .function) (h : swLc X.env.scope scope y py.line pos.line = false) :
    swapsWith (.ListComp elt gs scope pos) (some (.Name y py)) l X.env = pure false := by
  unfold swapsWith
  simp only [blockKind_fn hk, Expr.pos]
  show pure _ = pure false
  exact congrArg pure h
theorem sw_true' {elt : Expr} {gs : List Comprehension} {scope : Scope} {pos py : Pos} {y : Str} {l : Nat} (hk : X.env.scope.kind = .function) (h : swLc X.env.scope scope y py.line pos.line = true) :
    X.env.scope.names.lookup y = some .local ∧ swapsWith (.ListComp elt gs scope pos) (some (.Name y py)) l X.env = pure true := by
  unfold swLc at h
  simp only [Bool.and_eq_true, Bool.not_eq_true', beq_iff_eq] at h
  obtain ⟨⟨h1, h2⟩, h3⟩ := h
  exact ⟨h1, sw_true hk h1 (by simp [h2]) h3⟩
theorem LE_LF {f : Wr → Ga → M → R D} {σ : L2.St} {H : Hp} {Q : VK} (hl : ∀ wr g m d m', f wr g m = .ok d m' → ∃ xs, d = .list xs) (hq : LE F Wx false f σ H Q) : LF F Wx f σ H Q := by
  obtain ⟨ω, g, m, wr, S, hq⟩ := hq
  refine ⟨ω, g, m, wr, S, ?_⟩
  cases hf : f wr g m with
  | stuck => rw [hf] at hq; exact hq
  | exc c m' => rw [hf] at hq; exact hq
  | ok d m' =>
    obtain ⟨xs, rfl⟩ := hl _ _ _ _ _ hf
    rw [hf] at hq
    exact fun ω' a H' p h0 hc hB hl => hq (ω'.out a) _ _ (p.freeze h0 hl) (.inl (Rep.freeze hc))
theorem set_core {i : Nat} {e : Ex} {σ : L2.St} {H : Hp} {Dn : Ends} (ne : isB e = false) (h : LS F Wx (exS W (.asg i e)) Dn σ H) : LE F Wx false (evE W e) σ H fun v H1 => Dn.nx (σ.set i (some v)) H1 := by
  obtain ⟨ω, g, m, wr, S, h⟩ := h
  simp only [exec, ne, Bool.false_eq_true, if_false] at h
  refine LG.of S (Fin.mono (fun v H1 hx => ?_) (FinS.of_bind (rel := VRel F false) S h))
  obtain ⟨ω1, d, m1, e1, p1, r1, S1, h1⟩ := hx
  unfold asgn at h1
  split at h1
  · exact h1.nx (S1.set r1.pure) vg_set_f
  · exact h1.elim
/-- name = [.. for ..], wherever it stands -/
theorem lc_set {t : TS} {i : Nat} {y : Str} {py spos : Pos} {e : Ex} {tg : Tg} {src : Src} {is : List Ex} {pe : Expr} {gens : List Comprehension} {scope : Scope} {pos : Pos} (O : XOk k c X F W Wx) (hk : c.sc.kind = .function) (hn : asgB c i y = true) (h : mE c (.co .lc e tg src is) (.ListComp pe gens scope pos) = true)
    (ht : ∀ Dn σ H, t Dn σ H → LF F Wx (evE W (.co .lc e tg src is)) σ H fun v H1 => Dn.nx (σ.set i (some v)) H1) :
    PS X (.Assign [.Name y py] (.ListComp pe gens scope pos) spos) t := by
  have hk' : X.env.scope.kind = .function := by rw [O.sc]; exact hk
  obtain ⟨n1, n2, n3⟩ := asgB_ok O hn
  match gens, h with
  | [⟨ptg, pit, pis, na⟩], h =>
    cases hs : swLc X.env.scope scope y py.line pos.line with
    | false =>
      simp only [mE, Bool.and_eq_true, decide_eq_true_eq] at h
      obtain ⟨⟨⟨⟨⟨⟨⟨h0, h1⟩, h2⟩, h3⟩, h4⟩, h5⟩, h6⟩, h7⟩ := h
      subst h0
      obtain ⟨u, g1, g2, g3⟩ := mTg_ok (F := F) (W := W) (k := k) tg (c.blk scope) ptg h5
      have fl := f_lc (Wx := Wx) (pos := pos) (own := ownOf c tg) O.calm O.nd (nb h1) h2 (by rw [O.N, O.sc]; exact blkOk_by h3) (ownOf_ix c tg) (mS_ok src c ptg pit h4 X Wx O) g1 (fun s H C cl fp => g2 _ _ (O.blk s H C cl fp)) (fun s H C cl fp => mI_ok is (c.blk scope) pis h6 _ (O.blk s H C cl fp)) fun s H C cl fp => (mE_ok e (c.blk scope) pe h7 _ _ (O.blk s H C cl fp)).pe (nb h1)
      exact PS_imp (ps_set O.nd n1 n2 fl (sw_false hk' hs) n3) fun Dn σ H h => ht Dn σ H h
    | true =>
      obtain ⟨q1, q2⟩ := sw_true' (elt := pe) (gs := [⟨ptg, pit, pis, na⟩]) (l := spos.line) hk' hs
      simp only [mE, Bool.and_eq_true, decide_eq_true_eq] at h
      obtain ⟨⟨⟨⟨⟨⟨⟨h0, h1⟩, h2⟩, h3⟩, h4⟩, h5⟩, h6⟩, h7⟩ := h
      subst h0
      obtain ⟨u, g1, g2, g3⟩ := mTg_ok (F := F) (W := W) (k := k) tg (c.blk scope) ptg h5
      refine PS_imp (ps_setLc (own := ownOf c tg) O.calm O.nd n1 q1 q2 (mS_ok src c ptg pit h4 X Wx O) (by rw [O.N, O.sc]; exact blkOk_by h3) (fun s H C cl fp => g2 _ _ (O.blk s H C cl fp)) (fun s H C cl fp => mI_ok is (c.blk scope) pis h6 _ (O.blk s H C cl fp)) (fun s H C cl fp => (mE_ok e (c.blk scope) pe h7 _ _ (O.blk s H C cl fp)).pe (nb h1)) (plain_fold h2 _)) fun Dn σ H h => ?_
      exact lc_read (nb h1) g1 (ownOf_ix c tg) (ht Dn σ H h)
  | [], h => simp [mE] at h
  | _ :: _ :: _, h => simp [mE] at h
theorem mE_biD {c : Cxt} {es : List Ex} {p : Expr} (h : mE c (.bi .dict es) p = true) :
    ∃ e x np q pos, es = [e] ∧ p = .Call (.Name x np) [q] [] pos ∧ c.isB x "dict" = true ∧ plainE q = true ∧ isLst e = true ∧ mE c e q = true := by
  rw [mE.eq_def] at h
  split at h
  all_goals first
    | exact absurd h Bool.false_ne_true
    | (rename_i h1 h2; cases h1; done)
    | (rename_i h1 h2; cases h1; cases h2; done)
    | (rename_i h1 h2
       cases h1
       cases h2
       simp [bi2B] at h
       done)
    | (rename_i h1 h2
       cases h1
       cases h2
       simp only [Bool.or_eq_true, Bool.and_eq_true] at h
       rcases h with ⟨⟨⟨h1, h2⟩, h3⟩, h4⟩ | ⟨⟨⟨⟨h0, h1⟩, h2⟩, h3⟩, h4⟩
       · simp [bi1B] at h1
       · exact ⟨_, _, _, _, _, rfl, rfl, h1, h2, h3, h4⟩)
theorem fresh_ok {e : Ex} {p : Expr} (O : XOk k c X F W Wx) (hf : isFresh e = true) (h : mE c e p = true) (hp : swapOk p = true) : PE X p (LF F Wx (evE W e)) := by
  cases e <;> first | (simp [isFresh] at hf; done) | skip
  · rename_i o a b
    cases o <;> first | (simp [isFresh] at hf; done) | skip
    cases a <;> first | (simp [isFresh] at hf; done) | skip
    cases p <;> first | (simp [mE] at h; done) | skip
    simp only [mE, Bool.and_eq_true] at h
    obtain ⟨⟨⟨⟨h1, h2⟩, h3⟩, h4⟩, h5⟩ := h
    have e := opB_ok h1
    subst e
    exact f_rep O.K (nb h3) ((mE_ok _ c _ h4 X Wx O).pe rfl) ((mE_ok _ c _ h5 X Wx O).pe (nb h3))
  · cases p <;> first | (simp [mE] at h; done) | skip
    simp only [mE] at h
    exact f_lst (mL_ok _ c _ h X Wx O)
  · cases p <;> simp [mE] at h
  · cases p <;> first | (simp [mE] at h; done) | (simp [swapOk] at hp; done)
  · rename_i b src
    cases b <;> first | (simp [isFresh] at hf; done) | skip
    cases src <;> first | (simp [mE] at h; done) | skip
    · rename_i bs
      cases bs <;> first | (simp [mE] at h; done) | skip
      obtain ⟨x, np, q, pos, rfl, z, _⟩ := mE_bsS h
      cases z
    · obtain ⟨x, y, np, np2, q, ps, pos, pos2, rfl, h1, _⟩ := mE_bsR h
      simp [rgB] at h1
  · rename_i b es
    cases b <;> first | (simp [isFresh] at hf; done) | skip
    obtain ⟨e, x, np, q, pos, rfl, rfl, h1, h2, h3, h4⟩ := mE_biD h
    exact biD_ok O h1 h2 h3 (mE_ok e c _ h4 X Wx O).1
  · rename_i ck _ _ _ _
    cases ck <;> first | (simp [isFresh] at hf; done) | skip
    cases p <;> first | (simp [mE] at h; done) | (simp [swapOk] at hp; done) | (obtain ⟨_, _, _, _, _, _, _, _, _, _, _, _, hh⟩ := mE_co h; simp [coParts, coB] at hh; done)
theorem sub_ok {o pk : Expr} {ps' : Pos} (h : plainE pk = true) : subAssign X o pk ps' := fun v => by cases pk <;> first | rfl | (simp [plainE] at h)
theorem augStore_ok {pk : Expr} (h : plainE pk = true) : ∀ ov iv new, augStore pk ov iv new = (do holding [new, ov, iv] (setItem ov iv new); release [new, ov, iv] []; pure .next) := fun ov iv new => by cases pk <;> first | rfl | (simp [plainE] at h)
theorem isAS_ok {o : BOp} (h : isAS o = true) : o = .add ∨ o = .sub := by cases o <;> first | exact .inl rfl | exact .inr rfl | (simp [isAS] at h)
def starB (vs : List Expr) : Bool := vs.any fun | .Starred .. => true | _ => false
theorem swapped_eq (hk : X.env.scope.kind = .function) (ts vs : List Expr) (k1 k2 : Nat) (p1 p2 : Pos) : swappedStores [.Tuple ts k1 p1] (.Tuple vs k2 p2) X.env =
    (if (!(ts.length == 2 || ts.length == 3) || vs.length != ts.length || (ScopeKind.function != ScopeKind.function)) = true then pure none
    else if starB vs = true then pure none
    else if ((namesOf X.env.scope (lineOf ts) ts).length != ts.length || (namesOf X.env.scope (lineOf ts) ts).eraseDups.length != (namesOf X.env.scope (lineOf ts) ts).length) = true then pure none
    else if vs.all (foldedForSure 8) = true then pure none
    else if vs.all (constantsAlone 8) = true then (do unsupported "assign.tuple-of-constant-expressions:order-of-the-stores"; pure (some (namesOf X.env.scope (lineOf ts) ts)))
    else pure (some (namesOf X.env.scope (lineOf ts) ts))) := by
  unfold swappedStores
  simp only [blockKind_fn hk]
  rfl
theorem swNone_ok {tg p : Expr} (hk : X.env.scope.kind = .function) (h : swNone X.env.scope tg p = true) : swappedStores [tg] p X.env = pure none := by
  unfold swNone at h
  split at h
  · rename_i ts _ _ vs _ _
    rw [swapped_eq hk]
    have h : (!(ts.length == 2 || ts.length == 3) || vs.length != ts.length || (!(starB vs) && ((namesOf X.env.scope (lineOf ts) ts).length != ts.length || (namesOf X.env.scope (lineOf ts) ts).eraseDups.length != (namesOf X.env.scope (lineOf ts) ts).length || vs.all (foldedForSure 8)))) = true := h
    by_cases c1 : (!(ts.length == 2 || ts.length == 3) || vs.length != ts.length || (ScopeKind.function != ScopeKind.function)) = true
    · rw [if_pos c1]
    · rw [if_neg c1]
      by_cases c2 : starB vs = true
      · rw [if_pos c2]
      · rw [if_neg c2]
        by_cases c3 : ((namesOf X.env.scope (lineOf ts) ts).length != ts.length || (namesOf X.env.scope (lineOf ts) ts).eraseDups.length != (namesOf X.env.scope (lineOf ts) ts).length) = true
        · rw [if_pos c3]
        · rw [if_neg c3]
          have c4 : vs.all (foldedForSure 8) = true := by
            rw [Bool.or_eq_true, Bool.and_eq_true, Bool.or_eq_true _ (vs.all _)] at h
            rcases h with h | ⟨_, h | h⟩
            · exact absurd (by rw [h]; rfl) c1
            · exact absurd h c3
            · exact h
          rw [if_pos c4]
  · rename_i hp
    cases p <;> first | rfl | exact (hp _ _ _ rfl).elim
  · cases h
theorem par2_ok {i j : Nat} {x y : Str} {px py pt p2 : Pos} {a b : Expr} {kt k2 : Nat} (hk : X.env.scope.kind = .function) (hx : X.env.scope.names.lookup x = some .local) (hy : X.env.scope.names.lookup y = some .local) (hl : px.line = py.line) (hne : x ≠ y) (pa : plainE a = true) (pb : plainE b = true)
    (h1 : [a, b].all (foldedForSure 8) = false) (h2 : [a, b].all (constantsAlone 8) = false) : swappedStores [.Tuple [.Name x px, .Name y py] kt pt] (.Tuple [a, b] k2 p2) X.env = pure (some [x, y]) := by
  rw [swapped_eq hk]
  have e : namesOf X.env.scope (lineOf [.Name x px, .Name y py]) [.Name x px, .Name y py] = [x, y] := by
    simp [namesOf, lineOf, hx, hy, Expr.pos, hl]
  have s : starB [a, b] = false := by
    have : ∀ e : Expr, plainE e = true → starB [e] = false := fun e h => by cases e <;> first | rfl | (simp [plainE] at h)
    have ha := this a pa
    have hb := this b pb
    simp only [starB, List.any_cons, List.any_nil, Bool.or_false] at ha hb ⊢
    rw [ha, hb]
    rfl
  rw [e, s, h1, h2]
  have d : ([x, y] : List Str).eraseDups = [x, y] := by
    simp [List.eraseDups_cons, hne, Ne.symm hne]
  rw [d]
  rfl
theorem par3_ok {x y z : Str} {px py pz pt p2 : Pos} {a b d : Expr} {kt k2 : Nat} (hk : X.env.scope.kind = .function) (hx : X.env.scope.names.lookup x = some .local) (hy : X.env.scope.names.lookup y = some .local) (hz : X.env.scope.names.lookup z = some .local) (hl : px.line = py.line) (hl2 : px.line = pz.line) (hne : x ≠ y) (hne2 : x ≠ z) (hne3 : y ≠ z) (pa : plainE a = true) (pb : plainE b = true) (pd : plainE d = true)
    (h1 : [a, b, d].all (foldedForSure 8) = false) (h2 : [a, b, d].all (constantsAlone 8) = false) : swappedStores [.Tuple [.Name x px, .Name y py, .Name z pz] kt pt] (.Tuple [a, b, d] k2 p2) X.env = pure (some [x, y, z]) := by
  rw [swapped_eq hk]
  have e : namesOf X.env.scope (lineOf [.Name x px, .Name y py, .Name z pz]) [.Name x px, .Name y py, .Name z pz] = [x, y, z] := by
    simp [namesOf, lineOf, hx, hy, hz, Expr.pos, ← hl, ← hl2]
  have s : starB [a, b, d] = false := by
    have : ∀ e : Expr, plainE e = true → starB [e] = false := fun e h => by cases e <;> first | rfl | (simp [plainE] at h)
    have ha := this a pa
    have hb := this b pb
    have hd := this d pd
    simp only [starB, List.any_cons, List.any_nil, Bool.or_false] at ha hb hd ⊢
    rw [ha, hb, hd]
    rfl
  rw [e, s, h1, h2]
  have dd : ([x, y, z] : List Str).eraseDups = [x, y, z] := by
    simp [List.eraseDups_cons, hne, Ne.symm hne, hne2, Ne.symm hne2, hne3, Ne.symm hne3]
  rw [dd]
  rfl
end
section
variable {F : Fx} {W : Wd} {k : Nat}
theorem lmsB_ok {c : Cxt} {X : Cx} {Wx : WX} (O : XOk k c X F W Wx) : ∀ (es : List Ex) (ps : List Expr), lmsB c es ps = true → ∃ ls : List (Lm × Pos), ps = ls.map lmE ∧ es = ls.map (·.1.e) ∧ ∀ l ∈ ls, LmOk X l.1 ∧ defaultsOf l.1.params X.env = ([], []) ∧
    ∀ (A : Around) (outer : List Env) (s : Shared) (H : Hp) (E : XK) (f c' : Addr), Room (k + 1) (A.deeper (LamX.lamEnv X l.1.scope s.heap.objs.size f c')) → PE (LamX.lamCx X A outer s H E l.1.scope f c') l.1.body (lmT F W l.1 E)
  | [], ps, h => by
    cases ps with
    | nil => exact ⟨[], rfl, rfl, fun l hl => by cases hl⟩
    | cons _ _ => simp [lmsB] at h
  | e :: es, ps, h => by
    cases ps with
    | nil => simp [lmsB] at h
    | cons p ps =>
      cases p <;> first | (simp [lmsB] at h; done) | skip
      rename_i params body scope pos
      simp only [lmsB, Bool.and_eq_true] at h
      obtain ⟨⟨⟨⟨h1, h2⟩, h3⟩, h4⟩, h5⟩ := h
      obtain ⟨ls, e1, e2, h6⟩ := lmsB_ok O es ps h5
      have e3 := noArgs_ok h3
      subst e3
      refine ⟨(⟨_, body, scope, e⟩, pos) :: ls, by rw [e1]; rfl, by rw [e2]; rfl, fun l hl => ?_⟩
      rcases List.mem_cons.mp hl with z | z
      · subst z
        exact ⟨⟨by rw [O.sc]; exact LamX.lamS_by h2, fun q cl pm cv ctv => rfl⟩, rfl, fun A outer s H E f c' hr => (mE_ok e (c.lblk scope) body h4 _ _ (O.lblk A outer s H E f c' hr)).pe (nb h1)⟩
      · exact h6 l z
end
end Ev
end
section
set_option linter.all false
set_option autoImplicit false
set_option maxRecDepth 100000
set_option maxHeartbeats 1000000
/-! Ev, part X: the look at statements shows their readings. -/
namespace Ev
open PySem PySem.Spec PyProof.Rows L2

section
variable {F : Fx} {W : Wd} {k : Nat} {Wx : WX}
theorem isE_ok {c : Cxt} {X : Cx} {x : Str} {g : Nat} (O : XOk k c X F W Wx) (h : c.isE x g = true) : Gl X x ∧ (x == ("__debug__" : Str)) = false ∧ GbOk X.prog X.w X.K X.mg X.base F W k x (.exc g) := by
  unfold Cxt.isE at h
  simp only [Bool.and_eq_true] at h
  obtain ⟨q1, q2, q3⟩ := gl_ok O h.1
  refine ⟨q1, q2, ?_⟩
  have h := h.2
  split at h
  · rename_i g' e
    have e2 : g' = g := by simpa using h
    subst e2
    exact O.gl x _ (PySem.mem_of_lookup e)
  · cases h
theorem nmL_ok {c : Cxt} {X : Cx} {i : Nat} {x : Str} (O : XOk k c X F W Wx) (h : nmL c i x = true) : X.N[i]? = some x ∧ X.env.scope.names.lookup x = some .local := by
  unfold nmL at h
  simp only [Bool.and_eq_true, decide_eq_true_eq] at h
  exact ⟨by rw [O.N]; exact h.1, by rw [O.sc]; exact h.2⟩
theorem parF_ok {c : Cxt} {X : Cx} (O : XOk k c X F W Wx) {i : Nat} {b : Bool} {is : List (Nat × Bool)} {e : Ex} {es : List Ex} {p : Expr} {ps : List Expr} (h : parF c ((i, b) :: is) (e :: es) (p :: ps) = true) : isB e = false ∧ PE X p (tO F Wx W b e) ∧ parF c is es ps = true := by
  simp only [parF, Bool.and_eq_true] at h
  obtain ⟨⟨⟨h1, h2⟩, h3⟩, h4⟩ := h
  refine ⟨nb h1, ?_, h4⟩
  cases b with
  | true =>
    simp only [if_true, Bool.and_eq_true] at h2
    exact fresh_ok O h2.1 h3 h2.2
  | false => exact (mE_ok e c p h3 X Wx O).pe (nb h1)
theorem parF_len {c : Cxt} : ∀ {is : List (Nat × Bool)} {es : List Ex} {ps : List Expr}, parF c is es ps = true → es.length = is.length ∧ ps.length = is.length
  | [], [], [], _ => ⟨rfl, rfl⟩
  | (_, _) :: is, _ :: es, _ :: ps, h => by
    simp only [parF, Bool.and_eq_true] at h
    obtain ⟨h1, h2⟩ := parF_len h.2
    exact ⟨by simp [h1], by simp [h2]⟩
  | [], [], _ :: _, h => by simp [parF] at h
  | [], _ :: _, _, h => by simp [parF] at h
  | _ :: _, [], _, h => by simp [parF] at h
  | _ :: _, _ :: _, [], h => by simp [parF] at h
theorem parB_2 {c : Cxt} {i j : Nat} {ts vs : List Expr} (h : parB c [i, j] ts vs = true) : ∃ x px y py a b, ts = [.Name x px, .Name y py] ∧ vs = [a, b] ∧ (nmL c i x && nmL c j y && decide (i ≠ j) && decide (c.sc.kind = .function) && px.line == py.line && decide (x ≠ y) && plainE a && plainE b && !([a, b].all (foldedForSure 8)) && !([a, b].all (constantsAlone 8))) = true := by
  rw [parB.eq_def] at h
  split at h
  · rename_i e1
    cases e1
    exact ⟨_, _, _, _, _, _, rfl, rfl, h⟩
  · rename_i e1
    cases e1
  · cases h
theorem parB_3 {c : Cxt} {i j l : Nat} {ts vs : List Expr} (h : parB c [i, j, l] ts vs = true) : ∃ x px y py z pz a b d, ts = [.Name x px, .Name y py, .Name z pz] ∧ vs = [a, b, d] ∧ (nmL c i x && nmL c j y && nmL c l z && decide (i ≠ j) && decide (i ≠ l) && decide (j ≠ l) && decide (c.sc.kind = .function) && px.line == py.line && px.line == pz.line && decide (x ≠ y) && decide (x ≠ z) && decide (y ≠ z) && plainE a && plainE b && plainE d && !([a, b, d].all (foldedForSure 8)) && !([a, b, d].all (constantsAlone 8))) = true := by
  rw [parB.eq_def] at h
  split at h
  · rename_i e1
    cases e1
  · rename_i e1
    cases e1
    exact ⟨_, _, _, _, _, _, _, _, _, rfl, rfl, h⟩
  · cases h
theorem s_par {c : Cxt} {X : Cx} {is : List (Nat × Bool)} {es : List Ex} {ts vs : List Expr} {k1 k2 : Nat} {p1 p2 pos : Pos} (O : XOk k c X F W Wx) (h : parB c (is.map (·.1)) ts vs = true) (hm : parF c is es vs = true) :
    PS X (.Assign [.Tuple ts k1 p1] (.Tuple vs k2 p2) pos) (LS F Wx (exS W (.par is es))) := by
  obtain ⟨l1, l2⟩ := parF_len hm
  match is, h with
  | [], h => simp [parB] at h
  | [_], h => simp [parB] at h
  | [(i, bi), (j, bj)], h =>
    obtain ⟨x, px, y, py, a, b, rfl, rfl, hh⟩ := parB_2 h
    match es, l1 with
    | [ea, eb], _ =>
      obtain ⟨na, ia, hm⟩ := parF_ok O hm
      obtain ⟨n2, ib, _⟩ := parF_ok O hm
      simp only [Bool.and_eq_true, decide_eq_true_eq, Bool.not_eq_true', beq_iff_eq] at hh
      obtain ⟨⟨⟨⟨⟨⟨⟨⟨⟨h1, h2⟩, h3⟩, h4⟩, h5⟩, h6⟩, h7⟩, h8⟩, h9⟩, h10⟩ := hh
      obtain ⟨a1, a2⟩ := nmL_ok O h1
      obtain ⟨b1, b2⟩ := nmL_ok O h2
      exact s_par2 O.calm O.nd a1 b1 h3 a2 b2 na n2 h7 h8 ia ib (par2_ok (i := 0) (j := 0) (by rw [O.sc]; exact h4) a2 b2 h5 h6 h7 h8 h9 h10)
  | [(i, bi), (j, bj), (l, bl)], h =>
    obtain ⟨x, px, y, py, z, pz, a, b, d, rfl, rfl, hh⟩ := parB_3 h
    match es, l1 with
    | [ea, eb, ec], _ =>
      obtain ⟨na, ia, hm⟩ := parF_ok O hm
      obtain ⟨n2, ib, hm⟩ := parF_ok O hm
      obtain ⟨n3, ic, _⟩ := parF_ok O hm
      simp only [Bool.and_eq_true, decide_eq_true_eq, Bool.not_eq_true', beq_iff_eq] at hh
      obtain ⟨⟨⟨⟨⟨⟨⟨⟨⟨⟨⟨⟨⟨⟨⟨⟨h1, h2⟩, h3⟩, h4⟩, h5⟩, h6⟩, h7⟩, h8⟩, h9⟩, h10⟩, h11⟩, h12⟩, h13⟩, h14⟩, h15⟩, h16⟩, h17⟩ := hh
      obtain ⟨a1, a2⟩ := nmL_ok O h1
      obtain ⟨b1, b2⟩ := nmL_ok O h2
      obtain ⟨c1, c2⟩ := nmL_ok O h3
      exact s_par3 O.calm O.nd a1 b1 c1 h4 h5 h6 a2 b2 c2 na n2 n3 h13 h14 h15 ia ib ic (par3_ok (by rw [O.sc]; exact h7) a2 b2 c2 h8 h9 h10 h11 h12 h13 h14 h15 h16 h17)
  | _ :: _ :: _ :: _ :: _, h => simp [parB] at h
theorem s_set_any {c : Cxt} {X : Cx} {i : Nat} {e : Ex} {x : Str} {px pos : Pos} {p : Expr} (O : XOk k c X F W Wx) (h1 : asgB c i x = true) (h2 : stB c x px p = true) (h3 : isB e = false) (h4 : mE c e p = true) :
    PS X (.Assign [.Name x px] p pos) (LS F Wx (exS W (.asg i e))) := by
  obtain ⟨n1, n2, n3⟩ := asgB_ok O h1
  unfold stB at h2
  simp only [Bool.and_eq_true, decide_eq_true_eq] at h2
  obtain ⟨hk, h2⟩ := h2
  split at h2
  · rename_i pe gens scope lp
    cases e <;> first | (simp [mE] at h4; done) | skip
    rename_i ck el tg src is
    cases ck <;> first | (simp [mE] at h4; done) | skip
    exact lc_set O hk h1 h4 fun Dn σ H h => LE_LF (isLst_ok rfl) (set_core h3 h)
  · exact s_asg O.nd n1 n2 n3 h2 h3 ((mE_ok e c p h4 X Wx O).pe h3)
theorem s_setO_any {c : Cxt} {X : Cx} {i : Nat} {e : Ex} {x : Str} {px pos : Pos} {p : Expr} (O : XOk k c X F W Wx) (h1 : asgB c i x = true) (h2 : stB c x px p = true) (h3 : isFresh e = true) (h4 : mE c e p = true) :
    PS X (.Assign [.Name x px] p pos) (LS F Wx (exS W (.asgO i e))) := by
  obtain ⟨n1, n2, n3⟩ := asgB_ok O h1
  unfold stB at h2
  simp only [Bool.and_eq_true, decide_eq_true_eq] at h2
  obtain ⟨hk, h2⟩ := h2
  split at h2
  · rename_i pe gens scope lp
    cases e <;> first | (simp [mE] at h4; done) | skip
    rename_i ck el tg src is
    cases ck <;> first | (simp [mE] at h4; done) | skip
    exact lc_set O hk h1 h4 fun Dn σ H h => setO_core h
  · exact s_asgO O.nd n1 n2 n3 h2 (fresh_ok O h3 h4 h2)
theorem orB_ok {c : Cxt} {t : Ex} {R : Expr} {X : Cx} {Wx : WX} (O : XOk k c X F W Wx) (h : orB c t R = true) : PT X R (LT F Wx (evE W t)) := by
  unfold orB at h
  split at h
  · simp only [Bool.and_eq_true] at h
    exact t_one_or ((mE_ok t c _ h.2 X Wx O).2 h.1)
  · simp only [Bool.and_eq_true] at h
    exact (mE_ok t c _ h.2 X Wx O).2 h.1
theorem isT_ok {c : Cxt} {X : Cx} {Wx : WX} {x ret : Str} {g : Nat} (O : XOk k c X F W Wx) (h : c.isT x g ret = true) : GbOk X.prog X.w X.K X.mg X.base F W k x (.told g ret) := by
  unfold Cxt.isT at h
  split at h
  · rename_i g' r e
    simp only [Bool.and_eq_true, beq_iff_eq, decide_eq_true_eq] at h
    obtain ⟨rfl, rfl⟩ := h
    exact O.gl x _ (PySem.mem_of_lookup e)
  · cases h
theorem bads_ok {c : Cxt} {X : Cx} {Wx : WX} {i j cc : Nat} {es : List Ex} {t : Ex} {a r : List St} {p1 p2 : Stmt} {ps : List Stmt} {C R : Expr} {A : List Stmt} (O : XSk k c X F W Wx) (hp : ifParts p2 = some (C, R, A)) (h1 : badsB c i j es cc p1 C = true) (h2 : orB c t R = true)
    (hA : PSs X A (LS F Wx (exL W a))) (hps : PSs X ps (LS F Wx (exL W r))) : PSs X (p1 :: p2 :: ps) (LS F Wx (exL W (.bads i j es cc :: .ifs t a [] :: r))) := by
  obtain ⟨r0, rest, op, ip, rfl, rfl⟩ := ifParts_ok hp
  have hR := orB_ok O.toXOk h2
  unfold badsB at h1
  split at h1
  · simp only [Bool.and_eq_true, decide_eq_true_eq, Bool.not_eq_true'] at h1
    obtain ⟨⟨⟨⟨⟨⟨⟨⟨⟨⟨⟨⟨⟨⟨⟨⟨b1, b2⟩, b3⟩, b4⟩, b5⟩, b6⟩, b7⟩, b8⟩, b9⟩, b10⟩, b11⟩, b12⟩, b13⟩, b14⟩, b15⟩, b16⟩, b17⟩ := h1
    subst b2 b3 b4
    obtain ⟨hr, P, la, lt⟩ := O.ld b1
    obtain ⟨ls, rfl, e2, hl⟩ := lmsB_ok O.toXOk es _ b17
    obtain ⟨T, _, hcc⟩ := isT_ok O.toXOk b14
    obtain ⟨n1, n2, n3⟩ := asgB_ok O.toXOk b5
    obtain ⟨m1, m2, m3, m4⟩ := nm_ok O.toXOk b6
    have hj := b7
    rw [← O.N] at hj
    have B := blkOk_by b8
    rw [← O.N, ← O.sc] at B
    have el : es.length = ls.length := by rw [e2, List.length_map]
    refine PSs_imp (ss_bads (c := cc) (j := j) O.K O.nd n1 n2 n3 (List.getElem?_eq_some_iff.mp hj).1 (by rw [← el]; exact Nat.le_trans b16 (by decide)) la lt (fun l h => ⟨(hl l h).1, (hl l h).2.1⟩) hcc b15 (fun pins σ H s I => I.len) (t_bads (F := F) (W := W) O.calm O.nd hr B m1 m2 m3 m4 hj (by rw [O.sc]; exact b9) b10 b11 (by rw [O.sc]; exact b12) b13 T (fun l h => (hl l h).1) (fun l h A outer s H E f c' hr2 => (hl l h).2.2 A outer s H E f c' hr2)) hR hA hps) fun Dn σ H h => LS.congr (fun wr g m => ?_) h
    simp only [execL, exec, exBads, ← e2]
    cases badsR W cc es wr (g.set i none) m <;> rfl
  · cases h1
theorem mSt_app {c : Cxt} {i : Nat} {e : Ex} {p : Stmt} (h : mSt c (.app (.sl i) e) p = true) :
    ∃ x px apos q cpos pos, p = .Expr (.Call (.Attribute (.Name x px) "append" apos) [q] [] cpos) pos ∧ c.nm i x = true ∧ plainE q = true ∧ (apos.endLine == cpos.line) = true ∧ (!isB e) = true ∧ mE c e q = true := by
  rw [mSt.eq_def] at h
  split at h
  all_goals first
    | exact absurd h Bool.false_ne_true
    | (rename_i h1 h2; cases h1; done)
    | (rename_i h1 h2; cases h1; cases h2; done)
    | (rename_i h1 h2
       cases h1
       cases h2
       simp only [Bool.and_eq_true, decide_eq_true_eq] at h
       obtain ⟨⟨⟨⟨⟨q1, q2⟩, q3⟩, q4⟩, q5⟩, q6⟩ := h
       subst q1
       obtain ⟨x, px, rfl, q2⟩ := isNm_ok q2
       exact ⟨_, _, _, _, _, _, rfl, q2, q3, q4, q5, q6⟩)
mutual
theorem mSt_ok : ∀ (s : St) (c : Cxt) (p : Stmt), mSt c s p = true → ∀ (X : Cx) (Wx : WX), XSk k c X F W Wx → PS X p (LS F Wx (exS W s))
  | .pass, c, p, h, X, Wx, O => by
    cases p <;> first | (simp [mSt] at h; done) | skip
    · rename_i e pos
      cases e <;> first | (simp [mSt] at h; done) | skip
      rename_i v kk p2
      cases v <;> first | (simp [mSt] at h; done) | skip
      exact s_doc
    · exact s_pass
  | .asg i e, c, p, h, X, Wx, O => by
    cases p <;> first | (simp [mSt] at h; done) | skip
    rename_i ts p pos
    match ts, h with
    | [], h => simp [mSt] at h
    | [t], h =>
      cases t <;> first | (simp [mSt] at h; done) | skip
      simp only [mSt, Bool.and_eq_true] at h
      obtain ⟨⟨⟨h1, h2⟩, h3⟩, h4⟩ := h
      exact s_set_any O.toXOk h1 h2 (nb h3) h4
    | t :: _ :: _, h => cases t <;> simp [mSt] at h
  | .asgO i e, c, p, h, X, Wx, O => by
    cases p <;> first | (simp [mSt] at h; done) | skip
    rename_i ts p pos
    match ts, h with
    | [], h => simp [mSt] at h
    | [t], h =>
      cases t <;> first | (simp [mSt] at h; done) | skip
      simp only [mSt, Bool.and_eq_true] at h
      obtain ⟨⟨⟨h1, h2⟩, h3⟩, h4⟩ := h
      exact s_setO_any O.toXOk h1 h2 h3 h4
    | t :: _ :: _, h => cases t <;> simp [mSt] at h
  | .unp t e, c, p, h, X, Wx, O => by
    cases p <;> first | (simp [mSt] at h; done) | skip
    rename_i ts p pos
    match ts, h with
    | [], h => simp [mSt] at h
    | [tg], h =>
      simp only [mSt, Bool.and_eq_true, decide_eq_true_eq] at h
      obtain ⟨⟨⟨⟨⟨h1, h2⟩, h3⟩, h4⟩, h5⟩, h6⟩ := h
      obtain ⟨u, g1, g2, g3⟩ := mTg_ok (F := F) (W := W) (k := k) t c tg h5
      refine s_unp h1 (swNone_ok (by rw [O.sc]; exact h2) (by rw [O.sc]; exact h3)) (by rw [nostar_each g3]; rfl) (nb h4) ((mE_ok e c p h6 X Wx O.toXOk).pe (nb h4)) (g2 X Wx O.toXOk) g1
    | _ :: _ :: _, h => simp [mSt] at h
  | .par is es, c, p, h, X, Wx, O => by
    cases p <;> first | (simp [mSt] at h; done) | skip
    rename_i ts p pos
    match ts, h with
    | [], h => simp [mSt] at h
    | [t], h =>
      cases t <;> first | (simp [mSt] at h; done) | skip
      cases p <;> first | (simp [mSt] at h; done) | skip
      simp only [mSt, Bool.and_eq_true] at h
      exact s_par O.toXOk h.1 h.2
    | t :: _ :: _, h => cases t <;> simp [mSt] at h
  | .seti (.sl i) k' e, c, p, h, X, Wx, O => by
    cases p <;> first | (simp [mSt] at h; done) | skip
    rename_i ts p pos
    match ts, h with
    | [], h => simp [mSt] at h
    | [t], h =>
      cases t <;> first | (simp [mSt] at h; done) | skip
      rename_i o pk p2
      simp only [mSt, Bool.and_eq_true] at h
      obtain ⟨⟨⟨⟨⟨⟨h1, h2⟩, h3⟩, h4⟩, h5⟩, h6⟩, h7⟩ := h
      obtain ⟨x, xp, rfl, h1⟩ := isNm_ok h1
      obtain ⟨q1, q2, q3, q4⟩ := nm_ok O.toXOk h1
      exact s_setiS q1 q2 q3 q4 h2 (sub_ok h3) (nb h4) (nb h5) ((mE_ok e c _ h6 X Wx O.toXOk).pe (nb h4)) ((mE_ok k' c _ h7 X Wx O.toXOk).pe (nb h5))
    | t :: _ :: _, h => cases t <;> simp [mSt] at h
  | .seti (.cl o) k' e, c, p, h, X, Wx, O => by
    cases p <;> first | (simp [mSt] at h; done) | skip
    rename_i ts p pos
    match ts, h with
    | [], h => simp [mSt] at h
    | [t], h =>
      cases t <;> first | (simp [mSt] at h; done) | skip
      simp only [mSt, Bool.and_eq_true] at h
      obtain ⟨⟨⟨⟨⟨⟨⟨h1, h2⟩, h3⟩, h4⟩, h5⟩, h6⟩, h7⟩, h8⟩ := h
      exact s_setiC h1 (sub_ok h2) (nb h3) (nb h4) (nb h5) ((mE_ok e c _ h6 X Wx O.toXOk).pe (nb h3)) ((mE_ok o c _ h7 X Wx O.toXOk).pe (nb h4)) ((mE_ok k' c _ h8 X Wx O.toXOk).pe (nb h5))
    | t :: _ :: _, h => cases t <;> simp [mSt] at h
  | .setf o f e, c, p, h, X, Wx, O => by
    cases p <;> first | (simp [mSt] at h; done) | skip
    rename_i ts p pos
    match ts, h with
    | [], h => simp [mSt] at h
    | [t], h =>
      cases t <;> first | (simp [mSt] at h; done) | skip
      simp only [mSt, Bool.and_eq_true, decide_eq_true_eq] at h
      obtain ⟨⟨⟨⟨⟨rfl, h2⟩, h3⟩, h4⟩, h5⟩, h6⟩ := h
      exact s_setf h2 (fun c' => O.cl c' _) (nb h3) (nb h4) ((mE_ok e c _ h5 X Wx O.toXOk).pe (nb h3)) ((mE_ok o c _ h6 X Wx O.toXOk).pe (nb h4))
    | t :: _ :: _, h => cases t <;> simp [mSt] at h
  | .augn i o e, c, p, h, X, Wx, O => by
    cases p <;> first | (simp [mSt] at h; done) | skip
    rename_i t op p pos
    cases t <;> first | (simp [mSt] at h; done) | skip
    simp only [mSt, Bool.and_eq_true] at h
    obtain ⟨⟨⟨⟨h1, h2⟩, h3⟩, h4⟩, h5⟩ := h
    have e := opB_ok h2
    subst e
    obtain ⟨q1, q2, q3⟩ := asgB_ok O.toXOk h3
    exact s_augn (isAS_ok h1) O.nd q1 q2 q3 (nb h4) ((mE_ok _ c _ h5 X Wx O.toXOk).pe (nb h4))
  | .augf _ _ _ _, c, p, h, X, Wx, O => by simp [mSt] at h
  | .augi (.sl i) k' o e, c, p, h, X, Wx, O => by
    cases p <;> first | (simp [mSt] at h; done) | skip
    rename_i t op p pos
    cases t <;> first | (simp [mSt] at h; done) | skip
    rename_i o2 pk p2
    simp only [mSt, Bool.and_eq_true] at h
    obtain ⟨⟨⟨⟨⟨⟨⟨h1, h2⟩, h3⟩, h4⟩, h5⟩, h6⟩, h7⟩, h8⟩ := h
    have e := opB_ok h2
    subst e
    obtain ⟨x, xp, rfl, h3⟩ := isNm_ok h3
    obtain ⟨q1, q2, q3, q4⟩ := nm_ok O.toXOk h3
    exact s_augiS (isAS_ok h1) q1 q2 q3 q4 (augStore_ok h4) (nb h5) (nb h6) ((mE_ok _ c _ h7 X Wx O.toXOk).pe (nb h5)) ((mE_ok _ c _ h8 X Wx O.toXOk).pe (nb h6))
  | .augi (.cl _) _ _ _, c, p, h, X, Wx, O => by simp [mSt] at h
  | .app (.cl _) _, c, p, h, X, Wx, O => by simp [mSt] at h
  | .app (.sl i) e, c, p, h, X, Wx, O => by
    obtain ⟨x, px, apos, q, cpos, pos, rfl, h1, h2, h3, h4, h5⟩ := mSt_app h
    obtain ⟨q1, q2, q3, q4⟩ := nm_ok O.toXOk h1
    exact s_appS q1 q2 q3 q4 (nb h4) h2 h3 ((mE_ok e c _ h5 X Wx O.toXOk).pe (nb h4))
  | .del _ _, c, p, h, X, Wx, O => by simp [mSt] at h
  | .upd _ _, c, p, h, X, Wx, O => by simp [mSt] at h
  | .lk _ _, c, p, h, X, Wx, O => by simp [mSt] at h
  | .exp e, c, p, h, X, Wx, O => by
    cases p <;> first | (simp [mSt] at h; done) | skip
    simp only [mSt, Bool.and_eq_true] at h
    obtain ⟨⟨h1, h2⟩, h3⟩ := h
    exact s_exp h1 (nb h2) ((mE_ok e c _ h3 X Wx O.toXOk).pe (nb h2))
  | .ifs t a b, c, p, h, X, Wx, O => by
    cases p <;> first | (simp [mSt] at h; done) | skip
    simp only [mSt, Bool.and_eq_true] at h
    obtain ⟨⟨⟨h1, h2⟩, h3⟩, h4⟩ := h
    exact s_ifs ((mE_ok t c _ h2 X Wx O.toXOk).2 h1) (mSts_ok a c _ h3 X Wx O) (mSts_ok b c _ h4 X Wx O)
  | .for tg src body, c, p, h, X, Wx, O => by
    cases p <;> first | (simp [mSt] at h; done) | skip
    rename_i ptg pit pb pe pos
    cases pe <;> first | (simp [mSt] at h; done) | skip
    simp only [mSt, Bool.and_eq_true] at h
    obtain ⟨⟨⟨h1, h2⟩, h3⟩, h4⟩ := h
    obtain ⟨u, g1, g2, g3⟩ := mTg_ok (F := F) (W := W) (k := k) tg c ptg h3
    exact s_for O.po O.calm h1 (mS_ok src c ptg pit h2 X Wx O.toXOk) (g2 X Wx O.toXOk) g1 (mSts_ok body c pb h4 X Wx O)
  | .whl t body, c, p, h, X, Wx, O => by
    cases p <;> first | (simp [mSt] at h; done) | skip
    rename_i pt pb pe pos
    cases pe <;> first | (simp [mSt] at h; done) | skip
    simp only [mSt, Bool.and_eq_true] at h
    obtain ⟨⟨h1, h2⟩, h3⟩ := h
    exact s_whl O.po ((mE_ok t c _ h2 X Wx O.toXOk).2 h1) (mSts_ok body c pb h3 X Wx O)
  | .ret e, c, p, h, X, Wx, O => by
    cases p <;> first | (simp [mSt] at h; done) | skip
    rename_i p pos
    cases p <;> first | (simp [mSt] at h; done) | skip
    simp only [mSt, Bool.and_eq_true] at h
    exact s_ret (nb h.1) ((mE_ok e c _ h.2 X Wx O.toXOk).pe (nb h.1))
  | .retn, c, p, h, X, Wx, O => by
    cases p <;> first | (simp [mSt] at h; done) | skip
    rename_i p pos
    cases p <;> first | (simp [mSt] at h; done) | skip
    exact s_retn
  | .rai g, c, p, h, X, Wx, O => by
    cases p <;> first | (simp [mSt] at h; done) | skip
    rename_i ex ca pos
    cases ca <;> first | (cases ex <;> simp [mSt] at h; done) | skip
    cases ex with
    | none => simp [mSt] at h
    | some ex =>
      simp only [mSt] at h
      obtain ⟨x, p, s, kk, p2, p3, rfl, h⟩ := isRai_ok h
      obtain ⟨q1, q2, bmB, B, newId, initId, r1, r2, r3, r4, r5, r6⟩ := isE_ok O.toXOk h
      exact s_rai O.calm O.tk rfl r1 r2 r3 r4 (raises_own r5 r6) q1 q2
  | .frz _, c, p, h, X, Wx, O => by simp [mSt] at h
  | .bads _ _ _ _, c, p, h, X, Wx, O => by simp [mSt] at h
theorem mSts_ok : ∀ (ss : List St) (c : Cxt) (ps : List Stmt), mSts c ss ps = true → ∀ (X : Cx) (Wx : WX), XSk k c X F W Wx → PSs X ps (LS F Wx (exL W ss))
  | [], c, ps, h, X, Wx, O => by
    cases ps with
    | nil => exact ss_nil
    | cons _ _ => simp [mSts] at h
  | s :: r, c, ps, h, X, Wx, O => by
    by_cases hb : ∃ i j es cc, s = .bads i j es cc
    · obtain ⟨i, j, es, cc, rfl⟩ := hb
      match r, ps, h with
      | .ifs t a [] :: r', p1 :: p2 :: ps', h =>
        simp only [mSts] at h
        cases hp : ifParts p2 with
        | none => rw [hp] at h; cases h
        | some q =>
          obtain ⟨C, R, A⟩ := q
          rw [hp] at h
          simp only [Bool.and_eq_true] at h
          obtain ⟨⟨⟨h1, h2⟩, h3⟩, h4⟩ := h
          exact bads_ok O hp h1 h2 (mSts_ok a c A h3 X Wx O) (mSts_ok r' c ps' h4 X Wx O)
      | [], [], h => simp [mSts] at h
      | [], _ :: _, h => simp [mSts, mSt] at h
      | s2 :: r', [], h => cases s2 <;> simp [mSts] at h
      | s2 :: r', [_], h => cases s2 <;> simp [mSts, mSt] at h
      | .ifs t a (_ :: _) :: r', _ :: _ :: _, h => simp [mSts, mSt] at h
      | .asg _ _ :: r', _ :: _ :: _, h => simp [mSts, mSt] at h
      | .asgO _ _ :: r', _ :: _ :: _, h => simp [mSts, mSt] at h
      | .unp _ _ :: r', _ :: _ :: _, h => simp [mSts, mSt] at h
      | .par _ _ :: r', _ :: _ :: _, h => simp [mSts, mSt] at h
      | .setf _ _ _ :: r', _ :: _ :: _, h => simp [mSts, mSt] at h
      | .seti _ _ _ :: r', _ :: _ :: _, h => simp [mSts, mSt] at h
      | .augn _ _ _ :: r', _ :: _ :: _, h => simp [mSts, mSt] at h
      | .augf _ _ _ _ :: r', _ :: _ :: _, h => simp [mSts, mSt] at h
      | .augi _ _ _ _ :: r', _ :: _ :: _, h => simp [mSts, mSt] at h
      | .app _ _ :: r', _ :: _ :: _, h => simp [mSts, mSt] at h
      | .del _ _ :: r', _ :: _ :: _, h => simp [mSts, mSt] at h
      | .upd _ _ :: r', _ :: _ :: _, h => simp [mSts, mSt] at h
      | .lk _ _ :: r', _ :: _ :: _, h => simp [mSts, mSt] at h
      | .exp _ :: r', _ :: _ :: _, h => simp [mSts, mSt] at h
      | .for _ _ _ :: r', _ :: _ :: _, h => simp [mSts, mSt] at h
      | .whl _ _ :: r', _ :: _ :: _, h => simp [mSts, mSt] at h
      | .ret _ :: r', _ :: _ :: _, h => simp [mSts, mSt] at h
      | .retn :: r', _ :: _ :: _, h => simp [mSts, mSt] at h
      | .rai _ :: r', _ :: _ :: _, h => simp [mSts, mSt] at h
      | .pass :: r', _ :: _ :: _, h => simp [mSts, mSt] at h
      | .frz _ :: r', _ :: _ :: _, h => simp [mSts, mSt] at h
      | .bads _ _ _ _ :: r', _ :: _ :: _, h => simp [mSts, mSt] at h
    by_cases hf : ∃ i, s = .frz i
    · obtain ⟨i, rfl⟩ := hf
      simp only [mSts] at h
      exact ss_frz (mSts_ok r c ps h X Wx O)
    · cases ps with
      | nil => cases s <;> first | (simp [mSts] at h; done) | exact absurd ⟨_, rfl⟩ hf | exact absurd ⟨_, _, _, _, rfl⟩ hb
      | cons p ps =>
        have h : (mSt c s p && mSts c r ps) = true := by cases s <;> first | exact h | exact absurd ⟨_, rfl⟩ hf | exact absurd ⟨_, _, _, _, rfl⟩ hb
        rw [Bool.and_eq_true] at h
        exact ss_cons (mSt_ok s c p h.1 X Wx O) (mSts_ok r c ps h.2 X Wx O)
end
end
end Ev
end
section
set_option linter.all false
set_option autoImplicit false
set_option maxRecDepth 100000
/-! Ev, part Y: defs by their texts; levels. -/
namespace Ev
open PySem PySem.Spec PyProof.Rows L2

/-- what is known of a def's code object: its table, where it is tracked -/
def TabOf (F : Fx) (mg : Str → Option Value) (base : Heap) (fd : FuncData) : Prop := ∃ cc P, fd.code = .ref cc ∧ GxR.TabB base mg cc P ∧ P ∈ F.TG ∧ ∀ p ∈ F.TL, p.1 ≠ P
/-- .. and may lambdas be made there? -/
def TabL (F : Fx) (mg : Str → Option Value) (base : Heap) (qual : Str) (scope : Scope) (fd : FuncData) : Prop := ∃ cc P, fd.code = .ref cc ∧ LamX.TabB base mg cc P ∧ P ∉ F.TG ∧ (P, (envOfC qual scope 0 0 .none).qual ++ "<lambda>") ∈ F.TL ∧ ∀ p ∈ F.TL, p.1 = P → p.2 = (envOfC qual scope 0 0 .none).qual ++ "<lambda>"
theorem def_ok {P : Program} {w : World} {K : PySem.W.Frag} {mg : Str → Option Value} {base : Heap} {F : Fx} {W : Wd} {k : Nat} {gd ld : Bool} {x qual : Str} {params : Arguments} {body : List Stmt} {scope : Scope} {f : Addr} {fd : FuncData} {N ps : List Str} {G : List (Str × Gb)} {sb : List St}
    (Fd : FunD K x qual params body scope [] [] f fd) (S : FnScope N ps scope) (hn : ps.length ≤ N.length) (ht : gd = true → TabOf F mg base fd) (hl : ld = true → TabL F mg base qual scope fd) (hm : mSts ⟨N, scope, fun _ => true, G, gd, ld⟩ sb body = true) (hK : K = F.K) (gl : ∀ x gb, (x, gb) ∈ G → GbOk P w K mg base F W k x gb)
    (hcl : ∀ c f, W.has c f = true → Cls K (F.ca c) ∧ NoAttr K (F.ca c) f) (hob : ∀ c, W.obj c = true → EqObj K (F.ca c)) :
    FnOk P w K mg base (L2.CX P w) (k + 4) f fd ps (spOf F ps.length (semFn W sb N.length)) := by
  obtain ⟨oc, od, dV, kV, doc, pm, an, cdv, ct, osl, rfl, lk, hcd, _, _⟩ := Fd.ex
  refine fn_of lk hcd S (fun vs H Q E h => h.1) fun A outer s H vs Q E hr h => ?_
  have O : XSk k ⟨N, scope, fun _ => true, G, gd, ld⟩ (cxOf (L2.CX P w) P w K mg base N qual scope f cdv A outer s H E) F W (fun cls d _ H' => E cls d H') :=
    { K := hK, calm := rfl, N := rfl, nd := S.nd, sc := rfl, fn := fun _ _ => rfl, room := hr.mono (by omega), gl := gl, cl := hcl, ob := hob, tk := takes_of rfl rfl rfl rfl, po := passes_of rfl
      gd := fun z => ⟨hr.mono (by omega), ht z⟩
      ld := fun z => by
        obtain ⟨cc, P, e1, e2, e3, e4, e5⟩ := hl z
        exact ⟨hr, P, ⟨⟨cc, e2, e1⟩, e4, e5⟩, e3⟩ }
  exact ⟨_, mSts_ok sb _ body hm _ _ O, body_core hn h⟩
/-- the levels: how deep calls may go -/
def lvW (W : Wd) (fns : Nat → List St × Nat) : Nat → Wd
  | 0 => { W with call := fun _ _ _ _ => .stuck }
  | k + 1 => { W with call := fun f => semFn (lvW W fns k) (fns f).1 (fns f).2 }
/-- what is known of one def of the table -/
structure DefK (K : PySem.W.Frag) (mg : Str → Option Value) (base : Heap) (F : Fx) (G : List (Str × Gb)) (fns : Nat → List St × Nat) (f : Nat) (ps : List Str) (fa : Addr) (fd : FuncData) : Prop where
  ex : ∃ (x qual : Str) (params : Arguments) (body : List Stmt) (scope : Scope) (N : List Str) (gd ld : Bool), (gd = true → TabOf F mg base fd) ∧ (ld = true → TabL F mg base qual scope fd) ∧ FunD K x qual params body scope [] [] fa fd ∧ FnScope N ps scope ∧ ps.length ≤ N.length ∧ mSts ⟨N, scope, fun _ => true, G, gd, ld⟩ (fns f).1 body = true ∧ (fns f).2 = N.length ∧
    Binds K fd ps []
/-- what the module's names are, the defs by their texts -/
def Good (P : Program) (w : World) (K : PySem.W.Frag) (mg : Str → Option Value) (base : Heap) (F : Fx) (W : Wd) (G : List (Str × Gb)) (fns : Nat → List St × Nat) (x : Str) : Gb → Prop
  | .fn f ps => ∃ fa fd, mg x = some (.ref fa) ∧ DefK K mg base F G fns f ps fa fd
  | .mt f ps => ∃ fa fd, W.nam f = x ∧ Cls K (F.ca (W.cls f)) ∧ Meth K (F.ca (W.cls f)) x fa ∧ DefK K mg base F G fns f ps fa fd
  | .cls c ps => ∃ fa fd, mg x = some (.ref (F.ca c)) ∧ Mk K (F.ca c) fa ∧ DefK K mg base F G fns (W.ini c) ps fa fd
  | gb => GbOk P w K mg base F W 0 x gb
theorem defK_lv {P : Program} {w : World} {K : PySem.W.Frag} {mg : Str → Option Value} {base : Heap} {F : Fx} {W : Wd} {fns : Nat → List St × Nat} {G : List (Str × Gb)} (hK : K = F.K) (hcl : ∀ c f, W.has c f = true → Cls K (F.ca c) ∧ NoAttr K (F.ca c) f) (hob : ∀ c, W.obj c = true → EqObj K (F.ca c)) {f : Nat} {ps : List Str} {fa : Addr} {fd : FuncData} (D : DefK K mg base F G fns f ps fa fd) (k : Nat)
    (ih : ∀ j, k = j + 1 → ∀ x gb, (x, gb) ∈ G → GbOk P w K mg base F (lvW W fns j) (4 * j) x gb) : PySem.W.keepIn K (.ref fa) = true ∧ Binds K fd ps [] ∧ FnOk P w K mg base (L2.CX P w) (4 * k) fa fd ps (spOf F ps.length ((lvW W fns k).call f)) := by
  obtain ⟨x, qual, params, body, scope, N, gd, ld, ht, hl, Fd, S, hn, hm, hN, hb⟩ := D.ex
  refine ⟨Fd.kp, hb, ?_⟩
  cases k with
  | zero =>
    refine ⟨fun vs H Q E h => h.1, fun A outer s H args us vs Q E hr he hbd hv hs => ?_⟩
    obtain ⟨_, _, _, _, _, _, _, _, z⟩ := hs
    exact z.elim
  | succ k =>
    have z := def_ok (P := P) (w := w) (mg := mg) (base := base) (W := lvW W fns k) (k := 4 * k) Fd S hn ht hl hm hK (ih k rfl) (fun c f h => hcl c f (by cases k <;> exact h)) (fun c h => hob c (by cases k <;> exact h))
    show FnOk P w K mg base (L2.CX P w) (4 * k + 4) fa fd ps (spOf F ps.length (semFn (lvW W fns k) (fns f).1 (fns f).2))
    rw [hN]
    exact z
theorem all_lv {P : Program} {w : World} {K : PySem.W.Frag} {mg : Str → Option Value} {base : Heap} {F : Fx} {W : Wd} {fns : Nat → List St × Nat} {G : List (Str × Gb)} (hK : K = F.K) (hcl : ∀ c f, W.has c f = true → Cls K (F.ca c) ∧ NoAttr K (F.ca c) f) (hob : ∀ c, W.obj c = true → EqObj K (F.ca c))
    (hg : ∀ x gb, (x, gb) ∈ G → Good P w K mg base F W G fns x gb) : ∀ k x gb, (x, gb) ∈ G → GbOk P w K mg base F (lvW W fns k) (4 * k) x gb := by
  have step : ∀ k, (∀ j, k = j + 1 → ∀ x gb, (x, gb) ∈ G → GbOk P w K mg base F (lvW W fns j) (4 * j) x gb) → ∀ x gb, (x, gb) ∈ G → GbOk P w K mg base F (lvW W fns k) (4 * k) x gb := fun k ih x gb h => by
    have z := hg x gb h
    cases gb with
    | fn f ps =>
      obtain ⟨fa, fd, h1, D⟩ := z
      obtain ⟨q1, q2, q3⟩ := defK_lv (P := P) (w := w) (W := W) hK hcl hob D k ih
      exact ⟨fa, fd, h1, q1, q2, q3⟩
    | mt f ps =>
      obtain ⟨fa, fd, h1, h2, h3, D⟩ := z
      obtain ⟨q1, q2, q3⟩ := defK_lv (P := P) (w := w) (W := W) hK hcl hob D k ih
      have e1 : (lvW W fns k).nam = W.nam := by cases k <;> rfl
      have e2 : (lvW W fns k).cls = W.cls := by cases k <;> rfl
      refine ⟨fa, fd, ?_, ?_, ?_, q2, q3⟩
      · rw [e1]; exact h1
      · rw [e2]; exact h2
      · rw [e2]; exact h3
    | cls c ps =>
      obtain ⟨fa, fd, h1, h2, D⟩ := z
      obtain ⟨q1, q2, q3⟩ := defK_lv (P := P) (w := w) (W := W) hK hcl hob D k ih
      have e1 : (lvW W fns k).ini = W.ini := by cases k <;> rfl
      refine ⟨fa, fd, h1, h2, q2, ?_⟩
      rw [e1]
      exact q3
    | cst g =>
      have e : ∀ g, (lvW W fns k).glb g = W.glb g := fun g => by cases k <;> rfl
      obtain ⟨u, v, h1, h2, h3⟩ := z
      exact ⟨u, v, h1, h2, fun ω H => by rw [e]; exact h3 ω H⟩
    | exc c => exact z
    | told c ret => exact ⟨z.1, by cases k <;> exact z.2.1, fun j hj => z.2.2 j (by cases k <;> exact hj)⟩
    | blt => exact z
  intro k
  induction k with
  | zero => exact step 0 fun j e => by cases e
  | succ k ih => exact step (k + 1) fun j e => by cases e; exact ih
end Ev
end
section
set_option Elab.async false
set_option linter.all false
set_option autoImplicit false
set_option maxRecDepth 100000
/-! Ev, part Z: reckoning with the meaning by simp: what comes later is not looked at before its time. -/
namespace Ev
open PySem L2

def Tk {α : Type} (_ : α) : Type := Unit
def tk {α : Type} (a : α) : Tk a := ()
def R.bF {α β : Type} (x : R α) (f : α → M → R β) (_ : Tk f) : R β := x.bind f
@[simp] theorem R.bF_ok {α β : Type} (a : α) (m : M) (f : α → M → R β) (t : Tk f) : (R.ok a m).bF f t = f a m := rfl
@[simp] theorem R.bF_exc {α β : Type} (c : Nat) (m : M) (f : α → M → R β) (t : Tk f) : (R.exc c m : R α).bF f t = .exc c m := rfl
@[simp] theorem R.bF_stuck {α β : Type} (f : α → M → R β) (t : Tk f) : (R.stuck : R α).bF f t = .stuck := rfl
def R.oF {α : Type} (x : R α) (g : Ga) (f : α → M → RS) (_ : Tk f) : RS := RS.of x g f
@[simp] theorem R.oF_ok {α : Type} (a : α) (m : M) (g : Ga) (f : α → M → RS) (t : Tk f) : R.oF (.ok a m) g f t = f a m := rfl
@[simp] theorem R.oF_exc {α : Type} (c : Nat) (m : M) (g : Ga) (f : α → M → RS) (t : Tk f) : R.oF (.exc c m : R α) g f t = .exc c g m := rfl
@[simp] theorem R.oF_stuck {α : Type} (g : Ga) (f : α → M → RS) (t : Tk f) : R.oF (.stuck : R α) g f t = .stuck := rfl
def RS.tF (x : RS) (k : Ga → M → RS) (_ : Tk k) : RS := x.then k
@[simp] theorem RS.tF_nx (g : Ga) (m : M) (k : Ga → M → RS) (t : Tk k) : (RS.nx g m).tF k t = k g m := rfl
@[simp] theorem RS.tF_rt (d : D) (m : M) (k : Ga → M → RS) (t : Tk k) : (RS.rt d m).tF k t = .rt d m := rfl
@[simp] theorem RS.tF_exc (c : Nat) (g : Ga) (m : M) (k : Ga → M → RS) (t : Tk k) : (RS.exc c g m).tF k t = .exc c g m := rfl
@[simp] theorem RS.tF_stuck (k : Ga → M → RS) (t : Tk k) : RS.stuck.tF k t = .stuck := rfl
def ifB {β : Type} (d : D) (a b : Unit → β) (z : β) (_ : Tk a) (_ : Tk b) : β := match d with
  | .bool true => a ()
  | .bool false => b ()
  | _ => z
@[simp] theorem ifB_true {β : Type} (a b : Unit → β) (z : β) (s : Tk a) (t : Tk b) : ifB (.bool true) a b z s t = a () := rfl
@[simp] theorem ifB_false {β : Type} (a b : Unit → β) (z : β) (s : Tk a) (t : Tk b) : ifB (.bool false) a b z s t = b () := rfl
def slF (o : Option Slot) (m : M) : R D := match o with
  | some (some (false, d)) => .ok d m
  | _ => .stuck
@[simp] theorem slF_some (d : D) (m : M) : slF (some (some (false, d))) m = .ok d m := rfl
def pkF (o : Option Slot) (m : M) : R D := match o with
  | some (some (_, d)) => .ok d m
  | _ => .stuck
@[simp] theorem pkF_some (b : Bool) (d : D) (m : M) : pkF (some (some (b, d))) m = .ok d m := rfl
def intF {α : Type} (d : D) (f : Int → R α) (_ : Tk f) : R α := match d with
  | .int i => f i
  | _ => .stuck
@[simp] theorem intF_int {α : Type} (i : Int) (f : Int → R α) (t : Tk f) : intF (.int i) f t = f i := rfl
section
variable (W : Wd) (wr : Wr) (g : Ga) (m : M)
@[simp] theorem e_nm (i : Nat) : ev W (.nm i) wr g m = slF g[i]? m := by simp only [ev]; rfl
@[simp] theorem e_pk (i : Nat) : ev W (.pk i) wr g m = pkF g[i]? m := by simp only [ev]; rfl
@[simp] theorem e_cst (d : D) : ev W (.cst d) wr g m = .ok d m := by simp only [ev]
@[simp] theorem e_glb (k : Nat) : ev W (.glb k) wr g m = .ok (W.glb k) m := by simp only [ev]
@[simp] theorem e_bin (o : BOp) (a b : Ex) : ev W (.bin o a b) wr g m = if isB a || isB b then .stuck else (ev W a wr g m).bF (fun x m1 => (ev W b wr g m1).bF (fun y m2 => R.of (semBin o x y) m2) (tk _)) (tk _) := by simp only [ev]; rfl
@[simp] theorem e_neg (a : Ex) : ev W (.neg a) wr g m = (ev W a wr g m).bF (fun x m1 => intF x (fun i => .ok (.int (-i)) m1) (tk _)) (tk _) := by simp only [ev]; rfl
@[simp] theorem e_not (a : Ex) : ev W (.not a) wr g m = (ev W a wr g m).bF (fun x m1 => ifB x (fun _ => .ok (.bool false) m1) (fun _ => .ok (.bool true) m1) .stuck (tk _) (tk _)) (tk _) := by
  simp only [ev]
  cases ev W a wr g m with
  | ok d m1 => cases d <;> first | rfl | (rename_i b; cases b <;> rfl)
  | _ => rfl
@[simp] theorem e_and (a b : Ex) : ev W (.and a b) wr g m = (ev W a wr g m).bF (fun x m1 => ifB x (fun _ => if isB b then .stuck else ev W b wr g m1) (fun _ => .ok (.bool false) m1) .stuck (tk _) (tk _)) (tk _) := by simp only [ev]; rfl
@[simp] theorem e_or (a b : Ex) : ev W (.or a b) wr g m = (ev W a wr g m).bF (fun x m1 => ifB x (fun _ => .ok (.bool true) m1) (fun _ => if isB b then .stuck else ev W b wr g m1) .stuck (tk _) (tk _)) (tk _) := by
  simp only [ev]
  cases ev W a wr g m with
  | ok d m1 => cases d <;> first | rfl | (rename_i b; cases b <;> rfl)
  | _ => rfl
def bT (x : R D) (m : M) (k : D → M → R D) (_ : Tk k) : R D := match x with
  | .ok y _ => k y m
  | .exc c _ => .exc c m
  | .stuck => .stuck
@[simp] theorem bT_ok (d : D) (m m' : M) (k : D → M → R D) (t : Tk k) : bT (.ok d m') m k t = k d m := rfl
@[simp] theorem bT_exc (c : Nat) (m m' : M) (k : D → M → R D) (t : Tk k) : bT (.exc c m') m k t = .exc c m := rfl
@[simp] theorem e_cmp (o : COp) (a b : Ex) : ev W (.cmp o a b) wr g m = (ev W a wr g m).bF (fun x m1 => if isB a then bT (ev W b wr0 g m1) m1 (fun y m2 => R.of ((semCmp o x y).map .bool) m2) (tk _) else (ev W b wr g m1).bF (fun y m2 => R.of ((semCmp o x y).map .bool) m2) (tk _)) (tk _) := by
  simp only [ev, with2]
  rfl
def chF (c : Option Bool) (m : M) (f : Unit → R D) (_ : Tk f) : R D := match c with
  | some true => f ()
  | some false => .ok (.bool false) m
  | none => .stuck
@[simp] theorem chF_true (m : M) (f : Unit → R D) (t : Tk f) : chF (some true) m f t = f () := rfl
@[simp] theorem chF_false (m : M) (f : Unit → R D) (t : Tk f) : chF (some false) m f t = .ok (.bool false) m := rfl
@[simp] theorem e_chn (o o' : COp) (a b c : Ex) : ev W (.chn o o' a b c) wr g m = if isB a || isB b then .stuck else (ev W a wr g m).bF (fun x m1 => (ev W b wr g m1).bF (fun y m2 => chF (semCmp o x y) m2 (fun _ => (ev W c wr g m2).bF (fun z m3 => R.of ((semCmp o' y z).map .bool) m3) (tk _)) (tk _)) (tk _)) (tk _) := by simp only [ev]; rfl
@[simp] theorem e_ite (t a b : Ex) : ev W (.ite t a b) wr g m = if isB a || isB b then .stuck else (ev W t wr g m).bF (fun x m1 => ifB x (fun _ => ev W a wr g m1) (fun _ => ev W b wr g m1) .stuck (tk _) (tk _)) (tk _) := by simp only [ev]; rfl
@[simp] theorem e_tup (es : List Ex) : ev W (.tup es) wr g m = if es.length ≤ 1000 then (evL W es wr g m).bF (fun xs m1 => .ok (.tuple xs) m1) (tk _) else .stuck := by simp only [ev]; rfl
@[simp] theorem e_lst (es : List Ex) : ev W (.lst es) wr g m = if es.length ≤ 1000 then (evL W es wr g m).bF (fun xs m1 => .ok (.list xs) m1) (tk _) else .stuck := by simp only [ev]; rfl
@[simp] theorem e_lstC (es : List Ex) : ev W (.lstC es) wr g m = if es.length ≤ 1000 then (evL W es wr g m).bF (fun xs m1 => .ok (cellD m1.length) (m1 ++ [.lst xs])) (tk _) else .stuck := by simp only [ev]; rfl
@[simp] theorem e_idx (a b : Ex) : ev W (.idx a b) wr g m = if isB b then .stuck else (ev W a wr g m).bF (fun x m1 => if isB a then bT (ev W b wr0 g m1) m1 (fun y m2 => R.of (semIdx m2 x y) m2) (tk _) else (ev W b wr g m1).bF (fun y m2 => R.of (semIdx m2 x y) m2) (tk _)) (tk _) := by
  simp only [ev, with2]
  rfl
@[simp] theorem e_slc (a : Ex) (lo hi : Option Ex) : ev W (.slc a lo hi) wr g m = if isB a then .stuck else (ev W a wr g m).bF (fun x m1 => (evO W lo wr g m1).bF (fun l m2 => (evO W hi wr g m2).bF (fun h m3 => R.of (semSlc x l h) m3) (tk _)) (tk _)) (tk _) := by simp only [ev]; rfl
@[simp] theorem e_call (f : Nat) (es : List Ex) : ev W (.call f es) wr g m = (evL W es wr g m).bF (fun xs m1 => W.call f wr xs m1) (tk _) := by simp only [ev]; rfl
@[simp] theorem e_bi1 (b : Bi) (e : Ex) : ev W (.bi b [e]) wr g m = (ev W e wr g m).bF (fun x m1 => R.of (semBi b [x]) m1) (tk _) := by simp only [ev]; rfl
@[simp] theorem e_bi2 (b : Bi) (e e2 : Ex) : ev W (.bi b [e, e2]) wr g m = (evL W [e, e2] wr g m).bF (fun xs m1 => R.of (semBi b xs) m1) (tk _) := by simp only [ev]; rfl
/-- a comprehension's turn -/
def cmB (W : Wd) (elt : Ex) (tg : Tg) (ifs : List Ex) (wr : Wr) (g : Ga) (x : D) (m : M) : R (Option D) := R.nox (match bindT tg x (wipeG g (tvars tg)) with
  | none => .stuck
  | some g' => (evI W ifs wr g' m).bind fun b m' => if b then (ev W elt wr g' m').bind fun y m'' => .ok (some y) m'' else .ok none m')
theorem e_co (k : Ck) (elt : Ex) (tg : Tg) (src : Src) (ifs : List Ex) : ev W (.co k elt tg src ifs) wr g m = if isB elt then .stuck else (evS W src wr g m).bF (fun xp m1 => runCo k (cmB W elt tg ifs (lockW wr xp.2) g) xp.1 m1) (tk _) := by simp only [ev]; rfl
@[simp] theorem el_nil : evL W [] wr g m = .ok [] m := by simp only [evL]
@[simp] theorem el_cons (e : Ex) (es : List Ex) : evL W (e :: es) wr g m = if isB e then .stuck else (ev W e wr g m).bF (fun x m1 => (evL W es wr g m1).bF (fun xs m2 => .ok (x :: xs) m2) (tk _)) (tk _) := by simp only [evL]; rfl
@[simp] theorem eo_none : evO W none wr g m = .ok none m := by simp only [evO]
@[simp] theorem eo_some (e : Ex) : evO W (some e) wr g m = if isB e then .stuck else (ev W e wr g m).bF (fun d m1 => intF d (fun i => .ok (some i) m1) (tk _)) (tk _) := by simp only [evO]; rfl
@[simp] theorem ei_nil : evI W [] wr g m = .ok true m := by simp only [evI]
@[simp] theorem ei_cons (e : Ex) (es : List Ex) : evI W (e :: es) wr g m = (ev W e wr g m).bF (fun x m1 => ifB x (fun _ => evI W es wr g m1) (fun _ => .ok false m1) .stuck (tk _) (tk _)) (tk _) := by simp only [evI]; rfl
@[simp] theorem es_seq (b : Bs) : evS W (.seq b) wr g m = (evB W b wr g m).bF (fun xp m1 => R.of ((itemsOf xp.1).map fun xs => (xs, xp.2)) m1) (tk _) := by simp only [evS]; rfl
@[simp] theorem es_rng (es : List Ex) : evS W (.rng es) wr g m = (evL W es wr g m).bF (fun xs m1 => R.of ((rngOf xs).map fun ys => (ys, none)) m1) (tk _) := by simp only [evS]; rfl
@[simp] theorem es_enum (b : Bs) : evS W (.enum b) wr g m = (evB W b wr g m).bF (fun xp m1 => R.of ((seqOf xp.1).map fun xs => (enumOf xs, xp.2)) m1) (tk _) := by simp only [evS]; rfl
@[simp] theorem eb_e (e : Ex) : evB W (.e e) wr g m = if isB e then .stuck else (ev W e wr g m).bF (fun x m1 => .ok (x, none) m1) (tk _) := by simp only [evB]; rfl
def bsF (o : Option Slot) (i : Nat) (m : M) : R (D × Option Pl) := match o with
  | some (some (true, .list xs)) => .ok (.list xs, some (.sl i)) m
  | some (some (false, d)) => .ok (d, none) m
  | _ => .stuck
@[simp] theorem bsF_t (xs : List D) (i : Nat) (m : M) : bsF (some (some (true, .list xs))) i m = .ok (.list xs, some (.sl i)) m := rfl
@[simp] theorem bsF_f (d : D) (i : Nat) (m : M) : bsF (some (some (false, d))) i m = .ok (d, none) m := rfl
@[simp] theorem eb_sl (i : Nat) : evB W (.sl i) wr g m = bsF g[i]? i m := by simp only [evB]; rfl

/-! ### instances, methods, what is told -/
def clF {α : Type} (o : Option (Nat × List (Str × Bool × D))) (f : Nat → List (Str × Bool × D) → R α) (_ : Tk f) : R α := match o with
  | some (c, fs) => f c fs
  | none => .stuck
@[simp] theorem clF_some {α : Type} (c : Nat) (fs : List (Str × Bool × D)) (f : Nat → List (Str × Bool × D) → R α) (t : Tk f) : clF (some (c, fs)) f t = f c fs := rfl
def fvF (o : Option (Bool × D)) (m : M) : R D := match o with
  | some (false, d) => .ok d m
  | _ => .stuck
@[simp] theorem fvF_some (d : D) (m : M) : fvF (some (false, d)) m = .ok d m := rfl
@[simp] theorem e_fld (e : Ex) (f : Str) : ev W (.fld e f) wr g m = if isB e then .stuck else (ev W e wr g m).bF (fun x m1 => clF (clsAt m1 x) (fun c fs => if W.has c f then fvF (fs.lookup f) m1 else .stuck) (tk _)) (tk _) := by simp only [ev]; rfl
@[simp] theorem e_met (f : Nat) (o : Ex) (es : List Ex) : ev W (.met f o es) wr g m = if isB o then .stuck else (ev W o wr g m).bF (fun x m1 => clF (clsAt m1 x) (fun c fs => if c = W.cls f ∧ fs.lookup (W.nam f) = none then (evL W es wr g m1).bF (fun xs m2 => W.call f wr (x :: xs) m2) (tk _) else .stuck) (tk _)) (tk _) := by simp only [ev]; rfl
def noF (d : D) (r : R D) : R D := match d with
  | .none => r
  | _ => .stuck
@[simp] theorem noF_none (r : R D) : noF .none r = r := rfl
@[simp] theorem e_new (c : Nat) (es : List Ex) : ev W (.new c es) wr g m = (evL W es wr g m).bF (fun xs m1 => (W.call (W.ini c) wr (cellD m1.length :: xs) (m1 ++ [.ins c []])).bF (fun v m2 => noF v (.ok (cellD m1.length) m2)) (tk _)) (tk _) := by
  simp only [ev]
  rfl
def bTL (x : R (List D)) (m : M) (k : List D → M → R D) (_ : Tk k) : R D := match x with
  | .ok y _ => k y m
  | .exc c _ => .exc c m
  | .stuck => .stuck
@[simp] theorem bTL_ok (d : List D) (m m' : M) (k : List D → M → R D) (t : Tk k) : bTL (.ok d m') m k t = k d m := rfl
@[simp] theorem e_mth (n : Mn) (o : Ex) (es : List Ex) : ev W (.mth n o es) wr g m = (ev W o wr g m).bF (fun x m1 => if mthOk n x then (if isB o then bTL (evL W es wr0 g m1) m1 (fun ys m2 => R.of (semMth n x ys) m2) (tk _) else (evL W es wr g m1).bF (fun ys m2 => R.of (semMth n x ys) m2) (tk _)) else .stuck) (tk _) := by
  simp only [ev, withL]
  rfl
@[simp] theorem e_bs (b : Bi) (src : Src) : ev W (.bs b src) wr g m = (evS W src wr g m).bF (fun r m1 => if r.1.length ≤ 16777216 then R.of (semBi b [.list r.1]) m1 else .stuck) (tk _) := by simp only [ev]; rfl
/-- a dict comprehension's turn -/
def dmB (W : Wd) (k v : Ex) (tg : Tg) (ifs : List Ex) (wr : Wr) (g : Ga) (x : D) (m : M) : R (Option D) := R.nox (match bindT tg x (wipeG g (tvars tg)) with
  | none => .stuck
  | some g' => (evI W ifs wr g' m).bind fun b m' => if b then (ev W k wr g' m').bind fun kd m2 => (ev W v wr g' m2).bind fun vd m3 => .ok (some (.tuple [kd, vd])) m3 else .ok none m')
theorem e_dco (k v : Ex) (tg : Tg) (src : Src) (ifs : List Ex) : ev W (.dco k v tg src ifs) wr g m = if isB k || isB v then .stuck else (evS W src wr g m).bF (fun xp m1 => (turns (dmB W k v tg ifs (lockW wr xp.2) g) xp.1 [] m1).bF (fun ys m2 => R.of ((mkD ys []).map .dict) m2) (tk _)) (tk _) := by simp only [ev]; rfl
def toF (x : R D) (c : Nat) (W : Wd) : R D := match x with
  | .ok d m' => .ok d m'
  | .exc e m' => if W.sub e c then .ok (.str (W.tol c)) m' else .stuck
  | .stuck => .stuck
@[simp] theorem toF_ok (d : D) (m : M) (c : Nat) (W : Wd) : toF (.ok d m) c W = .ok d m := rfl
@[simp] theorem toF_exc (e : Nat) (m : M) (c : Nat) (W : Wd) : toF (.exc e m) c W = if W.sub e c then .ok (.str (W.tol c)) m else .stuck := rfl
@[simp] theorem e_told (f c : Nat) (b : Ex) : ev W (.told f c b) wr g m = if isB b then .stuck else toF (ev W b wr g m) c W := by simp only [ev]; rfl

def eqF (o : Option (Nat × List (Str × Bool × D))) (W : Wd) (x : D) (z : Str) (m : M) : R D := match o with
  | some (c, _) => if W.obj c then .ok (.bool false) m else .stuck
  | none => R.of ((semCmp .eq x (.str z)).map .bool) m
@[simp] theorem eqF_some (c : Nat) (fs : List (Str × Bool × D)) (W : Wd) (x : D) (z : Str) (m : M) : eqF (some (c, fs)) W x z m = if W.obj c then .ok (.bool false) m else .stuck := rfl
@[simp] theorem eqF_none (W : Wd) (x : D) (z : Str) (m : M) : eqF none W x z m = R.of ((semCmp .eq x (.str z)).map .bool) m := rfl
@[simp] theorem e_eqs (e : Ex) (z : Str) : ev W (.eqs e z) wr g m = if isB e then .stuck else (ev W e wr g m).bF (fun x m1 => eqF (clsAt m1 x) W x z m1) (tk _) := by simp only [ev]; rfl

/-! ### statements -/
@[simp] theorem x_nil : execL W [] wr g m = .nx g m := by simp only [execL]
@[simp] theorem x_cons (s : St) (r : List St) : execL W (s :: r) wr g m = (exec W s wr g m).tF (fun g' m' => execL W r wr g' m') (tk _) := by simp only [execL]; rfl
@[simp] theorem x_asg (i : Nat) (e : Ex) : exec W (.asg i e) wr g m = if isB e then .stuck else (ev W e wr g m).oF g (fun d m1 => asgn i false d g m1) (tk _) := by simp only [exec]; rfl
@[simp] theorem x_asgO (i : Nat) (e : Ex) : exec W (.asgO i e) wr g m = (ev W e wr g m).oF g (fun d m1 => asgn i true d g m1) (tk _) := by simp only [exec]; rfl
def gaF (o : Option Ga) (m : M) : RS := match o with
  | some g' => .nx g' m
  | none => .stuck
@[simp] theorem gaF_some (g' : Ga) (m : M) : gaF (some g') m = .nx g' m := rfl
@[simp] theorem x_unp (t : Tg) (e : Ex) : exec W (.unp t e) wr g m = if isB e then .stuck else (ev W e wr g m).oF g (fun d m1 => gaF (bindT t d g) m1) (tk _) := by simp only [exec]; rfl
@[simp] theorem x_par (is : List (Nat × Bool)) (es : List Ex) : exec W (.par is es) wr g m = (evL W es wr g m).oF g (fun ds m1 => asgL is ds g m1) (tk _) := by simp only [exec]; rfl
def setF (i : Nat) (o : Option (List D)) (g : Ga) (m : M) : RS := match o with
  | some xs => .nx (g.set i (some (true, .list xs))) m
  | none => .stuck
@[simp] theorem setF_some (i : Nat) (xs : List D) (g : Ga) (m : M) : setF i (some xs) g m = .nx (g.set i (some (true, .list xs))) m := rfl
def ownF (o : Option Slot) (f : List D → RS) (_ : Tk f) : RS := match o with
  | some (some (true, .list xs)) => f xs
  | _ => .stuck
@[simp] theorem ownF_some (xs : List D) (f : List D → RS) (t : Tk f) : ownF (some (some (true, .list xs))) f t = f xs := rfl
@[simp] theorem x_setiS (i : Nat) (k e : Ex) : exec W (.seti (.sl i) k e) wr g m = if isB e || isB k then .stuck else ownF g[i]? (fun xs => (ev W e wr g m).oF g (fun d m1 => (ev W k wr g m1).oF g (fun kd m2 => setF i (setN xs kd d) g m2) (tk _)) (tk _)) (tk _) := by simp only [exec]; rfl
def celF (od : D) (m : M) (f : Nat → List D → RS) (_ : Tk f) : RS := match asCell od with
  | some r => (match m[r]? with
    | some (.lst xs) => f r xs
    | _ => .stuck)
  | none => .stuck
theorem celF_ok {od : D} {m : M} {r : Nat} {xs : List D} {f : Nat → List D → RS} {t : Tk f} (h1 : asCell od = some r) (h2 : m[r]? = some (.lst xs)) : celF od m f t = f r xs := by
  unfold celF
  rw [h1]
  show (match m[r]? with | some (.lst xs) => f r xs | _ => .stuck) = _
  rw [h2]
def setCF (r : Nat) (o : Option (List D)) (wr : Wr) (g : Ga) (m : M) : RS := match o with
  | some xs' => if wr (.ce r "") then .nx g (m.set r (.lst xs')) else .stuck
  | none => .stuck
@[simp] theorem setCF_some (r : Nat) (xs : List D) (wr : Wr) (g : Ga) (m : M) : setCF r (some xs) wr g m = if wr (.ce r "") then .nx g (m.set r (.lst xs)) else .stuck := rfl
@[simp] theorem x_setiC (o k e : Ex) : exec W (.seti (.cl o) k e) wr g m = if isB e || isB o || isB k then .stuck else (ev W e wr g m).oF g (fun d m1 => (ev W o wr g m1).oF g (fun od m2 => (ev W k wr g m2).oF g (fun kd m3 => celF od m3 (fun r xs => setCF r (setN xs kd d) wr g m3) (tk _)) (tk _)) (tk _)) (tk _) := by simp only [exec]; rfl
def valF (o : Option D) (f : D → RS) (_ : Tk f) : RS := match o with
  | some d => f d
  | none => .stuck
@[simp] theorem valF_some (d : D) (f : D → RS) (t : Tk f) : valF (some d) f t = f d := rfl
def nmS (o : Option Slot) (f : D → RS) (_ : Tk f) : RS := match o with
  | some (some (false, x)) => f x
  | _ => .stuck
@[simp] theorem nmS_some (x : D) (f : D → RS) (t : Tk f) : nmS (some (some (false, x))) f t = f x := rfl
@[simp] theorem x_augn (i : Nat) (o : BOp) (e : Ex) : exec W (.augn i o e) wr g m = if isB e then .stuck else nmS g[i]? (fun x => (ev W e wr g m).oF g (fun d m1 => valF (semAug o x d) (fun v => .nx (g.set i (some (false, v))) m1) (tk _)) (tk _)) (tk _) := by simp only [exec]; rfl
@[simp] theorem x_augiS (i : Nat) (k : Ex) (o : BOp) (e : Ex) : exec W (.augi (.sl i) k o e) wr g m = if isB e || isB k then .stuck else ownF g[i]? (fun xs => (ev W k wr g m).oF g (fun kd m1 => valF (getN xs kd) (fun x => (ev W e wr g m1).oF g (fun d m2 => valF (semAug o x d) (fun v => setF i (setN xs kd v) g m2) (tk _)) (tk _)) (tk _)) (tk _)) (tk _) := by simp only [exec]; rfl
@[simp] theorem x_app (i : Nat) (e : Ex) : exec W (.app (.sl i) e) wr g m = if isB e then .stuck else ownF g[i]? (fun xs => (ev W e wr g m).oF g (fun d m1 => if xs.length < sizeLine then .nx (g.set i (some (true, .list (xs ++ [d])))) m1 else .stuck) (tk _)) (tk _) := by simp only [exec]; rfl
def insF (od : D) (m : M) (f : Nat → Nat → List (Str × Bool × D) → RS) (_ : Tk f) : RS := match asCell od with
  | some r => (match m[r]? with
    | some (.ins c fs) => f r c fs
    | _ => .stuck)
  | none => .stuck
theorem insF_ok {od : D} {m : M} {r c : Nat} {fs : List (Str × Bool × D)} {f : Nat → Nat → List (Str × Bool × D) → RS} {t : Tk f} (h1 : asCell od = some r) (h2 : m[r]? = some (.ins c fs)) : insF od m f t = f r c fs := by
  unfold insF
  rw [h1]
  show (match m[r]? with | some (.ins c fs) => f r c fs | _ => .stuck) = _
  rw [h2]
@[simp] theorem x_setf (o : Ex) (f : Str) (e : Ex) : exec W (.setf o f e) wr g m = if isB e || isB o then .stuck else (ev W e wr g m).oF g (fun d m1 => (ev W o wr g m1).oF g (fun od m2 => insF od m2 (fun r c fs => if W.has c f && wr (.ce r "") && decide (fs.length < 1000) then .nx g (m2.set r (.ins c (putF fs f d))) else .stuck) (tk _)) (tk _)) (tk _) := by simp only [exec]; rfl
@[simp] theorem x_exp (e : Ex) : exec W (.exp e) wr g m = if isB e then .stuck else (ev W e wr g m).oF g (fun _ m1 => .nx g m1) (tk _) := by simp only [exec]; rfl
@[simp] theorem x_ifs (t : Ex) (a b : List St) : exec W (.ifs t a b) wr g m = (ev W t wr g m).oF g (fun d m1 => ifB d (fun _ => execL W a wr g m1) (fun _ => execL W b wr g m1) .stuck (tk _) (tk _)) (tk _) := by simp only [exec]; rfl
/-- a loop's turns -/
def forB (W : Wd) (tg : Tg) (body : List St) (wr : Wr) (xs : List D) (g : Ga) (m : M) : RS := forL tg (fun g m => execL W body wr g m) xs g m
def forS (W : Wd) (tg : Tg) (body : List St) (wr : Wr) (r : List D × Option Pl) (g : Ga) (m : M) : RS := match r.2 with
  | some (.sl _) => .stuck
  | p => forB W tg body (lockW wr p) r.1 g m
@[simp] theorem forS_ce (tg : Tg) (body : List St) (xs : List D) (r : Nat) (f : Str) : forS W tg body wr (xs, some (.ce r f)) g m = forB W tg body (lockW wr (some (.ce r f))) xs g m := rfl
@[simp] theorem forS_none (tg : Tg) (body : List St) (xs : List D) : forS W tg body wr (xs, none) g m = forB W tg body wr xs g m := rfl
@[simp] theorem x_for (tg : Tg) (src : Src) (body : List St) : exec W (.for tg src body) wr g m = (evS W src wr g m).oF g (fun r m1 => forS W tg body wr r g m1) (tk _) := by simp only [exec]; rfl
def whlB (W : Wd) (t : Ex) (body : List St) (wr : Wr) (n : Nat) (g : Ga) (m : M) : RS := whlL (fun g m => ev W t wr g m) (fun g m => execL W body wr g m) n g m
@[simp] theorem x_whl (t : Ex) (body : List St) : exec W (.whl t body) wr g m = whlB W t body wr W.fuel g m := by simp only [exec]; rfl
@[simp] theorem x_ret (e : Ex) : exec W (.ret e) wr g m = if isB e then .stuck else (ev W e wr g m).oF g (fun d m1 => .rt d m1) (tk _) := by simp only [exec]; rfl
@[simp] theorem x_retn : exec W .retn wr g m = .rt .none m := by simp only [exec]
@[simp] theorem x_rai (c : Nat) : exec W (.rai c) wr g m = .exc c g m := by simp only [exec]
@[simp] theorem x_pass : exec W .pass wr g m = .nx g m := by simp only [exec]
def frF (o : Option Slot) (i : Nat) (g : Ga) (m : M) : RS := match o with
  | some (some (true, d)) => .nx (g.set i (some (false, d))) m
  | some (some (false, _)) => .nx g m
  | _ => .stuck
@[simp] theorem frF_t (d : D) (i : Nat) (g : Ga) (m : M) : frF (some (some (true, d))) i g m = .nx (g.set i (some (false, d))) m := rfl
@[simp] theorem frF_f (d : D) (i : Nat) (g : Ga) (m : M) : frF (some (some (false, d))) i g m = .nx g m := rfl
@[simp] theorem x_frz (i : Nat) : exec W (.frz i) wr g m = frF g[i]? i g m := by simp only [exec]; rfl
def bdF (o : Option M) (g : Ga) : RS := match o with
  | some m2 => .nx g m2
  | none => .stuck
@[simp] theorem bdF_some (m2 : M) (g : Ga) : bdF (some m2) g = .nx g m2 := rfl
@[simp] theorem x_bads (i j : Nat) (es : List Ex) (c : Nat) : exec W (.bads i j es c) wr g m = bdF (badsR W c es wr (g.set i none) m) (g.set i none) := by simp only [exec]; rfl
def bdS (x : R D) (c : Nat) (f : M → Option M) (_ : Tk f) (W : Wd) : Option M := match x with
  | .exc k m' => if W.sub k c = true then f m' else none
  | _ => none
@[simp] theorem bdS_exc (k c : Nat) (m' : M) (f : M → Option M) (t : Tk f) (W : Wd) : bdS (.exc k m') c f t W = if W.sub k c = true then f m' else none := rfl
@[simp] theorem badsR_nil (c : Nat) : badsR W c [] wr g m = some m := rfl
@[simp] theorem badsR_cons (c : Nat) (e : Ex) (es : List Ex) : badsR W c (e :: es) wr g m = bdS (ev W e wr g m) c (fun m' => badsR W c es wr g m') (tk _) W := rfl
end
/-- a def's end -/
def endF (r : RS) : R D := match r with
  | .nx _ m' => .ok .none m'
  | .rt d m' => .ok d m'
  | .exc c _ m' => .exc c m'
  | .stuck => .stuck
@[simp] theorem endF_nx (g : Ga) (m : M) : endF (.nx g m) = .ok .none m := rfl
@[simp] theorem endF_rt (d : D) (m : M) : endF (.rt d m) = .ok d m := rfl
@[simp] theorem endF_exc (c : Nat) (g : Ga) (m : M) : endF (.exc c g m) = .exc c m := rfl
theorem sem_eq (W : Wd) (body : List St) (n : Nat) (wr : Wr) (ds : List D) (m : M) : semFn W body n wr ds m = endF (execL W body wr (ga0 n ds) m) := rfl

/-! ### targets, stores -/
@[simp] theorem bindT_nm (i : Nat) (d : D) (g : Ga) : bindT (.nm i) d g = if i < g.length then some (g.set i (some (false, d))) else none := by simp only [bindT]
@[simp] theorem bindT_tup (ts : List Tg) (xs : List D) (g : Ga) : bindT (.tup ts) (.tuple xs) g = bindT.bindTs ts xs g := by simp only [bindT]
@[simp] theorem bindTs_nil (g : Ga) : bindT.bindTs [] [] g = some g := by simp only [bindT.bindTs]
@[simp] theorem bindTs_cons (t : Tg) (ts : List Tg) (x : D) (xs : List D) (g : Ga) : bindT.bindTs (t :: ts) (x :: xs) g = (bindT t x g).bind fun g' => bindT.bindTs ts xs g' := by simp only [bindT.bindTs]
@[simp] theorem tvars_nm (i : Nat) : tvars (.nm i) = [i] := by simp only [tvars]
@[simp] theorem tvars_tup (ts : List Tg) : tvars (.tup ts) = tvars.tvarsL ts := by simp only [tvars]
@[simp] theorem tvarsL_nil : tvars.tvarsL [] = [] := by simp only [tvars.tvarsL]
@[simp] theorem tvarsL_cons (t : Tg) (ts : List Tg) : tvars.tvarsL (t :: ts) = tvars t ++ tvars.tvarsL ts := by simp only [tvars.tvarsL]
@[simp] theorem wipeG_nil (g : Ga) : wipeG g [] = g := rfl
@[simp] theorem wipeG_cons (g : Ga) (v : Nat) (vs : List Nat) : wipeG g (v :: vs) = (wipeG g vs).set v none := rfl
@[simp] theorem asgn_eq (i : Nat) (o : Bool) (d : D) (g : Ga) (m : M) : asgn i o d g m = if i < g.length then .nx (g.set i (some (o, d))) m else .stuck := rfl
@[simp] theorem asgL_nil (g : Ga) (m : M) : asgL [] [] g m = .nx g m := rfl
@[simp] theorem asgL_cons (i : Nat) (b : Bool) (is : List (Nat × Bool)) (d : D) (ds : List D) (g : Ga) (m : M) : asgL ((i, b) :: is) (d :: ds) g m = if i < g.length then asgL is ds (g.set i (some (b, d))) m else .stuck := rfl

/-! ### operators -/
@[simp] theorem sb_add (i j : Int) : semBin .add (.int i) (.int j) = some (.int (i + j)) := rfl
@[simp] theorem sb_sub (i j : Int) : semBin .sub (.int i) (.int j) = some (.int (i - j)) := rfl
@[simp] theorem sb_mul (i j : Int) : semBin .mul (.int i) (.int j) = if mulOk i j then some (.int (i * j)) else none := rfl
@[simp] theorem sb_fdiv (i j : Int) : semBin .fdiv (.int i) (.int j) = if 0 < j ∧ j.natAbs.log2 < 9000 then some (.int (i / j)) else none := rfl
@[simp] theorem sb_mod (i j : Int) : semBin .mod (.int i) (.int j) = if 0 < j then some (.int (i % j)) else none := rfl
@[simp] theorem sb_pow (i j : Int) : semBin .pow (.int i) (.int j) = if 0 ≤ j ∧ j ≤ 1000 ∧ i.natAbs < 2 ^ 64 then some (.int (i ^ j.toNat)) else none := rfl
@[simp] theorem sb_addL (xs ys : List D) : semBin .add (.list xs) (.list ys) = if xs.length + ys.length ≤ sizeLine then some (.list (xs ++ ys)) else none := rfl
theorem sb_mulL (xs : List D) (k : Int) : semBin .mul (.list xs) (.int k) = if k < 2 ^ 63 ∧ -(2 ^ 63) ≤ k ∧ xs.length * k.toNat ≤ sizeLine then some (.list (List.replicate k.toNat xs).flatten) else none := rfl
@[simp] theorem sc_lt (i j : Int) : semCmp .lt (.int i) (.int j) = some (decide (i < j)) := rfl
@[simp] theorem sc_le (i j : Int) : semCmp .le (.int i) (.int j) = some (decide (i ≤ j)) := rfl
@[simp] theorem sc_gt (i j : Int) : semCmp .gt (.int i) (.int j) = some (decide (j < i)) := rfl
@[simp] theorem sc_ge (i j : Int) : semCmp .ge (.int i) (.int j) = some (decide (j ≤ i)) := rfl
theorem shaped_int (i : Int) : SeqAt.shaped (.int i) = true := rfl
theorem eqS_int (i j : Int) : eqS (.int i) (.int j) = some (decide (i = j)) := by
  show some (PyData.eqv (.int i) (.int j)) = _
  simp only [PyData.eqv]
  congr 1
@[simp] theorem sc_eq (i j : Int) : semCmp .eq (.int i) (.int j) = some (decide (i = j)) := eqS_int i j
@[simp] theorem sc_ne (i j : Int) : semCmp .ne (.int i) (.int j) = some (!decide (i = j)) := by
  show (eqS (.int i) (.int j)).map (!·) = _
  rw [eqS_int]
  rfl
theorem eqS_self {d : D} (h : SeqAt.shaped d = true) : eqS d d = some true := by
  unfold eqS
  rw [h, SeqAt.eqv_refl_plain d (PyData.plain_of_canLay0 d (SeqAt.canLay_of_shaped h))]
  rfl
theorem sc_eqS {d : D} (h : SeqAt.shaped d = true) : semCmp .eq d d = some true := by
  show (match COp.eq, d, d with | .eq, x, y => eqS x y | _, _, _ => none) = _
  exact eqS_self h
theorem sc_neS {d : D} (h : SeqAt.shaped d = true) : semCmp .ne d d = some false := by
  show (eqS d d).map (!·) = _
  rw [eqS_self h]
  rfl
@[simp] theorem sa_add (i j : Int) : semAug .add (.int i) (.int j) = some (.int (i + j)) := rfl
@[simp] theorem sa_sub (i j : Int) : semAug .sub (.int i) (.int j) = some (.int (i - j)) := rfl
@[simp] theorem si_tup (m : M) (xs : List D) (i : Int) : semIdx m (.tuple xs) (.int i) = atI xs i := rfl
@[simp] theorem si_lst (m : M) (xs : List D) (i : Int) : semIdx m (.list xs) (.int i) = atI xs i := rfl
@[simp] theorem sbi_lenL (xs : List D) : semBi .len [.list xs] = some (.int xs.length) := rfl
@[simp] theorem sbi_lenT (xs : List D) : semBi .len [.tuple xs] = some (.int xs.length) := rfl
@[simp] theorem sbi_abs (i : Int) : semBi .abs [.int i] = some (.int (if i < 0 then -i else i)) := rfl
@[simp] theorem sbi_max2 (i j : Int) : semBi .max2 [.int i, .int j] = some (.int (dMax i j)) := rfl
@[simp] theorem sbi_min2 (i j : Int) : semBi .min2 [.int i, .int j] = some (.int (dMin i j)) := rfl
@[simp] theorem sbi_tupleL (xs : List D) : semBi .tuple [.list xs] = some (.tuple xs) := rfl
@[simp] theorem sbi_tupleT (xs : List D) : semBi .tuple [.tuple xs] = some (.tuple xs) := rfl
@[simp] theorem sbi_listL (xs : List D) : semBi .list [.list xs] = some (.list xs) := rfl
@[simp] theorem sbi_listT (xs : List D) : semBi .list [.tuple xs] = some (.list xs) := rfl
@[simp] theorem sbi_int (i : Int) : semBi .int [.int i] = some (.int i) := rfl
@[simp] theorem sbi_intB (b : Bool) : semBi .int [.bool b] = some (.int (if b then 1 else 0)) := rfl
@[simp] theorem itemsOf_l (xs : List D) : itemsOf (.list xs) = some xs := rfl
@[simp] theorem seqOf_l (xs : List D) : seqOf (.list xs) = some xs := rfl
@[simp] theorem seqOf_t (xs : List D) : seqOf (.tuple xs) = some xs := rfl
@[simp] theorem itemsOf_t (xs : List D) : itemsOf (.tuple xs) = some xs := rfl
theorem intsOf_mapI (ns : List Int) : intsOf (ns.map .int) = some ns := by
  induction ns with
  | nil => rfl
  | cons n r ih => simp only [List.map_cons, intsOf, ih, Option.map_some]
@[simp] theorem sbi_sumL (ns : List Int) : semBi .sum1 [.list (ns.map .int)] = some (.int ns.sum) := by
  show (intsOf (ns.map .int)).map (fun ns => PyData.int ns.sum) = _
  rw [intsOf_mapI]
  rfl
@[simp] theorem sbi_sumT (ns : List Int) : semBi .sum1 [.tuple (ns.map .int)] = some (.int ns.sum) := by
  show (intsOf (ns.map .int)).map (fun ns => PyData.int ns.sum) = _
  rw [intsOf_mapI]
  rfl
@[simp] theorem asCell_cell (r : Nat) : asCell (cellD r) = some r := rfl
theorem clsAt_cell {m : M} {r c : Nat} {fs : List (Str × Bool × D)} (h : m[r]? = some (.ins c fs)) : clsAt m (cellD r) = some (c, fs) := by
  unfold clsAt
  rw [asCell_cell, Option.bind_some, h]
@[simp] theorem clsAt_new (m : M) (c : Nat) (fs : List (Str × Bool × D)) : clsAt (m ++ [.ins c fs]) (cellD m.length) = some (c, fs) := clsAt_cell (by simp)
@[simp] theorem sc_eqB (a b : Bool) : semCmp .eq (.bool a) (.bool b) = some (a == b) := by
  have h : (SeqAt.shaped (.bool a) && SeqAt.shaped (.bool b)) = true := by cases a <;> cases b <;> rfl
  show eqS (.bool a) (.bool b) = _
  unfold eqS
  rw [if_pos h]
  simp [PyData.eqv]
end Ev
end
section
set_option Elab.async false
set_option linter.all false
set_option autoImplicit false
set_option maxRecDepth 100000
/-! Ev, part ZL: loops by invariants, items typed. -/
namespace Ev
open PySem L2

theorem forB_ind {α : Type} {W : Wd} {tg : Tg} {body : List St} {wr : Wr} (enc : α → D) (I : List α → Ga → M → Prop)
    (step : ∀ a as g m, I (a :: as) g m → ∃ g' g2 m2, bindT tg (enc a) g = some g' ∧ execL W body wr g' m = .nx g2 m2 ∧ I as g2 m2) :
    ∀ as g m, I as g m → ∃ g' m', forB W tg body wr (as.map enc) g m = .nx g' m' ∧ I [] g' m'
  | [], g, m, h => ⟨g, m, rfl, h⟩
  | a :: as, g, m, h => by
    obtain ⟨g', g2, m2, e1, e2, h2⟩ := step a as g m h
    obtain ⟨g3, m3, e3, h3⟩ := forB_ind enc I step as g2 m2 h2
    refine ⟨g3, m3, ?_, h3⟩
    unfold forB at e3 ⊢
    rw [List.map_cons, forL, e1]
    show (execL W body wr g' m).then _ = _
    rw [e2]
    exact e3
theorem whlB_ind {W : Wd} {t : Ex} {body : List St} {wr : Wr} (I : Ga → M → Prop) (Q : Ga → M → Prop) (μ : Ga → M → Nat)
    (step : ∀ g m, I g m → (∃ m1, ev W t wr g m = .ok (.bool false) m1 ∧ Q g m1) ∨ ∃ m1 g2 m2, ev W t wr g m = .ok (.bool true) m1 ∧ execL W body wr g m1 = .nx g2 m2 ∧ I g2 m2 ∧ μ g2 m2 < μ g m) :
    ∀ n g m, I g m → μ g m < n → ∃ g' m', whlB W t body wr n g m = .nx g' m' ∧ Q g' m'
  | 0, g, m, h, hn => absurd hn (Nat.not_lt_zero _)
  | n + 1, g, m, h, hn => by
    unfold whlB
    rw [whlL]
    rcases step g m h with ⟨m1, e1, q⟩ | ⟨m1, g2, m2, e1, e2, h2, hl⟩
    · rw [e1]
      exact ⟨g, m1, rfl, q⟩
    · rw [e1]
      obtain ⟨g3, m3, e3, q⟩ := whlB_ind I Q μ step n g2 m2 h2 (by omega)
      refine ⟨g3, m3, ?_, q⟩
      show (execL W body wr g m1).then _ = _
      rw [e2]
      exact e3
theorem turns_map {α : Type} {body : D → M → R (Option D)} (enc : α → D) (f : α → Option D) {m : M} : ∀ (as : List α) (acc : List D), (∀ a ∈ as, body (enc a) m = .ok (f a) m) → acc.length + as.length ≤ sizeLine →
    turns body (as.map enc) acc m = .ok (acc ++ as.filterMap f) m
  | [], acc, h, hl => by simp [turns]
  | a :: as, acc, h, hl => by
    have e := h a List.mem_cons_self
    rw [List.map_cons, turns, e]
    simp only [R.bind_ok]
    have hl : acc.length + (as.length + 1) ≤ sizeLine := hl
    cases hf : f a with
    | none =>
      simp only
      rw [turns_map enc f as acc (fun b hb => h b (List.mem_cons_of_mem _ hb)) (by omega), List.filterMap_cons, hf]
    | some y =>
      simp only
      rw [if_pos (by omega), turns_map enc f as (acc ++ [y]) (fun b hb => h b (List.mem_cons_of_mem _ hb)) (by rw [List.length_append, List.length_singleton]; omega), List.filterMap_cons, hf]
      simp
section
variable {α : Type} {body : D → M → R (Option D)} {enc : α → D} {m : M}
theorem co_lc {as : List α} (f : α → Option D) (h : ∀ a ∈ as, body (enc a) m = .ok (f a) m) (hl : as.length ≤ sizeLine) : runCo .lc body (as.map enc) m = .ok (.list (as.filterMap f)) m := by
  show (turns body (as.map enc) [] m).bind _ = _
  rw [turns_map enc f as [] h (by simpa using hl)]
  rfl
theorem co_lcS {as : List α} (f : α → D) (h : ∀ a ∈ as, body (enc a) m = .ok (some (f a)) m) (hl : as.length ≤ sizeLine) : runCo .lc body (as.map enc) m = .ok (.list (as.map f)) m := by
  rw [co_lc (fun a => some (f a)) h hl, List.filterMap_eq_map']
theorem co_sum {as : List α} (f : α → Int) (h : ∀ a ∈ as, body (enc a) m = .ok (some (.int (f a))) m) (hl : as.length ≤ sizeLine) : runCo .sum body (as.map enc) m = .ok (.int (as.map f).sum) m := by
  show (turns body (as.map enc) [] m).bind _ = _
  rw [turns_map enc (fun a => some (.int (f a))) as [] h (by simpa using hl)]
  have e : as.filterMap (fun a => some (PyData.int (f a))) = (as.map f).map .int := by
    rw [List.filterMap_eq_map', List.map_map]
    rfl
  show R.of ((intsOf ([] ++ as.filterMap (fun a => some (PyData.int (f a))))).map fun ns => PyData.int ns.sum) m = _
  rw [List.nil_append, e, intsOf_mapI]
  rfl
end
/-! ### what is walked -/
def prD {α : Type} (enc : α → D) (p : Nat × α) : D := .tuple [.int (p.1 : Int), enc p.2]
def nums {α : Type} (n : Nat) : List α → List (Nat × α)
  | [] => []
  | a :: as => (n, a) :: nums (n + 1) as
theorem nums_map {α : Type} (enc : α → D) : ∀ (as : List α) (n : Nat), (nums n as).map (prD enc) = (List.range' n as.length).zipWith (fun (i : Nat) x => .tuple [.int (i : Int), x]) (as.map enc)
  | [], n => rfl
  | a :: as, n => by
    rw [nums, List.map_cons, nums_map enc as (n + 1)]
    rfl
theorem enumOf_map {α : Type} (enc : α → D) (as : List α) : enumOf (as.map enc) = (nums 0 as).map (prD enc) := by
  rw [nums_map]
  unfold enumOf
  rw [List.length_map, List.range_eq_range']
theorem nums_len {α : Type} : ∀ (as : List α) (n : Nat), (nums n as).length = as.length
  | [], n => rfl
  | a :: as, n => by rw [nums, List.length_cons, List.length_cons, nums_len as]
theorem nums_get {α : Type} : ∀ (as : List α) (n i : Nat), (nums n as)[i]? = (as[i]?).map fun a => (n + i, a)
  | [], n, i => by simp [nums]
  | a :: as, n, 0 => by simp [nums]
  | a :: as, n, i + 1 => by
    simp only [nums, List.getElem?_cons_succ, nums_get as (n + 1) i]
    congr 1
    funext a
    congr 1
    omega
theorem nums_mem {α : Type} {as : List α} {n : Nat} {p : Nat × α} (h : p ∈ nums n as) : ∃ i, p.1 = n + i ∧ as[i]? = some p.2 := by
  obtain ⟨i, hi⟩ := List.mem_iff_getElem?.mp h
  rw [nums_get] at hi
  cases e : as[i]? with
  | none => rw [e] at hi; cases hi
  | some a =>
    rw [e] at hi
    cases hi
    exact ⟨i, rfl, e⟩
theorem nums_app {α : Type} : ∀ (as bs : List α) (n : Nat), nums n (as ++ bs) = nums n as ++ nums (n + as.length) bs
  | [], bs, n => by simp [nums]
  | a :: as, bs, n => by
    simp only [List.cons_append, nums, nums_app as bs (n + 1), List.length_cons]
    rw [show n + 1 + as.length = n + (as.length + 1) by omega]
def rngI (i : Int) (n : Nat) : List Int := (List.range n).map fun (k : Nat) => i + (k : Int)
theorem rngOf1 {j : Int} (h : -(2 ^ 62) ≤ j ∧ j < 2 ^ 62) : rngOf [.int j] = some ((rngI 0 j.toNat).map .int) := by
  refine (if_pos h).trans ?_
  rw [rngI, List.map_map]
  rfl
theorem rngOf2 {i j : Int} (h : -(2 ^ 62) ≤ i ∧ i < 2 ^ 62 ∧ -(2 ^ 62) ≤ j ∧ j < 2 ^ 62) : rngOf [.int i, .int j] = some ((rngI i (j - i).toNat).map .int) := by
  refine (if_pos h).trans ?_
  rw [rngI, List.map_map]
  rfl
theorem rngI_len (i : Int) (n : Nat) : (rngI i n).length = n := by simp [rngI]
theorem rngI_mem {i : Int} {n : Nat} {x : Int} : x ∈ rngI i n ↔ i ≤ x ∧ x < i + n := by
  unfold rngI
  rw [List.mem_map]
  constructor
  · rintro ⟨k, hk, rfl⟩
    have := List.mem_range.mp hk
    omega
  · rintro ⟨h1, h2⟩
    exact ⟨(x - i).toNat, List.mem_range.mpr (by omega), by omega⟩
theorem rngI_zero (i : Int) : rngI i 0 = [] := rfl
theorem rngI_succ (i : Int) (n : Nat) : rngI i (n + 1) = i :: rngI (i + 1) n := by
  unfold rngI
  rw [List.range_succ_eq_map, List.map_cons, List.map_map]
  congr 1
  · simp
  · refine List.map_congr_left fun k hk => ?_
    show i + ((k + 1 : Nat) : Int) = i + 1 + (k : Int)
    omega
theorem rngI_get (i : Int) (n k : Nat) (h : k < n) : (rngI i n)[k]? = some (i + k) := by
  unfold rngI
  rw [List.getElem?_map, List.getElem?_range h]
  rfl
/-! ### items -/
theorem ixN_nat {n k : Nat} (h : k < n) : ixN n (k : Int) = some k := by
  unfold ixN
  rw [if_pos (by omega), if_pos (by omega)]
  simp
theorem setN_nat {xs : List D} {k : Nat} {d : D} (h : k < xs.length) : setN xs (.int (k : Int)) d = some (xs.set k d) := by
  show (ixN xs.length (k : Int)).map (fun j => xs.set j d) = _
  rw [ixN_nat h]
  rfl
theorem getN_nat {xs : List D} {k : Nat} {d : D} (h : xs[k]? = some d) : getN xs (.int (k : Int)) = some d := atI_nat h
theorem getN_ints {xs : List Int} {k : Int} {i : Nat} {v : Int} (hk : k = (i : Int)) (h : xs[i]? = some v) : getN (xs.map .int) (.int k) = some (.int v) := by
  subst hk
  exact getN_nat (by rw [List.getElem?_map, h]; rfl)
theorem setN_ints {xs ys : List Int} {k : Int} {i : Nat} {v : Int} (hk : k = (i : Int)) (h : i < xs.length) (e : xs.set i v = ys) : setN (xs.map .int) (.int k) (.int v) = some (ys.map .int) := by
  subst hk e
  rw [setN_nat (by rw [List.length_map]; exact h), List.map_set]
theorem flat_one (n : Nat) (d : D) : (List.replicate n [d]).flatten = List.replicate n d := by
  induction n with
  | zero => rfl
  | succ n ih => rw [List.replicate_succ, List.flatten_cons, ih, List.replicate_succ]; rfl
theorem sb_rep {d : D} {k : Int} {n : Nat} (hk : k = (n : Int)) (h : n ≤ 1000000) : semBin .mul (.list [d]) (.int k) = some (.list (List.replicate n d)) := by
  have hs : 1 * k.toNat ≤ sizeLine := by
    have : (1000000 : Nat) ≤ sizeLine := by decide +kernel
    omega
  rw [sb_mulL, if_pos ⟨by omega, by omega, hs⟩, flat_one]
  congr 3
  omega
theorem mulOk_l {i j : Int} (h : i.natAbs < 2 ^ 64) : mulOk i j = true := by
  unfold mulOk
  rw [decide_eq_true h]
  rfl
theorem mulOk_r {i j : Int} (h : j.natAbs < 2 ^ 64) : mulOk i j = true := by
  unfold mulOk
  rw [decide_eq_true h, Bool.or_true]
  rfl
theorem mulOk_b {i j : Int} {n : Nat} (h1 : i.natAbs < 2 ^ n) (h2 : j.natAbs < 2 ^ n) (h : n ≤ 400000) : mulOk i j = true := by
  have l : ∀ a : Nat, a < 2 ^ n → a.log2 ≤ n := fun a ha => by
    by_cases h0 : a = 0
    · subst h0; simp
    · exact Nat.le_of_lt ((Nat.log2_lt h0).mpr ha)
  unfold mulOk
  rw [decide_eq_true (show i.natAbs.log2 + j.natAbs.log2 < 1000000 by have := l _ h1; have := l _ h2; omega), Bool.or_true]
/-! ### shapes -/
theorem canLay_ints (ns : List Int) : PyData.canLayAll0 (ns.map .int) = true := by
  induction ns with
  | nil => rfl
  | cons n r ih => rw [List.map_cons, PyData.canLayAll0, ih]; rfl
theorem depth_ints (ns : List Int) : PyData.depthAll (ns.map .int) = 0 := by
  induction ns with
  | nil => rfl
  | cons n r ih => rw [List.map_cons, PyData.depthAll, ih]; rfl
theorem shaped_t {xs : List D} {n : Nat} (h1 : PyData.canLayAll0 xs = true) (h2 : PyData.depthAll xs ≤ n) (h : n ≤ 63) : SeqAt.shaped (.tuple xs) = true := by
  unfold SeqAt.shaped
  rw [PyData.canLay0, h1, PyData.depth, decide_eq_true (by omega)]
  rfl
theorem shaped_l {xs : List D} {n : Nat} (h1 : PyData.canLayAll0 xs = true) (h2 : PyData.depthAll xs ≤ n) (h : n ≤ 63) : SeqAt.shaped (.list xs) = true := by
  unfold SeqAt.shaped
  rw [PyData.canLay0, h1, PyData.depth, decide_eq_true (by omega)]
  rfl
theorem shaped_lints (ns : List Int) : SeqAt.shaped (.list (ns.map .int)) = true := shaped_l (canLay_ints ns) (Nat.le_of_eq (depth_ints ns)) (Nat.zero_le _)
theorem shaped_tints (ns : List Int) : SeqAt.shaped (.tuple (ns.map .int)) = true := shaped_t (canLay_ints ns) (Nat.le_of_eq (depth_ints ns)) (Nat.zero_le _)
theorem shaped_int2 (a b : Int) : SeqAt.shaped (.tuple [.int a, .int b]) = true := shaped_tints [a, b]
/-- xs == [] -/
theorem eqS_nil {xs : List D} (h : SeqAt.shaped (.list xs) = true) : eqS (.list xs) (.list []) = some xs.isEmpty := by
  unfold eqS
  rw [h]
  have e : SeqAt.shaped (.list []) = true := by decide
  rw [e]
  cases xs with
  | nil => rfl
  | cons x r => simp [PyData.eqv, PyData.eqvAll]
@[simp] theorem lockW_none (wr : Wr) : lockW wr none = wr := rfl
theorem cmB_eq (W : Wd) (elt : Ex) (tg : Tg) (ifs : List Ex) (wr : Wr) (g g' : Ga) (x : D) (m : M) (h : bindT tg x (wipeG g (tvars tg)) = some g') : cmB W elt tg ifs wr g x m = R.nox ((evI W ifs wr g' m).bF (fun b m' => if b then (ev W elt wr g' m').bF (fun y m'' => .ok (some y) m'') (tk _) else .ok none m') (tk _)) := by
  unfold cmB
  rw [h]
  rfl
@[simp] theorem nox_ok {α : Type} (a : α) (m : M) : R.nox (.ok a m) = .ok a m := rfl
def natD (k : Nat) : D := .int (k : Int)
theorem rngI_nat (a n : Nat) : (rngI (a : Int) n).map PyData.int = (List.range' a n).map natD := by
  unfold rngI
  rw [List.range'_eq_map_range, List.map_map, List.map_map]
  refine List.map_congr_left fun k _ => ?_
  show PyData.int ((a : Int) + (k : Int)) = .int ((a + k : Nat) : Int)
  rw [Int.natCast_add]
theorem rngOf1N {n : Nat} {j : Int} (hj : j = (n : Int)) (h : n ≤ 1000000) : rngOf [.int j] = some ((List.range n).map natD) := by
  subst hj
  rw [rngOf1 (by omega), Int.toNat_natCast, List.range_eq_range']
  congr 1
  exact rngI_nat 0 n
theorem rngOf2N {a b : Nat} {i j : Int} (hi : i = (a : Int)) (hj : j = (b : Int)) (ha : a ≤ 1000000) (h : b ≤ 1000000) : rngOf [.int i, .int j] = some ((List.range' a (b - a)).map natD) := by
  subst hi hj
  rw [rngOf2 (by omega), show ((b : Int) - (a : Int)).toNat = b - a by omega]
  congr 1
  exact rngI_nat a (b - a)
def cutI (ns : List Int) (lo hi : Option Int) : List Int := (ns.drop (HT.sIx ns.length 0 lo)).take (HT.sIx ns.length ns.length hi - HT.sIx ns.length 0 lo)
theorem cut_map (ns : List Int) (lo hi : Option Int) : semSlc.cutV' (ns.map .int) lo hi = (cutI ns lo hi).map .int := by
  unfold semSlc.cutV' cutI
  rw [List.length_map, List.map_take, List.map_drop]
@[simp] theorem slc_t (ns : List Int) (lo hi : Option Int) : semSlc (.tuple (ns.map .int)) lo hi = some (.tuple ((cutI ns lo hi).map .int)) := by
  show some (PyData.tuple (semSlc.cutV' (ns.map .int) lo hi)) = _
  rw [cut_map]
@[simp] theorem slc_l (ns : List Int) (lo hi : Option Int) : semSlc (.list (ns.map .int)) lo hi = some (.list ((cutI ns lo hi).map .int)) := by
  show some (PyData.list (semSlc.cutV' (ns.map .int) lo hi)) = _
  rw [cut_map]
@[simp] theorem atI_0 {α : Type} (a : α) (r : List α) : atI (a :: r) 0 = some a := atI_nat (j := 0) rfl
@[simp] theorem atI_1 {α : Type} (a b : α) (r : List α) : atI (a :: b :: r) 1 = some b := atI_nat (j := 1) rfl
@[simp] theorem atI_2 {α : Type} (a b c : α) (r : List α) : atI (a :: b :: c :: r) 2 = some c := atI_nat (j := 2) rfl
@[simp] theorem atI_3 {α : Type} (a b c d : α) (r : List α) : atI (a :: b :: c :: d :: r) 3 = some d := atI_nat (j := 3) rfl
def fbF (o : Option Ga) (f : Ga → RS) (_ : Tk f) : RS := match o with
  | some g => f g
  | none => .stuck
@[simp] theorem fbF_some (g : Ga) (f : Ga → RS) (t : Tk f) : fbF (some g) f t = f g := rfl
@[simp] theorem forB_nil (W : Wd) (tg : Tg) (body : List St) (wr : Wr) (g : Ga) (m : M) : forB W tg body wr [] g m = .nx g m := rfl
@[simp] theorem forB_cons (W : Wd) (tg : Tg) (body : List St) (wr : Wr) (x : D) (xs : List D) (g : Ga) (m : M) : forB W tg body wr (x :: xs) g m = fbF (bindT tg x g) (fun g' => (execL W body wr g' m).tF (fun g m => forB W tg body wr xs g m) (tk _)) (tk _) := by
  unfold forB
  rw [forL]
  cases bindT tg x g <;> rfl
theorem filterMap_p {α β : Type} (p : α → Prop) [DecidablePred p] (f : α → β) (xs : List α) : xs.filterMap (fun a => if p a then some (f a) else none) = (xs.filter (fun a => decide (p a))).map f := by
  induction xs with
  | nil => rfl
  | cons x xs ih =>
    by_cases h : p x
    · simp [List.filterMap_cons, h, ih]
    · simp [List.filterMap_cons, h, ih]
theorem map_getD (xs : List Int) : (List.range xs.length).map (fun j => (PyData.int (xs.getD j 0))) = xs.map .int := by
  refine List.ext_getElem? fun i => ?_
  rw [List.getElem?_map, List.getElem?_map]
  by_cases h : i < xs.length
  · rw [List.getElem?_range h, List.getElem?_eq_getElem h]
    simp [List.getD, List.getElem?_eq_getElem h]
  · rw [List.getElem?_eq_none (by simpa using h), List.getElem?_eq_none (by omega)]
    rfl
end Ev
end
section
set_option Elab.async false
set_option linter.all false
set_option autoImplicit false
set_option maxRecDepth 100000
/-! Ev, part ZM: strings, zip, any and all, the last item. -/
namespace Ev
open PySem L2

theorem eqS_of {x y : D} (hx : SeqAt.shaped x = true) (hy : SeqAt.shaped y = true) : eqS x y = some (PyData.eqv x y) := by
  unfold eqS
  rw [hx, hy]
  rfl
theorem shaped_str {z : Str} (h : PyData.canLay0 (.str z) = true) : SeqAt.shaped (.str z) = true := by
  unfold SeqAt.shaped
  rw [h]
  rfl
theorem eqv_str (a b : Str) : PyData.eqv (.str a) (.str b) = decide (a = b) := by
  simp only [PyData.eqv]
  by_cases h : a = b
  · subst h; simp
  · simp [h]
theorem sc_eqZ {a b : Str} (ha : PyData.canLay0 (.str a) = true) (hb : PyData.canLay0 (.str b) = true) : semCmp .eq (.str a) (.str b) = some (decide (a = b)) := by
  show eqS (.str a) (.str b) = _
  rw [eqS_of (shaped_str ha) (shaped_str hb), eqv_str]
theorem sc_neZ {a b : Str} (ha : PyData.canLay0 (.str a) = true) (hb : PyData.canLay0 (.str b) = true) : semCmp .ne (.str a) (.str b) = some (!decide (a = b)) := by
  show (eqS (.str a) (.str b)).map (!·) = _
  rw [eqS_of (shaped_str ha) (shaped_str hb), eqv_str]
  rfl
def zipF (x y : D) (m : M) : R (List D × Option Pl) := match x, y with
  | .list xs, .list ys => .ok (xs.zipWith (fun a b => .tuple [a, b]) ys, none) m
  | .tuple xs, .tuple ys => .ok (xs.zipWith (fun a b => .tuple [a, b]) ys, none) m
  | _, _ => .stuck
@[simp] theorem zipF_l (xs ys : List D) (m : M) : zipF (.list xs) (.list ys) m = .ok (xs.zipWith (fun a b => .tuple [a, b]) ys, none) m := rfl
@[simp] theorem zipF_t (xs ys : List D) (m : M) : zipF (.tuple xs) (.tuple ys) m = .ok (xs.zipWith (fun a b => .tuple [a, b]) ys, none) m := rfl
@[simp] theorem es_zip (W : Wd) (wr : Wr) (g : Ga) (m : M) (a b : Ex) : evS W (.zip a b) wr g m = if isB a || isB b then .stuck else (ev W a wr g m).bF (fun x m1 => (ev W b wr g m1).bF (fun y m2 => zipF x y m2) (tk _)) (tk _) := by simp only [evS]; rfl
theorem co_any {α : Type} {body : D → M → R (Option D)} {enc : α → D} {m : M} (f : α → Bool) : ∀ (as : List α), (∀ a ∈ as, body (enc a) m = .ok (some (.bool (f a))) m) → runCo .any body (as.map enc) m = .ok (.bool (as.any f)) m := by
  intro as h
  suffices hh : until' true body (as.map enc) m = .ok (as.any f) m by
    show (until' true body (as.map enc) m).bind _ = _
    rw [hh]
    rfl
  induction as with
  | nil => rfl
  | cons a as ih =>
    rw [List.map_cons, until', h a List.mem_cons_self, List.any_cons]
    simp only [R.bind_ok]
    cases f a with
    | true => rfl
    | false => exact ih fun b hb => h b (List.mem_cons_of_mem _ hb)
theorem co_all {α : Type} {body : D → M → R (Option D)} {enc : α → D} {m : M} (f : α → Bool) : ∀ (as : List α), (∀ a ∈ as, body (enc a) m = .ok (some (.bool (f a))) m) → runCo .all body (as.map enc) m = .ok (.bool (as.all f)) m := by
  intro as h
  suffices hh : until' false body (as.map enc) m = .ok (as.all f) m by
    show (until' false body (as.map enc) m).bind _ = _
    rw [hh]
    rfl
  induction as with
  | nil => rfl
  | cons a as ih =>
    rw [List.map_cons, until', h a List.mem_cons_self, List.all_cons]
    simp only [R.bind_ok]
    cases f a with
    | false => rfl
    | true => exact ih fun b hb => h b (List.mem_cons_of_mem _ hb)
theorem cut_tail (xs : List D) : semSlc.cutV' xs (some 1) none = xs.tail := by
  unfold semSlc.cutV'
  cases xs with
  | nil => simp
  | cons x xs =>
    have : HT.sIx (x :: xs).length 0 (some 1) = 1 := by
      show (if (1 : Int) < 0 then ((1 : Int) + ((x :: xs).length : Int)).toNat else min (1 : Int).toNat (x :: xs).length) = 1
      simp
    rw [this, HT.sIx_none]
    simp
theorem cut_init (xs : List D) : semSlc.cutV' xs none (some (-1)) = xs.dropLast := by
  unfold semSlc.cutV'
  have : HT.sIx xs.length xs.length (some (-1)) = xs.length - 1 := by
    show (if (-1 : Int) < 0 then (-1 + (xs.length : Int)).toNat else min (-1 : Int).toNat xs.length) = _
    rw [if_pos (by decide)]
    omega
  rw [this, HT.sIx_none, List.drop_zero, Nat.sub_zero, List.dropLast_eq_take]
@[simp] theorem slc_tailL (xs : List D) : semSlc (.list xs) (some 1) none = some (.list xs.tail) := by rw [← cut_tail]; rfl
@[simp] theorem slc_initL (xs : List D) : semSlc (.list xs) none (some (-1)) = some (.list xs.dropLast) := by rw [← cut_init]; rfl
theorem ixN_last (n : Nat) : ixN (n + 1) (-1) = some n := by
  unfold ixN
  rw [if_neg (by decide), if_pos (by omega)]
  congr 1
  try omega
theorem atI_last {α : Type} (xs : List α) (a : α) : atI (xs ++ [a]) (-1) = some a := by
  unfold atI
  rw [List.length_append, List.length_singleton, ixN_last]
  simp
theorem setN_last (xs : List D) (a b : D) : setN (xs ++ [a]) (.int (-1)) b = some (xs ++ [b]) := by
  show (ixN (xs ++ [a]).length (-1)).map (fun j => (xs ++ [a]).set j b) = _
  have : ixN (xs ++ [a]).length (-1) = some xs.length := by
    rw [List.length_append, List.length_singleton, ixN_last]
  rw [this]
  simp
theorem canLay_map {α : Type} {enc : α → D} : ∀ {as : List α}, (∀ a ∈ as, PyData.canLay0 (enc a) = true) → PyData.canLayAll0 (as.map enc) = true
  | [], _ => rfl
  | a :: as, h => by
    rw [List.map_cons, PyData.canLayAll0, h a List.mem_cons_self, canLay_map fun b hb => h b (List.mem_cons_of_mem _ hb)]
    rfl
theorem depth_map {α : Type} {enc : α → D} {n : Nat} : ∀ {as : List α}, (∀ a ∈ as, PyData.depth (enc a) ≤ n) → PyData.depthAll (as.map enc) ≤ n
  | [], _ => Nat.zero_le _
  | a :: as, h => by
    rw [List.map_cons, PyData.depthAll]
    have h1 := h a List.mem_cons_self
    have h2 := depth_map fun b hb => h b (List.mem_cons_of_mem _ hb)
    omega
end Ev
end
section
set_option Elab.async false
set_option linter.all false
set_option autoImplicit false
set_option maxRecDepth 100000
/-! Ev, part Head: from the head's facts to what the levels want. -/
namespace Ev
open PySem PySem.Spec PyProof.Rows L2

section
variable {K : PySem.W.Frag} {mg : Str → Option Value} {base h : Heap} {w : World} {fa : List He.Fa} {fn : List He.DefD} {tf : List He.Defn} {ex : PySem.W.Frag → Bool} {F : Fx} {W : Wd} {G : List (Str × Gb)} {fns : Nat → List St × Nat}
theorem code_of {x qual : Str} {params : Arguments} {body : List Stmt} {scope : Scope} {dvs : List V} {kws : List (Str × V)} {p : He.Defn} {fd : FuncData} (Fd : FunD K x qual params body scope dvs kws (He.fAd K p) fd) : fd.code = .ref (He.codeOf K p) := by
  obtain ⟨oc, od, dV, kV, doc, pm, an, cdv, ct, osl, rfl, lk, hcd, _, _⟩ := Fd.ex
  obtain ⟨c, rfl⟩ := He.codeIn_ref hcd
  rw [He.codeOf_eq lk rfl]
/-- tables apart: those of generator expressions, those of lambdas -/
abbrev tabs (K : PySem.W.Frag) (l : List He.Defn) : List Addr := l.map fun p => (He.cT K p).2
abbrev lamN (q : Str) (scope : Scope) : Str := (envOfC q scope 0 0 .none).qual ++ "<lambda>"
structure Fits (F : Fx) (K : PySem.W.Frag) (tg : List He.Defn) (tl : List (He.Defn × Str)) : Prop where
  htg : F.TG = tabs K tg
  htl : F.TL = tl.map fun p => ((He.cT K p.1).2, p.2)
  nd : (tabs K (tg ++ tl.map (·.1))).Nodup
theorem nodup_sep {α β : Type} {f : α → β} : ∀ {l l' : List α}, ((l ++ l').map f).Nodup → ∀ a ∈ l, ∀ b ∈ l', f a ≠ f b
  | [], l', _, a, ha, _, _ => by cases ha
  | c :: l, l', h, a, ha, b, hb => by
    simp only [List.cons_append, List.map_cons, List.nodup_cons] at h
    rcases List.mem_cons.mp ha with rfl | ha
    · exact fun e => h.1 (by rw [e]; exact List.mem_map.mpr ⟨b, List.mem_append_right _ hb, rfl⟩)
    · exact nodup_sep h.2 a ha b hb
theorem nodup_inj {α β : Type} {f : α → β} : ∀ {l : List α}, (l.map f).Nodup → ∀ a ∈ l, ∀ b ∈ l, f a = f b → a = b
  | [], _, a, ha, _, _, _ => by cases ha
  | c :: l, h, a, ha, b, hb, e => by
    simp only [List.map_cons, List.nodup_cons] at h
    rcases List.mem_cons.mp ha with ha | ha
    · subst ha
      rcases List.mem_cons.mp hb with hb | hb
      · exact hb.symm
      · exact absurd (List.mem_map.mpr ⟨b, hb, e.symm⟩) h.1
    · rcases List.mem_cons.mp hb with hb | hb
      · rw [hb] at e
        exact (h.1 (List.mem_map.mpr ⟨a, ha, e⟩)).elim
      · exact nodup_inj h.2 a ha b hb e
variable {tg : List He.Defn} {tl : List (He.Defn × Str)}
theorem tabOf_of {x qual : Str} {params : Arguments} {body : List Stmt} {scope : Scope} {dvs : List V} {kws : List (Str × V)} {p : He.Defn} {fd : FuncData} (Fd : FunD K x qual params body scope dvs kws (He.fAd K p) fd) (Z : Fits F K tg tl) (hp : p ∈ tg) (TB : LamX.TabB base mg (He.cT K p).1 (He.cT K p).2) : TabOf F mg base fd := by
  refine ⟨_, (He.cT K p).2, code_of Fd, ⟨TB.code, TB.bm, TB.gP⟩, by rw [Z.htg]; exact List.mem_map.mpr ⟨p, hp, rfl⟩, fun q hq => ?_⟩
  rw [Z.htl] at hq
  obtain ⟨r, hr, rfl⟩ := List.mem_map.mp hq
  exact fun e => nodup_sep (f := fun p => (He.cT K p).2) Z.nd p hp r.1 (List.mem_map.mpr ⟨r, hr, rfl⟩) e.symm
theorem tabL_of {x qual : Str} {params : Arguments} {body : List Stmt} {scope : Scope} {dvs : List V} {kws : List (Str × V)} {p : He.Defn} {fd : FuncData} (Fd : FunD K x qual params body scope dvs kws (He.fAd K p) fd) (Z : Fits F K tg tl) (hp : (p, lamN qual scope) ∈ tl) (h1 : ∀ r ∈ tl, r.1 = p → r.2 = lamN qual scope) (TB : LamX.TabB base mg (He.cT K p).1 (He.cT K p).2) : TabL F mg base qual scope fd := by
  refine ⟨_, (He.cT K p).2, code_of Fd, TB, fun hq => ?_, by rw [Z.htl]; exact List.mem_map.mpr ⟨_, hp, rfl⟩, fun q hq e => ?_⟩
  · rw [Z.htg] at hq
    obtain ⟨r, hr, e⟩ := List.mem_map.mp hq
    exact nodup_sep (f := fun p => (He.cT K p).2) Z.nd r hr p (List.mem_map.mpr ⟨_, hp, rfl⟩) e
  · rw [Z.htl] at hq
    obtain ⟨r, hr, rfl⟩ := List.mem_map.mp hq
    have nd2 : ((tl.map (·.1)).map fun p => (He.cT K p).2).Nodup := by
      have : ((tg ++ tl.map (·.1)).map fun p => (He.cT K p).2).Nodup := Z.nd
      rw [List.map_append, List.nodup_append] at this
      exact this.2.1
    exact h1 r hr (nodup_inj nd2 r.1 (List.mem_map.mpr ⟨r, hr, rfl⟩) p (List.mem_map.mpr ⟨_, hp, rfl⟩) e)
/-- a def of the table -/
theorem defK_of (c : He.SaysD fa fn K) {d : He.DefD} {f : Nat} {ps N : List Str} {gd ld : Bool} (hd : d ∈ fn) (h0 : d.dfl = [] ∧ d.kwd = []) (hm : mSts ⟨N, d.scope, fun _ => true, G, gd, ld⟩ (fns f).1 d.body = true) (hs : C8.scC N ps d.scope = true) (hn : ps.length ≤ N.length) (hN : (fns f).2 = N.length)
    (hb : ∀ (kV doc pm : Value) (an : Option Addr) (cdv ct : Value) (us : List Value), us.length = ps.length → bindArgs (PySem.W.fnOf d.name d.qual d.params d.body d.scope .none kV doc pm an cdv ct) ⟨us, []⟩ = pure (ps.zip us))
    (Z : Fits F K tg tl) (hgd : gd = true → d.at_ ∈ tg) (hld : ld = true → (d.at_, lamN d.qual d.scope) ∈ tl ∧ ∀ r ∈ tl, r.1 = d.at_ → r.2 = lamN d.qual d.scope) (TB : ∀ p ∈ tg ++ tl.map (·.1), LamX.TabB base mg (He.cT K p).1 (He.cT K p).2) : ∃ fd, DefK K mg base F G fns f ps (He.fAd K d.at_) fd := by
  obtain ⟨fd, Fd⟩ := c.defs hd
  have e1 : d.dvs K = [] := by unfold He.DefD.dvs; rw [h0.1]; rfl
  have e2 : d.kws K = [] := by unfold He.DefD.kws; rw [h0.2]; rfl
  rw [e1, e2] at Fd
  exact ⟨fd, d.name, d.qual, d.params, d.body, d.scope, N, gd, ld, fun z => tabOf_of Fd Z (hgd z) (TB _ (List.mem_append_left _ (hgd z))), fun z => tabL_of Fd Z (hld z).1 (hld z).2 (TB _ (List.mem_append_right _ (List.mem_map.mpr ⟨_, (hld z).1, rfl⟩))), Fd, C8.fnScope_by hs, hn, hm, hN, Fd.bindsN hb⟩
theorem good_fn (c : He.SaysD fa fn K) (KX : K.In h) (Gh : h.Ns mainGlobals mg) {P : Program} {x : Str} {f : Nat} {ps : List Str} {p : He.Defn} (hat : p = (x, none)) (hg : He.Fa.glo x ∈ fa) (D : ∃ fd, DefK K mg base F G fns f ps (He.fAd K p) fd) : Good P w K mg base F W G fns x (.fn f ps) := by
  obtain ⟨fd, D⟩ := D
  subst hat
  exact ⟨_, fd, He.glo_ok KX Gh (c.facts hg), D⟩
theorem good_mt (c : He.SaysD fa fn K) {P : Program} {C m : Str} {f : Nat} {ps : List Str} {p : He.Defn} (hat : p = (C, some m)) (hn : W.nam f = m) (hc : F.ca (W.cls f) = He.ga K C) (h1 : He.Fa.cls C ∈ fa) (h2 : He.Fa.meth C m ∈ fa) (D : ∃ fd, DefK K mg base F G fns f ps (He.fAd K p) fd) : Good P w K mg base F W G fns m (.mt f ps) := by
  obtain ⟨fd, D⟩ := D
  subst hat
  refine ⟨_, fd, hn, ?_, ?_, D⟩
  · rw [hc]; exact He.cls_ok (c.facts h1)
  · rw [hc]; exact He.meth_ok (c.facts h2)
theorem good_cls (c : He.SaysD fa fn K) (KX : K.In h) (Gh : h.Ns mainGlobals mg) {P : Program} {C : Str} {i f : Nat} {ps : List Str} {p : He.Defn} (hat : p = (C, some ("__init__" : Str))) (hi : W.ini i = f) (hc : F.ca i = He.ga K C) (h1 : He.Fa.glo C ∈ fa) (h2 : He.Fa.mkr C ∈ fa) (D : ∃ fd, DefK K mg base F G fns f ps (He.fAd K p) fd) : Good P w K mg base F W G fns C (.cls i ps) := by
  obtain ⟨fd, D⟩ := D
  subst hat
  refine ⟨_, fd, ?_, ?_, by rw [hi]; exact D⟩
  · rw [hc]; exact He.glo_ok KX Gh (c.facts h1)
  · rw [hc]; exact He.mkr_ok (c.facts h2)
/-! constants of the module -/
mutual
def valB (K : PySem.W.Frag) : D → Value → Bool
  | .none, .none => true
  | .bool a, .bool b => a == b
  | .int i, .int j _ => decide (i = j)
  | .str x, .str y _ => decide (x = y)
  | .tuple ds, .ref a => (match K.lookup a with
    | some ⟨.type "tuple", _, .seq its _, _⟩ => decide (its.size ≤ sizeLine) && valsB K ds its.toList
    | _ => false)
  | _, _ => false
def valsB (K : PySem.W.Frag) : List D → List Value → Bool
  | [], [] => true
  | d :: ds, u :: us => valB K d u && valsB K ds us
  | _, _ => false
end
mutual
theorem valB_ok (hF : F.K = K) : ∀ (d : D) (u : Value), valB K d u = true → ∃ v, RelV v u ∧ ∀ ω H, Rep F ω H d v
  | .none, u, h => by
    cases u <;> first | (simp [valB] at h; done) | skip
    exact ⟨.non, rfl, fun _ _ => rfl⟩
  | .bool a, u, h => by
    cases u <;> first | (simp [valB] at h; done) | skip
    rename_i b
    have e : a = b := by simpa [valB] using h
    subst e
    exact ⟨.bl a, rfl, fun _ _ => rfl⟩
  | .int i, u, h => by
    cases u <;> first | (simp [valB] at h; done) | skip
    rename_i j t
    have e : i = j := by simpa [valB] using h
    subst e
    exact ⟨.int i, ⟨_, rfl⟩, fun _ _ => rfl⟩
  | .str x, u, h => by
    cases u <;> first | (simp [valB] at h; done) | skip
    rename_i y t
    have e : x = y := by simpa [valB] using h
    subst e
    exact ⟨.str x, ⟨_, rfl⟩, fun _ _ => rfl⟩
  | .tuple ds, u, h => by
    cases u <;> first | (simp [valB] at h; done) | skip
    rename_i a
    simp only [valB] at h
    split at h
    · rename_i od its n sl e
      simp only [Bool.and_eq_true, decide_eq_true_eq] at h
      obtain ⟨vs, r, q⟩ := valsB_ok hF ds its.toList h.2
      exact ⟨.ref a, rfl, fun ω H => ⟨a, vs, rfl, .inr ⟨_, its, n, by rw [hF]; exact e, rfl, rfl, h.1, r⟩, q ω H⟩⟩
    · cases h
  | .list _, u, h => by cases u <;> simp [valB] at h
  | .dict _, u, h => by cases u <;> simp [valB] at h
theorem valsB_ok (hF : F.K = K) : ∀ (ds : List D) (us : List Value), valsB K ds us = true → ∃ vs, Vals vs us ∧ ∀ ω H, Reps F ω H ds vs
  | [], [], _ => ⟨[], .nil, fun _ _ => rfl⟩
  | d :: ds, u :: us, h => by
    rw [valsB, Bool.and_eq_true] at h
    obtain ⟨v, r, q⟩ := valB_ok hF d u h.1
    obtain ⟨vs, rs, qs⟩ := valsB_ok hF ds us h.2
    exact ⟨v :: vs, .cons r rs, fun ω H => ⟨v, vs, rfl, q ω H, qs ω H⟩⟩
  | [], _ :: _, h => by simp [valsB] at h
  | _ :: _, [], h => by simp [valsB] at h
end
def objB (K : PySem.W.Frag) (x : Str) : Bool := decide (PySem.W.mroIn K (He.ga K x) (.type "object") = some true) && decide (PySem.W.findIn K (.ref (He.ga K x)) "__eq__" = some (some (.builtin "object.__eq__")))
theorem obj_ok {x : Str} (h : objB K x = true) : EqObj K (He.ga K x) := by
  unfold objB at h
  rw [Bool.and_eq_true, decide_eq_true_eq, decide_eq_true_eq] at h
  exact h
def glbB (K : PySem.W.Frag) (x : Str) (d : D) : Bool := match PySem.W.nsIn K mainGlobals x with
  | some (some u) => valB K d u
  | _ => false
theorem glb_gb (KX : K.In h) (Gh : h.Ns mainGlobals mg) (hF : F.K = K) {P : Program} {x : Str} {d : D} {g k : Nat} (hg : W.glb g = d) (hb : glbB K x d = true) : GbOk P w K mg base F W k x (.cst g) := by
  unfold glbB at hb
  split at hb
  · rename_i u e
    obtain ⟨v, r, q⟩ := valB_ok hF d u hb
    exact ⟨u, v, PySem.W.mg_of KX Gh e, r, fun ω H => by rw [hg]; exact q ω H⟩
  · cases hb
theorem exc_gb (c : He.SaysD fa fn K) (KX : K.In h) (Gh : h.Ns mainGlobals mg) {P : Program} {x : Str} {i : Nat} {k : Nat} (hx : F.xa i = He.ga K x) (h1 : He.Fa.glo x ∈ fa) (h2 : He.Fa.exc x ∈ fa) : GbOk P w K mg base F W k x (.exc i) := by
  obtain ⟨q1, q2, q3, q4⟩ := He.exc_ok (c.facts h2)
  refine ⟨_, _, _, _, PySem.F.excBase_ValueError, ?_, ?_, ?_, ?_, ?_⟩
  · rw [hx]; exact q1
  · rw [hx]; exact He.glo_ok KX Gh (c.facts h1)
  · rw [hx]; exact q2
  · rw [hx]; exact q3
  · rw [hx]; exact q4
theorem int_gb (c : He.SaysD fa fn K) (KX : K.In h) (Gh : h.Ns mainGlobals mg) {P : Program} {x : Str} {i : Int} {g k : Nat} (hg : W.glb g = .int i) (h1 : He.Fa.int x i ∈ fa) : GbOk P w K mg base F W k x (.cst g) := by
  obtain ⟨t, e⟩ := He.int_ok KX Gh (c.facts h1)
  exact ⟨_, .int i, e, ⟨t, rfl⟩, fun ω H => by rw [hg]; rfl⟩
theorem free_gb (c : He.SaysD fa fn K) (KX : K.In h) (Gh : h.Ns mainGlobals mg) {P : Program} {x : Str} {k : Nat} (h1 : He.Fa.free x ∈ fa) : GbOk P w K mg base F W k x .blt := He.free_ok KX Gh (c.facts h1)
theorem told_gb (c : He.SaysD fa fn K) (KX : K.In h) (Gh : h.Ns mainGlobals mg) {P : Program} {d : He.DefD} {e ret : Str} {i j k : Nat} {p1 p2 p3 p4 p5 p6 p7 p8 : Pos} (hd : d ∈ fn) (hat : d.at_ = (d.name, none)) (hq : d.qual = d.name) (h0 : d.dfl = [] ∧ d.kwd = []) (hg : He.Fa.glo d.name ∈ fa) (hx : F.xa i = He.ga K e) (he : He.Fa.glo e ∈ fa)
    (hbody : d.body = [.Try [.Return (some (.Call (.Name "what" p1) [] [] p2)) p3] [.ExceptHandler (some (.Name e p4)) none [.Return (some (.Constant (.str ret) j p5)) p6] p7] [] [] p8])
    (hs : C8.scC ["what"] ["what"] d.scope = true) (hv : d.scope.names.lookup ("what" : Str) = some .local) (hge : d.scope.names.lookup e = some .globalImplicit) (hdb : (e == ("__debug__" : Str)) = false)
    (hb : ∀ (kV doc pm : Value) (an : Option Addr) (cdv ct : Value) (us : List Value), us.length = 1 → bindArgs (PySem.W.fnOf d.name d.name d.params d.body d.scope .none kV doc pm an cdv ct) ⟨us, []⟩ = pure ((["what"] : List Str).zip us))
    (hret : W.tol i = ret) (hsub : ∀ l, W.sub l i = true → PySem.W.exmOne K (.ref (F.xa l)) (.ref (F.xa i)) = some true) : GbOk P w K mg base F W k d.name (.told i ret) := by
  obtain ⟨fd, Fd⟩ := c.defs hd
  have e1 : d.dvs K = [] := by unfold He.DefD.dvs; rw [h0.1]; rfl
  have e2 : d.kws K = [] := by unfold He.DefD.kws; rw [h0.2]; rfl
  rw [e1, e2, hq] at Fd
  have B := Fd.bindsN (ps := ["what"]) hb
  have g := He.glo_ok KX Gh (c.facts hg)
  have ge := He.glo_ok KX Gh (c.facts he)
  have ea : He.fAd K d.at_ = He.ga K d.name := by rw [hat]; rfl
  rw [ea] at Fd
  obtain ⟨oc, od, dV, kV, doc, pm, an, cdv, ct, osl, rfl, lk, hcd, _, _⟩ := Fd.ex
  refine ⟨⟨_, d.params, d.body, d.scope, dV, kV, doc, pm, cdv, ct, oc, an, od, osl, ["what"], "what", e, j, p1, p2, p3, p4, p5, p6, p7, p8, g, Fd.kp, lk, hcd, B, C8.fnScope_by hs, rfl, .inl hv, hbody, hge, by rw [hx]; exact ge, hdb, by decide, by decide, fun f => rfl⟩, hret, hsub⟩
end
/-- the end: the law's def, at the head's heap -/
theorem law_at {l : PySem.W.OpenLaw} {w : World} {K : PySem.W.Frag} {mg : Str → Option Value} {h : Heap} {F : Fx} {fa : List He.Fa} {fn : List He.DefD} {tf : List He.Defn} {ex : PySem.W.Frag → Bool} {k n : Nat} {a : Addr} {W : Wd} {tg : List He.Defn} {tl : List (He.Defn × Str)} {wr : Wr} {d : He.DefD} {G : List (Str × Gb)} {N : List Str} {gd ld : Bool} {sb : List St}
    (c : He.SaysX fa fn [] tf ex w h K) (KX : K.In h) (Gh : h.Ns mainGlobals mg) (hF : F.K = K) (Z : Fits F K tg tl) (htf : tf = tg ++ tl.map (·.1)) (hd : d ∈ fn) (hat : d.at_ = (d.name, none)) (hq : d.qual = d.name) (h0 : d.dfl = [] ∧ d.kwd = []) (hg : He.Fa.glo d.name ∈ fa) (ha : mg d.name = some (.ref a))
    (hb : ∀ (kV doc pm : Value) (an : Option Addr) (cdv ct : Value) (us : List Value), us.length = 1 → bindArgs (PySem.W.fnOf d.name d.name d.params d.body d.scope .none kV doc pm an cdv ct) ⟨us, []⟩ = pure ((["script"] : List Str).zip us))
    (hm : mSts ⟨N, d.scope, fun _ => true, G, gd, ld⟩ sb d.body = true) (hs : C8.scC N ["script"] d.scope = true) (hn : 1 ≤ N.length) (hgd : gd = true → d.at_ ∈ tg) (hld : ld = true → (d.at_, lamN d.name d.scope) ∈ tl ∧ ∀ r ∈ tl, r.1 = d.at_ → r.2 = lamN d.name d.scope)
    (sem : ∀ ns : List Int, ns.length ≤ n → (∀ z ∈ ns, Builtin.Int.intBits z ≤ 1048576) → ∃ m', semFn W sb N.length wr [scrD ns] [] = .ok (.bool true) m')
    (lv : ∀ base : Heap, K.In base → base.Ns mainGlobals mg → (∀ p ∈ tg ++ tl.map (·.1), LamX.TabB base mg (He.cT K p).1 (He.cT K p).2) → ∀ x gb, (x, gb) ∈ G → GbOk l.prog w K mg base F W k x gb) (hcl : ∀ c f, W.has c f = true → Cls K (F.ca c) ∧ NoAttr K (F.ca c) f) (hob : ∀ c, W.obj c = true → EqObj K (F.ca c)) :
    LamX.LawAtS l w K (L2.CX l.prog w) (k + 4) n "script" mg a h := by
  obtain ⟨fd, Fd⟩ := c.t.d.defs hd
  have e1 : d.dvs K = [] := by unfold He.DefD.dvs; rw [h0.1]; rfl
  have e2 : d.kws K = [] := by unfold He.DefD.kws; rw [h0.2]; rfl
  rw [e1, e2, hq] at Fd
  have ea : He.fAd K d.at_ = He.ga K d.name := by rw [hat]; rfl
  rw [ea] at Fd
  have g := He.glo_ok KX Gh (c.t.d.facts hg)
  have eg : He.ga K d.name = a := by
    rw [ha] at g
    cases g
    rfl
  rw [eg] at Fd
  have B := fun s u => FunD.bindsA (ps := ["script"]) Fd hb s [u] rfl
  refine ⟨fd, (tg ++ tl.map (·.1)).map (He.cT K), spOf F 1 (semFn W sb N.length), fun p hp => ?_, fun p hp => ?_, fun p hp => ?_, B, fun H b ns hl hbits hT hS => ?_, fun base hK hN hTB => ?_⟩
  · obtain ⟨q, hq2, rfl⟩ := List.mem_map.mp hp
    exact c.empty q (by rw [htf]; exact hq2)
  · obtain ⟨q, hq2, rfl⟩ := List.mem_map.mp hp
    exact c.out q (by rw [htf]; exact hq2)
  · obtain ⟨q, hq2, rfl⟩ := List.mem_map.mp hp
    exact PySem.W.codeHd_of_K KX (c.hd q (by rw [htf]; exact hq2))
  · obtain ⟨m', e⟩ := sem ns hl hbits
    have tb : ∀ q ∈ tg ++ tl.map (·.1), H (He.cT K q).2 = some (.tbl #[]) := fun q hq2 => hT _ (List.mem_map.mpr ⟨q, hq2, rfl⟩)
    refine ⟨rfl, ⟨fun _ => False, fun _ _ => 0, fun _ => 0, 0⟩, [], wr, [scrD ns], ⟨rfl, fun r c z => by simp at z, fun r f r' f' z => by obtain ⟨z, _⟩ := z; simp at z, fun r f z => by obtain ⟨z, _⟩ := z; simp at z, fun r c fs z => by simp at z⟩, ⟨fun P hP => ?_, fun p hp => ?_⟩, ⟨.ref b, [], rfl, ?_, rfl⟩, ?_⟩
    · rw [Z.htg] at hP
      obtain ⟨q, hq2, rfl⟩ := List.mem_map.mp hP
      exact ⟨#[], tb q (List.mem_append_left _ hq2), True.intro⟩
    · rw [Z.htl] at hp
      obtain ⟨q, hq2, rfl⟩ := List.mem_map.mp hp
      exact LamX.TabS.nil (tb q.1 (List.mem_append_right _ (List.mem_map.mpr ⟨q, hq2, rfl⟩)))
    · refine .inr (.inl ⟨b, ns, rfl, rfl, ?_⟩)
      rw [← hF] at hS
      rcases hS with hS | hS
      · exact .inl ⟨hS, fun z => z⟩
      · exact .inr hS
    · rw [e]
      intro ω' v H' p r
      rcases r with r | ⟨z, _⟩
      · exact r
      · cases z
  · have TB := fun p (hp : p ∈ tg ++ tl.map (·.1)) => hTB _ (List.mem_map.mpr ⟨p, hp, rfl⟩)
    have Fd2 : FunD K d.name d.name d.params d.body d.scope [] [] (He.fAd K d.at_) fd := by rw [ea, eg]; exact Fd
    exact def_ok Fd (C8.fnScope_by hs) hn (fun z => tabOf_of Fd2 Z (hgd z) (TB _ (List.mem_append_left _ (hgd z)))) (fun z => tabL_of Fd2 Z (hld z).1 (hld z).2 (TB _ (List.mem_append_right _ (List.mem_map.mpr ⟨_, (hld z).1, rfl⟩)))) hm hF.symm (lv base hK hN TB) hcl hob
end Ev
end
section
set_option Elab.async false
set_option linter.all false
set_option autoImplicit false
set_option maxRecDepth 100000
/-! the texts of k01_days_and_stays, by wip/gen.py -/
namespace Ev.T_k01
open PySem L2 C8

def top (i : Nat) : Stmt := PySem.Challenge.pw_hotelstack_k01_days_and_stays.main.body.getD i (.Pass ⟨0, 0, 0, 0⟩)
def topm (i j : Nat) : Stmt := match top i with
  | .ClassDef _ _ _ b _ _ _ _ _ _ _ => b.getD j (.Pass ⟨0, 0, 0, 0⟩)
  | s => s
def G : List (Str × Gb) := (("check_stay", .fn 0 ["first", "last"]) :: ("nights", .fn 1 ["first", "last"]) :: ("week_day", .fn 2 ["day"]) :: ("meet", .fn 3 ["one", "other"]) :: ("fullest", .fn 4 ["stays"]) :: ("gaps", .fn 5 ["stays", "first", "last"]) :: ("_law_dice", .fn 10 ["cell"]) :: ("_law_roll", .fn 11 ["dice", "many"]) :: ("_law_rounds", .fn 12 ["script", "most"]) :: ("_law_told", .told 1 "DayError") :: ("_law_stay", .fn 14 ["dice"]) :: ("_law_good", .fn 15 ["stay"]) :: ("_law_plain", .fn 16 []) :: ("law", .fn 17 ["script"]) :: ("Seasons", .cls 0 ["self", "rows"]) :: ("season", .mt 7 ["self", "day"]) :: ("parts", .mt 8 ["self", "first", "last"]) :: ("count", .mt 9 ["self", "name", "first", "last"]) :: ("WEEK", .cst 0) :: ("HotelError", .exc 0) :: ("DayError", .exc 1) :: ("abs", .blt) :: ("any", .blt) :: ("dict", .blt) :: ("int", .blt) :: ("len", .blt) :: ("list", .blt) :: ("max", .blt) :: ("min", .blt) :: ("range", .blt) :: ("sorted", .blt) :: ("sum", .blt) :: ("tuple", .blt) :: ("zip", .blt) :: [])
def N_check_stay : List Str := ["first", "last"]
def b_check_stay : List St := [.ifs (.or (.cmp .lt (.nm 0) (.cst (.int 0))) (.cmp .le (.nm 1) (.nm 0))) [.rai 1] []]
theorem m_check_stay : mSts ⟨N_check_stay, defScope (top 5), fun _ => true, G, false, false⟩ b_check_stay (defBody (top 5)) = true := by decide +kernel
theorem s_check_stay : scC N_check_stay ["first", "last"] (defScope (top 5)) = true := by decide +kernel
def N_nights : List Str := ["first", "last"]
def b_nights : List St := [.exp (.call 0 [.nm 0, .nm 1]), .ret (.bs .tuple (.rng [.nm 0, .nm 1]))]
theorem m_nights : mSts ⟨N_nights, defScope (top 6), fun _ => true, G, false, false⟩ b_nights (defBody (top 6)) = true := by decide +kernel
theorem s_nights : scC N_nights ["first", "last"] (defScope (top 6)) = true := by decide +kernel
def N_week_day : List Str := ["day"]
def b_week_day : List St := [.ifs (.cmp .lt (.nm 0) (.cst (.int 0))) [.rai 1] [], .ret (.idx (.glb 0) (.bin .mod (.nm 0) (.cst (.int 7))))]
theorem m_week_day : mSts ⟨N_week_day, defScope (top 7), fun _ => true, G, false, false⟩ b_week_day (defBody (top 7)) = true := by decide +kernel
theorem s_week_day : scC N_week_day ["day"] (defScope (top 7)) = true := by decide +kernel
def N_meet : List Str := ["one", "other"]
def b_meet : List St := [.exp (.call 0 [.idx (.nm 0) (.cst (.int 0)), .idx (.nm 0) (.cst (.int 1))]), .exp (.call 0 [.idx (.nm 1) (.cst (.int 0)), .idx (.nm 1) (.cst (.int 1))]), .ret (.bi .max2 [.cst (.int 0), .bin .sub (.bi .min2 [.idx (.nm 0) (.cst (.int 1)), .idx (.nm 1) (.cst (.int 1))]) (.bi .max2 [.idx (.nm 0) (.cst (.int 0)), .idx (.nm 1) (.cst (.int 0))])])]
theorem m_meet : mSts ⟨N_meet, defScope (top 8), fun _ => true, G, false, false⟩ b_meet (defBody (top 8)) = true := by decide +kernel
theorem s_meet : scC N_meet ["one", "other"] (defScope (top 8)) = true := by decide +kernel
def N_fullest : List Str := ["stays", "best", "night", "first", "last", "many"]
def b_fullest : List St := [.for (.tup [.nm 3, .nm 4]) (.seq (.e (.nm 0))) [.exp (.call 0 [.nm 3, .nm 4])], .asg 1 (.tup [.cst (.int 0), .cst .none]), .for (.nm 2) (.seq (.e (.bs .sorted (.seq (.e (.dco (.nm 3) (.cst (.bool true)) (.tup [.nm 3, .nm 4]) (.seq (.e (.nm 0))) [])))))) [.asg 5 (.bi .len [.co .lc (.cst (.int 1)) (.tup [.nm 3, .nm 4]) (.seq (.e (.nm 0))) [.chn .le .lt (.nm 3) (.nm 2) (.nm 4)]]), .asg 1 (.ite (.cmp .gt (.nm 5) (.idx (.nm 1) (.cst (.int 0)))) (.tup [.nm 5, .nm 2]) (.nm 1))], .ret (.nm 1)]
theorem m_fullest : mSts ⟨N_fullest, defScope (top 9), fun _ => true, G, false, false⟩ b_fullest (defBody (top 9)) = true := by decide +kernel
theorem s_fullest : scC N_fullest ["stays"] (defScope (top 9)) = true := by decide +kernel
def N_gaps : List Str := ["stays", "first", "last", "found", "here", "one", "other"]
def b_gaps : List St := [.exp (.call 0 [.nm 1, .nm 2]), .par [(3, true), (4, false)] [.lst [], .nm 1], .for (.tup [.nm 5, .nm 6]) (.seq (.e (.bi .sorted [.nm 0]))) [.exp (.call 0 [.nm 5, .nm 6]), .ifs (.and (.cmp .gt (.nm 5) (.nm 4)) (.cmp .lt (.nm 4) (.nm 2))) [.app (.sl 3) (.tup [.nm 4, .bi .min2 [.nm 5, .nm 2]])] [], .asg 4 (.bi .max2 [.nm 4, .nm 6])], .ifs (.cmp .lt (.nm 4) (.nm 2)) [.app (.sl 3) (.tup [.nm 4, .nm 2])] [], .ret (.bi .tuple [.pk 3])]
theorem m_gaps : mSts ⟨N_gaps, defScope (top 10), fun _ => true, G, false, false⟩ b_gaps (defBody (top 10)) = true := by decide +kernel
theorem s_gaps : scC N_gaps ["stays", "first", "last"] (defScope (top 10)) = true := by decide +kernel
def N_Seasons_init : List Str := ["self", "rows", "order", "row", "first", "last", "name", "one", "other"]
def b_Seasons_init : List St := [.asg 2 (.co .sorted (.bi .tuple [.nm 3]) (.nm 3) (.seq (.e (.nm 1))) []), .ifs (.co .any (.or (.cmp .lt (.nm 4) (.cst (.int 0))) (.or (.cmp .lt (.nm 5) (.nm 4)) (.cmp .eq (.nm 6) (.cst (.str ""))))) (.tup [.nm 4, .nm 5, .nm 6]) (.seq (.e (.nm 2))) []) [.rai 1] [], .ifs (.co .any (.cmp .ge (.idx (.nm 7) (.cst (.int 1))) (.idx (.nm 8) (.cst (.int 0)))) (.tup [.nm 7, .nm 8]) (.zip (.nm 2) (.slc (.nm 2) (some (.cst (.int 1))) none)) []) [.rai 1] [], .setf (.nm 0) "rows" (.bi .tuple [.nm 2])]
theorem m_Seasons_init : mSts ⟨N_Seasons_init, defScope (topm 11 0), fun _ => true, G, true, false⟩ b_Seasons_init (defBody (topm 11 0)) = true := by decide +kernel
theorem s_Seasons_init : scC N_Seasons_init ["self", "rows"] (defScope (topm 11 0)) = true := by decide +kernel
def N_Seasons_season : List Str := ["self", "day", "first", "last", "name"]
def b_Seasons_season : List St := [.ifs (.cmp .lt (.nm 1) (.cst (.int 0))) [.rai 1] [], .for (.tup [.nm 2, .nm 3, .nm 4]) (.seq (.e (.fld (.nm 0) "rows"))) [.ifs (.chn .le .le (.nm 2) (.nm 1) (.nm 3)) [.ret (.nm 4)] []], .ret (.cst (.str "plain"))]
theorem m_Seasons_season : mSts ⟨N_Seasons_season, defScope (topm 11 1), fun _ => true, G, false, false⟩ b_Seasons_season (defBody (topm 11 1)) = true := by decide +kernel
theorem s_Seasons_season : scC N_Seasons_season ["self", "day"] (defScope (topm 11 1)) = true := by decide +kernel
def N_Seasons_parts : List Str := ["self", "first", "last", "found", "night", "name"]
def b_Seasons_parts : List St := [.asgO 3 (.lst []), .for (.nm 4) (.seq (.e (.call 1 [.nm 1, .nm 2]))) [.asg 5 (.met 7 (.nm 0) [.nm 4]), .ifs (.and (.cmp .ne (.pk 3) (.lst [])) (.cmp .eq (.idx (.idx (.pk 3) (.neg (.cst (.int 1)))) (.cst (.int 0))) (.nm 5))) [.seti (.sl 3) (.neg (.cst (.int 1))) (.tup [.nm 5, .bin .add (.idx (.idx (.pk 3) (.neg (.cst (.int 1)))) (.cst (.int 1))) (.cst (.int 1))])] [.app (.sl 3) (.tup [.nm 5, .cst (.int 1)])]], .ret (.bi .tuple [.pk 3])]
theorem m_Seasons_parts : mSts ⟨N_Seasons_parts, defScope (topm 11 2), fun _ => true, G, false, false⟩ b_Seasons_parts (defBody (topm 11 2)) = true := by decide +kernel
theorem s_Seasons_parts : scC N_Seasons_parts ["self", "first", "last"] (defScope (topm 11 2)) = true := by decide +kernel
def N_Seasons_count : List Str := ["self", "name", "first", "last", "one", "many"]
def b_Seasons_count : List St := [.ret (.co .sum (.nm 5) (.tup [.nm 4, .nm 5]) (.seq (.e (.met 8 (.nm 0) [.nm 2, .nm 3]))) [.cmp .eq (.nm 4) (.nm 1)])]
theorem m_Seasons_count : mSts ⟨N_Seasons_count, defScope (topm 11 3), fun _ => true, G, true, false⟩ b_Seasons_count (defBody (topm 11 3)) = true := by decide +kernel
theorem s_Seasons_count : scC N_Seasons_count ["self", "name", "first", "last"] (defScope (topm 11 3)) = true := by decide +kernel
def N_law_dice : List Str := ["cell"]
def b_law_dice : List St := [.ifs (.chn .lt .lt (.bin .sub (.cst (.int 0)) (.cst (.int 10))) (.nm 0) (.cst (.int 10))) [.ret (.lstC [.bi .abs [.nm 0], .cst (.int 0), .cst (.int 2)])] [], .ret (.lstC [.nm 0, .bin .add (.cst (.int 1)) (.bin .mod (.bi .int [.nm 0]) (.cst (.int 1009))), .bi .int [.cmp .ge (.nm 0) (.bin .pow (.cst (.int 10)) (.cst (.int 18)))]])]
theorem m_law_dice : mSts ⟨N_law_dice, defScope (top 13), fun _ => true, G, false, false⟩ b_law_dice (defBody (top 13)) = true := by decide +kernel
theorem s_law_dice : scC N_law_dice ["cell"] (defScope (top 13)) = true := by decide +kernel
def N_law_roll : List Str := ["dice", "many", "found"]
def b_law_roll : List St := [.ifs (.or (.cmp .eq (.idx (.nm 0) (.cst (.int 2))) (.cst (.int 2))) (.and (.cmp .eq (.idx (.nm 0) (.cst (.int 2))) (.cst (.int 1))) (.cmp .gt (.idx (.nm 0) (.cst (.int 0))) (.cst (.int 0))))) [.asg 2 (.bin .mod (.bi .int [.idx (.nm 0) (.cst (.int 0))]) (.nm 1)), .seti (.cl (.nm 0)) (.cst (.int 0)) (.bin .fdiv (.idx (.nm 0) (.cst (.int 0))) (.nm 1)), .ret (.nm 2)] [], .seti (.cl (.nm 0)) (.cst (.int 2)) (.cst (.int 0)), .ifs (.cmp .gt (.nm 1) (.cst (.int 100000000))) [.ret (.bin .mod (.bi .int [.bin .add (.bin .mul (.call 11 [.nm 0, .bin .add (.bin .fdiv (.nm 1) (.cst (.int 100000000))) (.cst (.int 1))]) (.cst (.int 100000000))) (.call 11 [.nm 0, .cst (.int 100000000)])]) (.nm 1))] [], .seti (.cl (.nm 0)) (.cst (.int 0)) (.bin .mod (.bi .int [.bin .add (.bin .add (.bin .mul (.idx (.nm 0) (.cst (.int 0))) (.cst (.int 48271))) (.bin .mul (.idx (.nm 0) (.cst (.int 1))) (.cst (.int 69621)))) (.cst (.int 11))]) (.cst (.int 2147483647))), .seti (.cl (.nm 0)) (.cst (.int 1)) (.bin .add (.idx (.nm 0) (.cst (.int 1))) (.cst (.int 1))), .ret (.bin .mod (.bi .int [.bin .fdiv (.idx (.nm 0) (.cst (.int 0))) (.cst (.int 7))]) (.nm 1))]
theorem m_law_roll : mSts ⟨N_law_roll, defScope (top 14), fun _ => true, G, false, false⟩ b_law_roll (defBody (top 14)) = true := by decide +kernel
theorem s_law_roll : scC N_law_roll ["dice", "many"] (defScope (top 14)) = true := by decide +kernel
def N_law_rounds : List Str := ["script", "most", "cells", "cell"]
def b_law_rounds : List St := [.asg 2 (.slc (.nm 0) none (some (.nm 1))), .ifs (.cmp .eq (.nm 2) (.lst [])) [.asg 2 (.lst [.cst (.int 0)])] [], .ret (.co .lc (.call 10 [.nm 3]) (.nm 3) (.seq (.e (.nm 2))) [])]
theorem m_law_rounds : mSts ⟨N_law_rounds, defScope (top 15), fun _ => true, G, false, false⟩ b_law_rounds (defBody (top 15)) = true := by decide +kernel
theorem s_law_rounds : scC N_law_rounds ["script", "most"] (defScope (top 15)) = true := by decide +kernel
def N_law_stay : List Str := ["dice", "first"]
def b_law_stay : List St := [.asg 1 (.bin .sub (.call 11 [.nm 0, .cst (.int 20)]) (.bi .int [.cmp .eq (.call 11 [.nm 0, .cst (.int 12)]) (.cst (.int 0))])), .ret (.tup [.nm 1, .bin .add (.nm 1) (.call 11 [.nm 0, .cst (.int 9)])])]
theorem m_law_stay : mSts ⟨N_law_stay, defScope (top 17), fun _ => true, G, false, false⟩ b_law_stay (defBody (top 17)) = true := by decide +kernel
theorem s_law_stay : scC N_law_stay ["dice"] (defScope (top 17)) = true := by decide +kernel
def N_law_good : List Str := ["stay"]
def b_law_good : List St := [.ret (.chn .le .lt (.cst (.int 0)) (.idx (.nm 0) (.cst (.int 0))) (.idx (.nm 0) (.cst (.int 1))))]
theorem m_law_good : mSts ⟨N_law_good, defScope (top 18), fun _ => true, G, false, false⟩ b_law_good (defBody (top 18)) = true := by decide +kernel
theorem s_law_good : scC N_law_good ["stay"] (defScope (top 18)) = true := by decide +kernel
def N_law_plain : List Str := ["seasons", "bad", "f", "day"]
def b_law_plain : List St := [.asg 0 (.new 0 [.lst [.tup [.cst (.int 10), .cst (.int 19), .cst (.str "high")]]]), .bads 1 2 [.call 0 [.neg (.cst (.int 1)), .cst (.int 1)], .call 0 [.cst (.int 2), .cst (.int 2)], .call 1 [.cst (.int 3), .cst (.int 2)], .call 2 [.neg (.cst (.int 1))], .call 3 [.tup [.cst (.int 1), .cst (.int 1)], .tup [.cst (.int 1), .cst (.int 2)]], .call 3 [.tup [.cst (.int 1), .cst (.int 2)], .tup [.cst (.int 2), .cst (.int 1)]], .call 4 [.lst [.tup [.cst (.int 1), .cst (.int 1)]]], .call 5 [.lst [.tup [.cst (.int 1), .cst (.int 1)]], .cst (.int 0), .cst (.int 5)], .call 5 [.lst [], .cst (.int 5), .cst (.int 5)], .new 0 [.lst [.tup [.neg (.cst (.int 1)), .cst (.int 2), .cst (.str "a")]]], .new 0 [.lst [.tup [.cst (.int 2), .cst (.int 1), .cst (.str "a")]]], .new 0 [.lst [.tup [.cst (.int 1), .cst (.int 2), .cst (.str "")]]], .new 0 [.lst [.tup [.cst (.int 1), .cst (.int 2), .cst (.str "a")], .tup [.cst (.int 2), .cst (.int 3), .cst (.str "b")]]], .met 7 (.nm 0) [.neg (.cst (.int 1))], .met 8 (.nm 0) [.cst (.int 3), .cst (.int 3)], .met 9 (.nm 0) [.cst (.str "a"), .cst (.int 3), .cst (.int 3)]] 1, .ifs (.cmp .ne (.glb 0) (.tup [.cst (.str "mo"), .cst (.str "tu"), .cst (.str "we"), .cst (.str "th"), .cst (.str "fr"), .cst (.str "sa"), .cst (.str "su")])) [.ret (.cst (.bool false))] [], .ifs (.or (.cmp .ne (.call 2 [.cst (.int 9)]) (.cst (.str "we"))) (.or (.cmp .ne (.call 1 [.cst (.int 3), .cst (.int 6)]) (.tup [.cst (.int 3), .cst (.int 4), .cst (.int 5)])) (.cmp .ne (.call 3 [.tup [.cst (.int 1), .cst (.int 5)], .tup [.cst (.int 3), .cst (.int 9)]]) (.cst (.int 2))))) [.ret (.cst (.bool false))] [], .ifs (.not (.and (.cmp .eq (.call 4 [.lst [.tup [.cst (.int 1), .cst (.int 5)], .tup [.cst (.int 3), .cst (.int 9)], .tup [.cst (.int 4), .cst (.int 6)]]]) (.tup [.cst (.int 3), .cst (.int 4)])) (.cmp .eq (.call 4 [.lst []]) (.tup [.cst (.int 0), .cst .none])))) [.ret (.cst (.bool false))] [], .ret (.and (.cmp .eq (.call 5 [.lst [.tup [.cst (.int 2), .cst (.int 4)], .tup [.cst (.int 3), .cst (.int 6)]], .cst (.int 1), .cst (.int 8)]) (.tup [.tup [.cst (.int 1), .cst (.int 2)], .tup [.cst (.int 6), .cst (.int 8)]])) (.and (.cmp .eq (.met 8 (.nm 0) [.cst (.int 8), .cst (.int 12)]) (.tup [.tup [.cst (.str "plain"), .cst (.int 2)], .tup [.cst (.str "high"), .cst (.int 2)]])) (.and (.cmp .eq (.met 9 (.nm 0) [.cst (.str "high"), .cst (.int 8), .cst (.int 12)]) (.cst (.int 2))) (.cmp .eq (.co .lc (.call 2 [.nm 3]) (.nm 3) (.rng [.cst (.int 7)]) []) (.bi .list [.glb 0])))))]
theorem m_law_plain : mSts ⟨N_law_plain, defScope (top 19), fun _ => true, G, false, true⟩ b_law_plain (defBody (top 19)) = true := by decide +kernel
theorem s_law_plain : scC N_law_plain [] (defScope (top 19)) = true := by decide +kernel
def N_law : List Str := ("script" :: "dice" :: "stays" :: "good" :: "stay" :: "counts" :: "due" :: "shared" :: "night" :: "lines" :: "days" :: "sound" :: "one" :: "other" :: "window" :: "free" :: "rows" :: "first" :: "last" :: "name" :: "seasons" :: "names" :: "day" :: "k" :: "parts" :: [])
def b_law : List St := [.for (.nm 1) (.seq (.e (.call 12 [.nm 0, .cst (.int 1)]))) [.asg 2 (.co .lc (.call 14 [.nm 1]) (.nm 23) (.rng [.call 11 [.nm 1, .cst (.int 7)]]) []), .asg 3 (.cmp .eq (.co .lc (.cst (.int 1)) (.nm 4) (.seq (.e (.nm 2))) [.not (.call 15 [.nm 4])]) (.lst [])), .for (.nm 4) (.seq (.e (.nm 2))) [.ifs (.or (.cmp .ne (.told 0 1 (.call 1 [.idx (.nm 4) (.cst (.int 0)), .idx (.nm 4) (.cst (.int 1))])) (.ite (.call 15 [.nm 4]) (.bs .tuple (.rng [.idx (.nm 4) (.cst (.int 0)), .idx (.nm 4) (.cst (.int 1))])) (.cst (.str "DayError")))) (.cmp .eq (.eqs (.told 0 1 (.call 0 [.idx (.nm 4) (.cst (.int 0)), .idx (.nm 4) (.cst (.int 1))])) "DayError") (.call 15 [.nm 4]))) [.ret (.cst (.bool false))] []], .asg 5 (.co .lc (.bi .len [.co .lc (.cst (.int 1)) (.tup [.nm 17, .nm 18]) (.seq (.e (.nm 2))) [.chn .le .lt (.nm 17) (.nm 8) (.nm 18)]]) (.nm 8) (.rng [.cst (.int 40)]) []), .asg 6 (.ite (.nm 3) (.tup [.bi .max1 [.nm 5], .ite (.cmp .ne (.nm 2) (.lst [])) (.mth .index (.nm 5) [.bi .max1 [.nm 5]]) (.cst .none)]) (.cst (.str "DayError"))), .ifs (.cmp .ne (.told 0 1 (.call 4 [.nm 2])) (.nm 6)) [.ret (.cst (.bool false))] [], .unp (.tup [.nm 12, .nm 13, .nm 14]) (.tup [.call 14 [.nm 1], .call 14 [.nm 1], .call 14 [.nm 1]]), .asg 7 (.bi .len [.co .lc (.nm 8) (.nm 8) (.rng [.idx (.nm 12) (.cst (.int 0)), .idx (.nm 12) (.cst (.int 1))]) [.chn .le .lt (.idx (.nm 13) (.cst (.int 0))) (.nm 8) (.idx (.nm 13) (.cst (.int 1)))]]), .ifs (.cmp .ne (.told 0 1 (.call 3 [.nm 12, .nm 13])) (.ite (.and (.call 15 [.nm 12]) (.call 15 [.nm 13])) (.nm 7) (.cst (.str "DayError")))) [.ret (.cst (.bool false))] [], .par [(15, false), (16, false)] [.co .lc (.nm 8) (.nm 8) (.rng [.idx (.nm 14) (.cst (.int 0)), .idx (.nm 14) (.cst (.int 1))]) [.cmp .eq (.co .lc (.cst (.int 1)) (.tup [.nm 17, .nm 18]) (.seq (.e (.nm 2))) [.chn .le .lt (.nm 17) (.nm 8) (.nm 18)]) (.lst [])], .lst []], .for (.nm 8) (.seq (.e (.nm 15))) [.asg 16 (.ite (.and (.cmp .ne (.nm 16) (.lst [])) (.cmp .eq (.idx (.idx (.nm 16) (.neg (.cst (.int 1)))) (.cst (.int 1))) (.nm 8))) (.bin .add (.slc (.nm 16) none (some (.neg (.cst (.int 1))))) (.lst [.tup [.idx (.idx (.nm 16) (.neg (.cst (.int 1)))) (.cst (.int 0)), .bin .add (.nm 8) (.cst (.int 1))]])) (.bin .add (.nm 16) (.lst [.tup [.nm 8, .bin .add (.nm 8) (.cst (.int 1))]])))], .ifs (.cmp .ne (.told 0 1 (.bi .list [.call 5 [.nm 2, .idx (.nm 14) (.cst (.int 0)), .idx (.nm 14) (.cst (.int 1))]])) (.ite (.and (.nm 3) (.call 15 [.nm 14])) (.nm 16) (.cst (.str "DayError")))) [.ret (.cst (.bool false))] [], .asg 9 (.co .lc (.tup [.nm 17, .bin .sub (.bin .add (.nm 17) (.call 11 [.nm 1, .cst (.int 5)])) (.bin .mul (.bi .int [.cmp .eq (.call 11 [.nm 1, .cst (.int 9)]) (.cst (.int 0))]) (.cst (.int 6))), .idx (.lst [.cst (.str "high"), .cst (.str "low"), .cst (.str "")]) (.bin .fdiv (.call 11 [.nm 1, .cst (.int 12)]) (.cst (.int 5)))]) (.nm 17) (.seq (.e (.co .lc (.call 11 [.nm 1, .cst (.int 30)]) (.nm 23) (.rng [.call 11 [.nm 1, .cst (.int 4)]]) []))) []), .asg 10 (.lst []), .for (.tup [.nm 17, .nm 18, .nm 19]) (.seq (.e (.nm 9))) [.asg 10 (.bin .add (.nm 10) (.bs .list (.rng [.nm 17, .bin .add (.nm 18) (.cst (.int 1))])))], .asg 11 (.and (.cmp .eq (.co .lc (.cst (.int 1)) (.tup [.nm 17, .nm 18, .nm 19]) (.seq (.e (.nm 9))) [.or (.cmp .lt (.nm 18) (.nm 17)) (.cmp .eq (.nm 19) (.cst (.str "")))]) (.lst [])) (.cmp .eq (.bi .len [.bi .dict [.co .lc (.tup [.nm 22, .cst (.int 1)]) (.nm 22) (.seq (.e (.nm 10))) []]]) (.bi .len [.nm 10]))), .ifs (.cmp .eq (.eqs (.told 0 1 (.new 0 [.nm 9])) "DayError") (.nm 11)) [.ret (.cst (.bool false))] [], .ifs (.nm 11) [.asg 20 (.new 0 [.nm 9]), .asg 21 (.co .lc (.idx (.bin .add (.co .lc (.nm 19) (.tup [.nm 17, .nm 18, .nm 19]) (.seq (.e (.nm 9))) [.chn .le .le (.nm 17) (.nm 22) (.nm 18)]) (.lst [.cst (.str "plain")])) (.cst (.int 0))) (.nm 22) (.rng [.cst (.int 60)]) []), .ifs (.or (.cmp .ne (.co .lc (.met 7 (.nm 20) [.nm 22]) (.nm 22) (.rng [.cst (.int 60)]) []) (.nm 21)) (.cmp .ne (.fld (.nm 20) "rows") (.bi .tuple [.bi .sorted [.nm 9]]))) [.ret (.cst (.bool false))] [], .asg 17 (.call 11 [.nm 1, .cst (.int 30)]), .par [(18, false), (24, false)] [.bin .add (.bin .add (.nm 17) (.cst (.int 1))) (.call 11 [.nm 1, .cst (.int 12)]), .lst []], .for (.nm 22) (.rng [.nm 17, .nm 18]) [.asg 24 (.ite (.and (.cmp .ne (.nm 24) (.lst [])) (.cmp .eq (.idx (.idx (.nm 24) (.neg (.cst (.int 1)))) (.cst (.int 0))) (.idx (.nm 21) (.nm 22)))) (.bin .add (.slc (.nm 24) none (some (.neg (.cst (.int 1))))) (.lst [.tup [.idx (.nm 21) (.nm 22), .bin .add (.idx (.idx (.nm 24) (.neg (.cst (.int 1)))) (.cst (.int 1))) (.cst (.int 1))]])) (.bin .add (.nm 24) (.lst [.tup [.idx (.nm 21) (.nm 22), .cst (.int 1)]])))], .ifs (.cmp .ne (.bi .list [.met 8 (.nm 20) [.nm 17, .nm 18]]) (.nm 24)) [.ret (.cst (.bool false))] [], .ifs (.cmp .ne (.met 9 (.nm 20) [.cst (.str "high"), .nm 17, .nm 18]) (.mth .count (.slc (.nm 21) (some (.nm 17)) (some (.nm 18))) [.cst (.str "high")])) [.ret (.cst (.bool false))] []] []], .ret (.call 16 [])]
theorem m_law : mSts ⟨N_law, defScope (top 20), fun _ => true, G, false, true⟩ b_law (defBody (top 20)) = true := by decide +kernel
theorem s_law : scC N_law ["script"] (defScope (top 20)) = true := by decide +kernel
def fns : Nat → List St × Nat
  | 0 => (b_check_stay, 2)
  | 1 => (b_nights, 2)
  | 2 => (b_week_day, 1)
  | 3 => (b_meet, 2)
  | 4 => (b_fullest, 6)
  | 5 => (b_gaps, 7)
  | 6 => (b_Seasons_init, 9)
  | 7 => (b_Seasons_season, 5)
  | 8 => (b_Seasons_parts, 6)
  | 9 => (b_Seasons_count, 6)
  | 10 => (b_law_dice, 1)
  | 11 => (b_law_roll, 3)
  | 12 => (b_law_rounds, 4)
  | 14 => (b_law_stay, 2)
  | 15 => (b_law_good, 1)
  | 16 => (b_law_plain, 4)
  | 17 => (b_law, 25)
  | _ => ([], 0)
def fuel0 : Nat := 10000000000000000000000000000000000000000
def W0 : Wd where
  call := fun _ _ _ _ => .stuck
  glb := fun z => match z with
    | 0 => .tuple [.str "mo", .str "tu", .str "we", .str "th", .str "fr", .str "sa", .str "su"]
    | _ => .none
  ini := fun z => match z with
    | 0 => 6
    | _ => 0
  cls := fun z => match z with
    | 6 => 0
    | 7 => 0
    | 8 => 0
    | 9 => 0
    | _ => 0
  nam := fun z => match z with
    | 6 => "__init__"
    | 7 => "season"
    | 8 => "parts"
    | 9 => "count"
    | _ => ""
  has := fun c f => (c == 0 && (f == "rows"))
  obj := fun c => c == 0
  sub := fun a b => a == b || (a == 1 && b == 0)
  tol := fun _ => "DayError"
  fuel := fuel0
abbrev Wk (k : Nat) : Wd := lvW W0 fns k
end Ev.T_k01
end
section
set_option Elab.async false
set_option linter.all false
set_option autoImplicit false
set_option maxRecDepth 100000
set_option maxHeartbeats 1000000
/-! k01: what the defs compute. -/
namespace Ev.T_k01
open PySem L2

@[simp] theorem wk_fuel (k : Nat) : (Wk k).fuel = fuel0 := by cases k <;> rfl
@[simp] theorem wk_week (k : Nat) : (Wk k).glb 0 = .tuple [.str "mo", .str "tu", .str "we", .str "th", .str "fr", .str "sa", .str "su"] := by cases k <;> rfl
@[simp] theorem wk_sub (k a b : Nat) : (Wk k).sub a b = (a == b || (a == 1 && b == 0)) := by cases k <;> rfl
@[simp] theorem wk_tol (k a : Nat) : (Wk k).tol a = "DayError" := by cases k <;> rfl
@[simp] theorem wk_obj (k a : Nat) : (Wk k).obj a = (a == 0) := by cases k <;> rfl
@[simp] theorem wk_has (k c : Nat) (f : Str) : (Wk k).has c f = (c == 0 && (f == "rows")) := by cases k <;> rfl
@[simp] theorem wk_ini (k : Nat) : (Wk k).ini 0 = 6 := by cases k <;> rfl
@[simp] theorem wk_cls7 (k : Nat) : (Wk k).cls 7 = 0 := by cases k <;> rfl
@[simp] theorem wk_cls8 (k : Nat) : (Wk k).cls 8 = 0 := by cases k <;> rfl
@[simp] theorem wk_cls9 (k : Nat) : (Wk k).cls 9 = 0 := by cases k <;> rfl
@[simp] theorem wk_nam7 (k : Nat) : (Wk k).nam 7 = "season" := by cases k <;> rfl
@[simp] theorem wk_nam8 (k : Nat) : (Wk k).nam 8 = "parts" := by cases k <;> rfl
@[simp] theorem wk_nam9 (k : Nat) : (Wk k).nam 9 = "count" := by cases k <;> rfl
theorem call_eq (k f : Nat) (wr : Wr) (xs : List D) (m : M) : (Wk (k + 1)).call f wr xs m = endF (execL (Wk k) (fns f).1 wr (ga0 (fns f).2 xs) m) := rfl
theorem log_ok {b : Int} (h0 : 0 ≤ b) (h : b < 10 ^ 40) : b.natAbs.log2 < 9000 := by
  by_cases hz : b.natAbs = 0
  · rw [hz]; decide
  · exact (Nat.log2_lt hz).mpr (Nat.lt_of_lt_of_le (show b.natAbs < 10 ^ 40 by omega) (by decide +kernel))

/-! ### the law's own dice -/
def dm (ms : M) (x y z : Int) : M := .lst [.int x, .int y, .int z] :: ms
@[simp] theorem dm_idx (ms : M) (x y z i : Int) : semIdx (dm ms x y z) (cellD 0) (.int i) = atI [.int x, .int y, .int z] i := rfl
theorem c_dice (k : Nat) (wr : Wr) (c : Int) : ∃ x y z, (Wk (k + 1)).call 10 wr [.int c] [] = .ok (cellD 0) (dm [] x y z) := by
  rw [call_eq]
  by_cases h1 : (-10 : Int) < c
  · by_cases h2 : c < 10
    · exact ⟨_, _, _, by simp -implicitDefEqProofs [fns, b_law_dice, ga0, isB, h1, h2] <;> rfl⟩
    · exact ⟨_, _, _, by simp -implicitDefEqProofs [fns, b_law_dice, ga0, isB, h1, h2] <;> rfl⟩
  · exact ⟨_, _, _, by simp -implicitDefEqProofs [fns, b_law_dice, ga0, isB, h1] <;> rfl⟩
abbrev wrT : Wr := fun _ => true
@[simp] theorem cel_dm (ms : M) (x y z : Int) (f : Nat → List D → RS) (t : Tk f) : celF (cellD 0) (dm ms x y z) f t = f 0 [.int x, .int y, .int z] := rfl
theorem dm_set (ms : M) (x y z a b c : Int) : (dm ms x y z).set 0 (.lst [.int a, .int b, .int c]) = dm ms a b c := rfl
@[simp] theorem set3_0 (x y z a : Int) : setN [.int x, .int y, .int z] (.int 0) (.int a) = some [.int a, .int y, .int z] := rfl
@[simp] theorem set3_1 (x y z a : Int) : setN [.int x, .int y, .int z] (.int 1) (.int a) = some [.int x, .int a, .int z] := rfl
@[simp] theorem set3_2 (x y z a : Int) : setN [.int x, .int y, .int z] (.int 2) (.int a) = some [.int x, .int y, .int a] := rfl
theorem c_roll (k : Nat) (ms : M) (n x y z : Int) (h1 : 1 ≤ n) (h2 : n ≤ 1000000) : ∃ v x' y' z', 0 ≤ v ∧ v < n ∧ (Wk (k + 1)).call 11 wrT [cellD 0, .int n] (dm ms x y z) = .ok (.int v) (dm ms x' y' z') := by
  have hn : 0 < n := by omega
  have hl : n.natAbs.log2 < 9000 := log_ok (by omega) (by omega)
  have hb : ¬ 100000000 < n := by omega
  have l7 : Nat.log2 7 < 9000 := by decide
  have q1 : mulOk x 48271 = true := mulOk_r (by decide)
  have q2 : mulOk y 69621 = true := mulOk_r (by decide)
  have md := fun (a : Int) => And.intro (Int.emod_nonneg a (by omega : n ≠ 0)) (Int.emod_lt_of_pos a hn)
  rw [call_eq]
  by_cases c1 : z = 2
  · exact ⟨_, _, _, _, (md _).1, (md _).2, by simp -implicitDefEqProofs [fns, b_law_roll, ga0, isB, c1, hn, hl, dm_set] <;> exact ⟨rfl, rfl⟩⟩
  · by_cases c2 : z = 1
    · by_cases c3 : 0 < x
      · exact ⟨_, _, _, _, (md _).1, (md _).2, by simp -implicitDefEqProofs [fns, b_law_roll, ga0, isB, c1, c2, c3, hn, hl, dm_set] <;> exact ⟨rfl, rfl⟩⟩
      · exact ⟨_, _, _, _, (md _).1, (md _).2, by simp -implicitDefEqProofs [fns, b_law_roll, ga0, isB, c1, c2, c3, hn, hl, dm_set, hb, q1, q2, l7] <;> exact ⟨rfl, rfl⟩⟩
    · exact ⟨_, _, _, _, (md _).1, (md _).2, by simp -implicitDefEqProofs [fns, b_law_roll, ga0, isB, c1, c2, hn, hl, dm_set, hb, q1, q2, l7] <;> exact ⟨rfl, rfl⟩⟩
theorem c_rounds (k : Nat) (ns : List Int) : ∃ x y z, (Wk (k + 2)).call 12 wrT [scrD ns, .int 1] [] = .ok (.list [cellD 0]) (dm [] x y z) := by
  obtain ⟨c, hc⟩ : ∃ c, (cutI ns none (some 1) = [] ∧ c = 0) ∨ cutI ns none (some 1) = [c] := by
    cases ns with
    | nil => exact ⟨0, .inl ⟨rfl, rfl⟩⟩
    | cons a r => exact ⟨a, .inr (by simp [cutI, HT.sIx])⟩
  obtain ⟨x, y, z, hd⟩ := c_dice k wrT c
  have hs : semSlc (scrD ns) none (some 1) = some (.list ((cutI ns none (some 1)).map .int)) := by
    show some (PyData.list (semSlc.cutV' (ns.map .int) none (some 1))) = _
    rw [cut_map]
  have he : semCmp .eq (.list ((cutI ns none (some 1)).map .int)) (.list []) = some (cutI ns none (some 1)).isEmpty := by
    show eqS (.list _) (.list []) = _
    rw [eqS_nil (shaped_lints _)]
    simp
  have hco : runCo .lc (cmB (Wk (k + 1)) (.call 10 [.nm 3]) (.nm 3) [] wrT [some (false, scrD ns), some (false, .int 1), some (false, .list [.int c]), none]) [.int c] [] = .ok (.list [cellD 0]) (dm [] x y z) := by
    show (turns _ [.int c] [] []).bind _ = _
    rw [turns, cmB_eq _ _ _ _ _ _ _ _ _ (by simp <;> rfl)]
    have z0 : 0 < sizeLine := by decide +kernel
    simp -implicitDefEqProofs [isB, hd, turns, endCo, z0]
  refine ⟨x, y, z, ?_⟩
  rw [call_eq]
  rcases hc with ⟨e, rfl⟩ | e
  · rw [e] at hs he
    simp at hs he
    simp -implicitDefEqProofs [fns, b_law_rounds, ga0, isB, hs, he, e_co, hco]
  · rw [e] at hs he
    simp at hs he
    simp -implicitDefEqProofs [fns, b_law_rounds, ga0, isB, hs, he, e_co, hco]
/-! ### stays -/
abbrev St2 := Int × Int
def stD (p : St2) : D := .tuple [.int p.1, .int p.2]
def Ok2 (p : St2) : Prop := 0 ≤ p.1 ∧ p.1 < p.2
instance (p : St2) : Decidable (Ok2 p) := by unfold Ok2; infer_instance
theorem c_stay (k : Nat) (ms : M) (x y z : Int) : ∃ p : St2, ∃ x' y' z', -1 ≤ p.1 ∧ p.1 ≤ 19 ∧ p.1 ≤ p.2 ∧ p.2 ≤ p.1 + 8 ∧ (Wk (k + 2)).call 14 wrT [cellD 0] (dm ms x y z) = .ok (stD p) (dm ms x' y' z') := by
  obtain ⟨v1, xa, ya, za, a1, b1, e1⟩ := c_roll k ms 20 x y z (by decide) (by decide)
  obtain ⟨v2, xb, yb, zb, a2, b2, e2⟩ := c_roll k ms 12 xa ya za (by decide) (by decide)
  obtain ⟨v3, xc, yc, zc, a3, b3, e3⟩ := c_roll k ms 9 xb yb zb (by decide) (by decide)
  by_cases h : v2 = 0
  · refine ⟨(v1 - 1, v1 - 1 + v3), xc, yc, zc, by show -1 ≤ v1 - 1; omega, by show v1 - 1 ≤ 19; omega, by show v1 - 1 ≤ v1 - 1 + v3; omega, by show v1 - 1 + v3 ≤ v1 - 1 + 8; omega, ?_⟩
    rw [call_eq]
    simp -implicitDefEqProofs [fns, b_law_stay, ga0, isB, e1, e2, e3, h, stD]
  · refine ⟨(v1 - 0, v1 - 0 + v3), xc, yc, zc, by show -1 ≤ v1 - 0; omega, by show v1 - 0 ≤ 19; omega, by show v1 - 0 ≤ v1 - 0 + v3; omega, by show v1 - 0 + v3 ≤ v1 - 0 + 8; omega, ?_⟩
    rw [call_eq]
    simp -implicitDefEqProofs [fns, b_law_stay, ga0, isB, e1, e2, e3, h, stD]
theorem c_good (k : Nat) (wr : Wr) (m : M) (p : St2) : (Wk (k + 1)).call 15 wr [stD p] m = .ok (.bool (decide (Ok2 p))) m := by
  rw [call_eq]
  by_cases h1 : 0 ≤ p.1
  · simp -implicitDefEqProofs [fns, b_law_good, ga0, isB, stD, h1, Ok2]
  · simp -implicitDefEqProofs [fns, b_law_good, ga0, isB, stD, h1, Ok2]
theorem c_check (k : Nat) (wr : Wr) (m : M) (p : St2) : (Wk (k + 1)).call 0 wr [.int p.1, .int p.2] m = if Ok2 p then .ok .none m else .exc 1 m := by
  rw [call_eq]
  by_cases h1 : p.1 < 0
  · have h2 : ¬ Ok2 p := by unfold Ok2; omega
    simp -implicitDefEqProofs [fns, b_check_stay, ga0, isB, h1, h2]
  · by_cases h3 : p.2 ≤ p.1
    · have h2 : ¬ Ok2 p := by unfold Ok2; omega
      simp -implicitDefEqProofs [fns, b_check_stay, ga0, isB, h1, h2, h3]
    · have h2 : Ok2 p := by unfold Ok2; omega
      simp -implicitDefEqProofs [fns, b_check_stay, ga0, isB, h1, h2, h3]
theorem ck_ok {k : Nat} {wr : Wr} {m : M} {f l : Int} (h : 0 ≤ f ∧ f < l) : (Wk (k + 1)).call 0 wr [.int f, .int l] m = .ok .none m := (c_check k wr m (f, l)).trans (if_pos h)
theorem ck_no {k : Nat} {wr : Wr} {m : M} {f l : Int} (h : ¬ (0 ≤ f ∧ f < l)) : (Wk (k + 1)).call 0 wr [.int f, .int l] m = .exc 1 m := (c_check k wr m (f, l)).trans (if_neg h)
/-- a stay's nights -/
def ngs (p : St2) : List Int := rngI p.1 (p.2 - p.1).toNat
theorem c_nights (k : Nat) (wr : Wr) (m : M) (f l : Int) (hf : -1000 ≤ f) (hl : l ≤ 1000) : (Wk (k + 2)).call 1 wr [.int f, .int l] m = if 0 ≤ f ∧ f < l then .ok (.tuple ((ngs (f, l)).map .int)) m else .exc 1 m := by
  rw [call_eq]
  by_cases h : 0 ≤ f ∧ f < l
  · have hr := rngOf2 (i := f) (j := l) (by omega)
    have hz : (rngI f (l - f).toNat).length ≤ 16777216 := by rw [rngI_len]; omega
    rw [rngI_len] at hz
    simp -implicitDefEqProofs [fns, b_nights, ga0, isB, h, ck_ok h, hr, rngI_len, hz, ngs]
  · simp -implicitDefEqProofs [fns, b_nights, ga0, isB, h, ck_no h]
def weekL : List D := [.str "mo", .str "tu", .str "we", .str "th", .str "fr", .str "sa", .str "su"]
theorem c_week (k : Nat) (wr : Wr) (m : M) (d : Int) (z : D) (hd : 0 ≤ d) (hz : atI weekL (d % 7) = some z) : (Wk (k + 1)).call 2 wr [.int d] m = .ok z m := by
  have hn : ¬ d < 0 := by omega
  unfold weekL at hz
  rw [call_eq]
  simp -implicitDefEqProofs [fns, b_week_day, ga0, isB, hn, hz]
theorem c_weekN (k : Nat) (wr : Wr) (m : M) (d : Int) (hd : d < 0) : (Wk (k + 1)).call 2 wr [.int d] m = .exc 1 m := by
  rw [call_eq]
  simp -implicitDefEqProofs [fns, b_week_day, ga0, isB, hd]
def meetV (p q : St2) : Int := dMax 0 (dMin p.2 q.2 - dMax p.1 q.1)
theorem c_meet (k : Nat) (wr : Wr) (m : M) (p q : St2) : (Wk (k + 2)).call 3 wr [stD p, stD q] m = if Ok2 p ∧ Ok2 q then .ok (.int (meetV p q)) m else .exc 1 m := by
  rw [call_eq]
  by_cases h1 : Ok2 p
  · by_cases h2 : Ok2 q
    · simp -implicitDefEqProofs [fns, b_meet, ga0, isB, stD, h1, h2, ck_ok (k := k) (wr := wr) (m := m) h1, ck_ok (k := k) (wr := wr) (m := m) h2, meetV]
    · simp -implicitDefEqProofs [fns, b_meet, ga0, isB, stD, h1, h2, ck_ok (k := k) (wr := wr) (m := m) h1, ck_no (k := k) (wr := wr) (m := m) h2]
  · simp -implicitDefEqProofs [fns, b_meet, ga0, isB, stD, h1, ck_no (k := k) (wr := wr) (m := m) h1]
end Ev.T_k01
end
section
set_option Elab.async false
set_option linter.all false
set_option autoImplicit false
set_option maxRecDepth 100000
set_option maxHeartbeats 1000000
/-! k01: the fullest night. -/
namespace Ev.T_k01
open PySem L2

/-! ### loops that may raise -/
theorem chk_ok (k : Nat) (wr : Wr) (m : M) (s0 s1 s2 s5 : Option (Bool × D)) : ∀ (ps : List St2) (s3 s4 : Option (Bool × D)), (∀ p ∈ ps, Ok2 p) → ∃ s3' s4',
    forB (Wk (k + 1)) (.tup [.nm 3, .nm 4]) [.exp (.call 0 [.nm 3, .nm 4])] wr (ps.map stD) [s0, s1, s2, s3, s4, s5] m = .nx [s0, s1, s2, s3', s4', s5] m
  | [], s3, s4, _ => ⟨s3, s4, by simp⟩
  | p :: ps, s3, s4, h => by
    obtain ⟨a, b, e⟩ := chk_ok k wr m s0 s1 s2 s5 ps (some (false, .int p.1)) (some (false, .int p.2)) fun q hq => h q (List.mem_cons_of_mem _ hq)
    refine ⟨a, b, ?_⟩
    have hc := ck_ok (k := k) (wr := wr) (m := m) (h p List.mem_cons_self)
    rw [List.map_cons]
    simp -implicitDefEqProofs [stD, isB, hc, e]
theorem chk_no (k : Nat) (wr : Wr) (m : M) (s0 s1 s2 s5 : Option (Bool × D)) : ∀ (ps : List St2) (s3 s4 : Option (Bool × D)), ¬ (∀ p ∈ ps, Ok2 p) → ∃ g',
    forB (Wk (k + 1)) (.tup [.nm 3, .nm 4]) [.exp (.call 0 [.nm 3, .nm 4])] wr (ps.map stD) [s0, s1, s2, s3, s4, s5] m = .exc 1 g' m
  | [], s3, s4, h => absurd (fun p hp => by cases hp) h
  | p :: ps, s3, s4, h => by
    rw [List.map_cons]
    by_cases hp : Ok2 p
    · obtain ⟨g', e⟩ := chk_no k wr m s0 s1 s2 s5 ps (some (false, .int p.1)) (some (false, .int p.2)) fun hq => h fun q hq' => by
        rcases List.mem_cons.mp hq' with rfl | hq'
        · exact hp
        · exact hq q hq'
      have hc := ck_ok (k := k) (wr := wr) (m := m) hp
      exact ⟨g', by simp -implicitDefEqProofs [stD, isB, hc, e]⟩
    · have hc := ck_no (k := k) (wr := wr) (m := m) hp
      exact ⟨_, by simp -implicitDefEqProofs [stD, isB, hc] <;> rfl⟩

/-! ### keys, each once -/
def insK (ks : List Int) (i : Int) : List Int := if i ∈ ks then ks else ks ++ [i]
def uniq (is : List Int) : List Int := is.foldl insK []
theorem putD_ins (v : D) (ks : List Int) (i : Int) : putD (ks.map fun k => ((.int k : D), v)) (.int i) v = (insK ks i).map fun k => ((.int k : D), v) := by
  have ha : ((ks.map fun k => ((.int k : D), v)).any fun p => PyData.eqv p.1 (.int i)) = decide (i ∈ ks) := by
    induction ks with
    | nil => simp
    | cons a ks ih =>
      rw [List.map_cons, List.any_cons, ih]
      simp only [PyData.eqv, List.mem_cons]
      by_cases h : a = i
      · subst h; simp
      · have h' : ¬ i = a := fun e => h e.symm
        simp [h, h']
  unfold putD insK
  rw [ha]
  by_cases h : i ∈ ks
  · rw [if_pos (by simp [h]), if_pos h, List.map_map]
    refine List.map_congr_left fun a _ => ?_
    show (if PyData.eqv (.int a) (.int i) = true then _ else _) = _
    split <;> rfl
  · rw [if_neg (by simp [h]), if_neg h, List.map_append]
    rfl
theorem mkD_ints (v : D) : ∀ (is ks : List Int), mkD (is.map fun i => .tuple [.int i, v]) (ks.map fun k => ((.int k : D), v)) = some ((is.foldl insK ks).map fun k => ((.int k : D), v))
  | [], ks => rfl
  | i :: is, ks => by
    rw [List.map_cons, mkD, if_pos (show isKey (.int i) = true from rfl), putD_ins, mkD_ints v is, List.foldl_cons]
theorem insK_mem (ks : List Int) (i a : Int) : a ∈ insK ks i ↔ a ∈ ks ∨ a = i := by
  unfold insK
  split
  · constructor
    · exact .inl
    · rintro (h | rfl) <;> assumption
  · simp
theorem insK_nd {ks : List Int} (h : ks.Nodup) (i : Int) : (insK ks i).Nodup := by
  unfold insK
  split
  · exact h
  · rename_i hi
    rw [List.nodup_append]
    exact ⟨h, by simp, fun a ha b hb e => hi (by simp at hb; rw [← hb, ← e]; exact ha)⟩
theorem fold_mem : ∀ (is ks : List Int) (a : Int), a ∈ is.foldl insK ks ↔ a ∈ ks ∨ a ∈ is
  | [], ks, a => by simp
  | i :: is, ks, a => by
    rw [List.foldl_cons, fold_mem is, insK_mem, List.mem_cons]
    constructor
    · rintro ((h | h) | h)
      · exact .inl h
      · exact .inr (.inl h)
      · exact .inr (.inr h)
    · rintro (h | h | h)
      · exact .inl (.inl h)
      · exact .inl (.inr h)
      · exact .inr h
theorem fold_nd : ∀ (is : List Int) {ks : List Int}, ks.Nodup → (is.foldl insK ks).Nodup
  | [], _, h => h
  | i :: is, _, h => by rw [List.foldl_cons]; exact fold_nd is (insK_nd h i)
theorem uniq_mem (is : List Int) (a : Int) : a ∈ uniq is ↔ a ∈ is := by rw [uniq, fold_mem]; simp
theorem uniq_nd (is : List Int) : (uniq is).Nodup := fold_nd is List.nodup_nil
theorem fold_len : ∀ (is ks : List Int), (is.foldl insK ks).length ≤ ks.length + is.length
  | [], ks => Nat.le_refl _
  | i :: is, ks => by
    rw [List.foldl_cons]
    refine Nat.le_trans (fold_len is _) ?_
    unfold insK
    split
    · simp only [List.length_cons]; omega
    · simp only [List.length_append, List.length_cons, List.length_nil]; omega
theorem fold_full : ∀ (is ks : List Int), ks.Nodup → ((is.foldl insK ks).length = ks.length + is.length ↔ is.Nodup ∧ ∀ a ∈ is, a ∉ ks)
  | [], ks, _ => by simp
  | i :: is, ks, h => by
    rw [List.foldl_cons]
    have hl := fold_len is (insK ks i)
    by_cases hi : i ∈ ks
    · have e : insK ks i = ks := if_pos hi
      rw [e] at hl ⊢
      constructor
      · intro hh
        simp only [List.length_cons] at hh
        omega
      · rintro ⟨_, h2⟩
        exact absurd hi (h2 i List.mem_cons_self)
    · have e : insK ks i = ks ++ [i] := if_neg hi
      have := fold_full is (ks ++ [i]) (by rw [← e]; exact insK_nd h i)
      rw [e]
      simp only [List.length_append, List.length_cons, List.length_nil] at this ⊢
      rw [show ks.length + (is.length + 1) = ks.length + (0 + 1) + is.length by omega, this, List.nodup_cons]
      constructor
      · rintro ⟨h1, h2⟩
        refine ⟨⟨fun hm => h2 i hm (by simp), h1⟩, fun a ha hk => ?_⟩
        rcases List.mem_cons.mp ha with rfl | ha
        · exact hi hk
        · exact h2 a ha (by simp [hk])
      · rintro ⟨⟨h1, h2⟩, h3⟩
        refine ⟨h2, fun a ha hk => ?_⟩
        rcases List.mem_append.mp hk with hk | hk
        · exact h3 a (List.mem_cons_of_mem _ ha) hk
        · simp at hk
          subst hk
          exact h1 ha
theorem uniq_full (is : List Int) : (uniq is).length = is.length ↔ is.Nodup := by
  have := fold_full is [] List.nodup_nil
  simpa [uniq] using this

/-! ### sorted ints -/
theorem sortable_ints (is : List Int) : sortable (is.map .int) = true := by
  unfold sortable
  simp only [Bool.and_eq_true, Bool.or_eq_true, List.all_eq_true, decide_eq_true_eq]
  refine ⟨⟨fun a ha b hb => ?_, fun a ha => ?_⟩, .inr fun a ha => ?_⟩
  · obtain ⟨i, _, rfl⟩ := List.mem_map.mp ha
    obtain ⟨j, _, rfl⟩ := List.mem_map.mp hb
    rfl
  · obtain ⟨i, _, rfl⟩ := List.mem_map.mp ha
    simp [PyData.depth]
  · obtain ⟨i, _, rfl⟩ := List.mem_map.mp ha
    rfl
def srt (is : List Int) : List Int := is.mergeSort (fun a b => decide (a ≤ b))
theorem dLe_int (a b : Int) : dLe (.int a) (.int b) = decide (a ≤ b) := by
  have h := PySem.W.dataLe_int (fun b : Int => b)
  have h2 := congrFun (congrFun h a) b
  exact h2
theorem sort_ints (is : List Int) : (is.map PyData.int).mergeSort dLe = (srt is).map .int := by
  unfold srt
  rw [List.map_mergeSort (s := dLe)]
  intro a _ b _
  exact (dLe_int a b).symm
theorem srt_mem (is : List Int) (a : Int) : a ∈ srt is ↔ a ∈ is := List.mem_mergeSort
theorem srt_sorted (is : List Int) : (srt is).Pairwise (· ≤ ·) := by
  have := List.pairwise_mergeSort (le := fun a b : Int => decide (a ≤ b)) (fun a b c h1 h2 => by simp at *; omega) (fun a b => by simp; omega) is
  exact this.imp fun h => of_decide_eq_true h
theorem srt_nd {is : List Int} (h : is.Nodup) : (srt is).Nodup := (List.mergeSort_perm is _).nodup_iff.mpr h
theorem srt_lt {is : List Int} (h : is.Nodup) : (srt is).Pairwise (· < ·) := by
  have h1 := srt_sorted is
  have h2 := srt_nd h
  refine (h1.and h2).imp fun ⟨a, b⟩ => ?_
  omega
theorem sbi_sortI (is : List Int) : semBi .sorted [.list (is.map .int)] = some (.list ((srt is).map .int)) := by
  show (if sortable (is.map .int) then some (PyData.list ((is.map .int).mergeSort dLe)) else none) = _
  rw [if_pos (sortable_ints is), sort_ints]
theorem items_keys (ks : List Int) : itemsOf (.dict (ks.map fun k => ((.int k : D), (.bool true : D)))) = some (ks.map .int) := by
  have h : pureD (.dict (ks.map fun k => ((.int k : D), (.bool true : D)))) = true := by
    cases ks with
    | nil => rfl
    | cons a r => cases r <;> rfl
  unfold itemsOf
  simp only [h, if_true, List.map_map]
  rfl
/-! ### how many share a night -/
def cov (n : Int) (p : St2) : Prop := p.1 ≤ n ∧ n < p.2
instance (n : Int) (p : St2) : Decidable (cov n p) := by unfold cov; infer_instance
def ones (n : Nat) : List D := List.replicate n (.int 1)
@[simp] theorem ones_len (n : Nat) : (ones n).length = n := List.length_replicate
theorem ones_of {α : Type} (as : List α) : (as.map fun _ => (PyData.int 1)) = ones as.length := by rw [List.map_const']; rfl
def cnt (ps : List St2) (n : Int) : Nat := (ps.filter fun p => decide (cov n p)).length
theorem cnt_co (k : Nat) (wr : Wr) (m : M) (g : Ga) (i j l : Nat) (n : Int) (ps : List St2) (hg : ∀ p : St2, ∃ g', bindT (.tup [.nm i, .nm j]) (stD p) (wipeG g (tvars (.tup [.nm i, .nm j]))) = some g' ∧ g'[i]? = some (some (false, .int p.1)) ∧ g'[j]? = some (some (false, .int p.2)) ∧ g'[l]? = some (some (false, .int n))) (hl : ps.length ≤ 1000000) :
    runCo .lc (cmB (Wk k) (.cst (.int 1)) (.tup [.nm i, .nm j]) [.chn .le .lt (.nm i) (.nm l) (.nm j)] wr g) (ps.map stD) m = .ok (.list (ones (cnt ps n))) m := by
  unfold cnt
  rw [← ones_of, ← filterMap_p (fun p => cov n p) (fun _ => PyData.int 1)]
  refine co_lc _ (fun p hp => ?_) (by have : (1000000 : Nat) ≤ sizeLine := by decide +kernel
                                      omega)
  obtain ⟨g', e0, e1, e2, e3⟩ := hg p
  rw [cmB_eq _ _ _ _ _ _ _ _ _ e0]
  by_cases h1 : p.1 ≤ n
  · by_cases h2 : n < p.2
    · have h : cov n p := ⟨h1, h2⟩
      simp -implicitDefEqProofs [isB, e1, e2, e3, h1, h2, h]
    · have h : ¬ cov n p := fun z => h2 z.2
      simp -implicitDefEqProofs [isB, e1, e2, e3, h1, h2, h]
  · have h : ¬ cov n p := fun z => h1 z.1
    simp -implicitDefEqProofs [isB, e1, e2, e3, h1, h]
end Ev.T_k01
end
section
set_option Elab.async false
set_option linter.all false
set_option autoImplicit false
set_option maxRecDepth 100000
set_option maxHeartbeats 1000000
/-! k01: what fullest computes. -/
namespace Ev.T_k01
open PySem L2

def stepB (ps : List St2) (b : Int × D) (n : Int) : Int × D := if b.1 < (cnt ps n : Int) then ((cnt ps n : Int), .int n) else b
def bD (b : Int × D) : D := .tuple [.int b.1, b.2]
def bestP (ps : List St2) : Int × D := (srt (uniq (ps.map (·.1)))).foldl (stepB ps) (0, .none)
theorem full_dco (k : Nat) (wr : Wr) (m : M) (g : Ga) (ps : List St2) (hl : ps.length ≤ 1000000) (hg : ∀ p : St2, ∃ g', bindT (.tup [.nm 3, .nm 4]) (stD p) (wipeG g (tvars (.tup [.nm 3, .nm 4]))) = some g' ∧ g'[3]? = some (some (false, .int p.1))) :
    turns (dmB (Wk k) (.nm 3) (.cst (.bool true)) (.tup [.nm 3, .nm 4]) [] wr g) (ps.map stD) [] m = .ok ((ps.map (·.1)).map fun i => .tuple [.int i, .bool true]) m := by
  rw [turns_map stD (fun p => some (.tuple [.int p.1, .bool true])) ps [] ?_ ?_]
  · rw [List.nil_append, List.filterMap_eq_map', List.map_map]
    rfl
  · intro p _
    obtain ⟨g', e0, e1⟩ := hg p
    unfold dmB
    rw [e0]
    simp only [ei_nil, R.bind_ok, if_true, e_nm, e1, slF_some, e_cst, nox_ok]
  · have : (1000000 : Nat) ≤ sizeLine := by decide +kernel
    simp only [List.length_nil]
    omega
theorem full_loop (k : Nat) (wr : Wr) (m : M) (ps : List St2) (hl : ps.length ≤ 1000000) (s3 s4 : Option (Bool × D)) : ∀ (is : List Int) (b : Int × D) (s2 s5 : Option (Bool × D)), ∃ s2' s5',
    forB (Wk k) (.nm 2) [.asg 5 (.bi .len [.co .lc (.cst (.int 1)) (.tup [.nm 3, .nm 4]) (.seq (.e (.nm 0))) [.chn .le .lt (.nm 3) (.nm 2) (.nm 4)]]), .asg 1 (.ite (.cmp .gt (.nm 5) (.idx (.nm 1) (.cst (.int 0)))) (.tup [.nm 5, .nm 2]) (.nm 1))] wr (is.map .int) [some (false, .list (ps.map stD)), some (false, bD b), s2, s3, s4, s5] m
      = .nx [some (false, .list (ps.map stD)), some (false, bD (is.foldl (stepB ps) b)), s2', s3, s4, s5'] m
  | [], b, s2, s5 => ⟨s2, s5, by simp⟩
  | n :: is, b, s2, s5 => by
    obtain ⟨a2, a5, e⟩ := full_loop k wr m ps hl s3 s4 is (stepB ps b n) (some (false, .int n)) (some (false, .int (cnt ps n)))
    refine ⟨a2, a5, ?_⟩
    have hc := cnt_co k wr m [some (false, .list (ps.map stD)), some (false, bD b), some (false, .int n), s3, s4, s5] 3 4 2 n ps (fun p => ⟨_, by simp [stD] <;> rfl, rfl, rfl, rfl⟩) hl
    rw [List.map_cons, List.foldl_cons]
    by_cases h : b.1 < (cnt ps n : Int)
    · have hs : stepB ps b n = ((cnt ps n : Int), .int n) := if_pos h
      rw [hs] at e ⊢
      simp only [bD] at e hc ⊢
      simp -implicitDefEqProofs [isB, e_co, hc, h, e]
    · have hs : stepB ps b n = b := if_neg h
      rw [hs] at e ⊢
      simp only [bD] at e hc ⊢
      simp -implicitDefEqProofs [isB, e_co, hc, h, e]
theorem full_shape (k : Nat) (wr : Wr) (m : M) (ps : List St2) (hl : ps.length ≤ 1000000) : (Wk (k + 2)).call 4 wr [.list (ps.map stD)] m = if ∀ p ∈ ps, Ok2 p then .ok (bD (bestP ps)) m else .exc 1 m := by
  rw [call_eq]
  by_cases h : ∀ p ∈ ps, Ok2 p
  · rw [if_pos h]
    obtain ⟨s3, s4, e1⟩ := chk_ok k wr m (some (false, .list (ps.map stD))) none none none ps none none h
    have e2 := full_dco (k + 1) wr m [some (false, .list (ps.map stD)), some (false, .tuple [.int 0, .none]), none, s3, s4, none] ps hl fun p => ⟨_, by simp [stD] <;> rfl, rfl⟩
    have e3 : mkD ((ps.map (·.1)).map fun i => .tuple [.int i, .bool true]) [] = some ((uniq (ps.map (·.1))).map fun k => ((.int k : D), .bool true)) := mkD_ints (.bool true) (ps.map (·.1)) []
    obtain ⟨s2', s5', e4⟩ := full_loop (k + 1) wr m ps hl s3 s4 (srt (uniq (ps.map (·.1)))) (0, .none) none none
    simp only [bD] at e4
    have hz : (uniq (ps.map (·.1))).length ≤ 16777216 := by
      have := fold_len (ps.map (·.1)) []
      rw [List.length_map] at this
      simp only [List.length_nil] at this
      unfold uniq
      omega
    simp -implicitDefEqProofs [-List.map_map, fns, b_fullest, ga0, isB, e1, e_dco, e2, e3, e4, items_keys, sbi_sortI, hz, bD, bestP]
  · rw [if_neg h]
    obtain ⟨g', e1⟩ := chk_no k wr m (some (false, .list (ps.map stD))) none none none ps none none h
    simp -implicitDefEqProofs [fns, b_fullest, ga0, isB, e1]
end Ev.T_k01
end
section
set_option Elab.async false
set_option linter.all false
set_option autoImplicit false
set_option maxRecDepth 100000
set_option maxHeartbeats 1000000
/-! k01: the fullest night is the law's. -/
namespace Ev.T_k01
open PySem L2

theorem argmax (f : Nat → Nat) : ∀ n, 0 < n → ∃ i, i < n ∧ (∀ j, j < n → f j ≤ f i) ∧ ∀ j, j < i → f j < f i
  | 0, h => absurd h (by decide)
  | 1, _ => ⟨0, by decide, fun j hj => by
      have : j = 0 := by omega
      subst this
      exact Nat.le_refl _, fun j hj => by omega⟩
  | n + 2, _ => by
    obtain ⟨i, hi, h1, h2⟩ := argmax f (n + 1) (by omega)
    by_cases h : f i < f (n + 1)
    · refine ⟨n + 1, by omega, fun j hj => ?_, fun j hj => ?_⟩
      · by_cases e : j = n + 1
        · subst e; exact Nat.le_refl _
        · have := h1 j (by omega); omega
      · have := h1 j (by omega); omega
    · refine ⟨i, by omega, fun j hj => ?_, h2⟩
      by_cases e : j = n + 1
      · subst e; omega
      · exact h1 j (by omega)
theorem dmax_fold {M : Int} : ∀ (r : List Int) (n : Int), n ≤ M → (∀ x ∈ r, x ≤ M) → M = n ∨ M ∈ r → r.foldl dMax n = M
  | [], n, _, _, h => by
    rcases h with h | h
    · exact h.symm
    · cases h
  | a :: r, n, h0, h1, h => by
    rw [List.foldl_cons]
    have ha := h1 a List.mem_cons_self
    refine dmax_fold r _ (by unfold dMax; split <;> omega) (fun x hx => h1 x (List.mem_cons_of_mem _ hx)) ?_
    rcases h with h | h
    · left; unfold dMax; split <;> omega
    · rcases List.mem_cons.mp h with h | h
      · left; unfold dMax; split <;> omega
      · exact .inr h
theorem fold_const (ps : List St2) : ∀ (is : List Int) (b : Int × D), (∀ j ∈ is, (cnt ps j : Int) ≤ b.1) → is.foldl (stepB ps) b = b
  | [], b, _ => rfl
  | a :: is, b, h => by
    have ha := h a List.mem_cons_self
    rw [List.foldl_cons, show stepB ps b a = b from if_neg (by omega)]
    exact fold_const ps is b fun j hj => h j (List.mem_cons_of_mem _ hj)
theorem fold_best (ps : List St2) {i : Int} : ∀ (is : List Int) (b : Int × D), is.Pairwise (· < ·) → i ∈ is → (∀ j ∈ is, cnt ps j ≤ cnt ps i) → (∀ j ∈ is, j < i → cnt ps j < cnt ps i) → b.1 < (cnt ps i : Int) → is.foldl (stepB ps) b = ((cnt ps i : Int), .int i)
  | [], b, _, h, _, _, _ => by cases h
  | a :: is, b, hp, h, h1, h2, hb => by
    rw [List.foldl_cons]
    have hp' := List.pairwise_cons.mp hp
    rcases List.mem_cons.mp h with rfl | h
    · rw [show stepB ps b i = ((cnt ps i : Int), .int i) from if_pos hb]
      exact fold_const ps is _ fun j hj => by
        have := h1 j (List.mem_cons_of_mem _ hj)
        show (cnt ps j : Int) ≤ (cnt ps i : Int)
        omega
    · refine fold_best ps is _ hp'.2 h (fun j hj => h1 j (List.mem_cons_of_mem _ hj)) (fun j hj => h2 j (List.mem_cons_of_mem _ hj)) ?_
      have := h2 a List.mem_cons_self (hp'.1 i h)
      unfold stepB
      split
      · show (cnt ps a : Int) < (cnt ps i : Int)
        omega
      · exact hb
theorem cnt_mono (ps : List St2) (n n' : Int) (h : ∀ p ∈ ps, cov n p → cov n' p) : cnt ps n ≤ cnt ps n' := by
  unfold cnt
  induction ps with
  | nil => exact Nat.le_refl _
  | cons p ps ih =>
    have := ih fun q hq => h q (List.mem_cons_of_mem _ hq)
    have hp := h p List.mem_cons_self
    by_cases h1 : cov n p
    · have h2 := hp h1
      simp [List.filter_cons, h1, h2]
      simpa using this
    · by_cases h2 : cov n' p
      · simp [List.filter_cons, h1, h2]
        omega
      · simp [List.filter_cons, h1, h2]
        simpa using this
theorem cnt_pos {ps : List St2} {n : Int} : 0 < cnt ps n ↔ ∃ p ∈ ps, cov n p := by
  unfold cnt
  rw [List.length_pos_iff_exists_mem]
  constructor
  · rintro ⟨p, hp⟩
    have := List.mem_filter.mp hp
    exact ⟨p, this.1, of_decide_eq_true this.2⟩
  · rintro ⟨p, hp, hc⟩
    exact ⟨p, List.mem_filter.mpr ⟨hp, decide_eq_true hc⟩⟩
/-- what the law's counts say -/
def cntsI (ps : List St2) : List Int := (List.range 40).map fun (n : Nat) => (cnt ps (n : Int) : Int)
theorem best_law (ps : List St2) (hok : ∀ p ∈ ps, Ok2 p) (hb : ∀ p ∈ ps, p.1 ≤ 19) :
    ∃ (M : Int) (i : Nat), (∃ n r, cntsI ps = n :: r ∧ r.foldl dMax n = M) ∧ (cntsI ps).findIdx? (fun x => decide (x = M)) = some i ∧ bestP ps = (M, if ps = [] then .none else .int (i : Int)) := by
  obtain ⟨i, hi, h1, h2⟩ := argmax (fun n => cnt ps (n : Int)) 40 (by decide)
  have hmem : ∀ x ∈ cntsI ps, x ≤ (cnt ps (i : Int) : Int) := by
    intro x hx
    obtain ⟨n, hn, rfl⟩ := List.mem_map.mp hx
    have := h1 n (List.mem_range.mp hn)
    omega
  have hin : (cnt ps (i : Int) : Int) ∈ cntsI ps := List.mem_map.mpr ⟨i, List.mem_range.mpr hi, rfl⟩
  refine ⟨(cnt ps (i : Int) : Int), i, ?_, ?_, ?_⟩
  · obtain ⟨n, r, e⟩ : ∃ n r, cntsI ps = n :: r := by
      cases e : cntsI ps with
      | nil => rw [e] at hin; cases hin
      | cons n r => exact ⟨n, r, rfl⟩
    refine ⟨n, r, e, dmax_fold r n ?_ ?_ ?_⟩
    · exact hmem n (by rw [e]; exact List.mem_cons_self)
    · exact fun x hx => hmem x (by rw [e]; exact List.mem_cons_of_mem _ hx)
    · rw [e] at hin
      exact List.mem_cons.mp hin
  · rw [List.findIdx?_eq_some_iff_getElem]
    refine ⟨by simp [cntsI, hi], by simp [cntsI], fun j hj => ?_⟩
    have := h2 j hj
    simp [cntsI]
    omega
  · by_cases he : ps = []
    · subst he
      simp only [if_true]
      rw [show bestP [] = (0, .none) by simp [bestP, uniq, srt]]
      rfl
    · rw [if_neg he]
      unfold bestP
      obtain ⟨p0, hp0⟩ := List.exists_mem_of_ne_nil ps he
      have ok0 := hok p0 hp0
      have hpos : 0 < cnt ps (i : Int) := by
        have hc : 0 < cnt ps p0.1 := cnt_pos.mpr ⟨p0, hp0, Int.le_refl _, ok0.2⟩
        have hb0 := hb p0 hp0
        have := h1 p0.1.toNat (by omega)
        rw [show ((p0.1.toNat : Nat) : Int) = p0.1 by have := ok0.1; omega] at this
        omega
      have hmi : (i : Int) ∈ ps.map (·.1) := by
        refine Classical.byContradiction fun hn => ?_
        have hne : ∀ p ∈ ps, p.1 ≠ (i : Int) := fun p hp e => hn (List.mem_map.mpr ⟨p, hp, e⟩)
        by_cases hz : i = 0
        · obtain ⟨p, hp, hc⟩ := cnt_pos.mp hpos
          have := hok p hp
          exact hne p hp (by have h3 := hc.1; have h4 := this.1; omega)
        · have hm := cnt_mono ps (i : Int) ((i - 1 : Nat) : Int) fun p hp hc => by
            have := hne p hp
            have h3 := hc.1
            have h4 := hc.2
            exact ⟨by omega, by omega⟩
          have := h2 (i - 1) (by omega)
          omega
      have hcase : ∀ j ∈ srt (uniq (ps.map (·.1))), ∃ p ∈ ps, p.1 = j := fun j hj => by
        rw [srt_mem, uniq_mem] at hj
        exact List.mem_map.mp hj
      refine fold_best ps (i := (i : Int)) _ _ (srt_lt (uniq_nd _)) (by rw [srt_mem, uniq_mem]; exact hmi) ?_ ?_ (by show (0 : Int) < _; omega)
      · intro j hj
        obtain ⟨p, hp, rfl⟩ := hcase j hj
        have ok := hok p hp
        have hb := hb p hp
        have := h1 p.1.toNat (by omega)
        rwa [show ((p.1.toNat : Nat) : Int) = p.1 by have := ok.1; omega] at this
      · intro j hj hlt
        obtain ⟨p, hp, rfl⟩ := hcase j hj
        have ok := hok p hp
        have := h2 p.1.toNat (by have := ok.1; omega)
        rwa [show ((p.1.toNat : Nat) : Int) = p.1 by have := ok.1; omega] at this
end Ev.T_k01
end
section
set_option Elab.async false
set_option linter.all false
set_option autoImplicit false
set_option maxRecDepth 100000
set_option maxHeartbeats 1000000
/-! k01: what gaps computes. -/
namespace Ev.T_k01
open PySem L2

/-! ### sorted pairs -/
def pLe (a b : St2) : Bool := decide (a.1 < b.1 ∨ (a.1 = b.1 ∧ a.2 ≤ b.2))
def sP (ps : List St2) : List St2 := ps.mergeSort pLe
theorem dLe_pair (a b : St2) : dLe (stD a) (stD b) = pLe a b := congrFun (congrFun (PySem.W.dataLe_ii (fun b : St2 => b.1) (fun b : St2 => b.2)) a) b
theorem sort_pairs (ps : List St2) : (ps.map stD).mergeSort dLe = (sP ps).map stD := by
  unfold sP
  rw [List.map_mergeSort (s := dLe)]
  intro a _ b _
  exact (dLe_pair a b).symm
theorem sortable_pairs (ps : List St2) : sortable (ps.map stD) = true := by
  unfold sortable
  simp only [Bool.and_eq_true, Bool.or_eq_true, List.all_eq_true, decide_eq_true_eq]
  refine ⟨⟨fun a ha b hb => ?_, fun a ha => ?_⟩, .inl fun a ha => ?_⟩
  · obtain ⟨i, _, rfl⟩ := List.mem_map.mp ha
    obtain ⟨j, _, rfl⟩ := List.mem_map.mp hb
    rfl
  · obtain ⟨i, _, rfl⟩ := List.mem_map.mp ha
    simp [stD, PyData.depth, PyData.depthAll]
  · obtain ⟨i, _, rfl⟩ := List.mem_map.mp ha
    rfl
theorem sbi_sortP (ps : List St2) : semBi .sorted [.list (ps.map stD)] = some (.list ((sP ps).map stD)) := by
  show (if sortable (ps.map stD) then some (PyData.list ((ps.map stD).mergeSort dLe)) else none) = _
  rw [if_pos (sortable_pairs ps), sort_pairs]
theorem sP_mem (ps : List St2) (a : St2) : a ∈ sP ps ↔ a ∈ ps := List.mem_mergeSort
theorem sP_len (ps : List St2) : (sP ps).length = ps.length := List.length_mergeSort ps
theorem sP_sorted (ps : List St2) : (sP ps).Pairwise fun a b => a.1 ≤ b.1 := by
  have := List.pairwise_mergeSort (le := pLe) (fun a b c h1 h2 => by simp [pLe] at *; omega) (fun a b => by simp [pLe]; omega) ps
  exact this.imp fun h => by simp [pLe] at h; omega

/-! ### the sweep -/
def gStep (last : Int) (s : List St2 × Int) (p : St2) : List St2 × Int := (if s.2 < p.1 ∧ s.2 < last then s.1 ++ [(s.2, dMin p.1 last)] else s.1, dMax s.2 p.2)
def gEnd (last : Int) (s : List St2 × Int) : List St2 := if s.2 < last then s.1 ++ [(s.2, last)] else s.1
def gapsP (ps : List St2) (first last : Int) : List St2 := gEnd last ((sP ps).foldl (gStep last) ([], first))
def bG : List St := [.exp (.call 0 [.nm 5, .nm 6]), .ifs (.and (.cmp .gt (.nm 5) (.nm 4)) (.cmp .lt (.nm 4) (.nm 2))) [.app (.sl 3) (.tup [.nm 4, .bi .min2 [.nm 5, .nm 2]])] [], .asg 4 (.bi .max2 [.nm 4, .nm 6])]
theorem siz : (1000000 : Nat) ≤ sizeLine := by decide +kernel
theorem gap_turn (k : Nat) (wr : Wr) (m : M) (s0 s1 s5 s6 : Option (Bool × D)) (last here : Int) (found : List St2) (p : St2) (hp : Ok2 p) (hl : found.length ≤ 1000) :
    execL (Wk (k + 1)) bG wr [s0, s1, some (false, .int last), some (true, .list (found.map stD)), some (false, .int here), some (false, .int p.1), some (false, .int p.2)] m
      = .nx [s0, s1, some (false, .int last), some (true, .list ((gStep last (found, here) p).1.map stD)), some (false, .int (gStep last (found, here) p).2), some (false, .int p.1), some (false, .int p.2)] m := by
  have hc := ck_ok (k := k) (wr := wr) (m := m) hp
  have hz : found.length < sizeLine := by have := siz; omega
  unfold gStep bG
  by_cases h1 : here < p.1
  · by_cases h2 : here < last
    · simp -implicitDefEqProofs [isB, hc, h1, h2, hz, stD]
    · simp -implicitDefEqProofs [isB, hc, h1, h2]
  · simp -implicitDefEqProofs [isB, hc, h1]
theorem gStep_len (last : Int) (s : List St2 × Int) (p : St2) : (gStep last s p).1.length ≤ s.1.length + 1 := by
  unfold gStep
  simp only
  split
  · simp
  · omega
theorem gap_ok (k : Nat) (wr : Wr) (m : M) (s0 s1 : Option (Bool × D)) (last : Int) : ∀ (rs : List St2) (s : List St2 × Int) (s5 s6 : Option (Bool × D)), (∀ p ∈ rs, Ok2 p) → s.1.length + rs.length ≤ 1000 → ∃ s5' s6',
    forB (Wk (k + 1)) (.tup [.nm 5, .nm 6]) bG wr (rs.map stD) [s0, s1, some (false, .int last), some (true, .list (s.1.map stD)), some (false, .int s.2), s5, s6] m
      = .nx [s0, s1, some (false, .int last), some (true, .list ((rs.foldl (gStep last) s).1.map stD)), some (false, .int (rs.foldl (gStep last) s).2), s5', s6'] m
  | [], s, s5, s6, _, _ => ⟨s5, s6, by simp⟩
  | p :: rs, s, s5, s6, h, hl => by
    simp only [List.length_cons] at hl
    have := gStep_len last s p
    obtain ⟨a, b, e⟩ := gap_ok k wr m s0 s1 last rs (gStep last s p) (some (false, .int p.1)) (some (false, .int p.2)) (fun q hq => h q (List.mem_cons_of_mem _ hq)) (by omega)
    refine ⟨a, b, ?_⟩
    have ht := gap_turn k wr m s0 s1 (some (false, .int p.1)) (some (false, .int p.2)) last s.2 s.1 p (h p List.mem_cons_self) (by omega)
    rw [List.map_cons, List.foldl_cons, forB_cons]
    simp only [stD, tvars_tup, bindT_tup, bindTs_cons, bindT_nm, bindTs_nil]
    simp -implicitDefEqProofs [ht, e]
theorem gap_no (k : Nat) (wr : Wr) (m : M) (s0 s1 : Option (Bool × D)) (last : Int) : ∀ (rs : List St2) (s : List St2 × Int) (s5 s6 : Option (Bool × D)), ¬ (∀ p ∈ rs, Ok2 p) → s.1.length + rs.length ≤ 1000 → ∃ g',
    forB (Wk (k + 1)) (.tup [.nm 5, .nm 6]) bG wr (rs.map stD) [s0, s1, some (false, .int last), some (true, .list (s.1.map stD)), some (false, .int s.2), s5, s6] m = .exc 1 g' m
  | [], s, s5, s6, h, _ => absurd (fun p hp => by cases hp) h
  | p :: rs, s, s5, s6, h, hl => by
    simp only [List.length_cons] at hl
    rw [List.map_cons, forB_cons]
    by_cases hp : Ok2 p
    · have := gStep_len last s p
      obtain ⟨g', e⟩ := gap_no k wr m s0 s1 last rs (gStep last s p) (some (false, .int p.1)) (some (false, .int p.2)) (fun hq => h fun q hq' => by
        rcases List.mem_cons.mp hq' with rfl | hq'
        · exact hp
        · exact hq q hq') (by omega)
      have ht := gap_turn k wr m s0 s1 (some (false, .int p.1)) (some (false, .int p.2)) last s.2 s.1 p hp (by omega)
      refine ⟨g', ?_⟩
      simp only [stD, tvars_tup, bindT_tup, bindTs_cons, bindT_nm, bindTs_nil]
      simp -implicitDefEqProofs [ht, e]
    · have hc := ck_no (k := k) (wr := wr) (m := m) hp
      exact ⟨_, by simp -implicitDefEqProofs [bG, stD, isB, hc] <;> rfl⟩
theorem c_gaps (k : Nat) (wr : Wr) (m : M) (ps : List St2) (first last : Int) (hl : ps.length ≤ 900) :
    (Wk (k + 2)).call 5 wr [.list (ps.map stD), .int first, .int last] m = if (∀ p ∈ ps, Ok2 p) ∧ Ok2 (first, last) then .ok (.tuple ((gapsP ps first last).map stD)) m else .exc 1 m := by
  rw [call_eq]
  by_cases hw : Ok2 (first, last)
  · have hc := ck_ok (k := k) (wr := wr) (m := m) (f := first) (l := last) hw
    by_cases h : ∀ p ∈ ps, Ok2 p
    · rw [if_pos ⟨h, hw⟩]
      obtain ⟨s5, s6, e⟩ := gap_ok k wr m (some (false, .list (ps.map stD))) (some (false, .int first)) last (sP ps) ([], first) none none (fun p hp => h p ((sP_mem ps p).mp hp)) (by rw [sP_len]; simp only [List.length_nil]; omega)
      have hz : ((sP ps).foldl (gStep last) ([], first)).1.length < sizeLine := by
        have : ∀ (rs : List St2) (s : List St2 × Int), (rs.foldl (gStep last) s).1.length ≤ s.1.length + rs.length := by
          intro rs
          induction rs with
          | nil => intro s; exact Nat.le_refl _
          | cons p rs ih =>
            intro s
            have h1 := ih (gStep last s p)
            have h2 := gStep_len last s p
            rw [List.foldl_cons, List.length_cons]
            omega
        have h1 := this (sP ps) ([], first)
        rw [sP_len] at h1
        simp only [List.length_nil] at h1
        have := siz
        omega
      simp only [List.map_nil, bG] at e
      unfold gapsP gEnd
      by_cases h2 : ((sP ps).foldl (gStep last) ([], first)).2 < last
      · simp -implicitDefEqProofs [fns, b_gaps, ga0, isB, hc, sbi_sortP, e, h2, hz, stD]
      · simp -implicitDefEqProofs [fns, b_gaps, ga0, isB, hc, sbi_sortP, e, h2]
    · rw [if_neg fun z => h z.1]
      obtain ⟨g', e⟩ := gap_no k wr m (some (false, .list (ps.map stD))) (some (false, .int first)) last (sP ps) ([], first) none none (fun z => h fun p hp => z p ((sP_mem ps p).mpr hp)) (by rw [sP_len]; simp only [List.length_nil]; omega)
      simp only [List.map_nil, bG] at e
      simp -implicitDefEqProofs [fns, b_gaps, ga0, isB, hc, sbi_sortP, e]
  · rw [if_neg fun z => hw z.2]
    have hc := ck_no (k := k) (wr := wr) (m := m) (f := first) (l := last) hw
    simp -implicitDefEqProofs [fns, b_gaps, ga0, isB, hc]
end Ev.T_k01
end
section
set_option Elab.async false
set_option linter.all false
set_option autoImplicit false
set_option maxRecDepth 100000
set_option maxHeartbeats 1000000
/-! k01: the gaps are the law's rows. -/
namespace Ev.T_k01
open PySem L2

def rowStep (acc : List St2) (n : Int) : List St2 := match acc.getLast? with
  | some r => if r.2 = n then acc.dropLast ++ [(r.1, n + 1)] else acc ++ [(n, n + 1)]
  | none => acc ++ [(n, n + 1)]
theorem row_join (acc : List St2) (b a : Int) : rowStep (acc ++ [(b, a)]) a = acc ++ [(b, a + 1)] := by
  unfold rowStep
  simp
theorem row_new (acc : List St2) (a : Int) (h : ∀ r ∈ acc, r.2 < a) : rowStep acc a = acc ++ [(a, a + 1)] := by
  unfold rowStep
  cases e : acc.getLast? with
  | none => rfl
  | some r =>
    have := h r (List.mem_of_getLast? e)
    simp only
    rw [if_neg (by omega)]
theorem run1 : ∀ (k : Nat) (acc : List St2) (b a : Int), (rngI a k).foldl rowStep (acc ++ [(b, a)]) = acc ++ [(b, a + k)]
  | 0, acc, b, a => by simp [rngI_zero]
  | k + 1, acc, b, a => by
    rw [rngI_succ, List.foldl_cons, row_join, run1 k]
    congr 3
    omega
theorem run_block (acc : List St2) (p : St2) (hp : p.1 < p.2) (h : ∀ r ∈ acc, r.2 < p.1) : (ngs p).foldl rowStep acc = acc ++ [p] := by
  unfold ngs
  obtain ⟨k, hk⟩ : ∃ k, (p.2 - p.1).toNat = k + 1 := ⟨(p.2 - p.1).toNat - 1, by omega⟩
  rw [hk, rngI_succ, List.foldl_cons, row_new acc p.1 h, run1 k]
  congr 2
  refine Prod.ext rfl ?_
  show p.1 + 1 + (k : Int) = p.2
  omega
theorem runs : ∀ (rows acc : List St2), (acc ++ rows).Pairwise (fun a b => a.2 < b.1) → (∀ r ∈ rows, r.1 < r.2) → (rows.flatMap ngs).foldl rowStep acc = acc ++ rows
  | [], acc, _, _ => by simp
  | p :: rows, acc, h, hn => by
    rw [List.flatMap_cons, List.foldl_append, run_block acc p (hn p List.mem_cons_self) ?_, runs rows (acc ++ [p]) (by simpa using h) fun r hr => hn r (List.mem_cons_of_mem _ hr)]
    · simp
    · exact fun r hr => (List.pairwise_append.mp h).2.2 r hr p List.mem_cons_self
theorem sorted_ext : ∀ (xs ys : List Int), xs.Pairwise (· < ·) → ys.Pairwise (· < ·) → (∀ a, a ∈ xs ↔ a ∈ ys) → xs = ys
  | [], [], _, _, _ => rfl
  | [], y :: ys, _, _, h => by have := (h y).mpr List.mem_cons_self; cases this
  | x :: xs, [], _, _, h => by have := (h x).mp List.mem_cons_self; cases this
  | x :: xs, y :: ys, hx, hy, h => by
    have hx' := List.pairwise_cons.mp hx
    have hy' := List.pairwise_cons.mp hy
    have e : x = y := by
      rcases List.mem_cons.mp ((h x).mp List.mem_cons_self) with e | h1
      · exact e
      · rcases List.mem_cons.mp ((h y).mpr List.mem_cons_self) with e | h2
        · exact e.symm
        · have := hy'.1 x h1; have := hx'.1 y h2; omega
    subst e
    congr 1
    refine sorted_ext xs ys hx'.2 hy'.2 fun a => ?_
    constructor
    · intro ha
      rcases List.mem_cons.mp ((h a).mp (List.mem_cons_of_mem _ ha)) with e | h1
      · have := hx'.1 a ha; omega
      · exact h1
    · intro ha
      rcases List.mem_cons.mp ((h a).mpr (List.mem_cons_of_mem _ ha)) with e | h1
      · have := hy'.1 a ha; omega
      · exact h1
theorem rngI_lt (a : Int) (n : Nat) : (rngI a n).Pairwise (· < ·) := by
  unfold rngI
  rw [List.pairwise_map]
  exact List.pairwise_lt_range.imp fun h => by omega
theorem ngs_mem {p : St2} {n : Int} (hp : p.1 < p.2) : n ∈ ngs p ↔ cov n p := by
  unfold ngs cov
  rw [rngI_mem]
  omega
structure GInv (busy : Int → Prop) (first last : Int) (s : List St2 × Int) : Prop where
  pw : s.1.Pairwise fun a b => a.2 < b.1
  rw : ∀ r ∈ s.1, r.1 < r.2 ∧ r.2 < s.2
  here : first ≤ s.2
  mem : ∀ n, (∃ r ∈ s.1, cov n r) ↔ first ≤ n ∧ n < last ∧ n < s.2 ∧ ¬ busy n
theorem gap_inv (busy : Int → Prop) (first last : Int) : ∀ (rs : List St2) (s : List St2 × Int), rs.Pairwise (fun a b => a.1 ≤ b.1) → (∀ p ∈ rs, Ok2 p) → (∀ n, s.2 ≤ n → (busy n ↔ ∃ q ∈ rs, cov n q)) → GInv busy first last s →
    GInv busy first last (rs.foldl (gStep last) s) ∧ ∀ n, (rs.foldl (gStep last) s).2 ≤ n → ¬ busy n
  | [], s, _, _, hb, I => ⟨I, fun n hn z => by obtain ⟨q, hq, _⟩ := (hb n hn).mp z; cases hq⟩
  | p :: rs, s, hs, ho, hb, I => by
    rw [List.foldl_cons]
    have hs' := List.pairwise_cons.mp hs
    have hp := ho p List.mem_cons_self
    have hp2 := hp.2
    have hd : dMax s.2 p.2 = max s.2 p.2 := by unfold dMax; split <;> omega
    refine gap_inv busy first last rs (gStep last s p) hs'.2 (fun q hq => ho q (List.mem_cons_of_mem _ hq)) ?_ ?_
    · intro n hn
      have hn : dMax s.2 p.2 ≤ n := hn
      rw [hd] at hn
      rw [hb n (by omega)]
      constructor
      · rintro ⟨q, hq, hc⟩
        rcases List.mem_cons.mp hq with rfl | hq
        · have := hc.2; omega
        · exact ⟨q, hq, hc⟩
      · rintro ⟨q, hq, hc⟩
        exact ⟨q, List.mem_cons_of_mem _ hq, hc⟩
    · by_cases h1 : s.2 < p.1 ∧ s.2 < last
      · have e : gStep last s p = (s.1 ++ [(s.2, dMin p.1 last)], max s.2 p.2) := by
          unfold gStep
          rw [if_pos h1, hd]
        have hm : dMin p.1 last = min p.1 last := by unfold dMin; split <;> omega
        rw [e, hm]
        refine ⟨?_, ?_, ?_, ?_⟩
        · rw [List.pairwise_append]
          refine ⟨I.pw, List.pairwise_singleton _ _, fun a ha b hb => ?_⟩
          rw [List.mem_singleton] at hb
          subst hb
          exact (I.rw a ha).2
        · intro r hr
          rcases List.mem_append.mp hr with hr | hr
          · have := I.rw r hr
            exact ⟨this.1, by show r.2 < max s.2 p.2; omega⟩
          · rw [List.mem_singleton] at hr
            subst hr
            exact ⟨by show s.2 < min p.1 last; omega, by show min p.1 last < max s.2 p.2; omega⟩
        · have := I.here
          show first ≤ max s.2 p.2
          omega
        · intro n
          have hI := I.mem n
          have hf := I.here
          constructor
          · rintro ⟨r, hr, hc⟩
            rcases List.mem_append.mp hr with hr | hr
            · have := hI.mp ⟨r, hr, hc⟩
              exact ⟨this.1, this.2.1, by show n < max s.2 p.2; omega, this.2.2.2⟩
            · rw [List.mem_singleton] at hr
              subst hr
              have c1 : s.2 ≤ n := hc.1
              have c2 : n < min p.1 last := hc.2
              refine ⟨by omega, by omega, by show n < max s.2 p.2; omega, fun z => ?_⟩
              obtain ⟨q, hq, hq2⟩ := (hb n c1).mp z
              have q1 := hq2.1
              rcases List.mem_cons.mp hq with rfl | hq
              · omega
              · have := hs'.1 q hq; omega
          · rintro ⟨a1, a2, a3, a4⟩
            have a3 : n < max s.2 p.2 := a3
            by_cases hn : n < s.2
            · obtain ⟨r, hr, hc⟩ := hI.mpr ⟨a1, a2, hn, a4⟩
              exact ⟨r, List.mem_append_left _ hr, hc⟩
            · refine ⟨(s.2, min p.1 last), List.mem_append_right _ (List.mem_singleton_self _), by show s.2 ≤ n; omega, ?_⟩
              show n < min p.1 last
              have : ¬ p.1 ≤ n := fun z => a4 ((hb n (by omega)).mpr ⟨p, List.mem_cons_self, z, by omega⟩)
              omega
      · have e : gStep last s p = (s.1, max s.2 p.2) := by
          unfold gStep
          rw [if_neg h1, hd]
        rw [e]
        refine ⟨I.pw, fun r hr => ⟨(I.rw r hr).1, by have := (I.rw r hr).2; show r.2 < max s.2 p.2; omega⟩, by have := I.here; show first ≤ max s.2 p.2; omega, fun n => ?_⟩
        rw [I.mem n]
        show first ≤ n ∧ n < last ∧ n < s.2 ∧ ¬busy n ↔ first ≤ n ∧ n < last ∧ n < max s.2 p.2 ∧ ¬busy n
        constructor
        · rintro ⟨a1, a2, a3, a4⟩
          exact ⟨a1, a2, by omega, a4⟩
        · rintro ⟨a1, a2, a3, a4⟩
          refine ⟨a1, a2, ?_, a4⟩
          refine Classical.byContradiction fun hn => ?_
          by_cases h2 : p.1 ≤ n
          · exact a4 ((hb n (by omega)).mpr ⟨p, List.mem_cons_self, h2, by omega⟩)
          · omega
def freeL (ps : List St2) (w : St2) : List Int := (ngs w).filter fun n => decide (cnt ps n = 0)
theorem gaps_law (ps : List St2) (w : St2) (ho : ∀ p ∈ ps, Ok2 p) (hw : Ok2 w) : (freeL ps w).foldl rowStep [] = gapsP ps w.1 w.2 := by
  obtain ⟨I, hb⟩ := gap_inv (fun n => ∃ q ∈ sP ps, cov n q) w.1 w.2 (sP ps) ([], w.1) (sP_sorted ps) (fun p hp => ho p ((sP_mem ps p).mp hp)) (fun n _ => Iff.rfl)
    ⟨List.Pairwise.nil, fun r hr => (by cases hr), Int.le_refl _, fun n => ⟨fun ⟨r, hr, _⟩ => (by cases hr), fun ⟨a1, a2, a3, _⟩ => (by have a3 : n < w.1 := a3; omega)⟩⟩
  have key : (gapsP ps w.1 w.2).Pairwise (fun a b => a.2 < b.1) ∧ (∀ r ∈ gapsP ps w.1 w.2, r.1 < r.2) ∧ ∀ n, (∃ r ∈ gapsP ps w.1 w.2, cov n r) ↔ w.1 ≤ n ∧ n < w.2 ∧ ¬ ∃ q ∈ sP ps, cov n q := by
    unfold gapsP gEnd
    generalize (sP ps).foldl (gStep w.2) ([], w.1) = s at I hb
    by_cases h : s.2 < w.2
    · rw [if_pos h]
      refine ⟨?_, ?_, ?_⟩
      · rw [List.pairwise_append]
        refine ⟨I.pw, List.pairwise_singleton _ _, fun a ha b hb => ?_⟩
        rw [List.mem_singleton] at hb
        subst hb
        exact (I.rw a ha).2
      · intro r hr
        rcases List.mem_append.mp hr with hr | hr
        · exact (I.rw r hr).1
        · rw [List.mem_singleton] at hr
          subst hr
          exact h
      · intro n
        constructor
        · rintro ⟨r, hr, hc⟩
          rcases List.mem_append.mp hr with hr | hr
          · have := (I.mem n).mp ⟨r, hr, hc⟩
            exact ⟨this.1, this.2.1, this.2.2.2⟩
          · rw [List.mem_singleton] at hr
            subst hr
            have c1 : s.2 ≤ n := hc.1
            have c2 : n < w.2 := hc.2
            have := I.here
            exact ⟨by omega, c2, hb n c1⟩
        · rintro ⟨a1, a2, a3⟩
          by_cases hn : n < s.2
          · obtain ⟨r, hr, hc⟩ := (I.mem n).mpr ⟨a1, a2, hn, a3⟩
            exact ⟨r, List.mem_append_left _ hr, hc⟩
          · exact ⟨(s.2, w.2), List.mem_append_right _ (List.mem_singleton_self _), by show s.2 ≤ n; omega, a2⟩
    · rw [if_neg h]
      refine ⟨I.pw, fun r hr => (I.rw r hr).1, fun n => ?_⟩
      rw [I.mem n]
      constructor
      · rintro ⟨a1, a2, _, a4⟩
        exact ⟨a1, a2, a4⟩
      · rintro ⟨a1, a2, a3⟩
        exact ⟨a1, a2, by omega, a3⟩
  obtain ⟨k1, k2, k3⟩ := key
  have e : freeL ps w = (gapsP ps w.1 w.2).flatMap ngs := by
    refine sorted_ext _ _ ((rngI_lt _ _).sublist List.filter_sublist) ?_ fun n => ?_
    · rw [List.pairwise_flatMap]
      refine ⟨fun p _ => rngI_lt _ _, ?_⟩
      refine k1.imp_of_mem fun {a b} ha hb hab x hx y hy => ?_
      have hx := (ngs_mem (k2 a ha)).mp hx
      have hy := (ngs_mem (k2 b hb)).mp hy
      have := hx.2
      have := hy.1
      omega
    · unfold freeL
      rw [List.mem_filter, ngs_mem hw.2, List.mem_flatMap]
      have hz : cnt ps n = 0 ↔ ¬ ∃ q ∈ sP ps, cov n q := by
        have := cnt_pos (ps := ps) (n := n)
        simp only [sP_mem]
        rw [← this]
        omega
      rw [decide_eq_true_iff, hz]
      constructor
      · rintro ⟨⟨a1, a2⟩, a3⟩
        obtain ⟨r, hr, hc⟩ := (k3 n).mpr ⟨a1, a2, a3⟩
        exact ⟨r, hr, (ngs_mem (k2 r hr)).mpr hc⟩
      · rintro ⟨r, hr, hc⟩
        have := (k3 n).mp ⟨r, hr, (ngs_mem (k2 r hr)).mp hc⟩
        exact ⟨⟨this.1, this.2.1⟩, this.2.2⟩
  rw [e, runs _ [] (by simpa using k1) k2, List.nil_append]
end Ev.T_k01
end
section
set_option Elab.async false
set_option linter.all false
set_option autoImplicit false
set_option maxRecDepth 100000
set_option maxHeartbeats 1000000
/-! k01: what Seasons computes. -/
namespace Ev.T_k01
open PySem L2

abbrev L3 := Int × Int × Str
def lnD (r : L3) : D := .tuple [.int r.1, .int r.2.1, .str r.2.2]
def ZOk (ls : List L3) : Prop := ∀ r ∈ ls, PyData.canLay0 (.str r.2.2) = true
def le3 (a b : L3) : Bool := dLe (lnD a) (lnD b)
def s3 (ls : List L3) : List L3 := ls.mergeSort le3
theorem sort_lines (ls : List L3) : (ls.map lnD).mergeSort dLe = (s3 ls).map lnD := by
  unfold s3
  rw [List.map_mergeSort (s := dLe)]
  intro a _ b _
  rfl
theorem sortable_lines (ls : List L3) : sortable (ls.map lnD) = true := by
  unfold sortable
  simp only [Bool.and_eq_true, Bool.or_eq_true, List.all_eq_true, decide_eq_true_eq]
  refine ⟨⟨fun a ha b hb => ?_, fun a ha => ?_⟩, .inl fun a ha => ?_⟩
  · obtain ⟨i, _, rfl⟩ := List.mem_map.mp ha
    obtain ⟨j, _, rfl⟩ := List.mem_map.mp hb
    rfl
  · obtain ⟨i, _, rfl⟩ := List.mem_map.mp ha
    simp [lnD, PyData.depth, PyData.depthAll]
  · obtain ⟨i, _, rfl⟩ := List.mem_map.mp ha
    rfl
theorem sbi_sort3 (ls : List L3) : semBi .sorted [.list (ls.map lnD)] = some (.list ((s3 ls).map lnD)) := by
  show (if sortable (ls.map lnD) then some (PyData.list ((ls.map lnD).mergeSort dLe)) else none) = _
  rw [if_pos (sortable_lines ls), sort_lines]
theorem s3_mem (ls : List L3) (a : L3) : a ∈ s3 ls ↔ a ∈ ls := List.mem_mergeSort
theorem s3_len (ls : List L3) : (s3 ls).length = ls.length := List.length_mergeSort ls
def bad1 (ls : List L3) : Bool := (s3 ls).any fun r => decide (r.1 < 0) || (decide (r.2.1 < r.1) || decide (r.2.2 = ""))
def bad2 (ls : List L3) : Bool := ((s3 ls).zip (s3 ls).tail).any fun q => decide (q.2.1 ≤ q.1.2.1)
def q2D (q : L3 × L3) : D := .tuple [lnD q.1, lnD q.2]
theorem zip_map (as bs : List L3) : (as.map lnD).zipWith (fun a b => .tuple [a, b]) (bs.map lnD) = (as.zip bs).map q2D := by
  rw [List.zip, List.zipWith_map, List.map_zipWith]
  rfl
theorem tail_map (as : List L3) : (as.map lnD).tail = as.tail.map lnD := by cases as <;> rfl
theorem zip_tail (as : List L3) : (as.map lnD).zipWith (fun a b => .tuple [a, b]) (as.map lnD).tail = (as.zip as.tail).map q2D := by rw [tail_map, zip_map]
theorem in_sort (k : Nat) (wr : Wr) (m : M) (s0 s1 s2 s3' s4 s5 s6 s7 s8 : Option (Bool × D)) (ls : List L3) (hl : ls.length ≤ 1000000) :
    runCo .sorted (cmB (Wk k) (.bi .tuple [.nm 3]) (.nm 3) [] wr [s0, s1, s2, s3', s4, s5, s6, s7, s8]) (ls.map lnD) m = .ok (.list ((s3 ls).map lnD)) m := by
  show (turns _ (ls.map lnD) [] m).bind _ = _
  rw [turns_map lnD (fun r => some (lnD r)) ls [] ?_ ?_]
  · simp only [R.bind_ok, List.nil_append, List.filterMap_eq_map', endCo]
    rw [if_pos (sortable_lines ls), sort_lines]
    rfl
  · intro r _
    rw [cmB_eq _ _ _ _ _ _ _ _ _ (by simp <;> rfl)]
    simp -implicitDefEqProofs [isB, lnD]
  · have := siz
    simp only [List.length_nil]
    omega
theorem in_any1 (k : Nat) (wr : Wr) (m : M) (s0 s1 s2 s3' s4 s5 s6 s7 s8 : Option (Bool × D)) (ls : List L3) (hz : ZOk ls) :
    runCo .any (cmB (Wk k) (.or (.cmp .lt (.nm 4) (.cst (.int 0))) (.or (.cmp .lt (.nm 5) (.nm 4)) (.cmp .eq (.nm 6) (.cst (.str ""))))) (.tup [.nm 4, .nm 5, .nm 6]) [] wr [s0, s1, s2, s3', s4, s5, s6, s7, s8]) ((s3 ls).map lnD) m = .ok (.bool (bad1 ls)) m := by
  refine co_any _ (s3 ls) fun r hr => ?_
  have hs := sc_eqZ (a := r.2.2) (b := "") (hz r ((s3_mem ls r).mp hr)) (by decide +kernel)
  rw [cmB_eq _ _ _ _ _ _ _ _ _ (by simp [lnD] <;> rfl)]
  by_cases h1 : r.1 < 0
  · simp -implicitDefEqProofs [isB, h1]
  · by_cases h2 : r.2.1 < r.1
    · simp -implicitDefEqProofs [isB, h1, h2]
    · simp -implicitDefEqProofs [isB, h1, h2, hs]
theorem in_any2 (k : Nat) (wr : Wr) (m : M) (s0 s1 s2 s3' s4 s5 s6 s7 s8 : Option (Bool × D)) (ls : List L3) :
    runCo .any (cmB (Wk k) (.cmp .ge (.idx (.nm 7) (.cst (.int 1))) (.idx (.nm 8) (.cst (.int 0)))) (.tup [.nm 7, .nm 8]) [] wr [s0, s1, s2, s3', s4, s5, s6, s7, s8]) (((s3 ls).zip (s3 ls).tail).map q2D) m = .ok (.bool (bad2 ls)) m := by
  refine co_any _ _ fun q hq => ?_
  rw [cmB_eq _ _ _ _ _ _ _ _ _ (by simp [q2D] <;> rfl)]
  simp -implicitDefEqProofs [isB, lnD]
def insS (ls : List L3) : Cell := .ins 0 [("rows", false, .tuple ((s3 ls).map lnD))]
theorem c_init (k : Nat) (m : M) (r : Nat) (ls : List L3) (hr : m[r]? = some (.ins 0 [])) (hz : ZOk ls) (hl : ls.length ≤ 1000000) :
    (Wk (k + 1)).call 6 wrT [cellD r, .list (ls.map lnD)] m = if bad1 ls = true ∨ bad2 ls = true then .exc 1 m else .ok .none (m.set r (insS ls)) := by
  have e1 := in_sort k wrT m (some (false, cellD r)) (some (false, .list (ls.map lnD))) none none none none none none none ls hl
  have e2 := in_any1 k wrT m (some (false, cellD r)) (some (false, .list (ls.map lnD))) (some (false, .list ((s3 ls).map lnD))) none none none none none none ls hz
  have e3 := in_any2 k wrT m (some (false, cellD r)) (some (false, .list (ls.map lnD))) (some (false, .list ((s3 ls).map lnD))) none none none none none none ls
  have e4 : ∀ (f : Nat → Nat → List (Str × Bool × D) → RS) (t : Tk f), insF (cellD r) m f t = f r 0 [] := fun f t => insF_ok (asCell_cell r) hr
  rw [call_eq]
  by_cases h1 : bad1 ls = true
  · rw [if_pos (.inl h1)]
    rw [h1] at e2
    simp -implicitDefEqProofs [fns, b_Seasons_init, ga0, isB, e_co, e1, e2]
  · by_cases h2 : bad2 ls = true
    · rw [if_pos (.inr h2)]
      rw [Bool.not_eq_true] at h1
      rw [h1] at e2
      rw [h2] at e3
      simp -implicitDefEqProofs [fns, b_Seasons_init, ga0, isB, e_co, e1, e2, e3, zip_tail]
    · rw [if_neg (fun z => z.elim h1 h2)]
      rw [Bool.not_eq_true] at h1 h2
      rw [h1] at e2
      rw [h2] at e3
      simp -implicitDefEqProofs [fns, b_Seasons_init, ga0, isB, e_co, e1, e2, e3, e4, zip_tail, insS, putF]
end Ev.T_k01
end
section
set_option Elab.async false
set_option linter.all false
set_option autoImplicit false
set_option maxRecDepth 100000
set_option maxHeartbeats 1000000
/-! k01: what season, parts and count compute. -/
namespace Ev.T_k01
open PySem L2

def cv (d : Int) (r : L3) : Bool := decide (r.1 ≤ d ∧ d ≤ r.2.1)
def seasonN (rs : List L3) (d : Int) : Str := match rs.find? (cv d) with
  | some r => r.2.2
  | none => "plain"
def bS : List St := [.ifs (.chn .le .le (.nm 2) (.nm 1) (.nm 3)) [.ret (.nm 4)] []]
theorem sea_loop (W : Wd) (wr : Wr) (m : M) (s0 : Option (Bool × D)) (d : Int) : ∀ (rs : List L3) (s2 s3' s4 : Option (Bool × D)), ∃ s2' s3'' s4',
    forB W (.tup [.nm 2, .nm 3, .nm 4]) bS wr (rs.map lnD) [s0, some (false, .int d), s2, s3', s4] m = match rs.find? (cv d) with
      | some r => .rt (.str r.2.2) m
      | none => .nx [s0, some (false, .int d), s2', s3'', s4'] m
  | [], s2, s3', s4 => ⟨s2, s3', s4, by simp⟩
  | r :: rs, s2, s3', s4 => by
    obtain ⟨a, b, c, e⟩ := sea_loop W wr m s0 d rs (some (false, .int r.1)) (some (false, .int r.2.1)) (some (false, .str r.2.2))
    refine ⟨a, b, c, ?_⟩
    unfold bS at e ⊢
    rw [List.map_cons, List.find?_cons]
    by_cases h1 : r.1 ≤ d
    · by_cases h2 : d ≤ r.2.1
      · rw [show cv d r = true from decide_eq_true ⟨h1, h2⟩]
        simp -implicitDefEqProofs [lnD, isB, h1, h2]
      · rw [show cv d r = false from decide_eq_false fun z => h2 z.2]
        simp -implicitDefEqProofs [lnD, isB, h1, h2, e]
    · rw [show cv d r = false from decide_eq_false fun z => h1 z.1]
      simp -implicitDefEqProofs [lnD, isB, h1, e]
def fsS (ls : List L3) : List (Str × Bool × D) := [("rows", false, .tuple ((s3 ls).map lnD))]
theorem cls_S {m : M} {r : Nat} {ls : List L3} (hr : m[r]? = some (insS ls)) : clsAt m (cellD r) = some (0, fsS ls) := clsAt_cell hr
@[simp] theorem lkS (ls : List L3) : (fsS ls).lookup ("rows" : Str) = some (false, PyData.tuple ((s3 ls).map lnD)) := rfl
@[simp] theorem lkS7 (ls : List L3) : (fsS ls).lookup ("season" : Str) = none := rfl
@[simp] theorem lkS8 (ls : List L3) : (fsS ls).lookup ("parts" : Str) = none := rfl
@[simp] theorem lkS9 (ls : List L3) : (fsS ls).lookup ("count" : Str) = none := rfl
theorem c_season (k : Nat) (wr : Wr) (m : M) (r : Nat) (ls : List L3) (hr : m[r]? = some (insS ls)) (d : Int) :
    (Wk (k + 1)).call 7 wr [cellD r, .int d] m = if d < 0 then .exc 1 m else .ok (.str (seasonN (s3 ls) d)) m := by
  rw [call_eq]
  by_cases h : d < 0
  · simp -implicitDefEqProofs [fns, b_Seasons_season, ga0, isB, h]
  · obtain ⟨a, b, c, e⟩ := sea_loop (Wk k) wr m (some (false, cellD r)) d (s3 ls) none none none
    unfold bS at e
    unfold seasonN
    cases hf : (s3 ls).find? (cv d) with
    | some q =>
      rw [hf] at e
      simp -implicitDefEqProofs [fns, b_Seasons_season, ga0, isB, h, cls_S hr, e]
    | none =>
      rw [hf] at e
      simp -implicitDefEqProofs [fns, b_Seasons_season, ga0, isB, h, cls_S hr, e]
/-! ### parts -/
abbrev Pt := Str × Int
def ptD (q : Pt) : D := .tuple [.str q.1, .int q.2]
def partStep (acc : List Pt) (z : Str) : List Pt := match acc.getLast? with
  | some q => if q.1 = z then acc.dropLast ++ [(z, q.2 + 1)] else acc ++ [(z, 1)]
  | none => acc ++ [(z, 1)]
def POk (acc : List Pt) : Prop := ∀ q ∈ acc, PyData.canLay0 (.str q.1) = true
theorem shaped_parts {acc : List Pt} (h : POk acc) : SeqAt.shaped (.list (acc.map ptD)) = true := by
  refine shaped_l (n := 1) (canLay_map fun q hq => ?_) (depth_map fun q hq => ?_) (by decide)
  · simp [ptD, PyData.canLay0, PyData.canLayAll0]
    simpa [PyData.canLay0] using h q hq
  · simp [ptD, PyData.depth, PyData.depthAll]
theorem partStep_ok {acc : List Pt} {z : Str} (h : POk acc) (hz : PyData.canLay0 (.str z) = true) : POk (partStep acc z) := by
  have h2 : ∀ (bs : List Pt) (i : Int), POk bs → POk (bs ++ [(z, i)]) := fun bs i hb q hq => by
    rcases List.mem_append.mp hq with hq | hq
    · exact hb q hq
    · rw [List.mem_singleton] at hq
      subst hq
      exact hz
  unfold partStep
  split
  · split
    · exact h2 _ _ fun q hq => h q ((List.dropLast_sublist acc).subset hq)
    · exact h2 _ _ h
  · exact h2 _ _ h
theorem partStep_len (acc : List Pt) (z : Str) : (partStep acc z).length ≤ acc.length + 1 := by
  unfold partStep
  split
  · split
    · simp <;> try omega
    · simp
  · simp
def bP : List St := [.asg 5 (.met 7 (.nm 0) [.nm 4]), .ifs (.and (.cmp .ne (.pk 3) (.lst [])) (.cmp .eq (.idx (.idx (.pk 3) (.neg (.cst (.int 1)))) (.cst (.int 0))) (.nm 5))) [.seti (.sl 3) (.neg (.cst (.int 1))) (.tup [.nm 5, .bin .add (.idx (.idx (.pk 3) (.neg (.cst (.int 1)))) (.cst (.int 1))) (.cst (.int 1))])] [.app (.sl 3) (.tup [.nm 5, .cst (.int 1)])]]
theorem part_turn (k : Nat) (wr : Wr) (m : M) (r : Nat) (ls : List L3) (hr : m[r]? = some (insS ls)) (s1 s2 s5 : Option (Bool × D)) (n : Int) (hn : 0 ≤ n) (acc : List Pt) (ha : POk acc) (hz : PyData.canLay0 (.str (seasonN (s3 ls) n)) = true) (hl : acc.length ≤ 100000) :
    execL (Wk (k + 1)) bP wr [some (false, cellD r), s1, s2, some (true, .list (acc.map ptD)), some (false, .int n), s5] m
      = .nx [some (false, cellD r), s1, s2, some (true, .list ((partStep acc (seasonN (s3 ls) n)).map ptD)), some (false, .int n), some (false, .str (seasonN (s3 ls) n))] m := by
  have hc := c_season k wr m r ls hr n
  rw [if_neg (by omega)] at hc
  have hs : semCmp .ne (.list (acc.map ptD)) (.list []) = some (!acc.isEmpty) := by
    show (eqS _ _).map (!·) = _
    rw [eqS_nil (shaped_parts ha)]
    simp
  have hz' : acc.length < sizeLine := by have := siz; omega
  skip
  generalize seasonN (s3 ls) n = z at hc hz ⊢
  unfold bP partStep
  rcases List.eq_nil_or_concat acc with rfl | ⟨as, ⟨a, i⟩, rfl⟩
  · simp -implicitDefEqProofs at hs hz'
    simp -implicitDefEqProofs [isB, cls_S hr, hc, hs, hz', ptD]
  · have hq : PyData.canLay0 (.str a) = true := ha (a, i) (by simp)
    have he := sc_eqZ hq hz
    have hi := atI_last (as.map ptD) (.tuple [.str a, .int i])
    have hs3 := setN_last (as.map ptD) (.tuple [.str a, .int i]) (.tuple [.str z, .int (i + 1)])
    simp only [List.concat_eq_append, List.map_append, List.map_cons, List.map_nil, ptD, List.length_append, List.length_singleton] at hs hz' ⊢
    rw [show (!(as ++ [(a, i)]).isEmpty) = true by cases as <;> rfl] at hs
    by_cases h : a = z
    · subst h
      rw [decide_eq_true rfl] at he
      simp -implicitDefEqProofs [isB, cls_S hr, hc, hs, hz', hi, he, hs3, ptD]
    · rw [decide_eq_false h] at he
      simp -implicitDefEqProofs [isB, cls_S hr, hc, hs, hz', hi, he, hs3, h, ptD]
def ZP (ls : List L3) : Prop := ∀ n, PyData.canLay0 (.str (seasonN (s3 ls) n)) = true
theorem zp_of {ls : List L3} (h : ZOk ls) : ZP ls := fun n => by
  unfold seasonN
  cases hf : (s3 ls).find? (cv n) with
  | none => show PyData.canLay0 (.str "plain") = true; decide +kernel
  | some q => exact h q ((s3_mem ls q).mp (List.mem_of_find?_eq_some hf))
theorem part_loop (k : Nat) (wr : Wr) (m : M) (r : Nat) (ls : List L3) (hr : m[r]? = some (insS ls)) (hz : ZOk ls) (s1 s2 : Option (Bool × D)) : ∀ (is : List Int) (acc : List Pt) (s4 s5 : Option (Bool × D)), (∀ n ∈ is, 0 ≤ n) → POk acc → acc.length + is.length ≤ 100000 → ∃ s4' s5',
    forB (Wk (k + 1)) (.nm 4) bP wr (is.map .int) [some (false, cellD r), s1, s2, some (true, .list (acc.map ptD)), s4, s5] m
      = .nx [some (false, cellD r), s1, s2, some (true, .list (((is.map (seasonN (s3 ls))).foldl partStep acc).map ptD)), s4', s5'] m
  | [], acc, s4, s5, _, _, _ => ⟨s4, s5, by simp⟩
  | n :: is, acc, s4, s5, hn, ha, hl => by
    simp only [List.length_cons] at hl
    have hzn := zp_of hz n
    have hlen := partStep_len acc (seasonN (s3 ls) n)
    obtain ⟨a, b, e⟩ := part_loop k wr m r ls hr hz s1 s2 is (partStep acc (seasonN (s3 ls) n)) (some (false, .int n)) (some (false, .str (seasonN (s3 ls) n))) (fun j hj => hn j (List.mem_cons_of_mem _ hj)) (partStep_ok ha hzn) (by omega)
    refine ⟨a, b, ?_⟩
    have ht := part_turn k wr m r ls hr s1 s2 s5 n (hn n List.mem_cons_self) acc ha hzn (by omega)
    rw [List.map_cons, List.map_cons, List.foldl_cons, forB_cons]
    simp -implicitDefEqProofs [ht]
    simpa using e
def partsP (ls : List L3) (first last : Int) : List Pt := ((ngs (first, last)).map (seasonN (s3 ls))).foldl partStep []
theorem parts_ok {ls : List L3} (hz : ZOk ls) : ∀ (is : List Int) (acc : List Pt), POk acc → POk ((is.map (seasonN (s3 ls))).foldl partStep acc)
  | [], _, h => h
  | n :: is, acc, h => by
    rw [List.map_cons, List.foldl_cons]
    exact parts_ok hz is _ (partStep_ok h (zp_of hz n))
theorem parts_len {ls : List L3} : ∀ (is : List Int) (acc : List Pt), ((is.map (seasonN (s3 ls))).foldl partStep acc).length ≤ acc.length + is.length
  | [], _ => Nat.le_refl _
  | n :: is, acc => by
    rw [List.map_cons, List.foldl_cons, List.length_cons]
    have := parts_len (ls := ls) is (partStep acc (seasonN (s3 ls) n))
    have := partStep_len acc (seasonN (s3 ls) n)
    omega
theorem c_parts (k : Nat) (wr : Wr) (m : M) (r : Nat) (ls : List L3) (hr : m[r]? = some (insS ls)) (hz : ZOk ls) (first last : Int) (hf : -1000 ≤ first) (hl : last ≤ 1000) :
    (Wk (k + 3)).call 8 wr [cellD r, .int first, .int last] m = if Ok2 (first, last) then .ok (.tuple ((partsP ls first last).map ptD)) m else .exc 1 m := by
  rw [call_eq]
  have hn0 := c_nights k wr m first last hf hl
  by_cases h : Ok2 (first, last)
  · rw [if_pos h]
    have hn := hn0.trans (if_pos h)
    have h1 : 0 ≤ first := h.1
    have h2 : first < last := h.2
    obtain ⟨a, b, e⟩ := part_loop (k + 1) wr m r ls hr hz (some (false, .int first)) (some (false, .int last)) (ngs (first, last)) [] none none (fun n hnn => by
      have := ((ngs_mem (p := (first, last)) h.2).mp hnn).1
      have : first ≤ n := this
      omega) (fun q hq => by cases hq) (by unfold ngs; rw [rngI_len]; simp only [List.length_nil]; omega)
    unfold bP at e
    simp only [List.map_nil] at e
    unfold partsP
    simp -implicitDefEqProofs [fns, b_Seasons_parts, ga0, isB, hn, e, -List.map_map]
  · rw [if_neg h]
    have hn := hn0.trans (if_neg h)
    simp -implicitDefEqProofs [fns, b_Seasons_parts, ga0, isB, hn]
theorem co_sumF {α : Type} {body : D → M → R (Option D)} {enc : α → D} {m : M} {as : List α} (p : α → Bool) (f : α → Int) (h : ∀ a ∈ as, body (enc a) m = .ok (if p a then some (.int (f a)) else none) m) (hl : as.length ≤ sizeLine) : runCo .sum body (as.map enc) m = .ok (.int ((as.filter p).map f).sum) m := by
  show (turns body (as.map enc) [] m).bind _ = _
  rw [turns_map enc (fun a => if p a then some (.int (f a)) else none) as [] h (by simpa using hl)]
  have e := filterMap_p (fun a => p a = true) (fun a => PyData.int (f a)) as
  show R.of ((intsOf ([] ++ as.filterMap (fun a => if p a = true then some (PyData.int (f a)) else none))).map fun ns => PyData.int ns.sum) m = _
  have e2 : (as.filter fun a => decide (p a = true)).map (fun a => PyData.int (f a)) = ((as.filter p).map f).map .int := by simp [List.map_map, Function.comp_def]
  rw [List.nil_append, e, e2, intsOf_mapI]
  rfl
def countP (ls : List L3) (z : Str) (first last : Int) : Int := (((partsP ls first last).filter fun q => decide (q.1 = z)).map (·.2)).sum
theorem c_count (k : Nat) (wr : Wr) (m : M) (r : Nat) (ls : List L3) (hr : m[r]? = some (insS ls)) (hz : ZOk ls) (z : Str) (hzz : PyData.canLay0 (.str z) = true) (first last : Int) (hf : -1000 ≤ first) (hl : last ≤ 1000) :
    (Wk (k + 4)).call 9 wr [cellD r, .str z, .int first, .int last] m = if Ok2 (first, last) then .ok (.int (countP ls z first last)) m else .exc 1 m := by
  rw [call_eq]
  have hp := c_parts k wr m r ls hr hz first last hf hl
  by_cases h : Ok2 (first, last)
  · rw [if_pos h]
    rw [if_pos h] at hp
    have hs : runCo .sum (cmB (Wk (k + 3)) (.nm 5) (.tup [.nm 4, .nm 5]) [.cmp .eq (.nm 4) (.nm 1)] wr [some (false, cellD r), some (false, .str z), some (false, .int first), some (false, .int last), none, none]) ((partsP ls first last).map ptD) m = .ok (.int (countP ls z first last)) m := by
      refine co_sumF _ _ (fun q hq => ?_) ?_
      · have he := sc_eqZ (parts_ok hz (ngs (first, last)) [] (fun q hq => by cases hq) q hq) hzz
        rw [cmB_eq _ _ _ _ _ _ _ _ _ (by simp [ptD] <;> rfl)]
        by_cases hh : q.1 = z
        · rw [decide_eq_true hh] at he
          simp -implicitDefEqProofs [isB, he, hh]
          try (rw [hh] at he; simp -implicitDefEqProofs [he])
        · rw [decide_eq_false hh] at he
          simp -implicitDefEqProofs [isB, he, hh]
      · have h1 := parts_len (ls := ls) (ngs (first, last)) []
        have h2 := h.1
        have h3 : 0 ≤ first := h2
        have := siz
        unfold ngs at h1
        rw [rngI_len] at h1
        simp only [List.length_nil] at h1
        unfold partsP ngs
        dsimp only at h1 ⊢
        omega
    simp -implicitDefEqProofs [fns, b_Seasons_count, ga0, isB, cls_S hr, hp, e_co, hs]
  · rw [if_neg h]
    rw [if_neg h] at hp
    simp -implicitDefEqProofs [fns, b_Seasons_count, ga0, isB, cls_S hr, hp, e_co]
end Ev.T_k01
end
section
set_option Elab.async false
set_option linter.all false
set_option autoImplicit false
set_option maxRecDepth 100000
set_option maxHeartbeats 1000000
/-! k01: when Seasons raises. -/
namespace Ev.T_k01
open PySem L2

theorem lt3_eq (a b : L3) : PySem.W.dataLt (lnD a) (lnD b) = decide (a.1 < b.1 ∨ (a.1 = b.1 ∧ (a.2.1 < b.2.1 ∨ (a.2.1 = b.2.1 ∧ a.2.2.cps.toList < b.2.2.cps.toList)))) := by
  unfold lnD
  rw [PySem.W.dataLt_tuple, PySem.W.dataLt_cons (by rfl), PySem.W.dataLt_int, PySem.W.dataLt_cons (by rfl), PySem.W.dataLt_int, PySem.W.dataLt_cons (by rfl), PySem.W.dataLt_str, eqv_str]
  rw [show PyProof.Rows.lexLt PyProof.Rows.itemOrd (PySem.W.keyToksAll []) (PySem.W.keyToksAll []) = false from PyProof.Rows.lex_irrefl _]
  simp only [PyData.eqv, beq_iff_eq]
  by_cases h1 : a.1 = b.1
  · by_cases h2 : a.2.1 = b.2.1
    · by_cases h3 : a.2.2 = b.2.2
      · have : ¬ b.2.2.cps.toList < b.2.2.cps.toList := List.lt_irrefl _
        simp [h1, h2, h3, this]
      · simp [h1, h2, h3]
    · simp [h1, h2]
  · simp [h1]
theorem nlt_trans {x y z : List Nat} (h1 : ¬ y < x) (h2 : ¬ z < y) : ¬ z < x := List.not_lt.mpr (List.le_trans (List.not_lt.mp h1) (List.not_lt.mp h2))
theorem le3_iff (a b : L3) : le3 a b = true ↔ ¬ (b.1 < a.1 ∨ (b.1 = a.1 ∧ (b.2.1 < a.2.1 ∨ (b.2.1 = a.2.1 ∧ b.2.2.cps.toList < a.2.2.cps.toList)))) := by
  show (!PySem.W.dataLt (lnD b) (lnD a)) = true ↔ _
  rw [lt3_eq, Bool.not_eq_true', decide_eq_false_iff_not]
theorem s3_sorted (ls : List L3) : (s3 ls).Pairwise fun a b => a.1 ≤ b.1 := by
  have := List.pairwise_mergeSort (le := le3) (fun a b c h1 h2 => by
    rw [le3_iff] at *
    have hn := @nlt_trans a.2.2.cps.toList b.2.2.cps.toList c.2.2.cps.toList
    generalize (b.2.2.cps.toList < a.2.2.cps.toList) = p at *
    generalize (c.2.2.cps.toList < b.2.2.cps.toList) = q at *
    generalize (c.2.2.cps.toList < a.2.2.cps.toList) = r at *
    grind) (fun a b => by
    rw [Bool.or_eq_true, le3_iff, le3_iff]
    have hn : ¬ (a.2.2.cps.toList < b.2.2.cps.toList ∧ b.2.2.cps.toList < a.2.2.cps.toList) := fun z => List.lt_irrefl _ (List.lt_trans z.1 z.2)
    generalize (b.2.2.cps.toList < a.2.2.cps.toList) = p at *
    generalize (a.2.2.cps.toList < b.2.2.cps.toList) = q at *
    grind) ls
  exact this.imp fun h => by
    rw [le3_iff] at h
    omega
/-! ### sound -/
def dys (r : L3) : List Int := rngI r.1 (r.2.1 + 1 - r.1).toNat
def daysL (ls : List L3) : List Int := ls.flatMap dys
def lineOk (r : L3) : Prop := ¬ (r.2.1 < r.1 ∨ r.2.2 = "")
instance (r : L3) : Decidable (lineOk r) := by unfold lineOk; infer_instance
def SoundP (ls : List L3) : Prop := (∀ r ∈ ls, lineOk r) ∧ (daysL ls).Nodup
theorem dys_mem {r : L3} {d : Int} (h : r.1 ≤ r.2.1) : d ∈ dys r ↔ r.1 ≤ d ∧ d ≤ r.2.1 := by
  unfold dys
  rw [rngI_mem]
  omega
theorem zip_adj {R : L3 → L3 → Prop} : ∀ (as : List L3), (∀ q ∈ as.zip as.tail, R q.1 q.2) → (∀ a b c, R a b → R b c → R a c) → as.Pairwise R
  | [], _, _ => List.Pairwise.nil
  | [a], _, _ => List.pairwise_singleton _ _
  | a :: b :: as, h, ht => by
    have ih := zip_adj (b :: as) (fun q hq => h q (List.mem_cons_of_mem _ hq)) ht
    have hab : R a b := h (a, b) List.mem_cons_self
    refine List.pairwise_cons.mpr ⟨fun c hc => ?_, ih⟩
    rcases List.mem_cons.mp hc with rfl | hc
    · exact hab
    · exact ht a b c hab ((List.pairwise_cons.mp ih).1 c hc)
theorem pair_zip {R : L3 → L3 → Prop} : ∀ (as : List L3), as.Pairwise R → ∀ q ∈ as.zip as.tail, R q.1 q.2
  | [], _, q, hq => by cases hq
  | [a], _, q, hq => by cases hq
  | a :: b :: as, h, q, hq => by
    have h' := List.pairwise_cons.mp h
    rcases List.mem_cons.mp hq with rfl | hq
    · exact h'.1 b List.mem_cons_self
    · exact pair_zip (b :: as) h'.2 q hq
theorem disj_of {ls : List L3} (hb : ¬ bad2 ls = true) (hok : ∀ r ∈ ls, lineOk r) : (s3 ls).Pairwise fun a b => a.2.1 < b.1 := by
  have hok' : ∀ r ∈ s3 ls, r.1 ≤ r.2.1 := fun r hr => by
    have := hok r ((s3_mem ls r).mp hr)
    unfold lineOk at this
    omega
  have h1 : ∀ q ∈ (s3 ls).zip (s3 ls).tail, q.1.2.1 < q.2.1 ∧ q.2.1 ≤ q.2.2.1 := fun q hq => by
    have hz := hb
    unfold bad2 at hz
    rw [List.any_eq_true] at hz
    refine ⟨?_, ?_⟩
    · refine Classical.byContradiction fun hh => hz ⟨q, hq, decide_eq_true (by omega)⟩
    · have : (q.1, q.2) ∈ (s3 ls).zip (s3 ls).tail := hq
      have := (List.of_mem_zip this).2
      exact hok' q.2 (List.mem_of_mem_tail this)
  exact (zip_adj (R := fun a b => a.2.1 < b.1 ∧ b.1 ≤ b.2.1) (s3 ls) h1 fun a b c ⟨x1, x2⟩ ⟨y1, y2⟩ => ⟨by omega, y2⟩).imp fun h => h.1
theorem days_perm (ls : List L3) : (daysL (s3 ls)).Perm (daysL ls) := (List.mergeSort_perm ls le3).flatMap_right _
theorem days_nd {ls : List L3} (h : (s3 ls).Pairwise fun a b => a.2.1 < b.1) (hok : ∀ r ∈ ls, lineOk r) : (daysL ls).Nodup := by
  have hok' : ∀ r ∈ s3 ls, r.1 ≤ r.2.1 := fun r hr => by
    have := hok r ((s3_mem ls r).mp hr)
    unfold lineOk at this
    omega
  refine (days_perm ls).nodup_iff.mp ?_
  have : (daysL (s3 ls)).Pairwise (· < ·) := by
    unfold daysL
    rw [List.pairwise_flatMap]
    refine ⟨fun r _ => rngI_lt _ _, h.imp_of_mem fun {a b} ha hb hab x hx y hy => ?_⟩
    have hx := (dys_mem (hok' a ha)).mp hx
    have hy := (dys_mem (hok' b hb)).mp hy
    omega
  exact this.imp fun h => by omega
theorem days_disj {ls : List L3} (h : (daysL ls).Nodup) (hok : ∀ r ∈ ls, lineOk r) : (s3 ls).Pairwise fun a b => a.2.1 < b.1 := by
  have hok' : ∀ r ∈ s3 ls, r.1 ≤ r.2.1 := fun r hr => by
    have := hok r ((s3_mem ls r).mp hr)
    unfold lineOk at this
    omega
  have h2 := (days_perm ls).nodup_iff.mpr h
  unfold daysL at h2
  rw [List.Nodup, List.pairwise_flatMap] at h2
  refine ((s3_sorted ls).and h2.2).imp_of_mem fun {a b} ha hb ⟨x1, x2⟩ => ?_
  refine Classical.byContradiction fun hh => ?_
  have hb' := hok' b hb
  exact x2 b.1 ((dys_mem (hok' a ha)).mpr ⟨x1, by omega⟩) b.1 ((dys_mem hb').mpr ⟨Int.le_refl _, hb'⟩) rfl
theorem sound_iff (ls : List L3) (h0 : ∀ r ∈ ls, 0 ≤ r.1) : ¬ (bad1 ls = true ∨ bad2 ls = true) ↔ SoundP ls := by
  have hb1 : ¬ bad1 ls = true ↔ ∀ r ∈ ls, lineOk r := by
    unfold bad1 lineOk
    rw [List.any_eq_true]
    constructor
    · intro h r hr z
      refine h ⟨r, (s3_mem ls r).mpr hr, ?_⟩
      rcases z with z | z <;> simp [z]
    · rintro h ⟨r, hr, z⟩
      have hr := (s3_mem ls r).mp hr
      have := h0 r hr
      simp only [Bool.or_eq_true, decide_eq_true_eq] at z
      rcases z with z | z
      · omega
      · exact h r hr z
  constructor
  · intro h
    have h1 := hb1.mp fun z => h (.inl z)
    exact ⟨h1, days_nd (disj_of (fun z => h (.inr z)) h1) h1⟩
  · rintro ⟨h1, h2⟩ z
    rcases z with z | z
    · exact hb1.mpr h1 z
    · have hp := pair_zip (R := fun a b => a.2.1 < b.1) (s3 ls) (days_disj h2 h1)
      unfold bad2 at z
      rw [List.any_eq_true] at z
      obtain ⟨q, hq, z⟩ := z
      have := hp q hq
      have := of_decide_eq_true z
      omega
/-! ### the season of a day -/
theorem pw_cases {R : L3 → L3 → Prop} : ∀ {as : List L3} {a b : L3}, as.Pairwise R → a ∈ as → b ∈ as → a = b ∨ R a b ∨ R b a
  | [], a, b, _, ha, _ => by cases ha
  | c :: as, a, b, h, ha, hb => by
    have h' := List.pairwise_cons.mp h
    rcases List.mem_cons.mp ha with ea | ha
    · rcases List.mem_cons.mp hb with eb | hb
      · exact .inl (ea.trans eb.symm)
      · exact .inr (.inl (by rw [ea]; exact h'.1 b hb))
    · rcases List.mem_cons.mp hb with eb | hb
      · exact .inr (.inr (by rw [eb]; exact h'.1 a ha))
      · exact pw_cases h'.2 ha hb
theorem season_law {ls : List L3} (h : SoundP ls) (d : Int) : seasonN (s3 ls) d = seasonN ls d := by
  have hd := days_disj h.2 h.1
  have key : ∀ a ∈ s3 ls, ∀ b ∈ s3 ls, cv d a = true → cv d b = true → a = b := fun a ha b hb ca cb => by
    have ca := of_decide_eq_true ca
    have cb := of_decide_eq_true cb
    rcases pw_cases hd ha hb with e | e | e
    · exact e
    · omega
    · omega
  unfold seasonN
  cases e1 : (s3 ls).find? (cv d) with
  | none =>
    cases e2 : ls.find? (cv d) with
    | none => rfl
    | some b =>
      have := List.find?_eq_none.mp e1 b ((s3_mem ls b).mpr (List.mem_of_find?_eq_some e2))
      exact absurd (List.find?_some e2) this
  | some a =>
    cases e2 : ls.find? (cv d) with
    | none =>
      have := List.find?_eq_none.mp e2 a ((s3_mem ls a).mp (List.mem_of_find?_eq_some e1))
      exact absurd (List.find?_some e1) this
    | some b =>
      have := key a (List.mem_of_find?_eq_some e1) b ((s3_mem ls b).mpr (List.mem_of_find?_eq_some e2)) (List.find?_some e1) (List.find?_some e2)
      rw [this]
end Ev.T_k01
end
section
set_option Elab.async false
set_option linter.all false
set_option autoImplicit false
set_option maxRecDepth 100000
set_option maxHeartbeats 1000000
/-! k01: what _law_plain computes. -/
namespace Ev.T_k01
open PySem L2

theorem s3_one (a : L3) : s3 [a] = [a] := by unfold s3; simp
theorem z1 (z : Str) (h : PyData.canLay0 (.str z) = true) (a b : Int) : ZOk [(a, b, z)] := fun r hr => by
  rw [List.mem_singleton] at hr
  subst hr
  exact h
theorem new_ok (k : Nat) (g : Ga) (m : M) (e : Ex) (ls : List L3) (he : isB e = false) (hv : ev (Wk (k + 1)) e wrT g m = .ok (.list (ls.map lnD)) m) (hz : ZOk ls) (hl : ls.length ≤ 1000000) :
    ev (Wk (k + 1)) (.new 0 [e]) wrT g m = if bad1 ls = true ∨ bad2 ls = true then .exc 1 (m ++ [.ins 0 []]) else .ok (cellD m.length) (m ++ [insS ls]) := by
  have h := c_init k (m ++ [.ins 0 []]) m.length ls (by simp) hz hl
  have hs : (m ++ [Cell.ins 0 []] : M).set m.length (insS ls) = m ++ [insS ls] := by simp
  rw [hs] at h
  by_cases hb : bad1 ls = true ∨ bad2 ls = true
  · rw [if_pos hb] at h ⊢
    simp -implicitDefEqProofs [he, hv, h]
  · rw [if_neg hb] at h ⊢
    simp -implicitDefEqProofs [he, hv, h]
def BadsTo (W : Wd) (es : List Ex) (g : Ga) (P : M → Prop) : Prop := ∀ m, P m → ∃ m', badsR W 1 es wrT g m = some m' ∧ P m'
theorem bads_nil (W : Wd) (g : Ga) (P : M → Prop) : BadsTo W [] g P := fun m h => ⟨m, rfl, h⟩
theorem bads_cons {W : Wd} {e : Ex} {es : List Ex} {g : Ga} {P : M → Prop} (hs : W.sub 1 1 = true) (h : ∀ m, P m → ∃ m', ev W e wrT g m = .exc 1 m' ∧ P m') (hr : BadsTo W es g P) : BadsTo W (e :: es) g P := fun m hm => by
  obtain ⟨m1, e1, h1⟩ := h m hm
  obtain ⟨m2, e2, h2⟩ := hr m1 h1
  exact ⟨m2, by rw [badsR_cons, e1, bdS_exc, if_pos hs, e2], h2⟩
theorem best_eq {ps : List St2} {M : Int} {d : D} (hok : ∀ p ∈ ps, Ok2 p) (hb : ∀ p ∈ ps, p.1 ≤ 19) (hm : (cntsI ps).tail.foldl dMax ((cntsI ps).headD 0) = M) (hd : ∀ i, (cntsI ps).findIdx? (fun x => decide (x = M)) = some i → (if ps = [] then PyData.none else .int (i : Int)) = d) : bestP ps = (M, d) := by
  obtain ⟨M', i, ⟨n, r, e1, e2⟩, e3, e4⟩ := best_law ps hok hb
  rw [e1] at hm
  have : M' = M := e2.symm.trans hm
  subst this
  rw [e4, hd i e3]
def ls0 : List L3 := [(10, 19, "high")]
theorem ls0_z : ZOk ls0 := z1 _ (by decide +kernel) _ _
def PS (r : Nat) (m : M) : Prop := m[r]? = some (insS ls0)
theorem ps_app {r : Nat} {m : M} (h : PS r m) (x : Cell) : PS r (m ++ [x]) := by
  unfold PS at h ⊢
  obtain ⟨hl, _⟩ := List.getElem?_eq_some_iff.mp h
  rw [List.getElem?_append_left hl]
  exact h
theorem b1_one (a b : Int) (z : Str) : bad1 [(a, b, z)] = (decide (a < 0) || (decide (b < a) || decide (z = ""))) := by
  unfold bad1
  rw [s3_one]
  simp
theorem bad_new (k : Nat) (g : Ga) (m : M) (r : Nat) (e : Ex) (ls : List L3) (he : isB e = false) (hv : ev (Wk (k + 1)) e wrT g m = .ok (.list (ls.map lnD)) m) (hz : ZOk ls) (hl : ls.length ≤ 1000000) (hb : bad1 ls = true ∨ bad2 ls = true) (hm : PS r m) :
    ∃ m', ev (Wk (k + 1)) (.new 0 [e]) wrT g m = .exc 1 m' ∧ PS r m' := ⟨_, (new_ok k g m e ls he hv hz hl).trans (if_pos hb), ps_app hm _⟩
def badEs : List Ex := [.call 0 [.neg (.cst (.int 1)), .cst (.int 1)], .call 0 [.cst (.int 2), .cst (.int 2)], .call 1 [.cst (.int 3), .cst (.int 2)], .call 2 [.neg (.cst (.int 1))], .call 3 [.tup [.cst (.int 1), .cst (.int 1)], .tup [.cst (.int 1), .cst (.int 2)]], .call 3 [.tup [.cst (.int 1), .cst (.int 2)], .tup [.cst (.int 2), .cst (.int 1)]], .call 4 [.lst [.tup [.cst (.int 1), .cst (.int 1)]]], .call 5 [.lst [.tup [.cst (.int 1), .cst (.int 1)]], .cst (.int 0), .cst (.int 5)], .call 5 [.lst [], .cst (.int 5), .cst (.int 5)], .new 0 [.lst [.tup [.neg (.cst (.int 1)), .cst (.int 2), .cst (.str "a")]]], .new 0 [.lst [.tup [.cst (.int 2), .cst (.int 1), .cst (.str "a")]]], .new 0 [.lst [.tup [.cst (.int 1), .cst (.int 2), .cst (.str "")]]], .new 0 [.lst [.tup [.cst (.int 1), .cst (.int 2), .cst (.str "a")], .tup [.cst (.int 2), .cst (.int 3), .cst (.str "b")]]], .met 7 (.nm 0) [.neg (.cst (.int 1))], .met 8 (.nm 0) [.cst (.int 3), .cst (.int 3)], .met 9 (.nm 0) [.cst (.str "a"), .cst (.int 3), .cst (.int 3)]]
theorem bads_run (k : Nat) (r : Nat) (s1 s2 s3' : Option (Bool × D)) : BadsTo (Wk (k + 5)) badEs [some (false, cellD r), s1, s2, s3'] (PS r) := by
  unfold badEs
  have hs : (Wk (k + 5)).sub 1 1 = true := by simp
  refine bads_cons hs (fun m hm => ⟨m, ?_, hm⟩) ?_
  · have h := c_check (k + 4) wrT m (-1, 1)
    rw [if_neg (by decide)] at h
    simp -implicitDefEqProofs [isB, h]
  refine bads_cons hs (fun m hm => ⟨m, ?_, hm⟩) ?_
  · have h := c_check (k + 4) wrT m (2, 2)
    rw [if_neg (by decide)] at h
    simp -implicitDefEqProofs [isB, h]
  refine bads_cons hs (fun m hm => ⟨m, ?_, hm⟩) ?_
  · have h := c_nights (k + 3) wrT m 3 2 (by decide) (by decide)
    rw [if_neg (by decide)] at h
    simp -implicitDefEqProofs [isB, h]
  refine bads_cons hs (fun m hm => ⟨m, ?_, hm⟩) ?_
  · have h := c_weekN (k + 4) wrT m (-1) (by decide)
    simp -implicitDefEqProofs [isB, h]
  refine bads_cons hs (fun m hm => ⟨m, ?_, hm⟩) ?_
  · have h := c_meet (k + 3) wrT m (1, 1) (1, 2)
    rw [if_neg (by decide)] at h
    simp only [stD] at h
    simp -implicitDefEqProofs [isB, h]
  refine bads_cons hs (fun m hm => ⟨m, ?_, hm⟩) ?_
  · have h := c_meet (k + 3) wrT m (1, 2) (2, 1)
    rw [if_neg (by decide)] at h
    simp only [stD] at h
    simp -implicitDefEqProofs [isB, h]
  refine bads_cons hs (fun m hm => ⟨m, ?_, hm⟩) ?_
  · have h := full_shape (k + 3) wrT m [(1, 1)] (by decide)
    rw [if_neg (by decide)] at h
    simp only [List.map_cons, List.map_nil, stD] at h
    simp -implicitDefEqProofs [isB, h]
  refine bads_cons hs (fun m hm => ⟨m, ?_, hm⟩) ?_
  · have h := c_gaps (k + 3) wrT m [(1, 1)] 0 5 (by decide)
    rw [if_neg (by decide)] at h
    simp only [List.map_cons, List.map_nil, stD] at h
    simp -implicitDefEqProofs [isB, h]
  refine bads_cons hs (fun m hm => ⟨m, ?_, hm⟩) ?_
  · have h := c_gaps (k + 3) wrT m [] 5 5 (by decide)
    rw [if_neg (by decide)] at h
    simp only [List.map_cons, List.map_nil, stD] at h
    simp -implicitDefEqProofs [isB, h]
  refine bads_cons hs (fun m hm => bad_new (k + 4) _ m r _ [(-1, 2, "a")] rfl (by simp -implicitDefEqProofs [isB, lnD]) (z1 _ (by decide +kernel) _ _) (by decide) (.inl (by rw [b1_one]; decide)) hm) ?_
  refine bads_cons hs (fun m hm => bad_new (k + 4) _ m r _ [(2, 1, "a")] rfl (by simp -implicitDefEqProofs [isB, lnD]) (z1 _ (by decide +kernel) _ _) (by decide) (.inl (by rw [b1_one]; decide)) hm) ?_
  refine bads_cons hs (fun m hm => bad_new (k + 4) _ m r _ [(1, 2, "")] rfl (by simp -implicitDefEqProofs [isB, lnD]) (z1 _ (by decide +kernel) _ _) (by decide) (.inl (by rw [b1_one]; decide)) hm) ?_
  refine bads_cons hs (fun m hm => bad_new (k + 4) _ m r _ [(1, 2, "a"), (2, 3, "b")] rfl (by simp -implicitDefEqProofs [isB, lnD]) (fun q hq => by
    rcases List.mem_cons.mp hq with rfl | hq
    · show PyData.canLay0 (.str "a") = true
      decide +kernel
    · rw [List.mem_singleton] at hq
      subst hq
      show PyData.canLay0 (.str "b") = true
      decide +kernel) (by decide) (Classical.byContradiction fun z => by
      have := ((sound_iff [(1, 2, "a"), (2, 3, "b")] (by decide)).mp z).2
      revert this
      decide) hm) ?_
  refine bads_cons hs (fun m hm => ⟨m, ?_, hm⟩) ?_
  · have h := c_season (k + 4) wrT m r ls0 hm (-1)
    rw [if_pos (by decide)] at h
    simp -implicitDefEqProofs [isB, h, cls_S hm]
  refine bads_cons hs (fun m hm => ⟨m, ?_, hm⟩) ?_
  · have h := c_parts (k + 2) wrT m r ls0 hm ls0_z 3 3 (by decide) (by decide)
    rw [if_neg (by decide)] at h
    simp -implicitDefEqProofs [isB, h, cls_S hm]
  refine bads_cons hs (fun m hm => ⟨m, ?_, hm⟩) ?_
  · have h := c_count (k + 1) wrT m r ls0 hm ls0_z "a" (by decide +kernel) 3 3 (by decide) (by decide)
    rw [if_neg (by decide)] at h
    simp -implicitDefEqProofs [isB, h, cls_S hm]
  exact bads_nil _ _ _
end Ev.T_k01
end
section
set_option Elab.async false
set_option linter.all false
set_option autoImplicit false
set_option maxRecDepth 100000
set_option maxHeartbeats 2000000
/-! k01: _law_plain is true. -/
namespace Ev.T_k01
open PySem L2

theorem eq_same {d : D} (h : SeqAt.shaped d = true) : semCmp .eq d d = some true := sc_eqS h
theorem ne_same {d : D} (h : SeqAt.shaped d = true) : semCmp .ne d d = some false := sc_neS h
theorem gaps_c : gapsP [(2, 4), (3, 6)] 1 8 = [(1, 2), (6, 8)] := by
  rw [← gaps_law [(2, 4), (3, 6)] (1, 8) (by decide) (by decide)]
  decide
theorem parts_c : partsP ls0 8 12 = [(("plain" : Str), (2 : Int)), (("high" : Str), (2 : Int))] := by
  unfold partsP ls0
  rw [s3_one]
  decide
theorem best_c : bestP [(1, 5), (3, 9), (4, 6)] = (3, .int 4) := best_eq (by decide) (by decide) (by decide) (fun i hi => by
  have : (cntsI [(1, 5), (3, 9), (4, 6)]).findIdx? (fun x => decide (x = 3)) = some 4 := by decide
  rw [this] at hi
  cases hi
  rfl)
theorem best_n : bestP [] = (0, .none) := by simp [bestP, uniq, srt]
theorem c_plain (k : Nat) (m : M) : ∃ m', (Wk (k + 6)).call 16 wrT [] m = .ok (.bool true) m' := by
  have h0 := new_ok (k + 4) [none, none, none, none] m (.lst [.tup [.cst (.int 10), .cst (.int 19), .cst (.str "high")]]) ls0 rfl (by simp -implicitDefEqProofs [isB, lnD, ls0]) ls0_z (by decide)
  rw [if_neg (by
    have := (sound_iff ls0 (by decide)).mpr ⟨by decide, by decide⟩
    exact this)] at h0
  have hm1 : PS m.length (m ++ [insS ls0]) := by unfold PS; simp
  obtain ⟨m2, hb, hm2⟩ := bads_run k m.length none none none (m ++ [insS ls0]) hm1
  have hW : semCmp .ne (.tuple [.str "mo", .str "tu", .str "we", .str "th", .str "fr", .str "sa", .str "su"]) (.tuple [.str "mo", .str "tu", .str "we", .str "th", .str "fr", .str "sa", .str "su"]) = some false := ne_same (by decide +kernel)
  have h9 := c_week (k + 4) wrT m2 9 (.str "we") (by decide) (by rfl)
  have e9 : semCmp .ne (.str "we") (.str "we") = some false := ne_same (by decide +kernel)
  have h3 := (c_nights (k + 3) wrT m2 3 6 (by decide) (by decide)).trans (if_pos (by decide))
  rw [show ngs (3, 6) = [3, 4, 5] by decide] at h3
  simp only [List.map_cons, List.map_nil] at h3
  have e3 : semCmp .ne (.tuple [.int 3, .int 4, .int 5]) (.tuple [.int 3, .int 4, .int 5]) = some false := ne_same (by decide +kernel)
  have hme := (c_meet (k + 3) wrT m2 (1, 5) (3, 9)).trans (if_pos (by decide))
  rw [show meetV (1, 5) (3, 9) = 2 by decide] at hme
  simp only [stD] at hme
  have hf := (full_shape (k + 3) wrT m2 [(1, 5), (3, 9), (4, 6)] (by decide)).trans (if_pos (by decide))
  rw [best_c] at hf
  simp only [List.map_cons, List.map_nil, stD, bD] at hf
  have ef : semCmp .eq (.tuple [.int 3, .int 4]) (.tuple [.int 3, .int 4]) = some true := eq_same (by decide +kernel)
  have hn := (full_shape (k + 3) wrT m2 [] (by decide)).trans (if_pos (by decide))
  rw [best_n] at hn
  simp only [List.map_nil, bD] at hn
  have en : semCmp .eq (.tuple [.int 0, .none]) (.tuple [.int 0, .none]) = some true := eq_same (by decide +kernel)
  have hg := (c_gaps (k + 3) wrT m2 [(2, 4), (3, 6)] 1 8 (by decide)).trans (if_pos (by decide))
  rw [gaps_c] at hg
  simp only [List.map_cons, List.map_nil, stD] at hg
  have eg : semCmp .eq (.tuple [.tuple [.int 1, .int 2], .tuple [.int 6, .int 8]]) (.tuple [.tuple [.int 1, .int 2], .tuple [.int 6, .int 8]]) = some true := eq_same (by decide +kernel)
  have hp := (c_parts (k + 2) wrT m2 m.length ls0 hm2 ls0_z 8 12 (by decide) (by decide)).trans (if_pos (by decide))
  rw [parts_c] at hp
  simp only [List.map_cons, List.map_nil, ptD] at hp
  have ep : semCmp .eq (.tuple [.tuple [.str "plain", .int 2], .tuple [.str "high", .int 2]]) (.tuple [.tuple [.str "plain", .int 2], .tuple [.str "high", .int 2]]) = some true := eq_same (by decide +kernel)
  have hc := (c_count (k + 1) wrT m2 m.length ls0 hm2 ls0_z "high" (by decide +kernel) 8 12 (by decide) (by decide)).trans (if_pos (by decide))
  rw [show countP ls0 "high" 8 12 = 2 by unfold countP; rw [parts_c]; decide] at hc
  have hr7 : rngOf [.int 7] = some ((rngI 0 7).map .int) := rngOf1 (by decide)
  have hco : runCo .lc (cmB (Wk (k + 5)) (.call 2 [.nm 3]) (.nm 3) [] wrT [some (false, cellD m.length), none, none, none]) ((rngI 0 7).map .int) m2 = .ok (.list weekL) m2 := by
    rw [co_lcS (fun n => weekL.getD n.toNat .none) (fun n hn => ?_) (by have := siz; rw [rngI_len]; omega)]
    · rfl
    · have h1 := rngI_mem.mp hn
      rw [cmB_eq _ _ _ _ _ _ _ _ _ (by simp <;> rfl)]
      have h2 := c_week (k + 4) wrT m2 n (weekL.getD n.toNat .none) h1.1 (by
        rw [show n % 7 = n by omega]
        obtain ⟨j, rfl⟩ : ∃ j : Nat, n = (j : Int) := ⟨n.toNat, by omega⟩
        have hj : j < 7 := by omega
        rw [Int.toNat_natCast]
        refine atI_nat ?_
        have hl : j < weekL.length := hj
        rw [List.getD_eq_getElem?_getD, List.getElem?_eq_getElem hl]
        rfl)
      simp -implicitDefEqProofs [isB, h2]
  have el : semCmp .eq (.list weekL) (.list weekL) = some true := eq_same (by decide +kernel)
  refine ⟨m2, ?_⟩
  rw [call_eq]
  unfold weekL at hco el
  unfold badEs at hb
  have hcl := cls_S hm2
  simp -implicitDefEqProofs [-e_new, -badsR_cons, fns, b_law_plain, ga0, isB, h0, hb, hW, h9, e9, h3, e3, hme, hf, ef, hn, en, hg, eg, hcl, hp, ep, hc, e_co, hr7, hco, el]
end Ev.T_k01
end
section
set_option Elab.async false
set_option linter.all false
set_option autoImplicit false
set_option maxRecDepth 100000
set_option maxHeartbeats 2000000
/-! k01: the law's body, first part: stays, good, the nights of each. -/
namespace Ev.T_k01
open PySem L2

abbrev Sl := Option (Bool × D)
theorem turns_dm {α : Type} {body : D → M → R (Option D)} {ms : M} (P : α → Prop) (enc : α → D) : ∀ (as : List D) (acc : List D) (x y z : Int), (∀ d ∈ as, ∀ x y z, ∃ a x' y' z', P a ∧ body d (dm ms x y z) = .ok (some (enc a)) (dm ms x' y' z')) → acc.length + as.length ≤ 1000000 →
    ∃ (bs : List α) (x' y' z' : Int), bs.length = as.length ∧ (∀ a ∈ bs, P a) ∧ turns body as acc (dm ms x y z) = .ok (acc ++ bs.map enc) (dm ms x' y' z')
  | [], acc, x, y, z, _, _ => ⟨[], x, y, z, rfl, fun a h => (by cases h), by simp [turns]⟩
  | d :: as, acc, x, y, z, h, hl => by
    simp only [List.length_cons] at hl
    obtain ⟨a, x1, y1, z1, pa, e⟩ := h d List.mem_cons_self x y z
    obtain ⟨bs, x2, y2, z2, h1, h2, e2⟩ := turns_dm P enc as (acc ++ [enc a]) x1 y1 z1 (fun d hd => h d (List.mem_cons_of_mem _ hd)) (by simp only [List.length_append, List.length_cons, List.length_nil]; omega)
    refine ⟨a :: bs, x2, y2, z2, by simp [h1], fun b hb => ?_, ?_⟩
    · rcases List.mem_cons.mp hb with rfl | hb
      · exact pa
      · exact h2 b hb
    · rw [turns, e]
      have := siz
      simp only [R.bind_ok]
      rw [if_pos (by omega), e2]
      simp
/-- the bounds of a drawn stay -/
def Bd (p : St2) : Prop := -1 ≤ p.1 ∧ p.1 ≤ 19 ∧ p.1 ≤ p.2 ∧ p.2 ≤ p.1 + 8
theorem stay_bd (k : Nat) (ms : M) (x y z : Int) : ∃ p x' y' z', Bd p ∧ (Wk (k + 2)).call 14 wrT [cellD 0] (dm ms x y z) = .ok (stD p) (dm ms x' y' z') := by
  obtain ⟨p, x', y', z', h1, h2, h3, h4, e⟩ := c_stay k ms x y z
  exact ⟨p, x', y', z', ⟨h1, h2, h3, h4⟩, e⟩
section
variable (k : Nat) (s0 s2 s3' s4 s5 s6 s7 s8 s9 s10 s11 s12 s13 s14 s15 s16 s17 s18 s19 s20 s21 s22 s23 s24 : Sl)
/-- stays = [...] -/
theorem g_stays (ms : M) (x y z : Int) : ∃ (ps : List St2) (x' y' z' : Int), ps.length ≤ 7 ∧ (∀ p ∈ ps, Bd p) ∧
    exec (Wk (k + 2)) (.asg 2 (.co .lc (.call 14 [.nm 1]) (.nm 23) (.rng [.call 11 [.nm 1, .cst (.int 7)]]) [])) wrT [s0, some (false, cellD 0), s2, s3', s4, s5, s6, s7, s8, s9, s10, s11, s12, s13, s14, s15, s16, s17, s18, s19, s20, s21, s22, s23, s24] (dm ms x y z)
      = .nx [s0, some (false, cellD 0), some (false, .list (ps.map stD)), s3', s4, s5, s6, s7, s8, s9, s10, s11, s12, s13, s14, s15, s16, s17, s18, s19, s20, s21, s22, s23, s24] (dm ms x' y' z') := by
  obtain ⟨v, x1, y1, z1, hv1, hv2, e1⟩ := c_roll (k + 1) ms 7 x y z (by decide) (by decide)
  have hr := rngOf1 (j := v) (by omega)
  obtain ⟨ps, x2, y2, z2, h1, h2, e2⟩ := turns_dm (body := cmB (Wk (k + 2)) (.call 14 [.nm 1]) (.nm 23) [] wrT [s0, some (false, cellD 0), s2, s3', s4, s5, s6, s7, s8, s9, s10, s11, s12, s13, s14, s15, s16, s17, s18, s19, s20, s21, s22, s23, s24]) (ms := ms) Bd stD ((rngI 0 v.toNat).map .int) [] x1 y1 z1 (fun d hd x y z => by
    obtain ⟨p, x', y', z', hb, e⟩ := stay_bd k ms x y z
    refine ⟨p, x', y', z', hb, ?_⟩
    rw [cmB_eq _ _ _ _ _ _ _ _ _ (by simp <;> rfl)]
    simp -implicitDefEqProofs [isB, e]) (by rw [List.length_map, rngI_len]; simp only [List.length_nil]; omega)
  have e3 : runCo .lc (cmB (Wk (k + 2)) (.call 14 [.nm 1]) (.nm 23) [] wrT [s0, some (false, cellD 0), s2, s3', s4, s5, s6, s7, s8, s9, s10, s11, s12, s13, s14, s15, s16, s17, s18, s19, s20, s21, s22, s23, s24]) ((rngI 0 v.toNat).map .int) (dm ms x1 y1 z1) = .ok (.list (ps.map stD)) (dm ms x2 y2 z2) := by
    show (turns _ _ [] _).bind _ = _
    rw [e2]
    rfl
  refine ⟨ps, x2, y2, z2, ?_, h2, ?_⟩
  · rw [h1, List.length_map, rngI_len]; omega
  · simp -implicitDefEqProofs [isB, e1, hr, e_co, e3]
def gdB (ps : List St2) : Bool := decide (∀ p ∈ ps, Ok2 p)
theorem ones_nil (n : Nat) : semCmp .eq (.list (ones n)) (.list []) = some (decide (n = 0)) := by
  show eqS _ _ = _
  have hs : SeqAt.shaped (.list (ones n)) = true := by
    have := shaped_lints (List.replicate n (1 : Int))
    rw [List.map_replicate] at this
    exact this
  rw [eqS_nil hs]
  congr 1
  cases n <;> rfl
/-- good = ... -/
theorem g_good (ps : List St2) (hl : ps.length ≤ 7) (s1 : Sl) (m : M) :
    exec (Wk (k + 1)) (.asg 3 (.cmp .eq (.co .lc (.cst (.int 1)) (.nm 4) (.seq (.e (.nm 2))) [.not (.call 15 [.nm 4])]) (.lst []))) wrT [s0, s1, some (false, .list (ps.map stD)), s3', s4, s5, s6, s7, s8, s9, s10, s11, s12, s13, s14, s15, s16, s17, s18, s19, s20, s21, s22, s23, s24] m
      = .nx [s0, s1, some (false, .list (ps.map stD)), some (false, .bool (gdB ps)), s4, s5, s6, s7, s8, s9, s10, s11, s12, s13, s14, s15, s16, s17, s18, s19, s20, s21, s22, s23, s24] m := by
  have e3 : runCo .lc (cmB (Wk (k + 1)) (.cst (.int 1)) (.nm 4) [.not (.call 15 [.nm 4])] wrT [s0, s1, some (false, .list (ps.map stD)), s3', s4, s5, s6, s7, s8, s9, s10, s11, s12, s13, s14, s15, s16, s17, s18, s19, s20, s21, s22, s23, s24]) (ps.map stD) m = .ok (.list (ones (ps.filter fun p => decide (¬ Ok2 p)).length)) m := by
    rw [← ones_of, ← filterMap_p (fun p => ¬ Ok2 p) (fun _ => PyData.int 1)]
    refine co_lc _ (fun p hp => ?_) (by have := siz; omega)
    have hg := c_good k wrT m p
    rw [cmB_eq _ _ _ _ _ _ _ _ _ (by simp <;> rfl)]
    by_cases h : Ok2 p
    · rw [decide_eq_true h] at hg
      simp -implicitDefEqProofs [isB, hg, h]
    · rw [decide_eq_false h] at hg
      simp -implicitDefEqProofs [isB, hg, h]
  have e4 : decide ((ps.filter fun p => decide (¬ Ok2 p)).length = 0) = gdB ps := by
    unfold gdB
    rw [decide_eq_decide, List.length_eq_zero_iff, List.filter_eq_nil_iff]
    simp
  have e5 := ones_nil (ps.filter fun p => decide (¬ Ok2 p)).length
  rw [e4] at e5
  generalize (ps.filter fun p => decide (¬ Ok2 p)).length = n at *
  simp -implicitDefEqProofs [isB, e_co, e3, e5]
end
end Ev.T_k01
end
section
set_option Elab.async false
set_option linter.all false
set_option autoImplicit false
set_option maxRecDepth 100000
set_option maxHeartbeats 2000000
/-! k01: the law's body, second part: the stays' turns, counts, due, fullest. -/
namespace Ev.T_k01
open PySem L2

theorem cls_no {x : D} (m : M) (h : asCell x = none) : clsAt m x = none := by unfold clsAt; rw [h]; rfl
theorem de_eq : semCmp .eq (.str "DayError") (.str "DayError") = some true := eq_same (by decide +kernel)
theorem de_ne : semCmp .ne (.str "DayError") (.str "DayError") = some false := ne_same (by decide +kernel)
theorem none_de : semCmp .eq .none (.str "DayError") = some false := by
  show eqS _ _ = _
  rw [eqS_of (by decide +kernel) (by decide +kernel)]
  simp [PyData.eqv]
section
variable (k : Nat) (s0 s1 s2 s3' s4 s5 s6 s7 s8 s9 s10 s11 s12 s13 s14 s15 s16 s17 s18 s19 s20 s21 s22 s23 s24 : Sl)
def bT4 : List St := [.ifs (.or (.cmp .ne (.told 0 1 (.call 1 [.idx (.nm 4) (.cst (.int 0)), .idx (.nm 4) (.cst (.int 1))])) (.ite (.call 15 [.nm 4]) (.bs .tuple (.rng [.idx (.nm 4) (.cst (.int 0)), .idx (.nm 4) (.cst (.int 1))])) (.cst (.str "DayError")))) (.cmp .eq (.eqs (.told 0 1 (.call 0 [.idx (.nm 4) (.cst (.int 0)), .idx (.nm 4) (.cst (.int 1))])) "DayError") (.call 15 [.nm 4]))) [.ret (.cst (.bool false))] []]
theorem g_turn (m : M) (p : St2) (hb : Bd p) :
    execL (Wk (k + 2)) bT4 wrT [s0, s1, s2, s3', some (false, stD p), s5, s6, s7, s8, s9, s10, s11, s12, s13, s14, s15, s16, s17, s18, s19, s20, s21, s22, s23, s24] m
      = .nx [s0, s1, s2, s3', some (false, stD p), s5, s6, s7, s8, s9, s10, s11, s12, s13, s14, s15, s16, s17, s18, s19, s20, s21, s22, s23, s24] m := by
  obtain ⟨b1, b2, b3, b4⟩ := hb
  have hg := c_good (k + 1) wrT m p
  have h0 := c_check (k + 1) wrT m p
  have h1 := c_nights k wrT m p.1 p.2 (by omega) (by omega)
  unfold bT4
  by_cases h : Ok2 p
  · rw [decide_eq_true h] at hg
    rw [if_pos h] at h0
    have h1 := h1.trans (if_pos h)
    have hr := rngOf2 (i := p.1) (j := p.2) (by omega)
    have hl : (p.2 - p.1).toNat ≤ 16777216 := by omega
    have he : semCmp .ne (.tuple ((rngI p.1 (p.2 - p.1).toNat).map .int)) (.tuple ((rngI p.1 (p.2 - p.1).toNat).map .int)) = some false := ne_same (shaped_tints _)
    have hc := cls_no (x := .none) m rfl
    simp only [stD] at hg
    simp only [ngs] at h1
    simp -implicitDefEqProofs [isB, stD, hg, h0, h1, hr, rngI_len, hl, he, hc, none_de]
  · rw [decide_eq_false h] at hg
    rw [if_neg h] at h0
    have h1 := h1.trans (if_neg h)
    have hc := cls_no (x := .str "DayError") m rfl
    simp only [stD] at hg
    simp -implicitDefEqProofs [isB, stD, hg, h0, h1, de_ne, de_eq, hc]
theorem g_nights (m : M) : ∀ (ps : List St2) (s4 : Sl), (∀ p ∈ ps, Bd p) → ∃ s4',
    forB (Wk (k + 2)) (.nm 4) bT4 wrT (ps.map stD) [s0, s1, s2, s3', s4, s5, s6, s7, s8, s9, s10, s11, s12, s13, s14, s15, s16, s17, s18, s19, s20, s21, s22, s23, s24] m
      = .nx [s0, s1, s2, s3', s4', s5, s6, s7, s8, s9, s10, s11, s12, s13, s14, s15, s16, s17, s18, s19, s20, s21, s22, s23, s24] m
  | [], s4, _ => ⟨s4, by simp⟩
  | p :: ps, s4, h => by
    obtain ⟨a, e⟩ := g_nights m ps (some (false, stD p)) fun q hq => h q (List.mem_cons_of_mem _ hq)
    refine ⟨a, ?_⟩
    have ht := g_turn k s0 s1 s2 s3' s5 s6 s7 s8 s9 s10 s11 s12 s13 s14 s15 s16 s17 s18 s19 s20 s21 s22 s23 s24 m p (h p List.mem_cons_self)
    rw [List.map_cons, forB_cons]
    simp -implicitDefEqProofs [ht, e]
/-- counts = ... -/
theorem g_counts (ps : List St2) (hl : ps.length ≤ 7) (m : M) :
    exec (Wk k) (.asg 5 (.co .lc (.bi .len [.co .lc (.cst (.int 1)) (.tup [.nm 17, .nm 18]) (.seq (.e (.nm 2))) [.chn .le .lt (.nm 17) (.nm 8) (.nm 18)]]) (.nm 8) (.rng [.cst (.int 40)]) [])) wrT [s0, s1, some (false, .list (ps.map stD)), s3', s4, s5, s6, s7, s8, s9, s10, s11, s12, s13, s14, s15, s16, s17, s18, s19, s20, s21, s22, s23, s24] m
      = .nx [s0, s1, some (false, .list (ps.map stD)), s3', s4, some (false, .list ((cntsI ps).map .int)), s6, s7, s8, s9, s10, s11, s12, s13, s14, s15, s16, s17, s18, s19, s20, s21, s22, s23, s24] m := by
  have hr : rngOf [.int 40] = some ((List.range 40).map natD) := rngOf1N (n := 40) rfl (by decide)
  have e : runCo .lc (cmB (Wk k) (.bi .len [.co .lc (.cst (.int 1)) (.tup [.nm 17, .nm 18]) (.seq (.e (.nm 2))) [.chn .le .lt (.nm 17) (.nm 8) (.nm 18)]]) (.nm 8) [] wrT [s0, s1, some (false, .list (ps.map stD)), s3', s4, s5, s6, s7, s8, s9, s10, s11, s12, s13, s14, s15, s16, s17, s18, s19, s20, s21, s22, s23, s24]) ((List.range 40).map natD) m = .ok (.list ((cntsI ps).map .int)) m := by
    unfold cntsI
    rw [List.map_map]
    refine co_lcS _ (fun n hn => ?_) (by have := siz; rw [List.length_range]; omega)
    have hc := cnt_co k wrT m [s0, s1, some (false, .list (ps.map stD)), s3', s4, s5, s6, s7, some (false, .int (n : Int)), s9, s10, s11, s12, s13, s14, s15, s16, s17, s18, s19, s20, s21, s22, s23, s24] 17 18 8 (n : Int) ps (fun p => ⟨_, by simp [stD] <;> rfl, rfl, rfl, rfl⟩) (by omega)
    rw [cmB_eq _ _ _ _ _ _ _ _ _ (by simp <;> rfl)]
    simp -implicitDefEqProofs [isB, natD, e_co, hc]
  simp -implicitDefEqProofs [isB, hr, e_co, e]
end
end Ev.T_k01
end
section
set_option Elab.async false
set_option linter.all false
set_option autoImplicit false
set_option maxRecDepth 100000
set_option maxHeartbeats 2000000
/-! k01: the law's body, third part: due, fullest, meet. -/
namespace Ev.T_k01
open PySem L2

theorem shaped_stays (ps : List St2) : SeqAt.shaped (.list (ps.map stD)) = true :=
  shaped_l (n := 1) (canLay_map fun q _ => rfl) (depth_map fun q _ => by simp [stD, PyData.depth, PyData.depthAll]) (by decide)
theorem stays_ne (ps : List St2) : semCmp .ne (.list (ps.map stD)) (.list []) = some (!ps.isEmpty) := by
  show (eqS _ _).map (!·) = _
  rw [eqS_nil (shaped_stays ps)]
  simp
theorem idx_ints (ns : List Int) (M : Int) : semMth .index (.list (ns.map .int)) [.int M] = (ns.findIdx? fun x => decide (x = M)).map fun i => .int (i : Int) := by
  show (if SeqAt.shaped (.int M) && SeqAt.shaped (.list (ns.map .int)) then ((ns.map PyData.int).findIdx? fun x => PyData.eqv x (.int M)).map fun i => PyData.int (i : Nat) else none) = _
  rw [shaped_int, shaped_lints, List.findIdx?_map]
  have : ((fun x => PyData.eqv x (.int M)) ∘ PyData.int) = fun x : Int => decide (x = M) := by
    funext x
    show PyData.eqv (.int x) (.int M) = _
    simp only [PyData.eqv]
    by_cases h : x = M <;> simp [h]
  rw [this]
  rfl
theorem max_ints {ns : List Int} {n M : Int} {r : List Int} (h : ns = n :: r) (hm : r.foldl dMax n = M) : semBi .max1 [.list (ns.map .int)] = some (.int M) := by
  show ((intsOf (ns.map .int)).bind fun ns => match ns with | [] => none | n :: r => some (PyData.int (r.foldl dMax n))) = _
  rw [intsOf_mapI, h]
  show some (PyData.int (r.foldl dMax n)) = _
  rw [hm]
def dueD (ps : List St2) : D := if gdB ps then bD (bestP ps) else .str "DayError"
theorem dFt (P Q : Prop) [Decidable P] (a b : R D) (h : P) : (if P then a else b) = a := if_pos h
section
variable (k : Nat) (s0 s1 s2 s3' s4 s5 s6 s7 s8 s9 s10 s11 s12 s13 s14 s15 s16 s17 s18 s19 s20 s21 s22 s23 s24 : Sl)
theorem g_due (ps : List St2) (hl : ps.length ≤ 7) (hb : ∀ p ∈ ps, Bd p) (m : M) :
    execL (Wk (k + 2)) [.asg 6 (.ite (.nm 3) (.tup [.bi .max1 [.nm 5], .ite (.cmp .ne (.nm 2) (.lst [])) (.mth .index (.nm 5) [.bi .max1 [.nm 5]]) (.cst .none)]) (.cst (.str "DayError"))), .ifs (.cmp .ne (.told 0 1 (.call 4 [.nm 2])) (.nm 6)) [.ret (.cst (.bool false))] []] wrT [s0, s1, some (false, .list (ps.map stD)), some (false, .bool (gdB ps)), s4, some (false, .list ((cntsI ps).map .int)), s6, s7, s8, s9, s10, s11, s12, s13, s14, s15, s16, s17, s18, s19, s20, s21, s22, s23, s24] m
      = .nx [s0, s1, some (false, .list (ps.map stD)), some (false, .bool (gdB ps)), s4, some (false, .list ((cntsI ps).map .int)), some (false, dueD ps), s7, s8, s9, s10, s11, s12, s13, s14, s15, s16, s17, s18, s19, s20, s21, s22, s23, s24] m := by
  have hf := full_shape k wrT m ps (by omega)
  have hn := stays_ne ps
  unfold dueD
  by_cases h : ∀ p ∈ ps, Ok2 p
  · have hg : gdB ps = true := decide_eq_true h
    rw [if_pos h] at hf
    obtain ⟨M, i, ⟨n, r, e1, e2⟩, e3, e4⟩ := best_law ps h fun p hp => (hb p hp).2.1
    have hm := max_ints e1 e2
    have hi := idx_ints (cntsI ps) M
    rw [e3] at hi
    rw [e4] at hf
    rw [hg, if_pos rfl, e4]
    simp only [bD] at hf ⊢
    have mo : mthOk .index (.list ((cntsI ps).map .int)) = true := rfl
    by_cases hp : ps = []
    · subst hp
      have he : semCmp .ne (.tuple [.int M, .none]) (.tuple [.int M, .none]) = some false := ne_same (by rfl)
      simp -implicitDefEqProofs at hf hn hi hm
      simp -implicitDefEqProofs [isB, hf, hn, hm, he]
    · have hz : ps.isEmpty = false := by simpa using hp
      rw [if_neg hp] at hf
      rw [hz] at hn
      have he : semCmp .ne (.tuple [.int M, .int (i : Int)]) (.tuple [.int M, .int (i : Int)]) = some false := ne_same (by rfl)
      simp -implicitDefEqProofs [isB, hf, hn, hm, hi, he, hp, mo]
  · have hg : gdB ps = false := decide_eq_false h
    rw [if_neg h] at hf
    rw [hg]
    simp -implicitDefEqProofs [isB, hf, de_ne]
theorem g_three (ms : M) (x y z : Int) : ∃ (p q w : St2) (x' y' z' : Int), Bd p ∧ Bd q ∧ Bd w ∧
    exec (Wk (k + 2)) (.unp (.tup [.nm 12, .nm 13, .nm 14]) (.tup [.call 14 [.nm 1], .call 14 [.nm 1], .call 14 [.nm 1]])) wrT [s0, some (false, cellD 0), s2, s3', s4, s5, s6, s7, s8, s9, s10, s11, s12, s13, s14, s15, s16, s17, s18, s19, s20, s21, s22, s23, s24] (dm ms x y z)
      = .nx [s0, some (false, cellD 0), s2, s3', s4, s5, s6, s7, s8, s9, s10, s11, some (false, stD p), some (false, stD q), some (false, stD w), s15, s16, s17, s18, s19, s20, s21, s22, s23, s24] (dm ms x' y' z') := by
  obtain ⟨p, x1, y1, z1, b1, e1⟩ := stay_bd k ms x y z
  obtain ⟨q, x2, y2, z2, b2, e2⟩ := stay_bd k ms x1 y1 z1
  obtain ⟨w, x3, y3, z3, b3, e3⟩ := stay_bd k ms x2 y2 z2
  exact ⟨p, q, w, x3, y3, z3, b1, b2, b3, by simp -implicitDefEqProofs [isB, e1, e2, e3]⟩
end
theorem meet_len (p q : St2) (hp : Ok2 p) (hq : Ok2 q) : (((ngs p).filter fun n => decide (cov n q)).length : Int) = meetV p q := by
  have e : ((ngs p).filter fun n => decide (cov n q)) = rngI (max p.1 q.1) (min p.2 q.2 - max p.1 q.1).toNat := by
    refine sorted_ext _ _ ((rngI_lt _ _).sublist List.filter_sublist) (rngI_lt _ _) fun n => ?_
    rw [List.mem_filter, ngs_mem hp.2, rngI_mem, decide_eq_true_iff]
    unfold cov
    omega
  rw [e, rngI_len]
  unfold meetV dMax dMin
  split <;> split <;> split <;> omega
end Ev.T_k01
end
section
set_option Elab.async false
set_option linter.all false
set_option autoImplicit false
set_option maxRecDepth 100000
set_option maxHeartbeats 2000000
/-! k01: the law's body, fourth part: meet, gaps. -/
namespace Ev.T_k01
open PySem L2

theorem rowStep_len (acc : List St2) (n : Int) : (rowStep acc n).length ≤ acc.length + 1 := by
  unfold rowStep
  split
  · split
    · simp <;> try omega
    · simp
  · simp
section
variable (k : Nat) (s0 s1 s2 s3' s4 s5 s6 s7 s8 s9 s10 s11 s12 s13 s14 s15 s16 s17 s18 s19 s20 s21 s22 s23 s24 : Sl)
theorem g_shared (p q : St2) (hp : Bd p) (m : M) : ∃ s7',
    execL (Wk (k + 2)) [.asg 7 (.bi .len [.co .lc (.nm 8) (.nm 8) (.rng [.idx (.nm 12) (.cst (.int 0)), .idx (.nm 12) (.cst (.int 1))]) [.chn .le .lt (.idx (.nm 13) (.cst (.int 0))) (.nm 8) (.idx (.nm 13) (.cst (.int 1)))]]), .ifs (.cmp .ne (.told 0 1 (.call 3 [.nm 12, .nm 13])) (.ite (.and (.call 15 [.nm 12]) (.call 15 [.nm 13])) (.nm 7) (.cst (.str "DayError")))) [.ret (.cst (.bool false))] []] wrT [s0, s1, s2, s3', s4, s5, s6, s7, s8, s9, s10, s11, some (false, stD p), some (false, stD q), s14, s15, s16, s17, s18, s19, s20, s21, s22, s23, s24] m
      = .nx [s0, s1, s2, s3', s4, s5, s6, s7', s8, s9, s10, s11, some (false, stD p), some (false, stD q), s14, s15, s16, s17, s18, s19, s20, s21, s22, s23, s24] m := by
  obtain ⟨b1, b2, b3, b4⟩ := hp
  have hr := rngOf2 (i := p.1) (j := p.2) (by omega)
  have e : runCo .lc (cmB (Wk (k + 2)) (.nm 8) (.nm 8) [.chn .le .lt (.idx (.nm 13) (.cst (.int 0))) (.nm 8) (.idx (.nm 13) (.cst (.int 1)))] wrT [s0, s1, s2, s3', s4, s5, s6, s7, s8, s9, s10, s11, some (false, stD p), some (false, stD q), s14, s15, s16, s17, s18, s19, s20, s21, s22, s23, s24]) ((rngI p.1 (p.2 - p.1).toNat).map .int) m = .ok (.list (((ngs p).filter fun n => decide (cov n q)).map .int)) m := by
    rw [← filterMap_p (fun n => cov n q) PyData.int]
    refine co_lc _ (fun n hn => ?_) (by have := siz; rw [rngI_len]; omega)
    rw [cmB_eq _ _ _ _ _ _ _ _ _ (by simp <;> rfl)]
    by_cases h1 : q.1 ≤ n
    · by_cases h2 : n < q.2
      · have h : cov n q := ⟨h1, h2⟩
        simp -implicitDefEqProofs [isB, stD, h1, h2, h]
      · have h : ¬ cov n q := fun z => h2 z.2
        simp -implicitDefEqProofs [isB, stD, h1, h2, h]
    · have h : ¬ cov n q := fun z => h1 z.1
      simp -implicitDefEqProofs [isB, stD, h1, h]
  have hm := c_meet k wrT m p q
  have gp := c_good (k + 1) wrT m p
  have gq := c_good (k + 1) wrT m q
  refine ⟨some (false, .int ((ngs p).filter fun n => decide (cov n q)).length), ?_⟩
  have hlen := meet_len p q
  generalize ((ngs p).filter fun n => decide (cov n q)) = fs at e hlen ⊢
  simp only [stD] at e hm gp gq ⊢
  by_cases h1 : Ok2 p
  · rw [decide_eq_true h1] at gp
    by_cases h2 : Ok2 q
    · rw [decide_eq_true h2] at gq
      rw [if_pos ⟨h1, h2⟩, ← hlen h1 h2] at hm
      simp -implicitDefEqProofs [isB, hr, e_co, e, hm, gp, gq]
    · rw [decide_eq_false h2] at gq
      rw [if_neg fun z => h2 z.2] at hm
      simp -implicitDefEqProofs [isB, hr, e_co, e, hm, gp, gq, de_ne]
  · rw [decide_eq_false h1] at gp
    rw [if_neg fun z => h1 z.1] at hm
    simp -implicitDefEqProofs [isB, hr, e_co, e, hm, gp, gq, de_ne]
theorem g_free (ps : List St2) (hl : ps.length ≤ 7) (w : St2) (hw : Bd w) (m : M) :
    exec (Wk k) (.par [(15, false), (16, false)] [.co .lc (.nm 8) (.nm 8) (.rng [.idx (.nm 14) (.cst (.int 0)), .idx (.nm 14) (.cst (.int 1))]) [.cmp .eq (.co .lc (.cst (.int 1)) (.tup [.nm 17, .nm 18]) (.seq (.e (.nm 2))) [.chn .le .lt (.nm 17) (.nm 8) (.nm 18)]) (.lst [])], .lst []]) wrT [s0, s1, some (false, .list (ps.map stD)), s3', s4, s5, s6, s7, s8, s9, s10, s11, s12, s13, some (false, stD w), s15, s16, s17, s18, s19, s20, s21, s22, s23, s24] m
      = .nx [s0, s1, some (false, .list (ps.map stD)), s3', s4, s5, s6, s7, s8, s9, s10, s11, s12, s13, some (false, stD w), some (false, .list ((freeL ps w).map .int)), some (false, .list []), s17, s18, s19, s20, s21, s22, s23, s24] m := by
  obtain ⟨b1, b2, b3, b4⟩ := hw
  have hr := rngOf2 (i := w.1) (j := w.2) (by omega)
  have e : runCo .lc (cmB (Wk k) (.nm 8) (.nm 8) [.cmp .eq (.co .lc (.cst (.int 1)) (.tup [.nm 17, .nm 18]) (.seq (.e (.nm 2))) [.chn .le .lt (.nm 17) (.nm 8) (.nm 18)]) (.lst [])] wrT [s0, s1, some (false, .list (ps.map stD)), s3', s4, s5, s6, s7, s8, s9, s10, s11, s12, s13, some (false, stD w), s15, s16, s17, s18, s19, s20, s21, s22, s23, s24]) ((rngI w.1 (w.2 - w.1).toNat).map .int) m = .ok (.list ((freeL ps w).map .int)) m := by
    unfold freeL
    rw [← filterMap_p (fun n => cnt ps n = 0) PyData.int]
    refine co_lc _ (fun n hn => ?_) (by have := siz; rw [rngI_len]; omega)
    have hc := cnt_co k wrT m [s0, s1, some (false, .list (ps.map stD)), s3', s4, s5, s6, s7, some (false, .int n), s9, s10, s11, s12, s13, some (false, stD w), s15, s16, s17, s18, s19, s20, s21, s22, s23, s24] 17 18 8 n ps (fun p => ⟨_, by simp [stD] <;> rfl, rfl, rfl, rfl⟩) (by omega)
    rw [cmB_eq _ _ _ _ _ _ _ _ _ (by simp <;> rfl)]
    have ho := ones_nil (cnt ps n)
    by_cases h : cnt ps n = 0
    · rw [decide_eq_true h] at ho
      simp -implicitDefEqProofs [isB, e_co, hc, ho, h]
      try (rw [h] at ho; simp -implicitDefEqProofs [ho])
    · rw [decide_eq_false h] at ho
      simp -implicitDefEqProofs [isB, e_co, hc, ho, h]
  simp only [stD] at e ⊢
  simp -implicitDefEqProofs [isB, hr, e_co, e]
def bR : List St := [.asg 16 (.ite (.and (.cmp .ne (.nm 16) (.lst [])) (.cmp .eq (.idx (.idx (.nm 16) (.neg (.cst (.int 1)))) (.cst (.int 1))) (.nm 8))) (.bin .add (.slc (.nm 16) none (some (.neg (.cst (.int 1))))) (.lst [.tup [.idx (.idx (.nm 16) (.neg (.cst (.int 1)))) (.cst (.int 0)), .bin .add (.nm 8) (.cst (.int 1))]])) (.bin .add (.nm 16) (.lst [.tup [.nm 8, .bin .add (.nm 8) (.cst (.int 1))]])))]
theorem g_row (rows : List St2) (hl : rows.length ≤ 1000) (n : Int) (m : M) :
    execL (Wk k) bR wrT [s0, s1, s2, s3', s4, s5, s6, s7, some (false, .int n), s9, s10, s11, s12, s13, s14, s15, some (false, .list (rows.map stD)), s17, s18, s19, s20, s21, s22, s23, s24] m
      = .nx [s0, s1, s2, s3', s4, s5, s6, s7, some (false, .int n), s9, s10, s11, s12, s13, s14, s15, some (false, .list ((rowStep rows n).map stD)), s17, s18, s19, s20, s21, s22, s23, s24] m := by
  have hn := stays_ne rows
  have hz : rows.length + 1 ≤ sizeLine := by have := siz; omega
  unfold bR rowStep
  rcases List.eq_nil_or_concat rows with rfl | ⟨as, ⟨a, i⟩, rfl⟩
  · simp -implicitDefEqProofs at hn hz
    simp -implicitDefEqProofs [isB, hn, hz, stD]
  · have hi := atI_last (as.map stD) (.tuple [.int a, .int i])
    simp only [List.concat_eq_append, List.map_append, List.map_cons, List.map_nil, stD, List.length_append, List.length_singleton] at hn hz ⊢
    have hz2 : as.length + 1 ≤ sizeLine := by omega
    rw [show (!(as ++ [(a, i)]).isEmpty) = true by cases as <;> rfl] at hn
    by_cases h : i = n
    · subst h
      simp -implicitDefEqProofs [isB, hn, hz, hz2, hi, stD]
    · simp -implicitDefEqProofs [isB, hn, hz, hz2, hi, h, stD]
theorem g_rows (m : M) : ∀ (is : List Int) (rows : List St2) (s8 : Sl), rows.length + is.length ≤ 1000 → ∃ s8',
    forB (Wk k) (.nm 8) bR wrT (is.map .int) [s0, s1, s2, s3', s4, s5, s6, s7, s8, s9, s10, s11, s12, s13, s14, s15, some (false, .list (rows.map stD)), s17, s18, s19, s20, s21, s22, s23, s24] m
      = .nx [s0, s1, s2, s3', s4, s5, s6, s7, s8', s9, s10, s11, s12, s13, s14, s15, some (false, .list ((is.foldl rowStep rows).map stD)), s17, s18, s19, s20, s21, s22, s23, s24] m
  | [], rows, s8, _ => ⟨s8, by simp⟩
  | n :: is, rows, s8, hl => by
    simp only [List.length_cons] at hl
    have hr := rowStep_len rows n
    obtain ⟨a, e⟩ := g_rows m is (rowStep rows n) (some (false, .int n)) (by omega)
    refine ⟨a, ?_⟩
    have ht := g_row k s0 s1 s2 s3' s4 s5 s6 s7 s9 s10 s11 s12 s13 s14 s15 s17 s18 s19 s20 s21 s22 s23 s24 rows (by omega) n m
    rw [List.map_cons, forB_cons, List.foldl_cons]
    simp -implicitDefEqProofs [ht, e]
theorem g_gaps (ps : List St2) (hl : ps.length ≤ 7) (w : St2) (m : M) :
    exec (Wk (k + 2)) (.ifs (.cmp .ne (.told 0 1 (.bi .list [.call 5 [.nm 2, .idx (.nm 14) (.cst (.int 0)), .idx (.nm 14) (.cst (.int 1))]])) (.ite (.and (.nm 3) (.call 15 [.nm 14])) (.nm 16) (.cst (.str "DayError")))) [.ret (.cst (.bool false))] []) wrT [s0, s1, some (false, .list (ps.map stD)), some (false, .bool (gdB ps)), s4, s5, s6, s7, s8, s9, s10, s11, s12, s13, some (false, stD w), s15, some (false, .list (((freeL ps w).foldl rowStep []).map stD)), s17, s18, s19, s20, s21, s22, s23, s24] m
      = .nx [s0, s1, some (false, .list (ps.map stD)), some (false, .bool (gdB ps)), s4, s5, s6, s7, s8, s9, s10, s11, s12, s13, some (false, stD w), s15, some (false, .list (((freeL ps w).foldl rowStep []).map stD)), s17, s18, s19, s20, s21, s22, s23, s24] m := by
  have hc := c_gaps k wrT m ps w.1 w.2 (by omega)
  have gw := c_good (k + 1) wrT m w
  simp only [stD] at gw ⊢
  by_cases h : ∀ p ∈ ps, Ok2 p
  · have hg : gdB ps = true := decide_eq_true h
    by_cases h2 : Ok2 w
    · have hc := hc.trans (if_pos ⟨h, h2⟩)
      rw [decide_eq_true h2] at gw
      rw [gaps_law ps w h h2, hg]
      have he : semCmp .ne (.list ((gapsP ps w.1 w.2).map stD)) (.list ((gapsP ps w.1 w.2).map stD)) = some false := ne_same (shaped_stays _)
      simp -implicitDefEqProofs [isB, hc, gw, he]
    · have hc := hc.trans (if_neg fun z => h2 z.2)
      rw [decide_eq_false h2] at gw
      rw [hg]
      simp -implicitDefEqProofs [isB, hc, gw, de_ne]
  · have hg : gdB ps = false := decide_eq_false h
    have hc := hc.trans (if_neg fun z => h z.1)
    rw [hg]
    simp -implicitDefEqProofs [isB, hc, gw, de_ne]
end
end Ev.T_k01
end
section
set_option Elab.async false
set_option linter.all false
set_option autoImplicit false
set_option maxRecDepth 100000
set_option maxHeartbeats 2000000
/-! k01: the law's body, fifth part: lines, days, sound. -/
namespace Ev.T_k01
open PySem L2

def LBd (r : L3) : Prop := 0 ≤ r.1 ∧ r.1 ≤ 29 ∧ r.2.1 ≤ r.1 + 4 ∧ r.1 - 6 ≤ r.2.1 ∧ PyData.canLay0 (.str r.2.2) = true
def bL : Ex := .tup [.nm 17, .bin .sub (.bin .add (.nm 17) (.call 11 [.nm 1, .cst (.int 5)])) (.bin .mul (.bi .int [.cmp .eq (.call 11 [.nm 1, .cst (.int 9)]) (.cst (.int 0))]) (.cst (.int 6))), .idx (.lst [.cst (.str "high"), .cst (.str "low"), .cst (.str "")]) (.bin .fdiv (.call 11 [.nm 1, .cst (.int 12)]) (.cst (.int 5)))]
theorem nm_pick (v : Int) (h0 : 0 ≤ v) (h1 : v < 12) : ∃ z : Str, PyData.canLay0 (.str z) = true ∧ atI [.str "high", .str "low", .str ""] (v / 5) = some (PyData.str z) := by
  have : v / 5 = 0 ∨ v / 5 = 1 ∨ v / 5 = 2 := by omega
  rcases this with e | e | e
  · exact ⟨"high", by decide +kernel, by rw [e]; rfl⟩
  · exact ⟨"low", by decide +kernel, by rw [e]; rfl⟩
  · exact ⟨"", by decide +kernel, by rw [e]; rfl⟩
theorem line_ev (k : Nat) (g : Ga) (v : Int) (h17 : g[17]? = some (some (false, .int v))) (h1 : g[1]? = some (some (false, cellD 0))) (hv0 : 0 ≤ v) (hv1 : v < 30) (ms : M) (x y z : Int) : ∃ (r : L3) (x' y' z' : Int), LBd r ∧ ev (Wk (k + 1)) bL wrT g (dm ms x y z) = .ok (lnD r) (dm ms x' y' z') := by
  obtain ⟨v1, xa, ya, za, a1, b1, e1⟩ := c_roll k ms 5 x y z (by decide) (by decide)
  obtain ⟨v2, xb, yb, zb, a2, b2, e2⟩ := c_roll k ms 9 xa ya za (by decide) (by decide)
  obtain ⟨v3, xc, yc, zc, a3, b3, e3⟩ := c_roll k ms 12 xb yb zb (by decide) (by decide)
  obtain ⟨nm, hn, hp⟩ := nm_pick v3 a3 b3
  have q6 : ∀ a : Int, mulOk a 6 = true := fun a => mulOk_r (by decide)
  have l5 : Nat.log2 5 < 9000 := by decide
  unfold bL
  by_cases h : v2 = 0
  · refine ⟨(v, v + v1 - 1 * 6, nm), xc, yc, zc, ⟨hv0, by show v ≤ 29; omega, by show v + v1 - 1 * 6 ≤ v + 4; omega, by show v - 6 ≤ v + v1 - 1 * 6; omega, hn⟩, ?_⟩
    simp -implicitDefEqProofs [isB, h17, h1, e1, e2, e3, hp, q6, l5, h, lnD]
  · refine ⟨(v, v + v1 - 0 * 6, nm), xc, yc, zc, ⟨hv0, by show v ≤ 29; omega, by show v + v1 - 0 * 6 ≤ v + 4; omega, by show v - 6 ≤ v + v1 - 0 * 6; omega, hn⟩, ?_⟩
    simp -implicitDefEqProofs [isB, h17, h1, e1, e2, e3, hp, q6, l5, h, lnD]
section
variable (k : Nat) (s0 s1 s2 s3' s4 s5 s6 s7 s8 s9 s10 s11 s12 s13 s14 s15 s16 s17 s18 s19 s20 s21 s22 s23 s24 : Sl)
theorem g_lines (ms : M) (x y z : Int) : ∃ (ls : List L3) (x' y' z' : Int), ls.length ≤ 4 ∧ (∀ r ∈ ls, LBd r) ∧
    exec (Wk (k + 1)) (.asg 9 (.co .lc bL (.nm 17) (.seq (.e (.co .lc (.call 11 [.nm 1, .cst (.int 30)]) (.nm 23) (.rng [.call 11 [.nm 1, .cst (.int 4)]]) []))) [])) wrT [s0, some (false, cellD 0), s2, s3', s4, s5, s6, s7, s8, s9, s10, s11, s12, s13, s14, s15, s16, s17, s18, s19, s20, s21, s22, s23, s24] (dm ms x y z)
      = .nx [s0, some (false, cellD 0), s2, s3', s4, s5, s6, s7, s8, some (false, .list (ls.map lnD)), s10, s11, s12, s13, s14, s15, s16, s17, s18, s19, s20, s21, s22, s23, s24] (dm ms x' y' z') := by
  obtain ⟨v, x1, y1, z1, hv1, hv2, e1⟩ := c_roll k ms 4 x y z (by decide) (by decide)
  have hr := rngOf1 (j := v) (by omega)
  obtain ⟨fs, x2, y2, z2, h1, h2, e2⟩ := turns_dm (body := cmB (Wk (k + 1)) (.call 11 [.nm 1, .cst (.int 30)]) (.nm 23) [] wrT [s0, some (false, cellD 0), s2, s3', s4, s5, s6, s7, s8, s9, s10, s11, s12, s13, s14, s15, s16, s17, s18, s19, s20, s21, s22, s23, s24]) (ms := ms) (fun v : Int => 0 ≤ v ∧ v < 30) PyData.int ((rngI 0 v.toNat).map .int) [] x1 y1 z1 (fun d hd x y z => by
    obtain ⟨u, x', y', z', hb1, hb2, e⟩ := c_roll k ms 30 x y z (by decide) (by decide)
    refine ⟨u, x', y', z', ⟨hb1, hb2⟩, ?_⟩
    rw [cmB_eq _ _ _ _ _ _ _ _ _ (by simp <;> rfl)]
    simp -implicitDefEqProofs [isB, e]) (by rw [List.length_map, rngI_len]; simp only [List.length_nil]; omega)
  have hfl : fs.length ≤ 4 := by rw [h1, List.length_map, rngI_len]; omega
  obtain ⟨ls, x3, y3, z3, h3, h4, e3⟩ := turns_dm (body := cmB (Wk (k + 1)) bL (.nm 17) [] wrT [s0, some (false, cellD 0), s2, s3', s4, s5, s6, s7, s8, s9, s10, s11, s12, s13, s14, s15, s16, s17, s18, s19, s20, s21, s22, s23, s24]) (ms := ms) LBd lnD (fs.map .int) [] x2 y2 z2 (fun d hd x y z => by
    obtain ⟨u, hu, rfl⟩ := List.mem_map.mp hd
    obtain ⟨r, x', y', z', hb, e⟩ := line_ev k [s0, some (false, cellD 0), s2, s3', s4, s5, s6, s7, s8, s9, s10, s11, s12, s13, s14, s15, s16, some (false, .int u), s18, s19, s20, s21, s22, s23, s24] u rfl rfl (h2 u hu).1 (h2 u hu).2 ms x y z
    refine ⟨r, x', y', z', hb, ?_⟩
    rw [cmB_eq _ _ _ _ _ _ _ _ _ (by simp <;> rfl)]
    simp -implicitDefEqProofs [e]) (by rw [List.length_map]; simp only [List.length_nil]; omega)
  have e4 : runCo .lc (cmB (Wk (k + 1)) (.call 11 [.nm 1, .cst (.int 30)]) (.nm 23) [] wrT [s0, some (false, cellD 0), s2, s3', s4, s5, s6, s7, s8, s9, s10, s11, s12, s13, s14, s15, s16, s17, s18, s19, s20, s21, s22, s23, s24]) ((rngI 0 v.toNat).map .int) (dm ms x1 y1 z1) = .ok (.list (fs.map .int)) (dm ms x2 y2 z2) := by
    show (turns _ _ [] _).bind _ = _
    rw [e2]
    rfl
  have e5 : runCo .lc (cmB (Wk (k + 1)) bL (.nm 17) [] wrT [s0, some (false, cellD 0), s2, s3', s4, s5, s6, s7, s8, s9, s10, s11, s12, s13, s14, s15, s16, s17, s18, s19, s20, s21, s22, s23, s24]) (fs.map .int) (dm ms x2 y2 z2) = .ok (.list (ls.map lnD)) (dm ms x3 y3 z3) := by
    show (turns _ _ [] _).bind _ = _
    rw [e3]
    rfl
  have hbL : isB bL = false := rfl
  refine ⟨ls, x3, y3, z3, by rw [h3, List.length_map]; exact hfl, h4, ?_⟩
  simp -implicitDefEqProofs [isB, e1, hr, e_co, e4, e5]
  rfl
theorem g_days (m : M) : ∀ (ls : List L3) (ds : List Int) (s17 s18 s19 : Sl), (∀ r ∈ ls, LBd r) → ds.length + 100 * ls.length ≤ 100000 → ∃ s17' s18' s19',
    forB (Wk k) (.tup [.nm 17, .nm 18, .nm 19]) [.asg 10 (.bin .add (.nm 10) (.bs .list (.rng [.nm 17, .bin .add (.nm 18) (.cst (.int 1))])))] wrT (ls.map lnD) [s0, s1, s2, s3', s4, s5, s6, s7, s8, s9, some (false, .list (ds.map .int)), s11, s12, s13, s14, s15, s16, s17, s18, s19, s20, s21, s22, s23, s24] m
      = .nx [s0, s1, s2, s3', s4, s5, s6, s7, s8, s9, some (false, .list ((ds ++ daysL ls).map .int)), s11, s12, s13, s14, s15, s16, s17', s18', s19', s20, s21, s22, s23, s24] m
  | [], ds, s17, s18, s19, _, _ => ⟨s17, s18, s19, by simp [daysL]⟩
  | r :: ls, ds, s17, s18, s19, h, hl => by
    obtain ⟨b1, b2, b3, b4, b5⟩ := h r List.mem_cons_self
    have hd : (dys r).length ≤ 100 := by unfold dys; rw [rngI_len]; omega
    simp only [List.length_cons] at hl
    obtain ⟨a, b, c, e⟩ := g_days m ls (ds ++ dys r) (some (false, .int r.1)) (some (false, .int r.2.1)) (some (false, .str r.2.2)) (fun q hq => h q (List.mem_cons_of_mem _ hq)) (by rw [List.length_append]; omega)
    refine ⟨a, b, c, ?_⟩
    have hr := rngOf2 (i := r.1) (j := r.2.1 + 1) (by omega)
    have hz : (r.2.1 + 1 - r.1).toNat ≤ 16777216 := by omega
    have hz2 : ds.length + (r.2.1 + 1 - r.1).toNat ≤ sizeLine := by have := siz; omega
    have e6 : ds ++ daysL (r :: ls) = ds ++ dys r ++ daysL ls := by simp [daysL]
    rw [List.map_cons, forB_cons, e6]
    simp only [dys] at e ⊢
    rw [List.map_append] at e
    simp -implicitDefEqProofs [isB, lnD, hr, hz, hz2, rngI_len]
    simpa using e
end
end Ev.T_k01
end
section
set_option Elab.async false
set_option linter.all false
set_option autoImplicit false
set_option maxRecDepth 100000
set_option maxHeartbeats 2000000
/-! k01: the law's body, sixth part: sound, told(Seasons). -/
namespace Ev.T_k01
open PySem L2

instance (ls : List L3) : Decidable (SoundP ls) := by unfold SoundP; infer_instance
def sdB (ls : List L3) : Bool := decide (SoundP ls)
theorem dict_len (v : D) (ks : List Int) (h : v = .int 1) : semBi .len [.dict (ks.map fun k => ((.int k : D), v))] = some (.int ks.length) := by
  subst h
  have hp : pureD (.dict (ks.map fun k => ((.int k : D), (.int 1 : D)))) = true := by
    cases ks with
    | nil => rfl
    | cons a r => cases r <;> rfl
  show (if pureD (.dict (ks.map fun k => ((.int k : D), (.int 1 : D)))) then some (PyData.int (ks.map fun k => ((.int k : D), (.int 1 : D))).length) else none) = _
  rw [hp, List.length_map]
  rfl
theorem lb_z {ls : List L3} (h : ∀ r ∈ ls, LBd r) : ZOk ls := fun r hr => (h r hr).2.2.2.2
section
variable (k : Nat) (s0 s1 s2 s3' s4 s5 s6 s7 s8 s9 s10 s11 s12 s13 s14 s15 s16 s17 s18 s19 s20 s21 s22 s23 s24 : Sl)
theorem g_sound (ls : List L3) (hl : ls.length ≤ 4) (hb : ∀ r ∈ ls, LBd r) (hd : (daysL ls).length ≤ 1000) (m : M) :
    exec (Wk k) (.asg 11 (.and (.cmp .eq (.co .lc (.cst (.int 1)) (.tup [.nm 17, .nm 18, .nm 19]) (.seq (.e (.nm 9))) [.or (.cmp .lt (.nm 18) (.nm 17)) (.cmp .eq (.nm 19) (.cst (.str "")))]) (.lst [])) (.cmp .eq (.bi .len [.bi .dict [.co .lc (.tup [.nm 22, .cst (.int 1)]) (.nm 22) (.seq (.e (.nm 10))) []]]) (.bi .len [.nm 10])))) wrT [s0, s1, s2, s3', s4, s5, s6, s7, s8, some (false, .list (ls.map lnD)), some (false, .list ((daysL ls).map .int)), s11, s12, s13, s14, s15, s16, s17, s18, s19, s20, s21, s22, s23, s24] m
      = .nx [s0, s1, s2, s3', s4, s5, s6, s7, s8, some (false, .list (ls.map lnD)), some (false, .list ((daysL ls).map .int)), some (false, .bool (sdB ls)), s12, s13, s14, s15, s16, s17, s18, s19, s20, s21, s22, s23, s24] m := by
  have e1 : runCo .lc (cmB (Wk k) (.cst (.int 1)) (.tup [.nm 17, .nm 18, .nm 19]) [.or (.cmp .lt (.nm 18) (.nm 17)) (.cmp .eq (.nm 19) (.cst (.str "")))] wrT [s0, s1, s2, s3', s4, s5, s6, s7, s8, some (false, .list (ls.map lnD)), some (false, .list ((daysL ls).map .int)), s11, s12, s13, s14, s15, s16, s17, s18, s19, s20, s21, s22, s23, s24]) (ls.map lnD) m = .ok (.list (ones (ls.filter fun r => decide (¬ lineOk r)).length)) m := by
    rw [← ones_of, ← filterMap_p (fun r => ¬ lineOk r) (fun _ => PyData.int 1)]
    refine co_lc _ (fun r hr => ?_) (by have := siz; omega)
    have hs := sc_eqZ (a := r.2.2) (b := "") (lb_z hb r hr) (by decide +kernel)
    rw [cmB_eq _ _ _ _ _ _ _ _ _ (by simp [lnD] <;> rfl)]
    by_cases h1 : r.2.1 < r.1
    · have h : ¬ lineOk r := fun z => z (.inl h1)
      simp -implicitDefEqProofs [isB, h1, h]
    · by_cases h2 : r.2.2 = ""
      · have h : ¬ lineOk r := fun z => z (.inr h2)
        rw [decide_eq_true h2] at hs
        simp -implicitDefEqProofs [isB, h1, hs, h]
      · have h : lineOk r := fun z => z.elim h1 h2
        rw [decide_eq_false h2] at hs
        simp -implicitDefEqProofs [isB, h1, hs, h]
  have e2 : runCo .lc (cmB (Wk k) (.tup [.nm 22, .cst (.int 1)]) (.nm 22) [] wrT [s0, s1, s2, s3', s4, s5, s6, s7, s8, some (false, .list (ls.map lnD)), some (false, .list ((daysL ls).map .int)), s11, s12, s13, s14, s15, s16, s17, s18, s19, s20, s21, s22, s23, s24]) ((daysL ls).map .int) m = .ok (.list ((daysL ls).map fun i => .tuple [.int i, .int 1])) m := by
    refine co_lcS _ (fun n hn => ?_) (by have := siz; omega)
    rw [cmB_eq _ _ _ _ _ _ _ _ _ (by simp <;> rfl)]
    simp -implicitDefEqProofs [isB]
  have e3 : semBi .dict [.list ((daysL ls).map fun i => .tuple [.int i, .int 1])] = some (.dict ((uniq (daysL ls)).map fun k => ((.int k : D), .int 1))) := by
    show (mkD ((daysL ls).map fun i => .tuple [.int i, .int 1]) []).map PyData.dict = _
    have := mkD_ints (.int 1) (daysL ls) []
    rw [List.map_nil] at this
    rw [this]
    rfl
  have e4 := dict_len (.int 1) (uniq (daysL ls)) rfl
  have e5 := ones_nil (ls.filter fun r => decide (¬ lineOk r)).length
  have c1 : (ls.filter fun r => decide (¬ lineOk r)).length = 0 ↔ ∀ r ∈ ls, lineOk r := by
    rw [List.length_eq_zero_iff, List.filter_eq_nil_iff]
    simp
  have c2 := uniq_full (daysL ls)
  generalize (ls.filter fun r => decide (¬ lineOk r)).length = n at *
  by_cases h1 : ∀ r ∈ ls, lineOk r
  · rw [decide_eq_true (c1.mpr h1)] at e5
    by_cases h2 : (daysL ls).Nodup
    · have h3 := c2.mpr h2
      rw [show sdB ls = true from decide_eq_true ⟨h1, h2⟩]
      simp -implicitDefEqProofs [isB, e_co, e1, e2, e3, e4, e5, h3]
    · have h3 : ¬ (uniq (daysL ls)).length = (daysL ls).length := fun z => h2 (c2.mp z)
      have h4 : ¬ ((uniq (daysL ls)).length : Int) = ((daysL ls).length : Int) := fun z => h3 (by omega)
      rw [show sdB ls = false from decide_eq_false fun z => h2 z.2]
      simp -implicitDefEqProofs [isB, e_co, e1, e2, e3, e4, e5, h3, h4]
  · rw [decide_eq_false (fun z => h1 (c1.mp z))] at e5
    rw [show sdB ls = false from decide_eq_false fun z => h1 z.1]
    simp -implicitDefEqProofs [isB, e_co, e1, e5]
theorem g_told2 (ls : List L3) (hl : ls.length ≤ 4) (hb : ∀ r ∈ ls, LBd r) (ms : M) (x y z : Int) : ∃ c : Cell,
    exec (Wk (k + 1)) (.ifs (.cmp .eq (.eqs (.told 0 1 (.new 0 [.nm 9])) "DayError") (.nm 11)) [.ret (.cst (.bool false))] []) wrT [s0, s1, s2, s3', s4, s5, s6, s7, s8, some (false, .list (ls.map lnD)), s10, some (false, .bool (sdB ls)), s12, s13, s14, s15, s16, s17, s18, s19, s20, s21, s22, s23, s24] (dm ms x y z)
      = .nx [s0, s1, s2, s3', s4, s5, s6, s7, s8, some (false, .list (ls.map lnD)), s10, some (false, .bool (sdB ls)), s12, s13, s14, s15, s16, s17, s18, s19, s20, s21, s22, s23, s24] (dm (ms ++ [c]) x y z) := by
  have h := new_ok k [s0, s1, s2, s3', s4, s5, s6, s7, s8, some (false, .list (ls.map lnD)), s10, some (false, .bool (sdB ls)), s12, s13, s14, s15, s16, s17, s18, s19, s20, s21, s22, s23, s24] (dm ms x y z) (.nm 9) ls rfl (by simp) (lb_z hb) (by omega)
  have hs := sound_iff ls fun r hr => (hb r hr).1
  by_cases hp : SoundP ls
  · rw [if_neg (hs.mpr hp)] at h
    refine ⟨insS ls, ?_⟩
    have hc : clsAt (dm ms x y z ++ [insS ls]) (cellD (dm ms x y z).length) = some (0, fsS ls) := clsAt_new _ _ _
    rw [show sdB ls = true from decide_eq_true hp] at h ⊢
    simp -implicitDefEqProofs [-e_new, -clsAt_new, isB, h, hc]
    rfl
  · rw [if_pos (Classical.byContradiction fun z => hp (hs.mp z))] at h
    refine ⟨.ins 0 [], ?_⟩
    have hc := cls_no (x := .str "DayError") (dm ms x y z ++ [.ins 0 []]) rfl
    rw [show sdB ls = false from decide_eq_false hp] at h ⊢
    simp -implicitDefEqProofs [-e_new, isB, h, hc, de_eq]
    rfl
end
end Ev.T_k01
end
section
set_option Elab.async false
set_option linter.all false
set_option autoImplicit false
set_option maxRecDepth 100000
set_option maxHeartbeats 2000000
/-! k01: the law's body, seventh part: names, seasons. -/
namespace Ev.T_k01
open PySem L2

theorem pick_season (ls : List L3) (d : Int) : atI ((ls.filter fun r => decide (r.1 ≤ d ∧ d ≤ r.2.1)).map (fun r => PyData.str r.2.2) ++ [.str "plain"]) 0 = some (.str (seasonN ls d)) := by
  have h : ls.find? (cv d) = (ls.filter fun r => decide (r.1 ≤ d ∧ d ≤ r.2.1)).head? := by
    rw [List.head?_filter]
    rfl
  unfold seasonN
  rw [h]
  cases ls.filter fun r => decide (r.1 ≤ d ∧ d ≤ r.2.1) with
  | nil => exact atI_nat (j := 0) rfl
  | cons a as => exact atI_nat (j := 0) rfl
def nmsL (ls : List L3) : List Str := (List.range 60).map fun (n : Nat) => seasonN ls (n : Int)
theorem zp_ls {ls : List L3} (h : ZOk ls) (d : Int) : PyData.canLay0 (.str (seasonN ls d)) = true := by
  unfold seasonN
  cases hf : ls.find? (cv d) with
  | none => show PyData.canLay0 (.str "plain") = true; decide +kernel
  | some q => exact h q (List.mem_of_find?_eq_some hf)
theorem shaped_nms {zs : List Str} (h : ∀ z ∈ zs, PyData.canLay0 (.str z) = true) : SeqAt.shaped (.list (zs.map .str)) = true :=
  shaped_l (n := 0) (canLay_map h) (depth_map fun _ _ => Nat.le_refl _) (by decide)
theorem shaped_lines {ls : List L3} (h : ZOk ls) : SeqAt.shaped (.tuple (ls.map lnD)) = true :=
  shaped_t (n := 1) (canLay_map fun q hq => by
    have := h q hq
    simp only [lnD, PyData.canLay0, PyData.canLayAll0, Bool.and_true, Bool.true_and]
    simpa [PyData.canLay0] using this) (depth_map fun q _ => by simp [lnD, PyData.depth, PyData.depthAll]) (by decide)
theorem nms_ok {ls : List L3} (h : ZOk ls) : ∀ z ∈ nmsL ls, PyData.canLay0 (.str z) = true := fun z hz => by
  obtain ⟨n, _, rfl⟩ := List.mem_map.mp hz
  exact zp_ls h _
section
variable (k : Nat) (s0 s1 s2 s3' s4 s5 s6 s7 s8 s9 s10 s11 s12 s13 s14 s15 s16 s17 s18 s19 s20 s21 s22 s23 s24 : Sl)
theorem g_names (ls : List L3) (hl : ls.length ≤ 4) (m : M) :
    exec (Wk k) (.asg 21 (.co .lc (.idx (.bin .add (.co .lc (.nm 19) (.tup [.nm 17, .nm 18, .nm 19]) (.seq (.e (.nm 9))) [.chn .le .le (.nm 17) (.nm 22) (.nm 18)]) (.lst [.cst (.str "plain")])) (.cst (.int 0))) (.nm 22) (.rng [.cst (.int 60)]) [])) wrT [s0, s1, s2, s3', s4, s5, s6, s7, s8, some (false, .list (ls.map lnD)), s10, s11, s12, s13, s14, s15, s16, s17, s18, s19, s20, s21, s22, s23, s24] m
      = .nx [s0, s1, s2, s3', s4, s5, s6, s7, s8, some (false, .list (ls.map lnD)), s10, s11, s12, s13, s14, s15, s16, s17, s18, s19, s20, some (false, .list ((nmsL ls).map .str)), s22, s23, s24] m := by
  have hr : rngOf [.int 60] = some ((List.range 60).map natD) := rngOf1N (n := 60) rfl (by decide)
  have e : runCo .lc (cmB (Wk k) (.idx (.bin .add (.co .lc (.nm 19) (.tup [.nm 17, .nm 18, .nm 19]) (.seq (.e (.nm 9))) [.chn .le .le (.nm 17) (.nm 22) (.nm 18)]) (.lst [.cst (.str "plain")])) (.cst (.int 0))) (.nm 22) [] wrT [s0, s1, s2, s3', s4, s5, s6, s7, s8, some (false, .list (ls.map lnD)), s10, s11, s12, s13, s14, s15, s16, s17, s18, s19, s20, s21, s22, s23, s24]) ((List.range 60).map natD) m = .ok (.list ((nmsL ls).map .str)) m := by
    unfold nmsL
    rw [List.map_map]
    refine co_lcS _ (fun n hn => ?_) (by have := siz; rw [List.length_range]; omega)
    have hc : runCo .lc (cmB (Wk k) (.nm 19) (.tup [.nm 17, .nm 18, .nm 19]) [.chn .le .le (.nm 17) (.nm 22) (.nm 18)] wrT [s0, s1, s2, s3', s4, s5, s6, s7, s8, some (false, .list (ls.map lnD)), s10, s11, s12, s13, s14, s15, s16, s17, s18, s19, s20, s21, some (false, .int (n : Int)), s23, s24]) (ls.map lnD) m = .ok (.list ((ls.filter fun r => decide (r.1 ≤ (n : Int) ∧ (n : Int) ≤ r.2.1)).map fun r => PyData.str r.2.2)) m := by
      rw [← filterMap_p (fun r : L3 => r.1 ≤ (n : Int) ∧ (n : Int) ≤ r.2.1) (fun r => PyData.str r.2.2)]
      refine co_lc _ (fun r _ => ?_) (by have := siz; omega)
      rw [cmB_eq _ _ _ _ _ _ _ _ _ (by simp [lnD] <;> rfl)]
      by_cases h1 : r.1 ≤ (n : Int)
      · by_cases h2 : (n : Int) ≤ r.2.1
        · simp -implicitDefEqProofs [isB, h1, h2]
        · simp -implicitDefEqProofs [isB, h1, h2]
      · simp -implicitDefEqProofs [isB, h1]
    have hp := pick_season ls (n : Int)
    have hlen : ((ls.filter fun r => decide (r.1 ≤ (n : Int) ∧ (n : Int) ≤ r.2.1)).map fun r => PyData.str r.2.2).length + 1 ≤ sizeLine := by
      have h1 := List.length_filter_le (fun r : L3 => decide (r.1 ≤ (n : Int) ∧ (n : Int) ≤ r.2.1)) ls
      have := siz
      rw [List.length_map]
      omega
    generalize ((ls.filter fun r => decide (r.1 ≤ (n : Int) ∧ (n : Int) ≤ r.2.1)).map fun r => PyData.str r.2.2) = zs at hc hp hlen
    rw [cmB_eq _ _ _ _ _ _ _ _ _ (by simp <;> rfl)]
    simp -implicitDefEqProofs [isB, natD, e_co, hc, hp, hlen]
  simp -implicitDefEqProofs [isB, hr, e_co, e]
theorem g_seas (ls : List L3) (hs : SoundP ls) (hz : ZOk ls) (m : M) (r : Nat) (hr : m[r]? = some (insS ls)) :
    exec (Wk (k + 1)) (.ifs (.or (.cmp .ne (.co .lc (.met 7 (.nm 20) [.nm 22]) (.nm 22) (.rng [.cst (.int 60)]) []) (.nm 21)) (.cmp .ne (.fld (.nm 20) "rows") (.bi .tuple [.bi .sorted [.nm 9]]))) [.ret (.cst (.bool false))] []) wrT [s0, s1, s2, s3', s4, s5, s6, s7, s8, some (false, .list (ls.map lnD)), s10, s11, s12, s13, s14, s15, s16, s17, s18, s19, some (false, cellD r), some (false, .list ((nmsL ls).map .str)), s22, s23, s24] m
      = .nx [s0, s1, s2, s3', s4, s5, s6, s7, s8, some (false, .list (ls.map lnD)), s10, s11, s12, s13, s14, s15, s16, s17, s18, s19, some (false, cellD r), some (false, .list ((nmsL ls).map .str)), s22, s23, s24] m := by
  have hr6 : rngOf [.int 60] = some ((List.range 60).map natD) := rngOf1N (n := 60) rfl (by decide)
  have e : runCo .lc (cmB (Wk (k + 1)) (.met 7 (.nm 20) [.nm 22]) (.nm 22) [] wrT [s0, s1, s2, s3', s4, s5, s6, s7, s8, some (false, .list (ls.map lnD)), s10, s11, s12, s13, s14, s15, s16, s17, s18, s19, some (false, cellD r), some (false, .list ((nmsL ls).map .str)), s22, s23, s24]) ((List.range 60).map natD) m = .ok (.list ((nmsL ls).map .str)) m := by
    rw [show (nmsL ls).map PyData.str = (List.range 60).map fun (n : Nat) => PyData.str (seasonN ls (n : Int)) by unfold nmsL; rw [List.map_map]; rfl]
    refine co_lcS _ (fun n hn => ?_) (by have := siz; rw [List.length_range]; omega)
    have hc := c_season k wrT m r ls hr (n : Int)
    rw [if_neg (by omega), season_law hs] at hc
    rw [cmB_eq _ _ _ _ _ _ _ _ _ (by simp <;> rfl)]
    simp -implicitDefEqProofs [isB, natD, cls_S hr, hc]
  have h1 := ne_same (shaped_nms (nms_ok hz))
  have h2 := sbi_sort3 ls
  have h3 := ne_same (shaped_lines (ls := s3 ls) fun q hq => hz q ((s3_mem ls q).mp hq))
  simp -implicitDefEqProofs [isB, hr6, e_co, e, h1, h2, h3, cls_S hr]
end
end Ev.T_k01
end
section
set_option Elab.async false
set_option linter.all false
set_option autoImplicit false
set_option maxRecDepth 100000
set_option maxHeartbeats 2000000
/-! k01: the law's body, eighth part: parts, count. -/
namespace Ev.T_k01
open PySem L2

theorem nms_get (ls : List L3) (n : Int) (h0 : 0 ≤ n) (h1 : n < 60) : atI ((nmsL ls).map PyData.str) n = some (.str (seasonN ls n)) := by
  obtain ⟨j, rfl⟩ : ∃ j : Nat, n = (j : Int) := ⟨n.toNat, by omega⟩
  refine atI_nat ?_
  unfold nmsL
  rw [List.getElem?_map, List.getElem?_map, List.getElem?_range (by omega)]
  rfl
theorem parts_ne {acc : List Pt} (h : POk acc) : semCmp .ne (.list (acc.map ptD)) (.list []) = some (!acc.isEmpty) := by
  show (eqS _ _).map (!·) = _
  rw [eqS_nil (shaped_parts h)]
  simp
def sumZ (z : Str) (acc : List Pt) : Int := ((acc.filter fun q => decide (q.1 = z)).map (·.2)).sum
theorem sumZ_app (z : Str) (a b : List Pt) : sumZ z (a ++ b) = sumZ z a + sumZ z b := by
  unfold sumZ
  rw [List.filter_append, List.map_append, List.sum_append]
theorem sumZ_one (z y : Str) (i : Int) : sumZ z [(y, i)] = if y = z then i else 0 := by
  unfold sumZ
  by_cases h : y = z <;> simp [h]
theorem sumZ_step (z y : Str) (acc : List Pt) : sumZ z (partStep acc y) = sumZ z acc + if y = z then 1 else 0 := by
  unfold partStep
  rcases List.eq_nil_or_concat acc with rfl | ⟨as, ⟨a, i⟩, rfl⟩
  · simp only [List.getLast?_nil, List.nil_append, sumZ_one]
    simp [sumZ]
  · simp only [List.concat_eq_append, List.getLast?_concat, List.dropLast_concat]
    by_cases h : a = y
    · rw [if_pos h, sumZ_app, sumZ_app, sumZ_one, sumZ_one, h]
      split <;> omega
    · rw [if_neg h, sumZ_app, sumZ_one]
theorem sumZ_fold (z : Str) : ∀ (ys : List Str) (acc : List Pt), sumZ z (ys.foldl partStep acc) = sumZ z acc + ((ys.filter fun y => decide (y = z)).length : Int)
  | [], acc => by simp
  | y :: ys, acc => by
    rw [List.foldl_cons, sumZ_fold z ys, sumZ_step]
    by_cases h : y = z
    · simp [h]; omega
    · simp [h]
theorem parts_law {ls : List L3} (hs : SoundP ls) (f l : Int) : partsP ls f l = ((ngs (f, l)).map (seasonN ls)).foldl partStep [] := by
  unfold partsP
  rw [List.map_congr_left fun n _ => season_law hs n]
theorem cut_nms (ls : List L3) (f l : Int) (h0 : 0 ≤ f) (h1 : f < l) (h2 : l < 60) : semSlc (.list ((nmsL ls).map .str)) (some f) (some l) = some (.list (((ngs (f, l)).map (seasonN ls)).map .str)) := by
  show some (PyData.list (semSlc.cutV' ((nmsL ls).map .str) (some f) (some l))) = _
  congr 2
  unfold semSlc.cutV' nmsL ngs
  obtain ⟨a, rfl⟩ : ∃ a : Nat, f = (a : Int) := ⟨f.toNat, by omega⟩
  obtain ⟨b, rfl⟩ : ∃ b : Nat, l = (b : Int) := ⟨l.toNat, by omega⟩
  rw [HT.sIx_nat, HT.sIx_nat]
  simp only [List.length_map, List.length_range]
  rw [show min a 60 = a by omega, show min b 60 = b by omega, show ((b : Int) - (a : Int)).toNat = b - a by omega]
  refine List.ext_getElem? fun i => ?_
  unfold rngI
  by_cases hi : i < b - a
  · rw [List.getElem?_take_of_lt hi, List.getElem?_drop, List.getElem?_map, List.getElem?_map, List.getElem?_range (by omega), List.getElem?_map, List.getElem?_map, List.getElem?_map, List.getElem?_range hi]
    simp
  · rw [List.getElem?_eq_none (by simp; omega), List.getElem?_eq_none (by simp; omega)]
theorem count_str {zs : List Str} {z : Str} (h : ∀ z ∈ zs, PyData.canLay0 (.str z) = true) (hz : PyData.canLay0 (.str z) = true) : semMth .count (.list (zs.map .str)) [.str z] = some (.int ((zs.filter fun y => decide (y = z)).length : Int)) := by
  show (if SeqAt.shaped (.str z) && SeqAt.shaped (.list (zs.map .str)) then some (PyData.int (((zs.map PyData.str).filter fun x => PyData.eqv x (.str z)).length : Nat)) else none) = _
  rw [shaped_str hz, shaped_nms h, List.filter_map, List.length_map]
  have : ((fun x => PyData.eqv x (.str z)) ∘ PyData.str) = fun y : Str => decide (y = z) := by
    funext y
    exact eqv_str y z
  rw [this]
  rfl
section
variable (k : Nat) (s0 s1 s2 s3' s4 s5 s6 s7 s8 s9 s10 s11 s12 s13 s14 s15 s16 s17 s18 s19 s20 s21 s22 s23 s24 : Sl)
def bQ : List St := [.asg 24 (.ite (.and (.cmp .ne (.nm 24) (.lst [])) (.cmp .eq (.idx (.idx (.nm 24) (.neg (.cst (.int 1)))) (.cst (.int 0))) (.idx (.nm 21) (.nm 22)))) (.bin .add (.slc (.nm 24) none (some (.neg (.cst (.int 1))))) (.lst [.tup [.idx (.nm 21) (.nm 22), .bin .add (.idx (.idx (.nm 24) (.neg (.cst (.int 1)))) (.cst (.int 1))) (.cst (.int 1))]])) (.bin .add (.nm 24) (.lst [.tup [.idx (.nm 21) (.nm 22), .cst (.int 1)]])))]
theorem g_part (ls : List L3) (hz : ZOk ls) (acc : List Pt) (ha : POk acc) (hl : acc.length ≤ 1000) (n : Int) (h0 : 0 ≤ n) (h1 : n < 60) (m : M) :
    execL (Wk k) bQ wrT [s0, s1, s2, s3', s4, s5, s6, s7, s8, s9, s10, s11, s12, s13, s14, s15, s16, s17, s18, s19, s20, some (false, .list ((nmsL ls).map .str)), some (false, .int n), s23, some (false, .list (acc.map ptD))] m
      = .nx [s0, s1, s2, s3', s4, s5, s6, s7, s8, s9, s10, s11, s12, s13, s14, s15, s16, s17, s18, s19, s20, some (false, .list ((nmsL ls).map .str)), some (false, .int n), s23, some (false, .list ((partStep acc (seasonN ls n)).map ptD))] m := by
  have hn := parts_ne ha
  have hg := nms_get ls n h0 h1
  have hzz := zp_ls hz n
  have hq : acc.length + 1 ≤ sizeLine := by have := siz; omega
  generalize (nmsL ls).map PyData.str = N at hg ⊢
  generalize seasonN ls n = z at hg hzz ⊢
  unfold bQ partStep
  rcases List.eq_nil_or_concat acc with rfl | ⟨as, ⟨a, i⟩, rfl⟩
  · simp -implicitDefEqProofs at hn hq
    simp -implicitDefEqProofs [isB, hn, hq, hg, ptD]
  · have hqa : PyData.canLay0 (.str a) = true := ha (a, i) (by simp)
    have he := sc_eqZ hqa hzz
    have hi := atI_last (as.map ptD) (.tuple [.str a, .int i])
    simp only [List.concat_eq_append, List.map_append, List.map_cons, List.map_nil, ptD, List.length_append, List.length_singleton] at hn hq ⊢
    have hq2 : as.length + 1 ≤ sizeLine := by omega
    rw [show (!(as ++ [(a, i)]).isEmpty) = true by cases as <;> rfl] at hn
    by_cases h : a = z
    · subst h
      rw [decide_eq_true rfl] at he
      simp -implicitDefEqProofs [isB, hn, hq, hq2, hi, hg, he, ptD]
    · rw [decide_eq_false h] at he
      simp -implicitDefEqProofs [isB, hn, hq, hq2, hi, hg, he, h, ptD]
theorem g_parts (ls : List L3) (hz : ZOk ls) (m : M) : ∀ (is : List Int) (acc : List Pt) (s22 : Sl), (∀ n ∈ is, 0 ≤ n ∧ n < 60) → POk acc → acc.length + is.length ≤ 1000 → ∃ s22',
    forB (Wk k) (.nm 22) bQ wrT (is.map .int) [s0, s1, s2, s3', s4, s5, s6, s7, s8, s9, s10, s11, s12, s13, s14, s15, s16, s17, s18, s19, s20, some (false, .list ((nmsL ls).map .str)), s22, s23, some (false, .list (acc.map ptD))] m
      = .nx [s0, s1, s2, s3', s4, s5, s6, s7, s8, s9, s10, s11, s12, s13, s14, s15, s16, s17, s18, s19, s20, some (false, .list ((nmsL ls).map .str)), s22', s23, some (false, .list (((is.map (seasonN ls)).foldl partStep acc).map ptD))] m
  | [], acc, s22, _, _, _ => ⟨s22, by simp⟩
  | n :: is, acc, s22, hn, ha, hl => by
    simp only [List.length_cons] at hl
    have hr := partStep_len acc (seasonN ls n)
    obtain ⟨a, e⟩ := g_parts ls hz m is (partStep acc (seasonN ls n)) (some (false, .int n)) (fun j hj => hn j (List.mem_cons_of_mem _ hj)) (partStep_ok ha (zp_ls hz n)) (by omega)
    refine ⟨a, ?_⟩
    obtain ⟨n0, n1⟩ := hn n List.mem_cons_self
    have ht := g_part k s0 s1 s2 s3' s4 s5 s6 s7 s8 s9 s10 s11 s12 s13 s14 s15 s16 s17 s18 s19 s20 s23 ls hz acc ha (by omega) n n0 n1 m
    rw [List.map_cons, forB_cons, List.map_cons, List.foldl_cons]
    simp -implicitDefEqProofs [ht]
    simpa using e
end
end Ev.T_k01
end
section
set_option Elab.async false
set_option linter.all false
set_option autoImplicit false
set_option maxRecDepth 100000
set_option maxHeartbeats 4000000
/-! k01: the law is true. -/
namespace Ev.T_k01
open PySem L2

def Goes (W : Wd) (r : List St) (g : Ga) (m : M) : Prop := ∃ g2 m2, execL W r wrT g m = .nx g2 m2
theorem stepE {W : Wd} {s : St} {r : List St} {g g' : Ga} {m m' : M} (h : exec W s wrT g m = .nx g' m') (h2 : Goes W r g' m') : Goes W (s :: r) g m := by
  obtain ⟨g2, m2, e⟩ := h2
  exact ⟨g2, m2, by rw [x_cons, h]; exact e⟩
theorem step2 {W : Wd} {a b : St} {r : List St} {g g' : Ga} {m m' : M} (h : execL W [a, b] wrT g m = .nx g' m') (h2 : Goes W r g' m') : Goes W (a :: b :: r) g m := by
  obtain ⟨g2, m2, e⟩ := h2
  refine ⟨g2, m2, ?_⟩
  rw [x_cons] at h ⊢
  cases h3 : exec W a wrT g m with
  | nx g3 m3 =>
    rw [h3] at h
    simp only [RS.tF_nx] at h ⊢
    rw [x_cons] at h ⊢
    cases h4 : exec W b wrT g3 m3 with
    | nx g4 m4 =>
      rw [h4] at h
      simp only [RS.tF_nx, x_nil] at h ⊢
      cases h
      exact e
    | rt d m4 => rw [h4] at h; cases h
    | exc c g4 m4 => rw [h4] at h; cases h
    | stuck => rw [h4] at h; cases h
  | rt d m3 => rw [h3] at h; cases h
  | exc c g3 m3 => rw [h3] at h; cases h
  | stuck => rw [h3] at h; cases h
theorem goes_nil (W : Wd) (g : Ga) (m : M) : Goes W [] g m := ⟨g, m, by simp⟩
theorem for_nm {W : Wd} {i : Nat} {tg : Tg} {body : List St} {g : Ga} {m : M} {xs : List D} (h : g[i]? = some (some (false, .list xs))) : exec W (.for tg (.seq (.e (.nm i))) body) wrT g m = forB W tg body wrT xs g m := by
  simp -implicitDefEqProofs [isB, h]
theorem for_rng {W : Wd} {i j : Nat} {tg : Tg} {body : List St} {g : Ga} {m : M} {a b : Int} (h : g[i]? = some (some (false, .int a))) (h2 : g[j]? = some (some (false, .int b))) (hb : -(2 ^ 62) ≤ a ∧ a < 2 ^ 62 ∧ -(2 ^ 62) ≤ b ∧ b < 2 ^ 62) : exec W (.for tg (.rng [.nm i, .nm j]) body) wrT g m = forB W tg body wrT ((ngs (a, b)).map .int) g m := by
  have hr := rngOf2 hb
  simp -implicitDefEqProofs [isB, h, h2, hr, ngs]
def bB : List St := match b_law with
  | .for _ _ b :: _ => b
  | _ => []
def bI : List St := match bB.getLast? with
  | some (.ifs _ b _) => b
  | _ => []
theorem inner (ls : List L3) (hs : SoundP ls) (hb : ∀ r ∈ ls, LBd r) (hl : ls.length ≤ 4) (s0 s2 s3' s4 s5 s6 s7 s8 s10 s11 s12 s13 s14 s15 s16 s17 s18 s19 s20 s21 s22 s23 s24 : Sl) (ms : M) (x y z : Int) :
    Goes (Wk 7) bI [s0, some (false, cellD 0), s2, s3', s4, s5, s6, s7, s8, some (false, .list (ls.map lnD)), s10, s11, s12, s13, s14, s15, s16, s17, s18, s19, s20, s21, s22, s23, s24] (dm ms x y z) := by
  have hz := lb_z hb
  have hn := new_ok 6 [s0, some (false, cellD 0), s2, s3', s4, s5, s6, s7, s8, some (false, .list (ls.map lnD)), s10, s11, s12, s13, s14, s15, s16, s17, s18, s19, s20, s21, s22, s23, s24] (dm ms x y z) (.nm 9) ls rfl (by simp) hz (by omega)
  rw [if_neg ((sound_iff ls fun r hr => (hb r hr).1).mpr hs)] at hn
  have hr : ∀ x y z, (dm (ms ++ [insS ls]) x y z)[(dm ms x y z).length]? = some (insS ls) := fun x y z => by simp [dm]
  generalize hrr : (dm ms x y z).length = r at hn
  have hr : ∀ x y z, (dm (ms ++ [insS ls]) x y z)[r]? = some (insS ls) := fun x y z => by rw [← hrr]; simp [dm]
  have hn : ev (Wk 7) (.new 0 [.nm 9]) wrT [s0, some (false, cellD 0), s2, s3', s4, s5, s6, s7, s8, some (false, .list (ls.map lnD)), s10, s11, s12, s13, s14, s15, s16, s17, s18, s19, s20, s21, s22, s23, s24] (dm ms x y z) = .ok (cellD r) (dm (ms ++ [insS ls]) x y z) := hn
  have hasg : exec (Wk 7) (.asg 20 (.new 0 [.nm 9])) wrT [s0, some (false, cellD 0), s2, s3', s4, s5, s6, s7, s8, some (false, .list (ls.map lnD)), s10, s11, s12, s13, s14, s15, s16, s17, s18, s19, s20, s21, s22, s23, s24] (dm ms x y z) = .nx [s0, some (false, cellD 0), s2, s3', s4, s5, s6, s7, s8, some (false, .list (ls.map lnD)), s10, s11, s12, s13, s14, s15, s16, s17, s18, s19, some (false, cellD r), s21, s22, s23, s24] (dm (ms ++ [insS ls]) x y z) := by
    simp -implicitDefEqProofs [-e_new, isB, hn]
  refine stepE hasg ?_
  refine stepE (g_names 7 _ _ _ _ _ _ _ _ _ _ _ _ _ _ _ _ _ _ _ _ _ _ _ _ ls hl _) ?_
  refine stepE (g_seas 6 _ _ _ _ _ _ _ _ _ _ _ _ _ _ _ _ _ _ _ _ _ _ ls hs hz _ r (hr _ _ _)) ?_
  obtain ⟨f, x1, y1, z1, f0, f1, e1⟩ := c_roll 6 (ms ++ [insS ls]) 30 x y z (by decide) (by decide)
  obtain ⟨u, x2, y2, z2, u0, u1, e2⟩ := c_roll 6 (ms ++ [insS ls]) 12 x1 y1 z1 (by decide) (by decide)
  refine stepE (g' := [s0, some (false, cellD 0), s2, s3', s4, s5, s6, s7, s8, some (false, .list (ls.map lnD)), s10, s11, s12, s13, s14, s15, s16, some (false, .int f), s18, s19, some (false, cellD r), some (false, .list ((nmsL ls).map .str)), s22, s23, s24]) (m' := dm (ms ++ [insS ls]) x1 y1 z1) (by simp -implicitDefEqProofs [isB, e1]) ?_
  refine stepE (g' := [s0, some (false, cellD 0), s2, s3', s4, s5, s6, s7, s8, some (false, .list (ls.map lnD)), s10, s11, s12, s13, s14, s15, s16, some (false, .int f), some (false, .int (f + 1 + u)), s19, some (false, cellD r), some (false, .list ((nmsL ls).map .str)), s22, s23, some (false, .list (([] : List Pt).map ptD))]) (m' := dm (ms ++ [insS ls]) x2 y2 z2) (by simp -implicitDefEqProofs [isB, e2]) ?_
  obtain ⟨s22', e3⟩ := g_parts 7 s0 (some (false, cellD 0)) s2 s3' s4 s5 s6 s7 s8 (some (false, .list (ls.map lnD))) s10 s11 s12 s13 s14 s15 s16 (some (false, .int f)) (some (false, .int (f + 1 + u))) s19 (some (false, cellD r)) s23 ls hz (dm (ms ++ [insS ls]) x2 y2 z2) (ngs (f, f + 1 + u)) [] s22 (fun n hn => by
    have := (ngs_mem (p := (f, f + 1 + u)) (by show f < f + 1 + u; omega)).mp hn
    have h1 : f ≤ n := this.1
    have h2 : n < f + 1 + u := this.2
    omega) (fun q hq => by cases hq) (by unfold ngs; rw [rngI_len]; dsimp only; simp only [List.length_nil]; omega)
  refine stepE ((for_rng (a := f) (b := f + 1 + u) rfl rfl (by omega)).trans e3) ?_
  rw [← parts_law hs]
  have hok : Ok2 (f, f + 1 + u) := ⟨f0, by show f < f + 1 + u; omega⟩
  have hp := (c_parts 4 wrT (dm (ms ++ [insS ls]) x2 y2 z2) r ls (hr _ _ _) hz f (f + 1 + u) (by omega) (by omega)).trans (if_pos hok)
  have hpn := ne_same (shaped_parts (acc := partsP ls f (f + 1 + u)) (parts_ok hz (ngs (f, f + 1 + u)) [] (fun q hq => by cases hq)))
  have hc := (c_count 3 wrT (dm (ms ++ [insS ls]) x2 y2 z2) r ls (hr _ _ _) hz "high" (by decide +kernel) f (f + 1 + u) (by omega) (by omega)).trans (if_pos hok)
  have hcut := cut_nms ls f (f + 1 + u) f0 (by omega) (by omega)
  have hcs := count_str (zs := (ngs (f, f + 1 + u)).map (seasonN ls)) (z := "high") (fun z hz' => by
    obtain ⟨n, _, rfl⟩ := List.mem_map.mp hz'
    exact zp_ls hz n) (by decide +kernel)
  have hsum : countP ls "high" f (f + 1 + u) = ((((ngs (f, f + 1 + u)).map (seasonN ls)).filter fun y : Str => decide (y = "high")).length : Int) := by
    have := sumZ_fold "high" ((ngs (f, f + 1 + u)).map (seasonN ls)) []
    rw [← parts_law hs] at this
    show sumZ "high" (partsP ls f (f + 1 + u)) = _
    rw [this]
    simp [sumZ]
  rw [hsum] at hc
  have hcl := cls_S (hr x2 y2 z2)
  refine stepE (by simp -implicitDefEqProofs [isB, hcl, hp, hpn] <;> exact ⟨rfl, rfl⟩) ?_
  generalize ((((ngs (f, f + 1 + u)).map (seasonN ls)).filter fun y : Str => decide (y = "high")).length : Int) = q at hc hcs
  generalize ((ngs (f, f + 1 + u)).map (seasonN ls)).map PyData.str = N at hcut hcs
  have mo : mthOk .count (.list N) = true := rfl
  refine stepE (by simp -implicitDefEqProofs [isB, hcl, hc, hcut, hcs, mo] <;> exact ⟨rfl, rfl⟩) ?_
  exact goes_nil _ _ _
theorem law_body (s0 s2 s3' s4 s5 s6 s7 s8 s9 s10 s11 s12 s13 s14 s15 s16 s17 s18 s19 s20 s21 s22 s23 s24 : Sl) (x y z : Int) :
    Goes (Wk 7) bB [s0, some (false, cellD 0), s2, s3', s4, s5, s6, s7, s8, s9, s10, s11, s12, s13, s14, s15, s16, s17, s18, s19, s20, s21, s22, s23, s24] (dm [] x y z) := by
  obtain ⟨ps, x1, y1, z1, hl, hb, e1⟩ := g_stays 5 s0 s2 s3' s4 s5 s6 s7 s8 s9 s10 s11 s12 s13 s14 s15 s16 s17 s18 s19 s20 s21 s22 s23 s24 [] x y z
  refine stepE e1 ?_
  refine stepE (g_good 6 _ _ _ _ _ _ _ _ _ _ _ _ _ _ _ _ _ _ _ _ _ _ _ ps hl _ _) ?_
  obtain ⟨t4, e2⟩ := g_nights 5 s0 (some (false, cellD 0)) (some (false, .list (ps.map stD))) (some (false, .bool (gdB ps))) s5 s6 s7 s8 s9 s10 s11 s12 s13 s14 s15 s16 s17 s18 s19 s20 s21 s22 s23 s24 (dm [] x1 y1 z1) ps s4 hb
  refine stepE ((for_nm rfl).trans e2) ?_
  refine stepE (g_counts 7 _ _ _ _ _ _ _ _ _ _ _ _ _ _ _ _ _ _ _ _ _ _ _ _ ps hl _) ?_
  refine step2 (g_due 5 _ _ _ _ _ _ _ _ _ _ _ _ _ _ _ _ _ _ _ _ _ _ ps hl hb _) ?_
  obtain ⟨p, q, w, x2, y2, z2, bp, bq, bw, e3⟩ := g_three 5 s0 (some (false, .list (ps.map stD))) (some (false, .bool (gdB ps))) t4 (some (false, .list ((cntsI ps).map .int))) (some (false, dueD ps)) s7 s8 s9 s10 s11 s12 s13 s14 s15 s16 s17 s18 s19 s20 s21 s22 s23 s24 [] x1 y1 z1
  refine stepE e3 ?_
  obtain ⟨t7, e4⟩ := g_shared 5 s0 (some (false, cellD 0)) (some (false, .list (ps.map stD))) (some (false, .bool (gdB ps))) t4 (some (false, .list ((cntsI ps).map .int))) (some (false, dueD ps)) s7 s8 s9 s10 s11 (some (false, stD w)) s15 s16 s17 s18 s19 s20 s21 s22 s23 s24 p q bp (dm [] x2 y2 z2)
  refine step2 e4 ?_
  refine stepE (g_free 7 _ _ _ _ _ _ _ _ _ _ _ _ _ _ _ _ _ _ _ _ _ _ _ ps hl w bw _) ?_
  obtain ⟨b1, b2, b3, b4⟩ := bw
  obtain ⟨t8, e5⟩ := g_rows 7 s0 (some (false, cellD 0)) (some (false, .list (ps.map stD))) (some (false, .bool (gdB ps))) t4 (some (false, .list ((cntsI ps).map .int))) (some (false, dueD ps)) t7 s9 s10 s11 (some (false, stD p)) (some (false, stD q)) (some (false, stD w)) (some (false, .list ((freeL ps w).map .int))) s17 s18 s19 s20 s21 s22 s23 s24 (dm [] x2 y2 z2) (freeL ps w) [] s8 (by
    have h1 := List.length_filter_le (fun n => decide (cnt ps n = 0)) (ngs w)
    have h2 : (ngs w).length = (w.2 - w.1).toNat := by unfold ngs; rw [rngI_len]
    unfold freeL
    simp only [List.length_nil]
    omega)
  refine stepE ((for_nm rfl).trans e5) ?_
  refine stepE (g_gaps 5 _ _ _ _ _ _ _ _ _ _ _ _ _ _ _ _ _ _ _ _ _ ps hl w _) ?_
  obtain ⟨ls, x3, y3, z3, hl3, hb3, e6⟩ := g_lines 6 s0 (some (false, .list (ps.map stD))) (some (false, .bool (gdB ps))) t4 (some (false, .list ((cntsI ps).map .int))) (some (false, dueD ps)) t7 t8 s9 s10 s11 (some (false, stD p)) (some (false, stD q)) (some (false, stD w)) (some (false, .list ((freeL ps w).map .int))) (some (false, .list (((freeL ps w).foldl rowStep []).map stD))) s17 s18 s19 s20 s21 s22 s23 s24 [] x2 y2 z2
  refine stepE e6 ?_
  refine stepE (g' := [s0, some (false, cellD 0), some (false, .list (ps.map stD)), some (false, .bool (gdB ps)), t4, some (false, .list ((cntsI ps).map .int)), some (false, dueD ps), t7, t8, some (false, .list (ls.map lnD)), some (false, .list (([] : List Int).map .int)), s11, some (false, stD p), some (false, stD q), some (false, stD w), some (false, .list ((freeL ps w).map .int)), some (false, .list (((freeL ps w).foldl rowStep []).map stD)), s17, s18, s19, s20, s21, s22, s23, s24]) (m' := dm [] x3 y3 z3) (by simp -implicitDefEqProofs [isB]) ?_
  obtain ⟨t17, t18, t19, e7⟩ := g_days 7 s0 (some (false, cellD 0)) (some (false, .list (ps.map stD))) (some (false, .bool (gdB ps))) t4 (some (false, .list ((cntsI ps).map .int))) (some (false, dueD ps)) t7 t8 (some (false, .list (ls.map lnD))) s11 (some (false, stD p)) (some (false, stD q)) (some (false, stD w)) (some (false, .list ((freeL ps w).map .int))) (some (false, .list (((freeL ps w).foldl rowStep []).map stD))) s20 s21 s22 s23 s24 (dm [] x3 y3 z3) ls [] s17 s18 s19 hb3 (by simp only [List.length_nil]; omega)
  refine stepE ((for_nm rfl).trans e7) ?_
  rw [List.nil_append]
  have hdl : ∀ (ls : List L3), (∀ r ∈ ls, LBd r) → (daysL ls).length ≤ 5 * ls.length := by
    intro ls
    induction ls with
    | nil => intro _; exact Nat.le_refl _
    | cons r ls ih =>
      intro h
      have h1 := ih fun q hq => h q (List.mem_cons_of_mem _ hq)
      obtain ⟨b1, b2, b3, b4, _⟩ := h r List.mem_cons_self
      have h2 : (dys r).length ≤ 5 := by unfold dys; rw [rngI_len]; omega
      unfold daysL at h1 ⊢
      rw [List.flatMap_cons, List.length_append, List.length_cons]
      omega
  have hd := hdl ls hb3
  refine stepE (g_sound 7 _ _ _ _ _ _ _ _ _ _ _ _ _ _ _ _ _ _ _ _ _ _ _ ls hl3 hb3 (by omega) _) ?_
  obtain ⟨c, e8⟩ := g_told2 6 s0 (some (false, cellD 0)) (some (false, .list (ps.map stD))) (some (false, .bool (gdB ps))) t4 (some (false, .list ((cntsI ps).map .int))) (some (false, dueD ps)) t7 t8 (some (false, .list ((daysL ls).map .int))) (some (false, stD p)) (some (false, stD q)) (some (false, stD w)) (some (false, .list ((freeL ps w).map .int))) (some (false, .list (((freeL ps w).foldl rowStep []).map stD))) t17 t18 t19 s20 s21 s22 s23 s24 ls hl3 hb3 [] x3 y3 z3
  refine stepE e8 ?_
  by_cases hs : SoundP ls
  · obtain ⟨g2, m2, e9⟩ := inner ls hs hb3 hl3 s0 (some (false, .list (ps.map stD))) (some (false, .bool (gdB ps))) t4 (some (false, .list ((cntsI ps).map .int))) (some (false, dueD ps)) t7 t8 (some (false, .list ((daysL ls).map .int))) (some (false, .bool (sdB ls))) (some (false, stD p)) (some (false, stD q)) (some (false, stD w)) (some (false, .list ((freeL ps w).map .int))) (some (false, .list (((freeL ps w).foldl rowStep []).map stD))) t17 t18 t19 s20 s21 s22 s23 s24 ([] ++ [c]) x3 y3 z3
    refine stepE (s := .ifs (.nm 11) bI []) (r := []) (g' := g2) (m' := m2) ?_ (goes_nil _ _ _)
    have hsd : sdB ls = true := decide_eq_true hs
    rw [hsd] at e9 ⊢
    rw [x_ifs, e_nm]
    exact e9
  · have hsd : sdB ls = false := decide_eq_false hs
    rw [hsd]
    refine stepE (s := .ifs (.nm 11) bI []) (r := []) (by rw [x_ifs, e_nm]; exact x_nil (Wk 7) wrT _ _) (goes_nil _ _ _)
theorem law_true (ns : List Int) : ∃ m', semFn (Wk 7) b_law 25 wrT [scrD ns] [] = .ok (.bool true) m' := by
  obtain ⟨x, y, z, e1⟩ := c_rounds 5 ns
  obtain ⟨g2, m2, e2⟩ := law_body (some (false, scrD ns)) none none none none none none none none none none none none none none none none none none none none none none none x y z
  obtain ⟨m3, e3⟩ := c_plain 1 m2
  refine ⟨m3, ?_⟩
  rw [sem_eq]
  have hb : b_law = [.for (.nm 1) (.seq (.e (.call 12 [.nm 0, .cst (.int 1)]))) bB, .ret (.call 16 [])] := rfl
  rw [hb]
  have e1 : (Wk 7).call 12 wrT [scrD ns, .int 1] [] = .ok (.list [cellD 0]) (dm [] x y z) := e1
  have e3 : (Wk 7).call 16 wrT [] m2 = .ok (.bool true) m3 := e3
  simp -implicitDefEqProofs [isB, ga0, e1, e2, e3]
end Ev.T_k01
end
set_option Elab.async false
set_option linter.all false
set_option autoImplicit false
set_option maxRecDepth 100000
set_option maxHeartbeats 0
/-! k01: the head, the end (by wip/head.py). -/
namespace Ev.T_k01
open PySem PySem.Spec PyProof.Rows L2

def dd (p : He.Defn) (x qq : Str) (s : Stmt) : He.DefD := ⟨p, x, qq, defArgs s, defBody s, defScope s, [], []⟩
def fn : List He.DefD := [dd ("check_stay", none) "check_stay" "check_stay" (top 5), dd ("nights", none) "nights" "nights" (top 6), dd ("week_day", none) "week_day" "week_day" (top 7), dd ("meet", none) "meet" "meet" (top 8), dd ("fullest", none) "fullest" "fullest" (top 9), dd ("gaps", none) "gaps" "gaps" (top 10), dd ("Seasons", some "__init__") "__init__" "Seasons.__init__" (topm 11 0), dd ("Seasons", some "season") "season" "Seasons.season" (topm 11 1), dd ("Seasons", some "parts") "parts" "Seasons.parts" (topm 11 2), dd ("Seasons", some "count") "count" "Seasons.count" (topm 11 3), dd ("_law_dice", none) "_law_dice" "_law_dice" (top 13), dd ("_law_roll", none) "_law_roll" "_law_roll" (top 14), dd ("_law_rounds", none) "_law_rounds" "_law_rounds" (top 15), dd ("_law_told", none) "_law_told" "_law_told" (top 16), dd ("_law_stay", none) "_law_stay" "_law_stay" (top 17), dd ("_law_good", none) "_law_good" "_law_good" (top 18), dd ("_law_plain", none) "_law_plain" "_law_plain" (top 19), dd ("law", none) "law" "law" (top 20)]
def fa : List He.Fa := (.glo "check_stay" :: .glo "nights" :: .glo "week_day" :: .glo "meet" :: .glo "fullest" :: .glo "gaps" :: .glo "_law_dice" :: .glo "_law_roll" :: .glo "_law_rounds" :: .glo "_law_told" :: .glo "_law_stay" :: .glo "_law_good" :: .glo "_law_plain" :: .glo "law" :: .glo "HotelError" :: .exc "HotelError" :: .glo "DayError" :: .exc "DayError" :: .glo "Seasons" :: .cls "Seasons" :: .mkr "Seasons" :: .noat "Seasons" "rows" :: .meth "Seasons" "season" :: .meth "Seasons" "parts" :: .meth "Seasons" "count" :: .exm "HotelError" "HotelError" true :: .exm "DayError" "DayError" true :: .exm "DayError" "HotelError" true :: .free "abs" :: .free "any" :: .free "dict" :: .free "int" :: .free "len" :: .free "list" :: .free "max" :: .free "min" :: .free "range" :: .free "sorted" :: .free "sum" :: .free "tuple" :: .free "zip" :: [])
def tg : List He.Defn := [("Seasons", some "__init__"), ("Seasons", some "count")]
def tl : List (He.Defn × Str) := [(("_law_plain", none), lamN "_law_plain" (defScope (top 19))), (("law", none), lamN "law" (defScope (top 20)))]
def tf : List He.Defn := tg ++ tl.map (·.1)
def exb (K : PySem.W.Frag) : List Bool := [glbB K "WEEK" (W0.glb 0), objB K "Seasons"]
def ex (K : PySem.W.Frag) : Bool := decide (tabs K tf).Nodup && (exb K).all id
abbrev R : PySem.W.OpenRow := PySem.W.OpenLaw.row PySem.Challenge.rw_hotelstack_k01_days_and_stays
abbrev hk : PySem.W.Hook := He.hookX 4 fa fn [] tf ex
def ob (s : PySem.W.SharedT) : He.AlX := He.obsX 4 fa fn [] tf ex (HandSHeadRun.getT s)
theorem ob_eq (s : PySem.W.SharedT) : ob s = hk.obs s.abs := He.obsX_eq (HandSHeadRun.getT_eq s)
def loose0 : List Str := ["HotelError", "DayError", "WEEK", "check_stay", "nights", "week_day", "meet", "fullest", "gaps", "Seasons", "_law_dice", "_law_roll", "_law_rounds", "_law_told", "_law_stay", "_law_good", "_law_plain"]
def loose : List Str := loose0
theorem run (w : World) : HandSHeadRun.RunEq R (PySem.W.view R.prog [20]) hk ob 4000 loose w := by
  intro os
  kernel_rfl
def xn : Nat → Str
  | 0 => "HotelError"
  | 1 => "DayError"
  | _ => ""
def cn : Nat → Str
  | 0 => "Seasons"
  | _ => ""
def F0 (K : PySem.W.Frag) : Fx := ⟨K, fun c => He.ga K (cn c), fun c => He.ga K (xn c), tabs K tg, tl.map fun p => ((He.cT K p.1).2, p.2)⟩
section
variable {w : World} {K : PySem.W.Frag} {mg : Str → Option Value} {base h : Heap}
theorem fits (c : He.SaysX fa fn [] tf ex w h K) : Fits (F0 K) K tg tl := ⟨rfl, rfl, of_decide_eq_true ((Bool.and_eq_true _ _).mp c.more).1⟩
theorem more (c : He.SaysX fa fn [] tf ex w h K) (i : Nat) {b : Bool} (hb : (exb K)[i]? = some b) : b = true := List.all_eq_true.mp ((Bool.and_eq_true _ _).mp c.more).2 b (List.mem_of_getElem? hb)
theorem fmem (i : Nat) {x : He.Fa} (h : fa[i]? = some x := by rfl) : x ∈ fa := List.mem_of_getElem? h
theorem dmem (i : Nat) {x : He.DefD} (h : fn[i]? = some x := by rfl) : x ∈ fn := List.mem_of_getElem? h
theorem lam_law : ∀ r ∈ tl, r.1 = (("law", none) : He.Defn) → r.2 = lamN "law" (defScope (top 20)) := by
  intro r hr e
  simp only [tl, List.mem_cons, List.not_mem_nil, or_false] at hr
  rcases hr with rfl | rfl
  · exact absurd e (by decide)
  · rfl
theorem lam_law_plain : ∀ r ∈ tl, r.1 = (("_law_plain", none) : He.Defn) → r.2 = lamN "_law_plain" (defScope (top 19)) := by
  intro r hr e
  simp only [tl, List.mem_cons, List.not_mem_nil, or_false] at hr
  rcases hr with rfl | rfl
  · rfl
  · exact absurd e (by decide)
theorem d_check_stay (c : He.SaysX fa fn [] tf ex w h K) (KX : K.In h) (Gh : h.Ns mainGlobals mg) (TB : ∀ p ∈ tg ++ tl.map (·.1), LamX.TabB base mg (He.cT K p).1 (He.cT K p).2) : ∃ fd, DefK K mg base (F0 K) G fns 0 ["first", "last"] (He.fAd K ("check_stay", none)) fd := defK_of (d := dd ("check_stay", none) "check_stay" "check_stay" (top 5)) (f := 0) (N := N_check_stay) (gd := false) (ld := false) c.t.d (dmem 0) ⟨rfl, rfl⟩ m_check_stay s_check_stay (by decide) rfl (fun _ _ _ _ _ _ us hl => match us, hl with | [_, _], _ => rfl) (fits c) (fun z => by cases z) (fun z => by cases z) TB
theorem d_nights (c : He.SaysX fa fn [] tf ex w h K) (KX : K.In h) (Gh : h.Ns mainGlobals mg) (TB : ∀ p ∈ tg ++ tl.map (·.1), LamX.TabB base mg (He.cT K p).1 (He.cT K p).2) : ∃ fd, DefK K mg base (F0 K) G fns 1 ["first", "last"] (He.fAd K ("nights", none)) fd := defK_of (d := dd ("nights", none) "nights" "nights" (top 6)) (f := 1) (N := N_nights) (gd := false) (ld := false) c.t.d (dmem 1) ⟨rfl, rfl⟩ m_nights s_nights (by decide) rfl (fun _ _ _ _ _ _ us hl => match us, hl with | [_, _], _ => rfl) (fits c) (fun z => by cases z) (fun z => by cases z) TB
theorem d_week_day (c : He.SaysX fa fn [] tf ex w h K) (KX : K.In h) (Gh : h.Ns mainGlobals mg) (TB : ∀ p ∈ tg ++ tl.map (·.1), LamX.TabB base mg (He.cT K p).1 (He.cT K p).2) : ∃ fd, DefK K mg base (F0 K) G fns 2 ["day"] (He.fAd K ("week_day", none)) fd := defK_of (d := dd ("week_day", none) "week_day" "week_day" (top 7)) (f := 2) (N := N_week_day) (gd := false) (ld := false) c.t.d (dmem 2) ⟨rfl, rfl⟩ m_week_day s_week_day (by decide) rfl (fun _ _ _ _ _ _ us hl => match us, hl with | [_], _ => rfl) (fits c) (fun z => by cases z) (fun z => by cases z) TB
theorem d_meet (c : He.SaysX fa fn [] tf ex w h K) (KX : K.In h) (Gh : h.Ns mainGlobals mg) (TB : ∀ p ∈ tg ++ tl.map (·.1), LamX.TabB base mg (He.cT K p).1 (He.cT K p).2) : ∃ fd, DefK K mg base (F0 K) G fns 3 ["one", "other"] (He.fAd K ("meet", none)) fd := defK_of (d := dd ("meet", none) "meet" "meet" (top 8)) (f := 3) (N := N_meet) (gd := false) (ld := false) c.t.d (dmem 3) ⟨rfl, rfl⟩ m_meet s_meet (by decide) rfl (fun _ _ _ _ _ _ us hl => match us, hl with | [_, _], _ => rfl) (fits c) (fun z => by cases z) (fun z => by cases z) TB
theorem d_fullest (c : He.SaysX fa fn [] tf ex w h K) (KX : K.In h) (Gh : h.Ns mainGlobals mg) (TB : ∀ p ∈ tg ++ tl.map (·.1), LamX.TabB base mg (He.cT K p).1 (He.cT K p).2) : ∃ fd, DefK K mg base (F0 K) G fns 4 ["stays"] (He.fAd K ("fullest", none)) fd := defK_of (d := dd ("fullest", none) "fullest" "fullest" (top 9)) (f := 4) (N := N_fullest) (gd := false) (ld := false) c.t.d (dmem 4) ⟨rfl, rfl⟩ m_fullest s_fullest (by decide) rfl (fun _ _ _ _ _ _ us hl => match us, hl with | [_], _ => rfl) (fits c) (fun z => by cases z) (fun z => by cases z) TB
theorem d_gaps (c : He.SaysX fa fn [] tf ex w h K) (KX : K.In h) (Gh : h.Ns mainGlobals mg) (TB : ∀ p ∈ tg ++ tl.map (·.1), LamX.TabB base mg (He.cT K p).1 (He.cT K p).2) : ∃ fd, DefK K mg base (F0 K) G fns 5 ["stays", "first", "last"] (He.fAd K ("gaps", none)) fd := defK_of (d := dd ("gaps", none) "gaps" "gaps" (top 10)) (f := 5) (N := N_gaps) (gd := false) (ld := false) c.t.d (dmem 5) ⟨rfl, rfl⟩ m_gaps s_gaps (by decide) rfl (fun _ _ _ _ _ _ us hl => match us, hl with | [_, _, _], _ => rfl) (fits c) (fun z => by cases z) (fun z => by cases z) TB
theorem d_Seasons_init (c : He.SaysX fa fn [] tf ex w h K) (KX : K.In h) (Gh : h.Ns mainGlobals mg) (TB : ∀ p ∈ tg ++ tl.map (·.1), LamX.TabB base mg (He.cT K p).1 (He.cT K p).2) : ∃ fd, DefK K mg base (F0 K) G fns 6 ["self", "rows"] (He.fAd K ("Seasons", some "__init__")) fd := defK_of (d := dd ("Seasons", some "__init__") "__init__" "Seasons.__init__" (topm 11 0)) (f := 6) (N := N_Seasons_init) (gd := true) (ld := false) c.t.d (dmem 6) ⟨rfl, rfl⟩ m_Seasons_init s_Seasons_init (by decide) rfl (fun _ _ _ _ _ _ us hl => match us, hl with | [_, _], _ => rfl) (fits c) (fun _ => List.mem_of_getElem? (l := tg) (i := 0) rfl) (fun z => by cases z) TB
theorem d_Seasons_season (c : He.SaysX fa fn [] tf ex w h K) (KX : K.In h) (Gh : h.Ns mainGlobals mg) (TB : ∀ p ∈ tg ++ tl.map (·.1), LamX.TabB base mg (He.cT K p).1 (He.cT K p).2) : ∃ fd, DefK K mg base (F0 K) G fns 7 ["self", "day"] (He.fAd K ("Seasons", some "season")) fd := defK_of (d := dd ("Seasons", some "season") "season" "Seasons.season" (topm 11 1)) (f := 7) (N := N_Seasons_season) (gd := false) (ld := false) c.t.d (dmem 7) ⟨rfl, rfl⟩ m_Seasons_season s_Seasons_season (by decide) rfl (fun _ _ _ _ _ _ us hl => match us, hl with | [_, _], _ => rfl) (fits c) (fun z => by cases z) (fun z => by cases z) TB
theorem d_Seasons_parts (c : He.SaysX fa fn [] tf ex w h K) (KX : K.In h) (Gh : h.Ns mainGlobals mg) (TB : ∀ p ∈ tg ++ tl.map (·.1), LamX.TabB base mg (He.cT K p).1 (He.cT K p).2) : ∃ fd, DefK K mg base (F0 K) G fns 8 ["self", "first", "last"] (He.fAd K ("Seasons", some "parts")) fd := defK_of (d := dd ("Seasons", some "parts") "parts" "Seasons.parts" (topm 11 2)) (f := 8) (N := N_Seasons_parts) (gd := false) (ld := false) c.t.d (dmem 8) ⟨rfl, rfl⟩ m_Seasons_parts s_Seasons_parts (by decide) rfl (fun _ _ _ _ _ _ us hl => match us, hl with | [_, _, _], _ => rfl) (fits c) (fun z => by cases z) (fun z => by cases z) TB
theorem d_Seasons_count (c : He.SaysX fa fn [] tf ex w h K) (KX : K.In h) (Gh : h.Ns mainGlobals mg) (TB : ∀ p ∈ tg ++ tl.map (·.1), LamX.TabB base mg (He.cT K p).1 (He.cT K p).2) : ∃ fd, DefK K mg base (F0 K) G fns 9 ["self", "name", "first", "last"] (He.fAd K ("Seasons", some "count")) fd := defK_of (d := dd ("Seasons", some "count") "count" "Seasons.count" (topm 11 3)) (f := 9) (N := N_Seasons_count) (gd := true) (ld := false) c.t.d (dmem 9) ⟨rfl, rfl⟩ m_Seasons_count s_Seasons_count (by decide) rfl (fun _ _ _ _ _ _ us hl => match us, hl with | [_, _, _, _], _ => rfl) (fits c) (fun _ => List.mem_of_getElem? (l := tg) (i := 1) rfl) (fun z => by cases z) TB
theorem d_law_dice (c : He.SaysX fa fn [] tf ex w h K) (KX : K.In h) (Gh : h.Ns mainGlobals mg) (TB : ∀ p ∈ tg ++ tl.map (·.1), LamX.TabB base mg (He.cT K p).1 (He.cT K p).2) : ∃ fd, DefK K mg base (F0 K) G fns 10 ["cell"] (He.fAd K ("_law_dice", none)) fd := defK_of (d := dd ("_law_dice", none) "_law_dice" "_law_dice" (top 13)) (f := 10) (N := N_law_dice) (gd := false) (ld := false) c.t.d (dmem 10) ⟨rfl, rfl⟩ m_law_dice s_law_dice (by decide) rfl (fun _ _ _ _ _ _ us hl => match us, hl with | [_], _ => rfl) (fits c) (fun z => by cases z) (fun z => by cases z) TB
theorem d_law_roll (c : He.SaysX fa fn [] tf ex w h K) (KX : K.In h) (Gh : h.Ns mainGlobals mg) (TB : ∀ p ∈ tg ++ tl.map (·.1), LamX.TabB base mg (He.cT K p).1 (He.cT K p).2) : ∃ fd, DefK K mg base (F0 K) G fns 11 ["dice", "many"] (He.fAd K ("_law_roll", none)) fd := defK_of (d := dd ("_law_roll", none) "_law_roll" "_law_roll" (top 14)) (f := 11) (N := N_law_roll) (gd := false) (ld := false) c.t.d (dmem 11) ⟨rfl, rfl⟩ m_law_roll s_law_roll (by decide) rfl (fun _ _ _ _ _ _ us hl => match us, hl with | [_, _], _ => rfl) (fits c) (fun z => by cases z) (fun z => by cases z) TB
theorem d_law_rounds (c : He.SaysX fa fn [] tf ex w h K) (KX : K.In h) (Gh : h.Ns mainGlobals mg) (TB : ∀ p ∈ tg ++ tl.map (·.1), LamX.TabB base mg (He.cT K p).1 (He.cT K p).2) : ∃ fd, DefK K mg base (F0 K) G fns 12 ["script", "most"] (He.fAd K ("_law_rounds", none)) fd := defK_of (d := dd ("_law_rounds", none) "_law_rounds" "_law_rounds" (top 15)) (f := 12) (N := N_law_rounds) (gd := false) (ld := false) c.t.d (dmem 12) ⟨rfl, rfl⟩ m_law_rounds s_law_rounds (by decide) rfl (fun _ _ _ _ _ _ us hl => match us, hl with | [_, _], _ => rfl) (fits c) (fun z => by cases z) (fun z => by cases z) TB
theorem d_law_stay (c : He.SaysX fa fn [] tf ex w h K) (KX : K.In h) (Gh : h.Ns mainGlobals mg) (TB : ∀ p ∈ tg ++ tl.map (·.1), LamX.TabB base mg (He.cT K p).1 (He.cT K p).2) : ∃ fd, DefK K mg base (F0 K) G fns 14 ["dice"] (He.fAd K ("_law_stay", none)) fd := defK_of (d := dd ("_law_stay", none) "_law_stay" "_law_stay" (top 17)) (f := 14) (N := N_law_stay) (gd := false) (ld := false) c.t.d (dmem 14) ⟨rfl, rfl⟩ m_law_stay s_law_stay (by decide) rfl (fun _ _ _ _ _ _ us hl => match us, hl with | [_], _ => rfl) (fits c) (fun z => by cases z) (fun z => by cases z) TB
theorem d_law_good (c : He.SaysX fa fn [] tf ex w h K) (KX : K.In h) (Gh : h.Ns mainGlobals mg) (TB : ∀ p ∈ tg ++ tl.map (·.1), LamX.TabB base mg (He.cT K p).1 (He.cT K p).2) : ∃ fd, DefK K mg base (F0 K) G fns 15 ["stay"] (He.fAd K ("_law_good", none)) fd := defK_of (d := dd ("_law_good", none) "_law_good" "_law_good" (top 18)) (f := 15) (N := N_law_good) (gd := false) (ld := false) c.t.d (dmem 15) ⟨rfl, rfl⟩ m_law_good s_law_good (by decide) rfl (fun _ _ _ _ _ _ us hl => match us, hl with | [_], _ => rfl) (fits c) (fun z => by cases z) (fun z => by cases z) TB
theorem d_law_plain (c : He.SaysX fa fn [] tf ex w h K) (KX : K.In h) (Gh : h.Ns mainGlobals mg) (TB : ∀ p ∈ tg ++ tl.map (·.1), LamX.TabB base mg (He.cT K p).1 (He.cT K p).2) : ∃ fd, DefK K mg base (F0 K) G fns 16 [] (He.fAd K ("_law_plain", none)) fd := defK_of (d := dd ("_law_plain", none) "_law_plain" "_law_plain" (top 19)) (f := 16) (N := N_law_plain) (gd := false) (ld := true) c.t.d (dmem 16) ⟨rfl, rfl⟩ m_law_plain s_law_plain (by decide) rfl (fun _ _ _ _ _ _ us hl => match us, hl with | [], _ => rfl) (fits c) (fun z => by cases z) (fun _ => ⟨List.mem_of_getElem? (l := tl) (i := 0) rfl, lam_law_plain⟩) TB
theorem d_law (c : He.SaysX fa fn [] tf ex w h K) (KX : K.In h) (Gh : h.Ns mainGlobals mg) (TB : ∀ p ∈ tg ++ tl.map (·.1), LamX.TabB base mg (He.cT K p).1 (He.cT K p).2) : ∃ fd, DefK K mg base (F0 K) G fns 17 ["script"] (He.fAd K ("law", none)) fd := defK_of (d := dd ("law", none) "law" "law" (top 20)) (f := 17) (N := N_law) (gd := false) (ld := true) c.t.d (dmem 17) ⟨rfl, rfl⟩ m_law s_law (by decide) rfl (fun _ _ _ _ _ _ us hl => match us, hl with | [_], _ => rfl) (fits c) (fun z => by cases z) (fun _ => ⟨List.mem_of_getElem? (l := tl) (i := 1) rfl, lam_law⟩) TB
theorem told_sub (l : Nat) (h : W0.sub l 1 = true) : l = 1 := by
  have h : (_ : Bool) = true := h
  simp [W0] at h
  omega
theorem g_told (c : He.SaysX fa fn [] tf ex w h K) (KX : K.In h) (Gh : h.Ns mainGlobals mg) (TB : ∀ p ∈ tg ++ tl.map (·.1), LamX.TabB base mg (He.cT K p).1 (He.cT K p).2) {P : Program} : GbOk P w K mg base (F0 K) W0 0 "_law_told" (.told 1 "DayError") := by
  refine told_gb (d := dd ("_law_told", none) "_law_told" "_law_told" (top 16)) c.t.d KX Gh (dmem 13) rfl rfl ⟨rfl, rfl⟩ (fmem 9) (i := 1) (e := "DayError") rfl (fmem 16) rfl (by decide +kernel) rfl rfl (by decide) (fun _ _ _ _ _ _ us hl => match us, hl with | [_], _ => rfl) rfl fun l hl => ?_
  have hl := told_sub l hl
  subst hl
  exact He.exm_ok (c.t.d.facts (fmem 26))
theorem e_0 (c : He.SaysX fa fn [] tf ex w h K) (KX : K.In h) (Gh : h.Ns mainGlobals mg) (TB : ∀ p ∈ tg ++ tl.map (·.1), LamX.TabB base mg (He.cT K p).1 (He.cT K p).2) {P : Program} : Good P w K mg base (F0 K) W0 G fns "check_stay" (.fn 0 ["first", "last"]) := (show Good P w K mg base (F0 K) W0 G fns "check_stay" (.fn 0 ["first", "last"]) from good_fn (P := P) (W := W0) c.t.d KX Gh rfl (fmem 0) (d_check_stay c KX Gh TB))
theorem e_1 (c : He.SaysX fa fn [] tf ex w h K) (KX : K.In h) (Gh : h.Ns mainGlobals mg) (TB : ∀ p ∈ tg ++ tl.map (·.1), LamX.TabB base mg (He.cT K p).1 (He.cT K p).2) {P : Program} : Good P w K mg base (F0 K) W0 G fns "nights" (.fn 1 ["first", "last"]) := (show Good P w K mg base (F0 K) W0 G fns "nights" (.fn 1 ["first", "last"]) from good_fn (P := P) (W := W0) c.t.d KX Gh rfl (fmem 1) (d_nights c KX Gh TB))
theorem e_2 (c : He.SaysX fa fn [] tf ex w h K) (KX : K.In h) (Gh : h.Ns mainGlobals mg) (TB : ∀ p ∈ tg ++ tl.map (·.1), LamX.TabB base mg (He.cT K p).1 (He.cT K p).2) {P : Program} : Good P w K mg base (F0 K) W0 G fns "week_day" (.fn 2 ["day"]) := (show Good P w K mg base (F0 K) W0 G fns "week_day" (.fn 2 ["day"]) from good_fn (P := P) (W := W0) c.t.d KX Gh rfl (fmem 2) (d_week_day c KX Gh TB))
theorem e_3 (c : He.SaysX fa fn [] tf ex w h K) (KX : K.In h) (Gh : h.Ns mainGlobals mg) (TB : ∀ p ∈ tg ++ tl.map (·.1), LamX.TabB base mg (He.cT K p).1 (He.cT K p).2) {P : Program} : Good P w K mg base (F0 K) W0 G fns "meet" (.fn 3 ["one", "other"]) := (show Good P w K mg base (F0 K) W0 G fns "meet" (.fn 3 ["one", "other"]) from good_fn (P := P) (W := W0) c.t.d KX Gh rfl (fmem 3) (d_meet c KX Gh TB))
theorem e_4 (c : He.SaysX fa fn [] tf ex w h K) (KX : K.In h) (Gh : h.Ns mainGlobals mg) (TB : ∀ p ∈ tg ++ tl.map (·.1), LamX.TabB base mg (He.cT K p).1 (He.cT K p).2) {P : Program} : Good P w K mg base (F0 K) W0 G fns "fullest" (.fn 4 ["stays"]) := (show Good P w K mg base (F0 K) W0 G fns "fullest" (.fn 4 ["stays"]) from good_fn (P := P) (W := W0) c.t.d KX Gh rfl (fmem 4) (d_fullest c KX Gh TB))
theorem e_5 (c : He.SaysX fa fn [] tf ex w h K) (KX : K.In h) (Gh : h.Ns mainGlobals mg) (TB : ∀ p ∈ tg ++ tl.map (·.1), LamX.TabB base mg (He.cT K p).1 (He.cT K p).2) {P : Program} : Good P w K mg base (F0 K) W0 G fns "gaps" (.fn 5 ["stays", "first", "last"]) := (show Good P w K mg base (F0 K) W0 G fns "gaps" (.fn 5 ["stays", "first", "last"]) from good_fn (P := P) (W := W0) c.t.d KX Gh rfl (fmem 5) (d_gaps c KX Gh TB))
theorem e_6 (c : He.SaysX fa fn [] tf ex w h K) (KX : K.In h) (Gh : h.Ns mainGlobals mg) (TB : ∀ p ∈ tg ++ tl.map (·.1), LamX.TabB base mg (He.cT K p).1 (He.cT K p).2) {P : Program} : Good P w K mg base (F0 K) W0 G fns "_law_dice" (.fn 10 ["cell"]) := (show Good P w K mg base (F0 K) W0 G fns "_law_dice" (.fn 10 ["cell"]) from good_fn (P := P) (W := W0) c.t.d KX Gh rfl (fmem 6) (d_law_dice c KX Gh TB))
theorem e_7 (c : He.SaysX fa fn [] tf ex w h K) (KX : K.In h) (Gh : h.Ns mainGlobals mg) (TB : ∀ p ∈ tg ++ tl.map (·.1), LamX.TabB base mg (He.cT K p).1 (He.cT K p).2) {P : Program} : Good P w K mg base (F0 K) W0 G fns "_law_roll" (.fn 11 ["dice", "many"]) := (show Good P w K mg base (F0 K) W0 G fns "_law_roll" (.fn 11 ["dice", "many"]) from good_fn (P := P) (W := W0) c.t.d KX Gh rfl (fmem 7) (d_law_roll c KX Gh TB))
theorem e_8 (c : He.SaysX fa fn [] tf ex w h K) (KX : K.In h) (Gh : h.Ns mainGlobals mg) (TB : ∀ p ∈ tg ++ tl.map (·.1), LamX.TabB base mg (He.cT K p).1 (He.cT K p).2) {P : Program} : Good P w K mg base (F0 K) W0 G fns "_law_rounds" (.fn 12 ["script", "most"]) := (show Good P w K mg base (F0 K) W0 G fns "_law_rounds" (.fn 12 ["script", "most"]) from good_fn (P := P) (W := W0) c.t.d KX Gh rfl (fmem 8) (d_law_rounds c KX Gh TB))
theorem e_9 (c : He.SaysX fa fn [] tf ex w h K) (KX : K.In h) (Gh : h.Ns mainGlobals mg) (TB : ∀ p ∈ tg ++ tl.map (·.1), LamX.TabB base mg (He.cT K p).1 (He.cT K p).2) {P : Program} : Good P w K mg base (F0 K) W0 G fns "_law_told" (.told 1 "DayError") := (show Good P w K mg base (F0 K) W0 G fns "_law_told" (.told 1 "DayError") from g_told (P := P) c KX Gh TB)
theorem e_10 (c : He.SaysX fa fn [] tf ex w h K) (KX : K.In h) (Gh : h.Ns mainGlobals mg) (TB : ∀ p ∈ tg ++ tl.map (·.1), LamX.TabB base mg (He.cT K p).1 (He.cT K p).2) {P : Program} : Good P w K mg base (F0 K) W0 G fns "_law_stay" (.fn 14 ["dice"]) := (show Good P w K mg base (F0 K) W0 G fns "_law_stay" (.fn 14 ["dice"]) from good_fn (P := P) (W := W0) c.t.d KX Gh rfl (fmem 10) (d_law_stay c KX Gh TB))
theorem e_11 (c : He.SaysX fa fn [] tf ex w h K) (KX : K.In h) (Gh : h.Ns mainGlobals mg) (TB : ∀ p ∈ tg ++ tl.map (·.1), LamX.TabB base mg (He.cT K p).1 (He.cT K p).2) {P : Program} : Good P w K mg base (F0 K) W0 G fns "_law_good" (.fn 15 ["stay"]) := (show Good P w K mg base (F0 K) W0 G fns "_law_good" (.fn 15 ["stay"]) from good_fn (P := P) (W := W0) c.t.d KX Gh rfl (fmem 11) (d_law_good c KX Gh TB))
theorem e_12 (c : He.SaysX fa fn [] tf ex w h K) (KX : K.In h) (Gh : h.Ns mainGlobals mg) (TB : ∀ p ∈ tg ++ tl.map (·.1), LamX.TabB base mg (He.cT K p).1 (He.cT K p).2) {P : Program} : Good P w K mg base (F0 K) W0 G fns "_law_plain" (.fn 16 []) := (show Good P w K mg base (F0 K) W0 G fns "_law_plain" (.fn 16 []) from good_fn (P := P) (W := W0) c.t.d KX Gh rfl (fmem 12) (d_law_plain c KX Gh TB))
theorem e_13 (c : He.SaysX fa fn [] tf ex w h K) (KX : K.In h) (Gh : h.Ns mainGlobals mg) (TB : ∀ p ∈ tg ++ tl.map (·.1), LamX.TabB base mg (He.cT K p).1 (He.cT K p).2) {P : Program} : Good P w K mg base (F0 K) W0 G fns "law" (.fn 17 ["script"]) := (show Good P w K mg base (F0 K) W0 G fns "law" (.fn 17 ["script"]) from good_fn (P := P) (W := W0) c.t.d KX Gh rfl (fmem 13) (d_law c KX Gh TB))
theorem e_14 (c : He.SaysX fa fn [] tf ex w h K) (KX : K.In h) (Gh : h.Ns mainGlobals mg) (TB : ∀ p ∈ tg ++ tl.map (·.1), LamX.TabB base mg (He.cT K p).1 (He.cT K p).2) {P : Program} : Good P w K mg base (F0 K) W0 G fns "Seasons" (.cls 0 ["self", "rows"]) := (show Good P w K mg base (F0 K) W0 G fns "Seasons" (.cls 0 ["self", "rows"]) from good_cls (P := P) (W := W0) c.t.d KX Gh rfl rfl rfl (fmem 18) (fmem 20) (d_Seasons_init c KX Gh TB))
theorem e_15 (c : He.SaysX fa fn [] tf ex w h K) (KX : K.In h) (Gh : h.Ns mainGlobals mg) (TB : ∀ p ∈ tg ++ tl.map (·.1), LamX.TabB base mg (He.cT K p).1 (He.cT K p).2) {P : Program} : Good P w K mg base (F0 K) W0 G fns "season" (.mt 7 ["self", "day"]) := (show Good P w K mg base (F0 K) W0 G fns "season" (.mt 7 ["self", "day"]) from good_mt (P := P) (W := W0) c.t.d rfl rfl rfl (fmem 19) (fmem 22) (d_Seasons_season c KX Gh TB))
theorem e_16 (c : He.SaysX fa fn [] tf ex w h K) (KX : K.In h) (Gh : h.Ns mainGlobals mg) (TB : ∀ p ∈ tg ++ tl.map (·.1), LamX.TabB base mg (He.cT K p).1 (He.cT K p).2) {P : Program} : Good P w K mg base (F0 K) W0 G fns "parts" (.mt 8 ["self", "first", "last"]) := (show Good P w K mg base (F0 K) W0 G fns "parts" (.mt 8 ["self", "first", "last"]) from good_mt (P := P) (W := W0) c.t.d rfl rfl rfl (fmem 19) (fmem 23) (d_Seasons_parts c KX Gh TB))
theorem e_17 (c : He.SaysX fa fn [] tf ex w h K) (KX : K.In h) (Gh : h.Ns mainGlobals mg) (TB : ∀ p ∈ tg ++ tl.map (·.1), LamX.TabB base mg (He.cT K p).1 (He.cT K p).2) {P : Program} : Good P w K mg base (F0 K) W0 G fns "count" (.mt 9 ["self", "name", "first", "last"]) := (show Good P w K mg base (F0 K) W0 G fns "count" (.mt 9 ["self", "name", "first", "last"]) from good_mt (P := P) (W := W0) c.t.d rfl rfl rfl (fmem 19) (fmem 24) (d_Seasons_count c KX Gh TB))
theorem e_18 (c : He.SaysX fa fn [] tf ex w h K) (KX : K.In h) (Gh : h.Ns mainGlobals mg) (TB : ∀ p ∈ tg ++ tl.map (·.1), LamX.TabB base mg (He.cT K p).1 (He.cT K p).2) {P : Program} : Good P w K mg base (F0 K) W0 G fns "WEEK" (.cst 0) := (show GbOk P w K mg base (F0 K) W0 0 "WEEK" (.cst 0) from glb_gb (P := P) (W := W0) (F := F0 K) KX Gh rfl rfl (more c 0 rfl))
theorem e_19 (c : He.SaysX fa fn [] tf ex w h K) (KX : K.In h) (Gh : h.Ns mainGlobals mg) (TB : ∀ p ∈ tg ++ tl.map (·.1), LamX.TabB base mg (He.cT K p).1 (He.cT K p).2) {P : Program} : Good P w K mg base (F0 K) W0 G fns "HotelError" (.exc 0) := (show GbOk P w K mg base (F0 K) W0 0 "HotelError" (.exc 0) from exc_gb (P := P) (k := 0) (W := W0) (F := F0 K) (base := base) (w := w) c.t.d KX Gh rfl (fmem 14) (fmem 15))
theorem e_20 (c : He.SaysX fa fn [] tf ex w h K) (KX : K.In h) (Gh : h.Ns mainGlobals mg) (TB : ∀ p ∈ tg ++ tl.map (·.1), LamX.TabB base mg (He.cT K p).1 (He.cT K p).2) {P : Program} : Good P w K mg base (F0 K) W0 G fns "DayError" (.exc 1) := (show GbOk P w K mg base (F0 K) W0 0 "DayError" (.exc 1) from exc_gb (P := P) (k := 0) (W := W0) (F := F0 K) (base := base) (w := w) c.t.d KX Gh rfl (fmem 16) (fmem 17))
theorem e_21 (c : He.SaysX fa fn [] tf ex w h K) (KX : K.In h) (Gh : h.Ns mainGlobals mg) (TB : ∀ p ∈ tg ++ tl.map (·.1), LamX.TabB base mg (He.cT K p).1 (He.cT K p).2) {P : Program} : Good P w K mg base (F0 K) W0 G fns "abs" (.blt) := (show GbOk P w K mg base (F0 K) W0 0 "abs" (.blt) from free_gb (P := P) (k := 0) (W := W0) (F := F0 K) (base := base) (w := w) c.t.d KX Gh (fmem 28))
theorem e_22 (c : He.SaysX fa fn [] tf ex w h K) (KX : K.In h) (Gh : h.Ns mainGlobals mg) (TB : ∀ p ∈ tg ++ tl.map (·.1), LamX.TabB base mg (He.cT K p).1 (He.cT K p).2) {P : Program} : Good P w K mg base (F0 K) W0 G fns "any" (.blt) := (show GbOk P w K mg base (F0 K) W0 0 "any" (.blt) from free_gb (P := P) (k := 0) (W := W0) (F := F0 K) (base := base) (w := w) c.t.d KX Gh (fmem 29))
theorem e_23 (c : He.SaysX fa fn [] tf ex w h K) (KX : K.In h) (Gh : h.Ns mainGlobals mg) (TB : ∀ p ∈ tg ++ tl.map (·.1), LamX.TabB base mg (He.cT K p).1 (He.cT K p).2) {P : Program} : Good P w K mg base (F0 K) W0 G fns "dict" (.blt) := (show GbOk P w K mg base (F0 K) W0 0 "dict" (.blt) from free_gb (P := P) (k := 0) (W := W0) (F := F0 K) (base := base) (w := w) c.t.d KX Gh (fmem 30))
theorem e_24 (c : He.SaysX fa fn [] tf ex w h K) (KX : K.In h) (Gh : h.Ns mainGlobals mg) (TB : ∀ p ∈ tg ++ tl.map (·.1), LamX.TabB base mg (He.cT K p).1 (He.cT K p).2) {P : Program} : Good P w K mg base (F0 K) W0 G fns "int" (.blt) := (show GbOk P w K mg base (F0 K) W0 0 "int" (.blt) from free_gb (P := P) (k := 0) (W := W0) (F := F0 K) (base := base) (w := w) c.t.d KX Gh (fmem 31))
theorem e_25 (c : He.SaysX fa fn [] tf ex w h K) (KX : K.In h) (Gh : h.Ns mainGlobals mg) (TB : ∀ p ∈ tg ++ tl.map (·.1), LamX.TabB base mg (He.cT K p).1 (He.cT K p).2) {P : Program} : Good P w K mg base (F0 K) W0 G fns "len" (.blt) := (show GbOk P w K mg base (F0 K) W0 0 "len" (.blt) from free_gb (P := P) (k := 0) (W := W0) (F := F0 K) (base := base) (w := w) c.t.d KX Gh (fmem 32))
theorem e_26 (c : He.SaysX fa fn [] tf ex w h K) (KX : K.In h) (Gh : h.Ns mainGlobals mg) (TB : ∀ p ∈ tg ++ tl.map (·.1), LamX.TabB base mg (He.cT K p).1 (He.cT K p).2) {P : Program} : Good P w K mg base (F0 K) W0 G fns "list" (.blt) := (show GbOk P w K mg base (F0 K) W0 0 "list" (.blt) from free_gb (P := P) (k := 0) (W := W0) (F := F0 K) (base := base) (w := w) c.t.d KX Gh (fmem 33))
theorem e_27 (c : He.SaysX fa fn [] tf ex w h K) (KX : K.In h) (Gh : h.Ns mainGlobals mg) (TB : ∀ p ∈ tg ++ tl.map (·.1), LamX.TabB base mg (He.cT K p).1 (He.cT K p).2) {P : Program} : Good P w K mg base (F0 K) W0 G fns "max" (.blt) := (show GbOk P w K mg base (F0 K) W0 0 "max" (.blt) from free_gb (P := P) (k := 0) (W := W0) (F := F0 K) (base := base) (w := w) c.t.d KX Gh (fmem 34))
theorem e_28 (c : He.SaysX fa fn [] tf ex w h K) (KX : K.In h) (Gh : h.Ns mainGlobals mg) (TB : ∀ p ∈ tg ++ tl.map (·.1), LamX.TabB base mg (He.cT K p).1 (He.cT K p).2) {P : Program} : Good P w K mg base (F0 K) W0 G fns "min" (.blt) := (show GbOk P w K mg base (F0 K) W0 0 "min" (.blt) from free_gb (P := P) (k := 0) (W := W0) (F := F0 K) (base := base) (w := w) c.t.d KX Gh (fmem 35))
theorem e_29 (c : He.SaysX fa fn [] tf ex w h K) (KX : K.In h) (Gh : h.Ns mainGlobals mg) (TB : ∀ p ∈ tg ++ tl.map (·.1), LamX.TabB base mg (He.cT K p).1 (He.cT K p).2) {P : Program} : Good P w K mg base (F0 K) W0 G fns "range" (.blt) := (show GbOk P w K mg base (F0 K) W0 0 "range" (.blt) from free_gb (P := P) (k := 0) (W := W0) (F := F0 K) (base := base) (w := w) c.t.d KX Gh (fmem 36))
theorem e_30 (c : He.SaysX fa fn [] tf ex w h K) (KX : K.In h) (Gh : h.Ns mainGlobals mg) (TB : ∀ p ∈ tg ++ tl.map (·.1), LamX.TabB base mg (He.cT K p).1 (He.cT K p).2) {P : Program} : Good P w K mg base (F0 K) W0 G fns "sorted" (.blt) := (show GbOk P w K mg base (F0 K) W0 0 "sorted" (.blt) from free_gb (P := P) (k := 0) (W := W0) (F := F0 K) (base := base) (w := w) c.t.d KX Gh (fmem 37))
theorem e_31 (c : He.SaysX fa fn [] tf ex w h K) (KX : K.In h) (Gh : h.Ns mainGlobals mg) (TB : ∀ p ∈ tg ++ tl.map (·.1), LamX.TabB base mg (He.cT K p).1 (He.cT K p).2) {P : Program} : Good P w K mg base (F0 K) W0 G fns "sum" (.blt) := (show GbOk P w K mg base (F0 K) W0 0 "sum" (.blt) from free_gb (P := P) (k := 0) (W := W0) (F := F0 K) (base := base) (w := w) c.t.d KX Gh (fmem 38))
theorem e_32 (c : He.SaysX fa fn [] tf ex w h K) (KX : K.In h) (Gh : h.Ns mainGlobals mg) (TB : ∀ p ∈ tg ++ tl.map (·.1), LamX.TabB base mg (He.cT K p).1 (He.cT K p).2) {P : Program} : Good P w K mg base (F0 K) W0 G fns "tuple" (.blt) := (show GbOk P w K mg base (F0 K) W0 0 "tuple" (.blt) from free_gb (P := P) (k := 0) (W := W0) (F := F0 K) (base := base) (w := w) c.t.d KX Gh (fmem 39))
theorem e_33 (c : He.SaysX fa fn [] tf ex w h K) (KX : K.In h) (Gh : h.Ns mainGlobals mg) (TB : ∀ p ∈ tg ++ tl.map (·.1), LamX.TabB base mg (He.cT K p).1 (He.cT K p).2) {P : Program} : Good P w K mg base (F0 K) W0 G fns "zip" (.blt) := (show GbOk P w K mg base (F0 K) W0 0 "zip" (.blt) from free_gb (P := P) (k := 0) (W := W0) (F := F0 K) (base := base) (w := w) c.t.d KX Gh (fmem 40))
theorem goods (c : He.SaysX fa fn [] tf ex w h K) (KX : K.In h) (Gh : h.Ns mainGlobals mg) (TB : ∀ p ∈ tg ++ tl.map (·.1), LamX.TabB base mg (He.cT K p).1 (He.cT K p).2) {P : Program} : ∀ p ∈ G, Good P w K mg base (F0 K) W0 G fns p.1 p.2 :=
  List.forall_mem_cons.mpr ⟨e_0 c KX Gh TB, List.forall_mem_cons.mpr ⟨e_1 c KX Gh TB, List.forall_mem_cons.mpr ⟨e_2 c KX Gh TB, List.forall_mem_cons.mpr ⟨e_3 c KX Gh TB, List.forall_mem_cons.mpr ⟨e_4 c KX Gh TB, List.forall_mem_cons.mpr ⟨e_5 c KX Gh TB, List.forall_mem_cons.mpr ⟨e_6 c KX Gh TB, List.forall_mem_cons.mpr ⟨e_7 c KX Gh TB, List.forall_mem_cons.mpr ⟨e_8 c KX Gh TB, List.forall_mem_cons.mpr ⟨e_9 c KX Gh TB, List.forall_mem_cons.mpr ⟨e_10 c KX Gh TB, List.forall_mem_cons.mpr ⟨e_11 c KX Gh TB, List.forall_mem_cons.mpr ⟨e_12 c KX Gh TB, List.forall_mem_cons.mpr ⟨e_13 c KX Gh TB, List.forall_mem_cons.mpr ⟨e_14 c KX Gh TB, List.forall_mem_cons.mpr ⟨e_15 c KX Gh TB, List.forall_mem_cons.mpr ⟨e_16 c KX Gh TB, List.forall_mem_cons.mpr ⟨e_17 c KX Gh TB, List.forall_mem_cons.mpr ⟨e_18 c KX Gh TB, List.forall_mem_cons.mpr ⟨e_19 c KX Gh TB, List.forall_mem_cons.mpr ⟨e_20 c KX Gh TB, List.forall_mem_cons.mpr ⟨e_21 c KX Gh TB, List.forall_mem_cons.mpr ⟨e_22 c KX Gh TB, List.forall_mem_cons.mpr ⟨e_23 c KX Gh TB, List.forall_mem_cons.mpr ⟨e_24 c KX Gh TB, List.forall_mem_cons.mpr ⟨e_25 c KX Gh TB, List.forall_mem_cons.mpr ⟨e_26 c KX Gh TB, List.forall_mem_cons.mpr ⟨e_27 c KX Gh TB, List.forall_mem_cons.mpr ⟨e_28 c KX Gh TB, List.forall_mem_cons.mpr ⟨e_29 c KX Gh TB, List.forall_mem_cons.mpr ⟨e_30 c KX Gh TB, List.forall_mem_cons.mpr ⟨e_31 c KX Gh TB, List.forall_mem_cons.mpr ⟨e_32 c KX Gh TB, List.forall_mem_cons.mpr ⟨e_33 c KX Gh TB, fun _ z => nomatch z⟩⟩⟩⟩⟩⟩⟩⟩⟩⟩⟩⟩⟩⟩⟩⟩⟩⟩⟩⟩⟩⟩⟩⟩⟩⟩⟩⟩⟩⟩⟩⟩⟩⟩
theorem hcl (c : He.SaysX fa fn [] tf ex w h K) : ∀ k f, W0.has k f = true → Cls K ((F0 K).ca k) ∧ NoAttr K ((F0 K).ca k) f := by
  intro k f h
  have h : (_ : Bool) = true := h
  have h : (k = 0 ∧ f = "rows") := by
    simp only [W0, Bool.or_eq_true, Bool.and_eq_true, beq_iff_eq] at h
    first
      | exact h
      | grind
      | (simp_all <;> omega)
  obtain ⟨rfl, rfl⟩ := h
  exact ⟨He.cls_ok (c.t.d.facts (fmem 19)), He.noat_ok (c.t.d.facts (fmem 21))⟩
theorem hob (c : He.SaysX fa fn [] tf ex w h K) : ∀ k, W0.obj k = true → EqObj K ((F0 K).ca k) := by
  intro k h
  have h : (_ : Bool) = true := h
  have h : k = 0 := by
    simp only [W0, Bool.or_eq_true, beq_iff_eq] at h
    first
      | exact h
      | omega
  subst h
  exact obj_ok (more c 1 rfl)
theorem lev (c : He.SaysX fa fn [] tf ex w h K) (KX : K.In h) (Gh : h.Ns mainGlobals mg) (TB : ∀ p ∈ tg ++ tl.map (·.1), LamX.TabB base mg (He.cT K p).1 (He.cT K p).2) {P : Program} : ∀ k x gb, (x, gb) ∈ G → GbOk P w K mg base (F0 K) (Wk k) (4 * k) x gb :=
  all_lv rfl (hcl c) (hob c) fun x gb e => goods c KX Gh TB (P := P) (x, gb) e
theorem wk_has_ (k c : Nat) (f : Str) (h : (Wk k).has c f = true) : W0.has c f = true := by cases k <;> exact h
theorem wk_obj_ (k c : Nat) (h : (Wk k).obj c = true) : W0.obj c = true := by cases k <;> exact h
theorem lawAt {a : Addr} (c : He.SaysX fa fn [] tf ex w h K) (KX : K.In h) (Gh : h.Ns mainGlobals mg) (ha : mg ("law" : Str) = some (.ref a)) : LamX.LawAtS PySem.Challenge.rw_hotelstack_k01_days_and_stays w K (L2.CX (PySem.Challenge.rw_hotelstack_k01_days_and_stays).prog w) (4 * 7 + 4) 63 "script" mg a h :=
  law_at (d := dd ("law", none) "law" "law" (top 20)) (N := N_law) (gd := false) (ld := true) (F := F0 K) (W := Wk 7) (k := 4 * 7) (wr := wrT) c KX Gh rfl (fits c) rfl (dmem 17) rfl rfl ⟨rfl, rfl⟩ (fmem 13) ha (fun _ _ _ _ _ _ us hl => match us, hl with | [_], _ => rfl) m_law s_law (by decide) (fun z => by cases z) (fun _ => ⟨List.mem_of_getElem? (l := tl) (i := 1) rfl, lam_law⟩) (fun ns hl hb => law_true ns) (fun base hK hN TB => lev c KX Gh TB 7) (fun k f h => hcl c k f (wk_has_ 7 k f h)) fun k h => hob c k (wk_obj_ 7 k h)
end
end Ev.T_k01
open PySem PySem.W PySem.Calls PyProof.Rows
theorem PySem.Challenge.cw_hotelstack_k01_days_and_stays_holds : PySem.Challenge.rw_hotelstack_k01_days_and_stays.Holds := by
  w_on; o_law
  refine HandSHeadRun.head_any (r := OpenLaw.row PySem.Challenge.rw_hotelstack_k01_days_and_stays) (q := view (OpenLaw.row PySem.Challenge.rw_hotelstack_k01_days_and_stays).prog [20]) (H := Ev.T_k01.hk) (ob := Ev.T_k01.ob) (M := 4000) (loose := Ev.T_k01.loose) (d := HandSHeadRun.topDef (OpenLaw.row PySem.Challenge.rw_hotelstack_k01_days_and_stays).prog 20) (kwd := []) Ev.T_k01.ob_eq
    (by kernel_rfl) (fun s => by kernel_rfl) Ev.T_k01.run (by kernel_rfl) (by kernel_rfl) (by kernel_rfl) (by rfl) (by first | assumption | decide +kernel) (by decide +kernel) ⟨rfl, rfl, rfl, rfl, rfl, by decide +kernel⟩ ?hw ?hc
  case hw => w_witness2
  case hc =>
    refine LamX.walk_ofTsE (l := PySem.Challenge.rw_hotelstack_k01_days_and_stays) (n := 63) (k := 4 * 7 + 4) (x := "script") (CX := fun w => L2.CX (PySem.Challenge.rw_hotelstack_k01_days_and_stays).prog w) rfl (by decide) (by kernel_rfl) ⟨rfl, by decide, by decide⟩ ?F ?hCX
    case F =>
      intro w mg fa h Y Gh hmg0
      obtain ⟨K, KX, c⟩ := Y
      have hmg : mg ("law" : PySem.Str) = some (.ref fa) := by
        have e : (HandSHeadRun.topDef (OpenLaw.row PySem.Challenge.rw_hotelstack_k01_days_and_stays).prog 20).name = ("law" : PySem.Str) := by kernel_rfl
        rw [← e]
        exact hmg0
      exact ⟨K, KX, Ev.T_k01.lawAt c KX Gh hmg⟩
    case hCX =>
      rintro w H s e s' ⟨a, B, H', cls, d, _, _, _, _, _, _, _, z⟩
      exact z
